import PyProof.Rows.All
import Wide.All
import OpenK.AllK
import Wide.FinOn
import HandS.Base
import HandS.Call
import HandS.List
import HandS.Comp
import HandS.Ends
import HandS.Dict
import HandS.Iter
import HandS.Text
import HandS.Exc
import HandS.Words
import HandS.WordsList
import HandS.WordsDict
import HandS.WordsExc
import HandS.ForMost
import HandS.Wide
import HandS.WideBits
import HandS.IsInst
import HandS.TupLe
import HandS.TupAny
import HandS.TupMul
import HandS.Conv
import HandS.Style
import HandS.RaiseMore
import HandS.SortInts
import PyProof.ReprRoads
import HandS.StrMore
import HandS.Strs
import HandS.ExcOwn
import HandS.Defaults
import KE.GoesEnum
import KE.GoesZip
import HandS.Small
import HandS.Flow
import HandS.MakeKwOnly
import HandS.TryMany
import HandS.ExcValue
import KE.KUnpackStar
import HandS.HeadEnd
import HandS.Replace
import HandS.HeadHook1
import HandS.HeadHook2
import HandS.Codes
import PySem.Challenge.RW_farsteps_k21_moments
import KE.KStateDown
import Lean
import HandS.More
import HandS.Head0
import HandS.Head1
import HandS.Head2
set_option Elab.async false
set_option linter.all false
set_option maxHeartbeats 0
set_option maxRecDepth 100000
/-! A small language of its own: data, environments, and what a text of it computes. Plain Lean, no program in sight. -/
namespace Mi
abbrev Tx := List Nat
/-- data: what a value stands for, its identity left out -/
inductive D where
  | non | bl (b : Bool) | int (i : Int) | str (s : Tx)
  | tup (xs : List D) | lst (xs : List D) | dic (ks : List (D × D)) | ins (c : Nat) (fs : List (Nat × D))
  | scr (ns : List Int)
  deriving Inhabited
/-- an object that one name alone reaches -/
inductive Ob where
  | lst (xs : List D) | dic (ks : List (D × D)) | ins (c : Nat) (fs : List (Nat × D))
  deriving Inhabited
def Ob.d : Ob → D
  | .lst xs => .lst xs
  | .dic ks => .dic ks
  | .ins c fs => .ins c fs
/-- a slot: nothing, data that stands still, an object of one's own, an object of the caller's -/
inductive Sl where
  | un | sh (d : D) | ow (o : Ob) | pa (o : Ob)
  deriving Inhabited
abbrev Env := List Sl
/-- a result: data, a new object, what slot i has -/
inductive Rs where
  | d (x : D) | fr (o : Ob) | bo (i : Nat)
  deriving Inhabited
structure Xc where
  cls : Nat
  fs : List (Nat × D)
inductive Out (α : Type) where
  | ok (a : α) (e : Env) | ex (x : Xc) (e : Env) | no
def Out.bind {α β : Type} (o : Out α) (f : α → Env → Out β) : Out β :=
  match o with
  | .ok a e => f a e
  | .ex x e => .ex x e
  | .no => .no
/-- an answer that may be wanting -/
def Out.of {α : Type} (e : Env) : Option α → Out α
  | some a => .ok a e
  | none => .no
def Out.of2 {α : Type} : Option (α × Env) → Out α
  | some (a, e) => .ok a e
  | none => .no
/-! ### what a result shows -/
def Rs.see (e : Env) : Rs → Option D
  | .d x => some x
  | .fr o => some o.d
  | .bo i => match e[i]? with
    | some (.sh x) => some x
    | some (.ow o) => some o.d
    | some (.pa o) => some o.d
    | _ => none
/-- a result as data that stands still -/
def Rs.hold (e : Env) : Rs → Option (D × Env)
  | .d x => some (x, e)
  | .fr o => some (o.d, e)
  | .bo i => match e[i]? with
    | some (.sh x) => some (x, e)
    | some (.ow o) => some (o.d, e.set i (.sh o.d))
    | _ => none
def holds : List Rs → Env → Option (List D × Env)
  | [], e => some ([], e)
  | r :: rs, e => match r.hold e with
    | some (x, e1) => match holds rs e1 with
      | some (xs, e2) => some (x :: xs, e2)
      | none => none
    | none => none
def sees (e : Env) : List Rs → Option (List D)
  | [] => some []
  | r :: rs => match r.see e with
    | some x => match sees e rs with
      | some xs => some (x :: xs)
      | none => none
    | none => none
/-! ### handing over -/
def passS (e : Env) : Rs → Option Sl
  | .d x => some (.sh x)
  | .fr o => some (.sh o.d)
  | .bo i => match e[i]? with
    | some (.sh x) => some (.sh x)
    | some (.ow o) => some (.pa o)
    | some (.pa o) => some (.pa o)
    | _ => none
def passAll (e : Env) : List Rs → Option (List Sl)
  | [] => some []
  | r :: rs => match passS e r with
    | some s => match passAll e rs with
      | some l => some (s :: l)
      | none => none
    | none => none
/-- the slots that are handed over -/
def lent : List Rs → List Nat
  | [] => []
  | .bo i :: rs => i :: lent rs
  | _ :: rs => lent rs
def noTwice : List Nat → Bool
  | [] => true
  | i :: l => !l.contains i && noTwice l
def backS (e : Env) : Rs → Sl → Env
  | .bo i, .pa o => match e[i]? with
    | some (.ow _) => e.set i (.ow o)
    | some (.pa _) => e.set i (.pa o)
    | _ => e
  | _, _ => e
def backAll (e : Env) : List Rs → List Sl → Env
  | r :: rs, s :: l => backAll (backS e r s) rs l
  | _, _ => e
/-! ### operations on data -/
inductive Bop where
  | add | sub | mul | fdiv | mod | pow
  deriving DecidableEq
inductive Cop where
  | eq | ne | lt | le | gt | ge | isN | notN | isIn | notIn
  deriving DecidableEq
def szLine : Nat := 16777216
def szOk (n : Nat) : Bool := decide (n ≤ 16000000)
/-- == of data; none where objects of classes, dicts are met -/
def flatD : D → Bool
  | .non => true
  | .bl _ => true
  | .int _ => true
  | .str _ => true
  | _ => false
def b2i (b : Bool) : Int := if b then 1 else 0
mutual
def eqD : D → D → Bool
  | .non, .non => true
  | .bl a, .bl b => a == b
  | .bl a, .int b => b2i a == b
  | .int a, .bl b => a == b2i b
  | .int a, .int b => a == b
  | .str a, .str b => a == b
  | .tup xs, .tup ys => eqDs xs ys
  | .lst xs, .lst ys => eqDs xs ys
  | _, _ => false
def eqDs : List D → List D → Bool
  | [], [] => true
  | x :: xs, y :: ys => eqD x y && eqDs xs ys
  | _, _ => false
end
mutual
/-- data without objects of classes, dicts, at most so deep -/
def plainD : Nat → D → Bool
  | _, .non => true
  | _, .bl _ => true
  | _, .int _ => true
  | _, .str s => s.all (fun c => decide (c < 1114112))
  | n + 1, .tup xs => plainDs n xs
  | n + 1, .lst xs => plainDs n xs
  | _, _ => false
def plainDs : Nat → List D → Bool
  | _, [] => true
  | n, x :: xs => plainD n x && plainDs n xs
end
/-- the place that an index of any sign means -/
def plc (n : Nat) (i : Int) : Option Nat :=
  if 0 ≤ i then (if i < n then some i.toNat else none) else if -(n : Int) ≤ i then some (i + n).toNat else none
def mulOk (i j : Int) : Bool := decide (i.natAbs.log2 + j.natAbs.log2 < 1000000)
def divOk (j : Int) : Bool := decide (0 < j) && decide (j.natAbs.log2 < 9000)
def binD : Bop → D → D → Option Rs
  | .add, .int i, .int j => some (.d (.int (i + j)))
  | .add, .str x, .str y => if szOk (x.length + y.length) then some (.d (.str (x ++ y))) else none
  | .add, .lst x, .lst y => if szOk (x.length + y.length) then some (.fr (.lst (x ++ y))) else none
  | .add, .tup x, .tup y => if szOk (x.length + y.length) then some (.d (.tup (x ++ y))) else none
  | .sub, .int i, .int j => some (.d (.int (i - j)))
  | .mul, .int i, .int j => if mulOk i j then some (.d (.int (i * j))) else none
  | .mul, .lst x, .int j => if decide (-1000000 ≤ j) && decide (j < 1000000) && szOk (x.length * j.toNat) then some (.fr (.lst (List.replicate j.toNat x).flatten)) else none
  | .mul, .tup x, .int j => if !x.isEmpty && decide (2 ≤ j) && decide (j ≤ 1000) && decide (x.length ≤ 1000) then some (.d (.tup (List.replicate j.toNat x).flatten)) else none
  | .fdiv, .int i, .int j => if divOk j then some (.d (.int (i / j))) else none
  | .mod, .int i, .int j => if decide (0 < j) then some (.d (.int (i % j))) else none
  | .pow, .int i, .int j => if decide (0 ≤ j) && decide (j ≤ 1000000) && decide (i.natAbs < 18446744073709551616) then some (.d (.int (i ^ j.toNat))) else none
  | _, _, _ => none
def lookD (ks : List (D × D)) (k : D) : Option D := match ks with
  | [] => none
  | (q, v) :: r => if eqD q k then some v else lookD r k
def putD (k v : D) (ks : List (D × D)) : List (D × D) :=
  if ks.any fun p => eqD p.1 k then ks.map fun p => if eqD p.1 k then (p.1, v) else p else ks ++ [(k, v)]
/-- a key of a dict: an int, a text -/
def keyD : D → Bool
  | .int _ => true
  | .str _ => true
  | _ => false
/-- x stands ahead in a text -/
def pre : Tx → Tx → Bool
  | [], _ => true
  | _ :: _, [] => false
  | a :: x, b :: y => a == b && pre x y
def inD (x : D) : D → Option Bool
  | .tup ys => if flatD x && ys.all flatD then some (ys.any fun y => eqD y x) else none
  | .lst ys => if flatD x && ys.all flatD then some (ys.any fun y => eqD y x) else none
  | .str t => match x with
    | .str [c] => some (t.contains c)
    | _ => none
  | .dic ks => if keyD x then some (lookD ks x).isSome else none
  | _ => none
/-- == of data where it is known: scalars of one kind (any texts), else data of bounded depth -/
def sameD : D → D → Option Bool
  | .str a, .str b => some (a == b)
  | .int a, .int b => some (a == b)
  | x, y => if plainD 40 x && plainD 40 y then some (eqD x y) else none
def isNonD : D → Bool
  | .non => true
  | _ => false
def cmpD : Cop → D → D → Option Bool
  | .eq, x, y => sameD x y
  | .ne, x, y => (sameD x y).map (!·)
  | .lt, .int i, .int j => some (decide (i < j))
  | .le, .int i, .int j => some (decide (i ≤ j))
  | .gt, .int i, .int j => some (decide (j < i))
  | .ge, .int i, .int j => some (decide (j ≤ i))
  | .isN, x, .non => some (isNonD x)
  | .notN, x, .non => some (!isNonD x)
  | .isIn, x, y => inD x y
  | .notIn, x, y => (inD x y).map (!·)
  | _, _, _ => none
def truD : D → Option Bool
  | .non => some false
  | .bl b => some b
  | .int i => some (i != 0)
  | .str s => if szOk s.length then some (!s.isEmpty) else none
  | .tup xs => some (!xs.isEmpty)
  | .lst xs => some (!xs.isEmpty)
  | .dic ks => some (!ks.isEmpty)
  | _ => none
def idxD : D → D → Option D
  | .tup xs, .int i => (plc xs.length i).bind fun k => xs[k]?
  | .lst xs, .int i => (plc xs.length i).bind fun k => xs[k]?
  | .scr xs, .int i => ((plc xs.length i).bind fun k => xs[k]?).map .int
  | .str s, .int i => if szOk s.length then ((plc s.length i).bind fun k => s[k]?).map fun c => .str [c] else none
  | .dic ks, k => if keyD k then lookD ks k else none
  | _, _ => none
/-- a bound of a slice, as a place -/
def bnd (n : Nat) (dflt : Nat) : Option Int → Nat
  | none => dflt
  | some v => if v < 0 then (v + (n : Int)).toNat else min v.toNat n
def cut {α : Type} (xs : List α) (lo hi : Option Int) : List α := (xs.drop (bnd xs.length 0 lo)).take (bnd xs.length xs.length hi - bnd xs.length 0 lo)
def slcD : D → Option Int → Option Int → Option Rs
  | .tup xs, lo, hi => some (.d (.tup (cut xs lo hi)))
  | .lst xs, lo, hi => some (.fr (.lst (cut xs lo hi)))
  | .str s, lo, hi => if szOk s.length then some (.d (.str (cut s lo hi))) else none
  | _, _, _ => none
def intsOf : List D → Option (List Int)
  | [] => some []
  | .int i :: r => match intsOf r with
    | some l => some (i :: l)
    | none => none
  | _ :: _ => none
def blsOf : List D → Option (List Bool)
  | [] => some []
  | .bl b :: r => match blsOf r with
    | some l => some (b :: l)
    | none => none
  | _ :: _ => none
def strsOf : List D → Option (List Tx)
  | [] => some []
  | .str b :: r => match strsOf r with
    | some l => some (b :: l)
    | none => none
  | _ :: _ => none
def maxI : List Int → Option Int
  | [] => none
  | i :: l => some (l.foldl max i)
def minI : List Int → Option Int
  | [] => none
  | i :: l => some (l.foldl min i)
def txOf (s : String) : Tx := s.toList.map Char.toNat
/-- a whole number as it is written -/
def numT (i : Int) : Tx := txOf (toString i)
def sepT (sep : Tx) : List Tx → Tx
  | [] => []
  | [x] => x
  | x :: y :: r => x ++ sep ++ sepT sep (y :: r)
/-! ### what repr tells -/
/-- a text of plain signs, no quote, no backslash -/
def plainT (s : Tx) : Bool := s.all fun c => decide (32 ≤ c) && decide (c < 127) && (c != 39) && (c != 92)
def reprS (s : Tx) : Option Tx := if plainT s then some (39 :: s ++ [39]) else none
def lstT (ts : List Tx) : Tx := 91 :: sepT [44, 32] ts ++ [93]
def tupT (ts : List Tx) : Tx := 40 :: sepT [44, 32] ts ++ (if ts.length == 1 then [44, 41] else [41])
mutual
def reprD : D → Option Tx
  | .non => some [78, 111, 110, 101]
  | .bl true => some [84, 114, 117, 101]
  | .bl false => some [70, 97, 108, 115, 101]
  | .int i => if decide (i.natAbs.log2 < 1920) then some (numT i) else none
  | .str s => reprS s
  | .tup xs => match reprDs xs with
    | some ts => some (tupT ts)
    | none => none
  | .lst xs => match reprDs xs with
    | some ts => some (lstT ts)
    | none => none
  | .dic ks => if ks.isEmpty then some [123, 125] else none
  | _ => none
def reprDs : List D → Option (List Tx)
  | [] => some []
  | x :: xs => match reprD x with
    | some t => match reprDs xs with
      | some ts => some (t :: ts)
      | none => none
    | none => none
end
def reprX (x : D) : Option Tx := match reprD x with
  | some t => if szOk t.length then some t else none
  | none => none
mutual
/-- .. data without lists, dicts empty -/
def thinD : Nat → D → Bool
  | _, .non => true
  | _, .bl _ => true
  | _, .int _ => true
  | _, .str s => s.all (fun c => decide (c < 1114112))
  | n + 1, .tup xs => thinDs n xs
  | _ + 1, .dic ks => ks.isEmpty
  | _, _ => false
def thinDs : Nat → List D → Bool
  | _, [] => true
  | n, x :: xs => thinD n x && thinDs n xs
end
/-- repr may be asked of it -/
def rokD (x : D) : Bool := plainD 40 x || thinD 40 x
/-- ints in order -/
def insI (x : Int) : List Int → List Int
  | [] => [x]
  | y :: l => if x ≤ y then x :: y :: l else y :: insI x l
def sortI : List Int → List Int
  | [] => []
  | x :: l => insI x (sortI l)
inductive Blt where
  | len | abs | max2 | min2 | divmod | list | tuple | str | int | all | any | sum | maxl | minl | repr | sorted
  deriving DecidableEq
def seqD : D → Option (List D)
  | .tup xs => some xs
  | .lst xs => some xs
  | _ => none
def bltD : Blt → List D → Option Rs
  | .len, [.tup xs] => some (.d (.int xs.length))
  | .len, [.lst xs] => some (.d (.int xs.length))
  | .len, [.scr xs] => some (.d (.int xs.length))
  | .len, [.str s] => if szOk s.length then some (.d (.int s.length)) else none
  | .len, [.dic ks] => some (.d (.int ks.length))
  | .abs, [.int i] => some (.d (.int (if i < 0 then -i else i)))
  | .max2, [.int i, .int j] => some (.d (.int (if j > i then j else i)))
  | .min2, [.int i, .int j] => some (.d (.int (if j < i then j else i)))
  | .divmod, [.int i, .int j] => if divOk j then some (.d (.tup [.int (i / j), .int (i % j)])) else none
  | .list, [.tup xs] => some (.fr (.lst xs))
  | .list, [.lst xs] => some (.fr (.lst xs))
  | .tuple, [.tup xs] => some (.d (.tup xs))
  | .tuple, [.lst xs] => some (.d (.tup xs))
  | .str, [.int i] => if decide (i.natAbs.log2 < 1920) then some (.d (.str (numT i))) else none
  | .str, [.str s] => some (.d (.str s))
  | .int, [.int i] => some (.d (.int i))
  | .int, [.bl b] => some (.d (.int (b2i b)))
  | .all, [.lst xs] => match blsOf xs with
    | some l => some (.d (.bl (l.all id)))
    | none => none
  | .any, [.lst xs] => match blsOf xs with
    | some l => some (.d (.bl (l.any id)))
    | none => none
  | .sum, [.lst xs] => match intsOf xs with
    | some l => some (.d (.int l.sum))
    | none => none
  | .maxl, [.lst xs] => match intsOf xs with
    | some l => (maxI l).map fun m => .d (.int m)
    | none => none
  | .minl, [.lst xs] => match intsOf xs with
    | some l => (minI l).map fun m => .d (.int m)
    | none => none
  | .repr, [x] => if rokD x then (reprX x).map fun t => .d (.str t) else none
  | .sorted, [.lst xs] => match intsOf xs with
    | some l => some (.fr (.lst ((sortI l).map .int)))
    | none => none
  | _, _ => none
/-! ### the text -/
/-- built-in kinds -/
inductive Kd where
  | int | bool | str | list | tuple | dict
  deriving DecidableEq
def kdOf : D → Option Kd
  | .bl _ => some .bool
  | .int _ => some .int
  | .str _ => some .str
  | .tup _ => some .tuple
  | .lst _ => some .list
  | .dic _ => some .dict
  | _ => none
/-- isinstance with one built-in class -/
def isKd (k : Kd) (x : D) : Bool := match kdOf x with
  | some q => q == k || (k == .int && q == .bool)
  | none => false
inductive Met where
  | append | pop | index | join | reverse | clear | dget | split | bitlen
  deriving DecidableEq
inductive Tgt where
  | nm (i : Nat) | tp (is : List Nat)
mutual
inductive MExp where
  | var (i : Nat)
  | cst (d : D)
  | tup (es : List MExp) | lst (es : List MExp) | dic (ks : List MExp) (vs : List MExp)
  | bin (op : Bop) (a b : MExp) | neg (a : MExp)
  | cmp (op : Cop) (a b : MExp) | chn (op1 op2 : Cop) (a b c : MExp)
  | and_ (a b : MExp) | or_ (a b : MExp) | not_ (a : MExp)
  | ite (c a b : MExp)
  | idx (a b : MExp) | slc (a : MExp) (lo hi : Option MExp) | rev (a : MExp)
  | call (f : Nat) (es : List MExp)
  | callk (f : Nat) (es : List MExp) (km : List Nat)
  | blt (b : Blt) (es : List MExp)
  | met (m : Met) (o : MExp) (es : List MExp)
  | fld (o : MExp) (f : Nat)
  | own (o : MExp) (m : Nat) (es : List MExp)
  | len1 (o : MExp)
  | mk (c : Nat) (es : List MExp)
  | isk (e : MExp) (ks : List Kd)
  | isc (e : MExp) (c : Nat)
  | comp (e : MExp) (t : Tgt) (it : MIt) (c : Option MExp)
  | lrng (a : Option MExp) (b : MExp)
inductive MIt where
  | seq (e : MExp) | rng (a : Option MExp) (b : MExp) | enum (e : MExp) | zip (a b : MExp)
end
inductive Tg where
  | nm (i : Nat) | sub (o i : MExp) | fld (o : MExp) (f : Nat)
inductive MStmt where
  | set (i : Nat) (own : Bool) (e : MExp)
  | par (i j : Nat) (own1 own2 : Bool) (a b : MExp)
  | unp (ts : List Tg) (e : MExp)
  | star (is : List Nat) (j : Nat) (e : MExp)
  | setSub (o i e : MExp)
  | setFld (o : MExp) (f : Nat) (e : MExp)
  | aug (i : Nat) (op : Bop) (e : MExp)
  | exp (e : MExp)
  | ret (e : MExp) | retN
  | ite (c : MExp) (a b : List MStmt)
  | for_ (t : Tgt) (it : MIt) (b : List MStmt)
  | whl (c : MExp) (b : List MStmt)
  | never
  | thru (b : List MStmt)
  | pass
def sees2 (f : D → D → Option Rs) (ra rb : Rs) (e : Env) : Out Rs := match ra.see e, rb.see e with
  | some x, some y => Out.of e (f x y)
  | _, _ => .no
def sees1 (f : D → Option Rs) (ra : Rs) (e : Env) : Out Rs := match ra.see e with
  | some x => Out.of e (f x)
  | none => .no
def blR (b : Bool) : Rs := .d (.bl b)
def negD : D → Option Rs
  | .int i => some (.d (.int (-i)))
  | _ => none
def revD : D → Option Rs
  | .lst xs => some (.fr (.lst xs.reverse))
  | .tup xs => some (.d (.tup xs.reverse))
  | _ => none
def iskD (ks : List Kd) : D → Option Rs
  | .ins _ _ => none
  | .scr _ => none
  | x => some (blR (ks.any fun k => isKd k x))
/-- what the defs of the text are worth, and what the classes have -/
structure Gs where
  fn : Nat → Env → Out Rs
  meth : Nat → Nat → Option Nat
  init : Nat → Option Nat
  isa : Nat → Nat → Option Bool
  free : Nat → Nat → Bool
  fuel : Nat
/-- a call: the slots handed over, what the def is worth, the slots handed back -/
def callS (G : Gs) (f : Nat) (rs : List Rs) (e : Env) : Out Rs :=
  if noTwice (lent rs) then
    match passAll e rs with
    | some l => match G.fn f l with
      | .ok (.d x) l' => .ok (.d x) (backAll e rs l')
      | .ok (.fr o) l' => .ok (.fr o) (backAll e rs l')
      | .ok (.bo _) _ => .no
      | .ex x l' => .ex x (backAll e rs l')
      | .no => .no
    | none => .no
  else .no
/-- a new instance: its slot first -/
def makeS (G : Gs) (c : Nat) (rs : List Rs) (e : Env) : Out Rs :=
  match G.init c with
  | some f =>
    if noTwice (lent rs) then
      match passAll e rs with
      | some l => match G.fn f (.pa (.ins c []) :: l) with
        | .ok (.d .non) (.pa (.ins c' fs) :: l') => if c' == c then .ok (.fr (.ins c fs)) (backAll e rs l') else .no
        | .ex x (_ :: l') => .ex x (backAll e rs l')
        | _ => .no
      | none => .no
    else .no
  | none => .no
def clsOf : D → Option Nat
  | .ins c _ => some c
  | _ => none
def lookF : List (Nat × D) → Nat → Option D
  | [], _ => none
  | (g, x) :: r, f => if g == f then some x else lookF r f
def putFs (f : Nat) (x : D) : List (Nat × D) → List (Nat × D)
  | [] => [(f, x)]
  | (g, y) :: r => if g == f then (g, x) :: r else (g, y) :: putFs f x r
/-- len(o): of an instance by its own __len__ (the def told by meth of place 1) -/
def lenR : Rs → Env → Out Rs
  | .d (.int i), e => if decide (0 ≤ i) && decide (i ≤ 16000000) then .ok (.d (.int i)) e else .no
  | _, _ => .no
def len1S (G : Gs) (ro : Rs) (e : Env) : Out Rs :=
  match ro.see e with
  | some (.ins c _) => match G.meth c 1 with
    | some f => (callS G f [ro] e).bind fun r e2 => lenR r e2
    | none => .no
  | some x => Out.of e (bltD .len [x])
  | none => .no
abbrev mEq : Nat := 0
abbrev mLen : Nat := 1
abbrev mStr : Nat := 2
abbrev mRepr : Nat := 3
def notR (e : Env) : Rs → Out Rs
  | .d (.bl b) => .ok (.d (.bl (!b))) e
  | _ => .no
def cmpS (op : Cop) (ra rb : Rs) (e : Env) : Out Rs := sees2 (fun x y => (cmpD op x y).map blR) ra rb e
def fldD (G : Gs) (f : Nat) : D → Option Rs
  | .ins c fs => if G.free c f then (lookF fs f).map .d else none
  | _ => none
def iscD (G : Gs) (c : Nat) : D → Option Rs
  | .ins c' _ => (G.isa c' c).map blR
  | _ => some (blR false)
def bltS (b : Blt) (rs : List Rs) (e : Env) : Out Rs :=
  match sees e rs with
  | some xs => Out.of e (bltD b xs)
  | none => .no
/-- an object of one's own is another one from now on -/
def putOb (e : Env) (i : Nat) (o : Ob) : Option Env :=
  match e[i]? with
  | some (.ow _) => some (e.set i (.ow o))
  | some (.pa _) => some (e.set i (.pa o))
  | _ => none
def obAt (e : Env) (i : Nat) : Option Ob :=
  match e[i]? with
  | some (.ow o) => some o
  | some (.pa o) => some o
  | _ => none
def isPre (x t : Tx) : Bool := pre x t
/-- the first place at which a sign stands -/
def findC (c : Nat) : Tx → Nat → Option Nat
  | [], _ => none
  | b :: t, k => if b == c then some k else findC c t (k + 1)
def findT (x : Tx) : List Tx → Nat → Option Nat
  | [], _ => none
  | y :: l, k => if y == x then some k else findT x l (k + 1)
def splitT (sep : Nat) : Tx → Tx → List Tx
  | [], acc => [acc]
  | c :: t, acc => if c == sep then acc :: splitT sep t [] else splitT sep t (acc ++ [c])
/-- methods that change nothing -/
def metD : Met → D → List D → Option Rs
  | .index, .tup xs, [.str x] => (strsOf xs).bind fun l => (findT x l 0).map fun k => .d (.int k)
  | .index, .str t, [.str [c]] => (findC c t 0).map fun k => .d (.int k)
  | .join, .str s, [.lst xs] => match strsOf xs with
    | some l => if szOk (sepT s l).length then some (.d (.str (sepT s l))) else none
    | none => none
  | .dget, .dic ks, [k] => if keyD k then some (.d ((lookD ks k).getD .non)) else none
  | .dget, .dic ks, [k, x] => if keyD k then some (.d ((lookD ks k).getD x)) else none
  | .split, .str t, [.str [c]] => if szOk (t.length + 2) then some (.fr (.lst ((splitT c t []).map .str))) else none
  | _, _, _ => none
/-- methods that change a list of one's own -/
def metO : Met → List D → List D → Option (D × List D)
  | .append, xs, [x] => if szOk xs.length then some (.non, xs ++ [x]) else none
  | .pop, xs, [] => match xs[xs.length - 1]? with
    | some x => some (x, xs.dropLast)
    | none => none
  | .reverse, xs, [] => some (.non, xs.reverse)
  | .clear, _, [] => some (.non, [])
  | _, _, _ => none
def isMut : Met → Bool
  | .append => true
  | .pop => true
  | .reverse => true
  | .clear => true
  | _ => false
def metS (m : Met) (ro : Rs) (rs : List Rs) (e : Env) : Out Rs :=
  if isMut m then
    match ro with
    | .bo i => match holds rs e with
      | some (xs, e1) => match obAt e1 i with
        | some (.lst l) => match metO m l xs with
          | some (x, l') => match putOb e1 i (.lst l') with
            | some e2 => .ok (.d x) e2
            | none => .no
          | none => .no
        | _ => .no
      | none => .no
    | _ => .no
  else
    match holds rs e with
    | some (xs, e1) => match ro.see e1 with
      | some o => Out.of e1 (metD m o xs)
      | none => .no
    | none => .no
/-- what the method is asked of, ahead of its arguments -/
def kindOk : Met → D → Bool
  | .index, .tup _ => true
  | .index, .str _ => true
  | .join, .str _ => true
  | .split, .str _ => true
  | .dget, .dic _ => true
  | _, _ => false
def metOk (m : Met) (ro : Rs) (e : Env) : Bool := cond (isMut m) (match ro with
  | .bo i => match obAt e i with
    | some (.lst _) => true
    | _ => false
  | _ => false) (match ro.see e with
  | some x => kindOk m x
  | none => false)
/-! ### what a loop walks -/
inductive Src where
  | snap (xs : List D) | slot (i n : Nat)
inductive It where
  | one (s : Src) | rng (lo : Int) (n : Nat) | enum (s : Src) | zip (a b : Src)
def Src.len : Src → Nat
  | .snap xs => xs.length
  | .slot _ n => n
def Src.at_ (s : Src) (k : Nat) (e : Env) : Option D := match s with
  | .snap xs => xs[k]?
  | .slot i _ => match obAt e i with
    | some (.lst xs) => xs[k]?
    | _ => none
def Src.fine (s : Src) (e : Env) : Bool := match s with
  | .snap _ => true
  | .slot i n => match obAt e i with
    | some (.lst xs) => xs.length == n
    | _ => false
def It.len : It → Nat
  | .one s => s.len
  | .rng _ n => n
  | .enum s => s.len
  | .zip a b => min a.len b.len
def It.at_ (t : It) (k : Nat) (e : Env) : Option D := match t with
  | .one s => s.at_ k e
  | .rng lo _ => some (.int (lo + (k : Nat)))
  | .enum s => (s.at_ k e).map fun x => .tup [.int (k : Nat), x]
  | .zip a b => (a.at_ k e).bind fun x => (b.at_ k e).map fun y => .tup [x, y]
def It.fine (t : It) (e : Env) : Bool := match t with
  | .one s => s.fine e
  | .rng _ _ => true
  | .enum s => s.fine e
  | .zip a b => a.fine e && b.fine e
def Src.slots : Src → List Nat
  | .snap _ => []
  | .slot i _ => [i]
def It.slots : It → List Nat
  | .one s => s.slots
  | .rng _ _ => []
  | .enum s => s.slots
  | .zip a b => a.slots ++ b.slots
/-- what may be walked: data that stands, a new object, an object of one's own -/
def srcOf (e : Env) : Rs → Option Src
  | .d (.lst xs) => some (.snap xs)
  | .d (.tup xs) => some (.snap xs)
  | .d (.str s) => some (.snap (s.map fun c => .str [c]))
  | .fr (.lst xs) => some (.snap xs)
  | .bo i => match obAt e i with
    | some (.lst xs) => some (.slot i xs.length)
    | _ => none
  | _ => none
/-- .. a list, a tuple -/
def srcL (e : Env) : Rs → Option Src
  | .d (.str _) => none
  | r => srcOf e r
/-- a name may be stored anew -/
def mayPut (e : Env) (i : Nat) : Bool := match e[i]? with
  | some (.pa _) => false
  | some _ => true
  | none => false
def putNs : List Nat → List D → Env → Option Env
  | [], [], e => some e
  | i :: is, x :: xs, e => if mayPut e i then putNs is xs (e.set i (.sh x)) else none
  | _, _, _ => none
def tupD : D → Option (List D)
  | .tup xs => some xs
  | _ => none
def Tgt.put (t : Tgt) (x : D) (e : Env) : Option Env := match t with
  | .nm i => if mayPut e i then some (e.set i (.sh x)) else none
  | .tp is => match tupD x with
    | some xs => putNs is xs e
    | none => none
def Tgt.is : Tgt → List Nat
  | .nm i => [i]
  | .tp is => is
/-- the names of a comprehension's own: nothing stands there that is one's own -/
def wipeOk (e : Env) : List Nat → Bool
  | [] => true
  | i :: l => (match e[i]? with
    | some .un => true
    | some (.sh _) => true
    | _ => false) && wipeOk e l
def wipeE (e : Env) : List Nat → Env
  | [] => e
  | i :: l => (wipeE e l).set i .un
/-- .. as they stood -/
def unwipe (e0 : Env) (e : Env) : List Nat → Env
  | [] => e
  | i :: l => unwipe e0 (e.set i ((wipeE e0 l)[i]?.getD .un)) l
/-- a comprehension's turns; left: how many are left -/
def compLoop (it : It) (t : Tgt) (test : Env → Out Bool) (elt : Env → Out Rs) : Nat → Nat → List D → Env → Out (List D)
  | 0, _, acc, e => if it.fine e then .ok acc e else .no
  | left + 1, k, acc, e => match it.at_ k e with
    | some x => match t.put x e with
      | some e1 => match test e1 with
        | .ok true e2 => match elt e2 with
          | .ok r e3 => match r.hold e3 with
            | some (y, e4) => if szOk acc.length then compLoop it t test elt left (k + 1) (acc ++ [y]) (wipeE e4 t.is) else .no
            | none => .no
          | _ => .no
        | .ok false e2 => compLoop it t test elt left (k + 1) acc (wipeE e2 t.is)
        | _ => .no
      | none => .no
    | none => .no
def partO (e : Env) : Rs → Out Int
  | .d (.int i) => .ok i e
  | _ => .no
def tstR (r : Rs) (e : Env) : Out Bool := Out.of e ((r.see e).bind truD)
def rngOk (i j : Int) : Bool := decide (i.natAbs ≤ 4000000000000000000) && decide (j.natAbs ≤ 4000000000000000000)
def lrngS (i j : Int) (e : Env) : Out Rs := if rngOk i j && szOk (j - i).toNat then .ok (.fr (.lst ((List.range (j - i).toNat).map fun k => .int (i + (k : Nat))))) e else .no
mutual
def ev (G : Gs) : MExp → Env → Out Rs
  | .var i, e => match e[i]? with
    | some (.sh x) => .ok (.d x) e
    | some (.ow _) => .ok (.bo i) e
    | some (.pa _) => .ok (.bo i) e
    | _ => .no
  | .cst d, e => .ok (.d d) e
  | .tup es, e => (evs G es e).bind fun rs e1 => match holds rs e1 with
    | some (xs, e2) => .ok (.d (.tup xs)) e2
    | none => .no
  | .lst es, e => (evs G es e).bind fun rs e1 => match holds rs e1 with
    | some (xs, e2) => .ok (.fr (.lst xs)) e2
    | none => .no
  | .dic ks vs, e => (evs G ks e).bind fun rs e1 => match holds rs e1 with
    | some (xs, e2) => (evs G vs e2).bind fun ws e3 => match holds ws e3 with
      | some (ys, e4) => if xs.all keyD then .ok (.fr (.dic ((xs.zip ys).foldl (fun a p => putD p.1 p.2 a) []))) e4 else .no
      | none => .no
    | none => .no
  | .bin op a b, e => (ev G a e).bind fun ra e1 => (ev G b e1).bind fun rb e2 => sees2 (binD op) ra rb e2
  | .neg a, e => (ev G a e).bind fun ra e1 => sees1 negD ra e1
  | .cmp op a b, e => (ev G a e).bind fun ra e1 => (ev G b e1).bind fun rb e2 => cmpS op ra rb e2
  | .chn op1 op2 a b c, e => (ev G a e).bind fun ra e1 => (ev G b e1).bind fun rb e2 => match ra.see e2, rb.see e2 with
    | some x, some y => match cmpD op1 x y with
      | some true => (ev G c e2).bind fun rc e3 => cmpS op2 rb rc e3
      | some false => .ok (.d (.bl false)) e2
      | none => .no
    | _, _ => .no
  | .and_ a b, e => (ev G a e).bind fun ra e1 => match ra with
    | .d (.bl true) => ev G b e1
    | .d (.bl false) => .ok (.d (.bl false)) e1
    | _ => .no
  | .or_ a b, e => (ev G a e).bind fun ra e1 => match ra with
    | .d (.bl true) => .ok (.d (.bl true)) e1
    | .d (.bl false) => ev G b e1
    | _ => .no
  | .not_ a, e => (ev G a e).bind fun ra e1 => (tstR ra e1).bind fun k e2 => .ok (.d (.bl (!k))) e2
  | .ite c a b, e => (ev G c e).bind fun rc e1 => (tstR rc e1).bind fun k e2 => if k then ev G a e2 else ev G b e2
  | .idx a b, e => (ev G a e).bind fun ra e1 => (ev G b e1).bind fun rb e2 => sees2 (fun x y => (idxD x y).map .d) ra rb e2
  | .slc a lo hi, e => (ev G a e).bind fun ra e1 => (evp G lo e1).bind fun l e2 => (evp G hi e2).bind fun h e3 => match ra.see e3 with
    | some x => Out.of e3 (slcD x l h)
    | none => .no
  | .rev a, e => (ev G a e).bind fun ra e1 => sees1 revD ra e1
  | .call f es, e => (evs G es e).bind fun rs e1 => callS G f rs e1
  | .callk f es km, e => (evs G es e).bind fun rs e1 => callS G f (km.filterMap fun k => rs[k]?) e1
  | .blt b es, e => (evs G es e).bind fun rs e1 => bltS b rs e1
  | .met m o es, e => (ev G o e).bind fun ro e1 => if metOk m ro e1 then (evs G es e1).bind fun rs e2 => metS m ro rs e2 else .no
  | .fld o f, e => (ev G o e).bind fun ro e1 => sees1 (fldD G f) ro e1
  | .own o m es, e => (ev G o e).bind fun ro e1 => match ro.see e1 with
    | some (.ins c fs) => match G.meth c m with
      | some f => if (lookF fs m).isNone then (evs G es e1).bind fun rs e2 => callS G f (ro :: rs) e2 else .no
      | none => .no
    | _ => .no
  | .len1 o, e => (ev G o e).bind fun ro e1 => len1S G ro e1
  | .mk c es, e => (evs G es e).bind fun rs e1 => makeS G c rs e1
  | .isk a ks, e => (ev G a e).bind fun ra e1 => sees1 (iskD ks) ra e1
  | .isc a c, e => (ev G a e).bind fun ra e1 => sees1 (iscD G c) ra e1
  | .comp a t it c, e => (evIt G it e).bind fun w e1 =>
    if wipeOk e1 t.is && w.slots.all (fun i => !t.is.contains i) then
      match compLoop w t (fun e => evc G c e) (fun e => ev G a e) w.len 0 [] (wipeE e1 t.is) with
      | .ok xs e2 => .ok (.fr (.lst xs)) (unwipe e1 e2 t.is)
      | _ => .no
    else .no
  | .lrng none b, e => (ev G b e).bind fun r e1 => (partO e1 r).bind fun j e2 => lrngS 0 j e2
  | .lrng (some a) b, e => (ev G a e).bind fun q e1 => (partO e1 q).bind fun i e2 => (ev G b e2).bind fun r e3 => (partO e3 r).bind fun j e4 => lrngS i j e4
def evs (G : Gs) : List MExp → Env → Out (List Rs)
  | [], e => .ok [] e
  | a :: as, e => (ev G a e).bind fun r e1 => (evs G as e1).bind fun rs e2 => .ok (r :: rs) e2
def evp (G : Gs) : Option MExp → Env → Out (Option Int)
  | none, e => .ok none e
  | some a, e => (ev G a e).bind fun r e1 => (partO e1 r).bind fun i e2 => .ok (some i) e2
def evc (G : Gs) : Option MExp → Env → Out Bool
  | none, e => .ok true e
  | some a, e => (ev G a e).bind fun r e1 => tstR r e1
def evIt (G : Gs) : MIt → Env → Out It
  | .seq a, e => (ev G a e).bind fun r e1 => Out.of e1 ((srcOf e1 r).map .one)
  | .rng none b, e => (ev G b e).bind fun r e1 => (partO e1 r).bind fun j e2 => if rngOk 0 j then .ok (.rng 0 j.toNat) e2 else .no
  | .rng (some a) b, e => (ev G a e).bind fun q e1 => (partO e1 q).bind fun i e2 => (ev G b e2).bind fun r e3 => (partO e3 r).bind fun j e4 => if rngOk i j then .ok (.rng i (j - i).toNat) e4 else .no
  | .enum a, e => (ev G a e).bind fun r e1 => Out.of e1 ((srcL e1 r).map .enum)
  | .zip a b, e => (ev G a e).bind fun q e1 => (ev G b e1).bind fun r e2 => match srcL e2 q, srcL e2 r with
    | some x, some y => .ok (.zip x y) e2
    | _, _ => .no
end
def tst (G : Gs) (a : MExp) (e : Env) : Out Bool := (ev G a e).bind fun r e1 => tstR r e1
/-! ### statements -/
inductive SOut where
  | nx (e : Env) | rt (r : Rs) (e : Env) | ex (x : Xc) (e : Env) | no
def SOut.seq (o : SOut) (f : Env → SOut) : SOut := match o with
  | .nx e => f e
  | .rt r e => .rt r e
  | .ex x e => .ex x e
  | .no => .no
def Out.thn {α : Type} (o : Out α) (f : α → Env → SOut) : SOut := match o with
  | .ok a e => f a e
  | .ex x e => .ex x e
  | .no => .no
def SOut.of : Option Env → SOut
  | some e => .nx e
  | none => .no
/-- a result is stored at a name; own: a new object stays one's own -/
def putR (own : Bool) (i : Nat) (r : Rs) (e : Env) : Option Env :=
  if mayPut e i then
    match r with
    | .d x => some (e.set i (.sh x))
    | .fr o => some (e.set i (if own then .ow o else .sh o.d))
    | .bo j => match r.hold e with
      | some (x, e1) => some (e1.set i (.sh x))
      | none => none
  else none
/-- a result that is no name's -/
def unbo (r : Rs) (e : Env) : Option (Rs × Env) := match r with
  | .bo _ => match r.hold e with
    | some (x, e1) => some (.d x, e1)
    | none => none
  | r => some (r, e)
/-- what is handed back -/
def retR (r : Rs) (e : Env) : SOut := match r with
  | .d x => .rt (.d x) e
  | .fr o => .rt (.fr o) e
  | .bo i => match e[i]? with
    | some (.ow o) => .rt (.fr o) (e.set i .un)
    | some (.sh x) => .rt (.d x) e
    | _ => .no
def setSubS (ro : Rs) (i x : D) (e : Env) : Option Env := match ro with
  | .bo j => match obAt e j with
    | some (.lst xs) => match i with
      | .int k => (plc xs.length k).bind fun n => putOb e j (.lst (xs.set n x))
      | _ => none
    | some (.dic ks) => if keyD i && szOk ks.length then putOb e j (.dic (putD i x ks)) else none
    | _ => none
  | _ => none
def setFldS (G : Gs) (ro : Rs) (f : Nat) (x : D) (e : Env) : Option Env := match ro with
  | .bo j => match obAt e j with
    | some (.ins c fs) => if G.free c f && decide (fs.length < 1000) then putOb e j (.ins c (putFs f x fs)) else none
    | _ => none
  | _ => none
/-- a value goes to a target -/
def putTg (G : Gs) (x : D) : Tg → Env → SOut
  | .nm i, e => SOut.of (if mayPut e i then some (e.set i (.sh x)) else none)
  | .sub o i, e => (ev G o e).thn fun ro e1 => (ev G i e1).thn fun ri e2 => match ri.see e2 with
    | some k => SOut.of (setSubS ro k x e2)
    | none => .no
  | .fld o f, e => (ev G o e).thn fun ro e1 => SOut.of (setFldS G ro f x e1)
def putTgs (G : Gs) : List Tg → List D → Env → SOut
  | [], [], e => .nx e
  | t :: ts, x :: xs, e => (putTg G x t e).seq fun e1 => putTgs G ts xs e1
  | _, _, _ => .no
def forLoop (it : It) (t : Tgt) (body : Env → SOut) : Nat → Nat → Env → SOut
  | 0, _, e => if it.fine e then .nx e else .no
  | left + 1, k, e => match it.at_ k e with
    | some x => match t.put x e with
      | some e1 => (body e1).seq fun e2 => forLoop it t body left (k + 1) e2
      | none => .no
    | none => .no
def whlLoop (test : Env → Out Bool) (body : Env → SOut) : Nat → Env → SOut
  | 0, _ => .no
  | fuel + 1, e => (test e).thn fun k e1 => if k then (body e1).seq fun e2 => whlLoop test body fuel e2 else .nx e1
/-- the names that a statement stores -/
def tgS : List Tg → List Nat
  | [] => []
  | .nm i :: l => i :: tgS l
  | _ :: l => tgS l
mutual
def MStmt.st : MStmt → List Nat
  | .set i _ _ => [i]
  | .par i j _ _ _ _ => [i, j]
  | .unp ts _ => tgS ts
  | .star is j _ => j :: is
  | .aug i _ _ => [i]
  | .ite _ a b => MStmt.sts a ++ MStmt.sts b
  | .for_ t _ b => t.is ++ MStmt.sts b
  | .whl _ b => MStmt.sts b
  | .thru b => MStmt.sts b
  | _ => []
def MStmt.sts : List MStmt → List Nat
  | [] => []
  | s :: l => MStmt.st s ++ MStmt.sts l
end
mutual
def exec (G : Gs) : MStmt → Env → SOut
  | .set i own a, e => (ev G a e).thn fun r e1 => SOut.of (putR own i r e1)
  | .par i j o1 o2 a b, e => (ev G a e).thn fun r e1 => (ev G b e1).thn fun q e2 => match unbo r e2 with
    | some (r', e3) => match unbo q e3 with
      | some (q', e4) => match putR o1 i r' e4 with
        | some e5 => SOut.of (putR o2 j q' e5)
        | none => .no
      | none => .no
    | none => .no
  | .unp ts a, e => (ev G a e).thn fun r e1 => match (r.see e1).bind tupD with
    | some xs => if xs.length == ts.length then putTgs G ts xs e1 else .no
    | none => .no
  | .star is j a, e => (ev G a e).thn fun r e1 => match (r.see e1).bind seqD with
    | some xs => if decide (is.length ≤ xs.length) && decide (xs.length ≤ 16000) then match putNs is (xs.take is.length) e1 with
      | some e2 => if mayPut e2 j then .nx (e2.set j (.sh (.lst (xs.drop is.length)))) else .no
      | none => .no else .no
    | none => .no
  | .setSub o i a, e => (ev G a e).thn fun r e1 => match r.hold e1 with
    | some (x, e2) => (ev G o e2).thn fun ro e3 => (ev G i e3).thn fun ri e4 => match ri.see e4 with
      | some k => SOut.of (setSubS ro k x e4)
      | none => .no
    | none => .no
  | .setFld o f a, e => (ev G a e).thn fun r e1 => match r.hold e1 with
    | some (x, e2) => (ev G o e2).thn fun ro e3 => SOut.of (setFldS G ro f x e3)
    | none => .no
  | .aug i op a, e => match e[i]? with
    | some (.sh (.int n)) => (ev G a e).thn fun r e1 => match r with
      | .d (.int k) => match op with
        | .add => SOut.of (putR false i (.d (.int (n + k))) e1)
        | .sub => SOut.of (putR false i (.d (.int (n - k))) e1)
        | _ => .no
      | _ => .no
    | _ => .no
  | .exp a, e => (ev G a e).thn fun _ e1 => .nx e1
  | .ret a, e => (ev G a e).thn fun r e1 => retR r e1
  | .retN, e => .rt (.d .non) e
  | .ite c a b, e => (tst G c e).thn fun k e1 => if k then execs G a e1 else execs G b e1
  | .for_ t it b, e => (evIt G it e).thn fun w e1 => if w.slots.all (fun i => !(t.is ++ MStmt.sts b).contains i) then forLoop w t (fun e => execs G b e) w.len 0 e1 else .no
  | .whl c b, e => whlLoop (fun e => tst G c e) (fun e => execs G b e) G.fuel e
  | .never, _ => .no
  | .thru b, e => match execs G b e with
    | .ex _ _ => .no
    | o => o
  | .pass, e => .nx e
def execs (G : Gs) : List MStmt → Env → SOut
  | [], e => .nx e
  | s :: ss, e => (exec G s e).seq fun e1 => execs G ss e1
end
/-! ### a text: its defs -/
structure Def where
  pars : Nat
  size : Nat
  body : List MStmt
/-- the parameters' slots, as they are handed back -/
def backP : List Sl → Env → List Sl
  | [], _ => []
  | .pa o :: l, e => (match e with
    | .pa o' :: _ => .pa o'
    | _ => .pa o) :: backP l e.tail
  | s :: l, e => s :: backP l e.tail
/-- slots of the caller's stay the caller's -/
def pasKept : List Sl → Env → Bool
  | [], _ => true
  | .pa _ :: l, e => (match e with
    | .pa _ :: _ => true
    | _ => false) && pasKept l e.tail
  | _ :: l, e => pasKept l e.tail
def runDef (G : Gs) (d : Def) (l : List Sl) : Out Rs :=
  if l.length == d.pars then
    match execs G d.body (l ++ List.replicate (d.size - d.pars) .un) with
    | .nx e => if pasKept l e then .ok (.d .non) (backP l e) else .no
    | .rt r e => if pasKept l e then .ok r (backP l e) else .no
    | .ex x e => if pasKept l e then .ex x (backP l e) else .no
    | .no => .no
  else .no
end Mi
namespace Mi
def noEx (o : Out Rs) : Out Rs := match o with
  | .ex _ _ => .no
  | o => o
/-- the text's defs, by how deep calls may go -/
def Gn (defs : Nat → Option Def) (meth : Nat → Nat → Option Nat) (init : Nat → Option Nat) (isa : Nat → Nat → Option Bool) (free : Nat → Nat → Bool) (fuel : Nat) : Nat → Gs
  | 0 => ⟨fun _ _ => .no, meth, init, isa, free, fuel⟩
  | n + 1 => ⟨fun f l => match defs f with
    | some d => noEx (runDef (Gn defs meth init isa free fuel n) d l)
    | none => .no, meth, init, isa, free, fuel⟩
end Mi
section
set_option maxHeartbeats 4000000
namespace Mi
open PySem PySem.Spec PyProof.Rows L2
/-! ### what stands for what -/
/-- the written part; the attributes' names; the classes' places -/
structure Tb where
  K : PySem.W.Frag
  an : Nat → Str
  cA : Nat → Addr
  inj : ∀ i j, an i = an j → i = j
inductive KyR : Key → D → Prop where
  | int (i : Int) : KyR (.inl i) (.int i)
  | str (s : Tx) : KyR (.inr ⟨s.toArray⟩) (.str s)
mutual
inductive Rp (T : Tb) (H : Hp) : V → D → Prop where
  | non : Rp T H .non .non
  | bl (b : Bool) : Rp T H (.bl b) (.bl b)
  | int (i : Int) : Rp T H (.int i) (.int i)
  | str (s : Tx) : Rp T H (.str ⟨s.toArray⟩) (.str s)
  | tup {p : Addr} {vs : List V} {xs : List D} : SqT T.K H p vs → Rps T H vs xs → Rp T H (.ref p) (.tup xs)
  | lst {p : Addr} {vs : List V} {xs : List D} : H p = some (.lst vs) → Rps T H vs xs → Rp T H (.ref p) (.lst xs)
  | dic {p : Addr} {vs : List (Key × V)} {xs : List (D × D)} : H p = some (.dK vs) → RpK T H vs xs → Rp T H (.ref p) (.dic xs)
  | ins {p dx : Addr} {c : Nat} {vs : List (Str × V)} {fs : List (Nat × D)} : H p = some (.ins (T.cA c) dx vs) → RpF T H vs fs → Rp T H (.ref p) (.ins c fs)
  | scr {p : Addr} {ns : List Int} : SqL T.K H p (ns.map V.int) → Rp T H (.ref p) (.scr ns)
inductive Rps (T : Tb) (H : Hp) : List V → List D → Prop where
  | nil : Rps T H [] []
  | cons {v : V} {x : D} {vs : List V} {xs : List D} : Rp T H v x → Rps T H vs xs → Rps T H (v :: vs) (x :: xs)
inductive RpK (T : Tb) (H : Hp) : List (Key × V) → List (D × D) → Prop where
  | nil : RpK T H [] []
  | cons {k : Key} {q : D} {v : V} {x : D} {vs : List (Key × V)} {xs : List (D × D)} : KyR k q → Rp T H v x → RpK T H vs xs → RpK T H ((k, v) :: vs) ((q, x) :: xs)
inductive RpF (T : Tb) (H : Hp) : List (Str × V) → List (Nat × D) → Prop where
  | nil : RpF T H [] []
  | cons {f : Nat} {v : V} {x : D} {vs : List (Str × V)} {xs : List (Nat × D)} : Rp T H v x → RpF T H vs xs → RpF T H ((T.an f, v) :: vs) ((f, x) :: xs)
end
theorem Same.rd {H H' : Hp} (e : Same H H') {a : Addr} {u : HO} (h : Rd H a u) : Rd H' a u := by
  rcases h with h | ⟨o, h⟩
  · exact .inl (e _ _ h)
  · exact .inr ⟨o, e _ _ h⟩
theorem Same.sqT {K : PySem.W.Frag} {H H' : Hp} (e : Same H H') {a : Addr} {xs : List V} (h : SqT K H a xs) : SqT K H' a xs := by
  rcases h with h | h
  · exact .inl (Same.rd e h)
  · exact .inr h
theorem Same.sqL {K : PySem.W.Frag} {H H' : Hp} (e : Same H H') {a : Addr} {xs : List V} (h : SqL K H a xs) : SqL K H' a xs := Same.seq e h
section
variable {T : Tb} {H H' : Hp}
mutual
theorem Rp.mono (e : Same H H') {v : V} {x : D} (h : Rp T H v x) : Rp T H' v x := by
  cases h with
  | non => exact .non
  | bl b => exact .bl b
  | int i => exact .int i
  | str s => exact .str s
  | tup a b => exact .tup (Same.sqT e a) (Rps.mono e b)
  | lst a b => exact .lst (e _ _ a) (Rps.mono e b)
  | dic a b => exact .dic (e _ _ a) (RpK.mono e b)
  | ins a b => exact .ins (e _ _ a) (RpF.mono e b)
  | scr a => exact .scr (Same.sqL e a)
theorem Rps.mono (e : Same H H') {v : List V} {x : List D} (h : Rps T H v x) : Rps T H' v x := by
  cases h with
  | nil => exact .nil
  | cons a b => exact .cons (Rp.mono e a) (Rps.mono e b)
theorem RpK.mono (e : Same H H') {v : List (Key × V)} {x : List (D × D)} (h : RpK T H v x) : RpK T H' v x := by
  cases h with
  | nil => exact .nil
  | cons k a b => exact .cons k (Rp.mono e a) (RpK.mono e b)
theorem RpF.mono (e : Same H H') {v : List (Str × V)} {x : List (Nat × D)} (h : RpF T H v x) : RpF T H' v x := by
  cases h with
  | nil => exact .nil
  | cons a b => exact .cons (Rp.mono e a) (RpF.mono e b)
end
theorem Rps.length : ∀ {vs : List V} {xs : List D}, Rps T H vs xs → vs.length = xs.length
  | _, _, .nil => rfl
  | _, _, .cons _ r => by simp [r.length]
theorem Rps.append : ∀ {vs : List V} {xs : List D} {ws : List V} {ys : List D}, Rps T H vs xs → Rps T H ws ys → Rps T H (vs ++ ws) (xs ++ ys)
  | _, _, _, _, .nil, h => h
  | _, _, _, _, .cons a r, h => .cons a (r.append h)
theorem Rps.get : ∀ {vs : List V} {xs : List D} {k : Nat} {x : D}, Rps T H vs xs → xs[k]? = some x → ∃ v, vs[k]? = some v ∧ Rp T H v x
  | _, _, _, _, .nil, h => by simp at h
  | _, _, 0, _, .cons a r, h => by simp at h; subst h; exact ⟨_, rfl, a⟩
  | _, _, k + 1, _, .cons a r, h => by simp at h; simpa using r.get h
theorem Rps.get' : ∀ {vs : List V} {xs : List D} {k : Nat} {v : V}, Rps T H vs xs → vs[k]? = some v → ∃ x, xs[k]? = some x ∧ Rp T H v x
  | _, _, _, _, .nil, h => by simp at h
  | _, _, 0, _, .cons a r, h => by simp at h; subst h; exact ⟨_, rfl, a⟩
  | _, _, k + 1, _, .cons a r, h => by simp at h; simpa using r.get' h
theorem Rps.set : ∀ {vs : List V} {xs : List D} {k : Nat} {x : D} {v : V}, Rps T H vs xs → Rp T H v x → Rps T H (vs.set k v) (xs.set k x)
  | _, _, _, _, _, .nil, _ => .nil
  | _, _, 0, _, _, .cons _ r, h => .cons h r
  | _, _, k + 1, _, _, .cons a r, h => .cons a (r.set h)
theorem Rps.take : ∀ {vs : List V} {xs : List D} (k : Nat), Rps T H vs xs → Rps T H (vs.take k) (xs.take k)
  | _, _, 0, _ => by simp; exact .nil
  | _, _, k + 1, .nil => .nil
  | _, _, k + 1, .cons a r => .cons a (r.take k)
theorem Rps.drop : ∀ {vs : List V} {xs : List D} (k : Nat), Rps T H vs xs → Rps T H (vs.drop k) (xs.drop k)
  | _, _, 0, h => by simpa using h
  | _, _, k + 1, .nil => .nil
  | _, _, k + 1, .cons a r => by simpa using r.drop k
theorem Rps.reverse : ∀ {vs : List V} {xs : List D}, Rps T H vs xs → Rps T H vs.reverse xs.reverse
  | _, _, .nil => .nil
  | _, _, .cons a r => by simpa using r.reverse.append (.cons a .nil)
theorem Rps.dropLast {vs : List V} {xs : List D} (h : Rps T H vs xs) : Rps T H vs.dropLast xs.dropLast := by
  rw [List.dropLast_eq_take, List.dropLast_eq_take, h.length]
  exact h.take _
theorem Rps.rep {vs : List V} {xs : List D} (h : Rps T H vs xs) : ∀ k : Nat, Rps T H (List.replicate k vs).flatten (List.replicate k xs).flatten
  | 0 => .nil
  | k + 1 => by rw [List.replicate_succ, List.replicate_succ, List.flatten_cons, List.flatten_cons]; exact h.append (h.rep k)
theorem RpF.look : ∀ {vs : List (Str × V)} {fs : List (Nat × D)} {f : Nat} {x : D}, RpF T H vs fs → lookF fs f = some x → ∃ v, vs.lookup (T.an f) = some v ∧ Rp T H v x
  | _, _, _, _, .nil, h => by simp [lookF] at h
  | _, _, f, _, .cons (f := g) a r, h => by
    unfold lookF at h
    by_cases e : g = f
    · subst e
      simp at h
      subst h
      exact ⟨_, by simp [List.lookup_cons], a⟩
    · have ne : (T.an f == T.an g) = false := by
        rw [beq_eq_false_iff_ne]
        exact fun z => e (T.inj _ _ z.symm)
      have e' : (g == f) = false := by simpa using e
      rw [e'] at h
      simp at h
      obtain ⟨v, hv, hr⟩ := r.look h
      exact ⟨v, by rw [List.lookup_cons, ne]; exact hv, hr⟩
theorem RpF.none : ∀ {vs : List (Str × V)} {fs : List (Nat × D)} {f : Nat}, RpF T H vs fs → lookF fs f = none → vs.lookup (T.an f) = none
  | _, _, _, .nil, _ => rfl
  | _, _, f, .cons (f := g) a r, h => by
    unfold lookF at h
    by_cases e : g = f
    · subst e
      simp at h
    · have ne : (T.an f == T.an g) = false := by
        rw [beq_eq_false_iff_ne]
        exact fun z => e (T.inj _ _ z.symm)
      have e' : (g == f) = false := by simpa using e
      rw [e'] at h
      simp at h
      rw [List.lookup_cons, ne]
      exact r.none h
theorem RpF.put : ∀ {vs : List (Str × V)} {fs : List (Nat × D)} {f : Nat} {x : D} {v : V}, RpF T H vs fs → Rp T H v x → RpF T H (putF (T.an f) v vs) (putFs f x fs)
  | _, _, _, _, _, .nil, h => .cons h .nil
  | _, _, f, _, _, .cons (f := g) a r, h => by
    unfold putF putFs
    by_cases e : g = f
    · subst e
      simp
      exact .cons h r
    · have ne : ¬ T.an g = T.an f := fun z => e (T.inj _ _ z)
      rw [if_neg ne]
      have e' : (g == f) = false := by simpa using e
      rw [e']
      simp
      exact .cons a (r.put h)
theorem RpF.length : ∀ {vs : List (Str × V)} {fs : List (Nat × D)}, RpF T H vs fs → vs.length = fs.length
  | _, _, .nil => rfl
  | _, _, .cons _ r => by simp [r.length]
end
/-- at p stands the object; what is in it stands still in H0 -/
def ObR (T : Tb) (H0 H : Hp) (p : Addr) : Ob → Prop
  | .lst xs => ∃ vs, H p = some (.lst vs) ∧ Rps T H0 vs xs
  | .dic ks => ∃ vs, H p = some (.dK vs) ∧ RpK T H0 vs ks
  | .ins c fs => ∃ dx vs, H p = some (.ins (T.cA c) dx vs) ∧ RpF T H0 vs fs
theorem ObR.there {T : Tb} {H0 H : Hp} {p : Addr} {o : Ob} (h : ObR T H0 H p o) : ∃ u, H p = some u := by
  cases o with
  | lst xs => obtain ⟨_, h, _⟩ := h; exact ⟨_, h⟩
  | dic xs => obtain ⟨_, h, _⟩ := h; exact ⟨_, h⟩
  | ins c xs => obtain ⟨_, _, h, _⟩ := h; exact ⟨_, h⟩
theorem ObR.move {T : Tb} {H0 H H0' H' : Hp} {p : Addr} {o : Ob} (h : ObR T H0 H p o) (e : Same H0 H0') (k : H' p = H p) : ObR T H0' H' p o := by
  cases o with
  | lst xs => obtain ⟨vs, h, r⟩ := h; exact ⟨vs, k.trans h, r.mono e⟩
  | dic xs => obtain ⟨vs, h, r⟩ := h; exact ⟨vs, k.trans h, r.mono e⟩
  | ins c xs => obtain ⟨dx, vs, h, r⟩ := h; exact ⟨dx, vs, k.trans h, r.mono e⟩
theorem ObR.rp {T : Tb} {H0 H : Hp} {p : Addr} {o : Ob} (h : ObR T H0 H p o) (e : Same H0 H) : Rp T H (.ref p) o.d := by
  cases o with
  | lst xs => obtain ⟨vs, h, r⟩ := h; exact .lst h (r.mono e)
  | dic xs => obtain ⟨vs, h, r⟩ := h; exact .dic h (r.mono e)
  | ins c xs => obtain ⟨dx, vs, h, r⟩ := h; exact .ins h (r.mono e)
/-- a def's entry: the heap, what stood still in it, the caller's objects that it was lent (slot, place) -/
structure En where
  Hs : Hp
  H0 : Hp
  pas : List (Nat × Addr)
def SlotR (T : Tb) (n : En) (H0 H : Hp) (i : Nat) (x : Option V) : Sl → Prop
  | .un => True
  | .sh d => ∃ v, x = some v ∧ Rp T H0 v d
  | .ow o => ∃ p, x = some (.ref p) ∧ n.Hs p = none ∧ H0 p = none ∧ ObR T H0 H p o
  | .pa o => ∃ p, x = some (.ref p) ∧ (i, p) ∈ n.pas ∧ H0 p = none ∧ ObR T H0 H p o
def isOwn : Sl → Bool
  | .ow _ => true
  | .pa _ => true
  | _ => false
/-- slot i holds an object of one's own at p -/
def OwnAt (σ : L2.St) (ρ : Env) (i : Nat) (p : Addr) : Prop := σ[i]? = some (some (.ref p)) ∧ ∃ s, ρ[i]? = some s ∧ isOwn s = true
abbrev Tmp := V × Rs
def TmpR (T : Tb) (n : En) (H0 H : Hp) (σ : L2.St) (ρ : Env) (v : V) : Rs → Prop
  | .d x => Rp T H0 v x
  | .fr o => ∃ p, v = .ref p ∧ n.Hs p = none ∧ H0 p = none ∧ ObR T H0 H p o
  | .bo i => σ[i]? = some (some v) ∧ ∃ s, ρ[i]? = some s ∧ s ≠ .un
def tmpL : List Tmp → List Addr
  | [] => []
  | (.ref p, .fr _) :: l => p :: tmpL l
  | _ :: l => tmpL l
/-- the state of a def's body -/
structure ST (T : Tb) (n : En) (H0 H : Hp) (σ : L2.St) (ρ : Env) (ts : List Tmp) : Prop where
  sub : Same H0 H
  s0 : Same n.H0 H0
  len : σ.length = ρ.length
  slot : ∀ i s, ρ[i]? = some s → ∃ x, σ[i]? = some x ∧ SlotR T n H0 H i x s
  temp : ∀ t ∈ ts, TmpR T n H0 H σ ρ t.1 t.2
  dist : ∀ i j p, OwnAt σ ρ i p → OwnAt σ ρ j p → i = j
  dtt : (tmpL ts).Nodup
  dts : ∀ p ∈ tmpL ts, ∀ i, ¬ OwnAt σ ρ i p
  pak : ∀ q ∈ n.pas, σ[q.1]? = some (some (.ref q.2)) ∧ ∃ o, ρ[q.1]? = some (.pa o)
  keep : ∀ b o, n.Hs b = some o → b ∉ n.pas.map (·.2) → H b = some o
  dom : ∀ b o, n.Hs b = some o → ∃ o', H b = some o'
  new : ∀ b o, H0 b = some o → (∃ o', n.H0 b = some o') ∨ n.Hs b = none
theorem tmpL_cons_fr (p : Addr) (o : Ob) (l : List Tmp) : tmpL ((.ref p, .fr o) :: l) = p :: tmpL l := rfl
theorem tmpL_cons_d (v : V) (x : D) (l : List Tmp) : tmpL ((v, .d x) :: l) = tmpL l := by cases v <;> rfl
theorem tmpL_cons_bo (v : V) (i : Nat) (l : List Tmp) : tmpL ((v, .bo i) :: l) = tmpL l := by cases v <;> rfl
theorem mem_tmpL {p : Addr} : ∀ {ts : List Tmp}, p ∈ tmpL ts → ∃ o, (V.ref p, Rs.fr o) ∈ ts
  | [], h => by simp [tmpL] at h
  | (v, r) :: l, h => by
    have go : p ∈ tmpL l → ∃ o, (V.ref p, Rs.fr o) ∈ (v, r) :: l := fun h => by
      obtain ⟨o', h'⟩ := mem_tmpL h
      exact ⟨o', List.mem_cons_of_mem _ h'⟩
    cases r with
    | d x => rw [tmpL_cons_d] at h; exact go h
    | bo i => rw [tmpL_cons_bo] at h; exact go h
    | fr o =>
      cases v with
      | ref a =>
        rw [tmpL_cons_fr] at h
        rcases List.mem_cons.mp h with rfl | h
        · exact ⟨o, List.mem_cons_self ..⟩
        · exact go h
      | _ => exact go h
theorem tmpL_mem {p : Addr} {o : Ob} : ∀ {ts : List Tmp}, (V.ref p, Rs.fr o) ∈ ts → p ∈ tmpL ts
  | (v, r) :: l, h => by
    rcases List.mem_cons.mp h with h | h
    · cases h
      rw [tmpL_cons_fr]
      exact List.mem_cons_self ..
    · have z := tmpL_mem h
      cases r with
      | d x => rw [tmpL_cons_d]; exact z
      | bo i => rw [tmpL_cons_bo]; exact z
      | fr o =>
        cases v with
        | ref a => rw [tmpL_cons_fr]; exact List.mem_cons_of_mem _ z
        | _ => exact z
theorem tmpL_append : ∀ (a b : List Tmp), tmpL (a ++ b) = tmpL a ++ tmpL b
  | [], _ => rfl
  | (v, r) :: l, b => by
    have ih := tmpL_append l b
    cases r with
    | d x => rw [List.cons_append, tmpL_cons_d, tmpL_cons_d, ih]
    | bo x => rw [List.cons_append, tmpL_cons_bo, tmpL_cons_bo, ih]
    | fr o =>
      cases v with
      | ref p => rw [List.cons_append, tmpL_cons_fr, tmpL_cons_fr, ih, List.cons_append]
      | _ => exact ih
theorem tmpL_perm {a b : List Tmp} (h : a.Perm b) : (tmpL a).Perm (tmpL b) := by
  induction h with
  | nil => exact .nil
  | cons x _ ih =>
    have e : ∀ l, tmpL (x :: l) = tmpL [x] ++ tmpL l := fun l => tmpL_append [x] l
    have z := List.Perm.append_left (tmpL [x]) ih
    rw [← e, ← e] at z
    exact z
  | swap x y l =>
    have e : ∀ l, tmpL (y :: x :: l) = tmpL [y] ++ (tmpL [x] ++ tmpL l) := fun l => by rw [← tmpL_append, ← tmpL_append]; rfl
    have e' : ∀ l, tmpL (x :: y :: l) = tmpL [x] ++ (tmpL [y] ++ tmpL l) := fun l => by rw [← tmpL_append, ← tmpL_append]; rfl
    rw [e, e', ← List.append_assoc, ← List.append_assoc]
    exact List.Perm.append_right _ List.perm_append_comm
  | trans _ _ a b => exact a.trans b
section
variable {T : Tb} {n : En} {H0 H : Hp} {σ : L2.St} {ρ : Env} {ts ts' : List Tmp}
theorem ST.perm (S : ST T n H0 H σ ρ ts) (h : ts.Perm ts') : ST T n H0 H σ ρ ts' :=
  { S with
    temp := fun t ht => S.temp t (h.mem_iff.mpr ht)
    dtt := (tmpL_perm h).nodup_iff.mp S.dtt
    dts := fun p hp => S.dts p ((tmpL_perm h).mem_iff.mpr hp) }
theorem ST.drop {t : Tmp} (S : ST T n H0 H σ ρ (t :: ts)) : ST T n H0 H σ ρ ts :=
  { S with
    temp := fun u hu => S.temp u (List.mem_cons_of_mem _ hu)
    dtt := by
      have h := S.dtt
      rw [show t :: ts = [t] ++ ts from rfl, tmpL_append] at h
      exact (List.nodup_append.mp h).2.1
    dts := fun p hp => S.dts p (by rw [show t :: ts = [t] ++ ts from rfl, tmpL_append]; exact List.mem_append_right _ hp) }
theorem ST.dropA {us : List Tmp} (S : ST T n H0 H σ ρ (us ++ ts)) : ST T n H0 H σ ρ ts := by
  induction us with
  | nil => exact S
  | cons t us ih => exact ih S.drop
/-- data that stands still is one more temporary -/
theorem ST.addD {v : V} {x : D} (S : ST T n H0 H σ ρ ts) (r : Rp T H0 v x) : ST T n H0 H σ ρ ((v, .d x) :: ts) :=
  { S with
    temp := fun u hu => by
      rcases List.mem_cons.mp hu with rfl | hu
      · exact r
      · exact S.temp u hu
    dtt := by rw [tmpL_cons_d]; exact S.dtt
    dts := by rw [tmpL_cons_d]; exact S.dts }
theorem ST.addB {v : V} {i : Nat} {s : Sl} (S : ST T n H0 H σ ρ ts) (hv : σ[i]? = some (some v)) (hs : ρ[i]? = some s) (hu : s ≠ .un) : ST T n H0 H σ ρ ((v, .bo i) :: ts) :=
  { S with
    temp := fun u hu' => by
      rcases List.mem_cons.mp hu' with rfl | hu'
      · exact ⟨hv, s, hs, hu⟩
      · exact S.temp u hu'
    dtt := by rw [tmpL_cons_bo]; exact S.dtt
    dts := by rw [tmpL_cons_bo]; exact S.dts }
theorem ST.entry_free (S : ST T n H0 H σ ρ ts) {p : Addr} (h : H p = none) : n.Hs p = none := by
  cases e : n.Hs p with
  | none => rfl
  | some o => obtain ⟨o', z⟩ := S.dom p o e; rw [h] at z; cases z
theorem ST.still_free (S : ST T n H0 H σ ρ ts) {p : Addr} (h : H p = none) : H0 p = none := by
  cases e : H0 p with
  | none => rfl
  | some o => have z := S.sub p o e; rw [h] at z; cases z
/-- an own slot's object stands in H -/
theorem ST.own_there (S : ST T n H0 H σ ρ ts) {i : Nat} {p : Addr} (h : OwnAt σ ρ i p) : ∃ u, H p = some u ∧ H0 p = none := by
  obtain ⟨hv, s, hs, ho⟩ := h
  obtain ⟨x, hx, r⟩ := S.slot i s hs
  rw [hv] at hx
  cases hx
  cases s with
  | un => cases ho
  | sh d => cases ho
  | ow o =>
    obtain ⟨q, e, _, h0, hr⟩ := r
    cases e
    obtain ⟨u, hu⟩ := hr.there
    exact ⟨u, hu, h0⟩
  | pa o =>
    obtain ⟨q, e, _, h0, hr⟩ := r
    cases e
    obtain ⟨u, hu⟩ := hr.there
    exact ⟨u, hu, h0⟩
theorem ST.tmp_there (S : ST T n H0 H σ ρ ts) {p : Addr} (h : p ∈ tmpL ts) : ∃ u, H p = some u ∧ H0 p = none ∧ n.Hs p = none := by
  obtain ⟨o, ho⟩ := mem_tmpL h
  obtain ⟨q, e, hs, h0, hr⟩ := S.temp _ ho
  cases e
  obtain ⟨u, hu⟩ := hr.there
  exact ⟨u, hu, h0, hs⟩
/-- more objects -/
theorem ST.grow {H' : Hp} (S : ST T n H0 H σ ρ ts) (e : Same H H') : ST T n H0 H' σ ρ ts := by
  have mv : ∀ {p o}, ObR T H0 H p o → ObR T H0 H' p o := fun h => by
    obtain ⟨u, hu⟩ := h.there
    exact h.move (Same.refl H0) ((e _ _ hu).trans hu.symm)
  exact {
    sub := fun b o h => e b o (S.sub b o h)
    s0 := S.s0
    len := S.len
    slot := fun i s hs => by
      obtain ⟨x, hx, r⟩ := S.slot i s hs
      refine ⟨x, hx, ?_⟩
      cases s with
      | un => exact r
      | sh d => exact r
      | ow o => obtain ⟨p, a, b, c, d⟩ := r; exact ⟨p, a, b, c, mv d⟩
      | pa o => obtain ⟨p, a, b, c, d⟩ := r; exact ⟨p, a, b, c, mv d⟩
    temp := fun t ht => by
      have r := S.temp t ht
      obtain ⟨v, q⟩ := t
      cases q with
      | d x => exact r
      | fr o => obtain ⟨p, a, b, c, d⟩ := r; exact ⟨p, a, b, c, mv d⟩
      | bo i => exact r
    dist := S.dist
    dtt := S.dtt
    dts := S.dts
    pak := S.pak
    keep := fun b o h k => e b o (S.keep b o h k)
    dom := fun b o h => by obtain ⟨o', z⟩ := S.dom b o h; exact ⟨o', e b o' z⟩
    new := S.new }
/-- a new object -/
theorem ST.alloc {H' : Hp} {p : Addr} {o : Ob} (S : ST T n H0 H σ ρ ts) (e : Same H H') (hp : H p = none) (r : ObR T H0 H' p o) : ST T n H0 H' σ ρ ((.ref p, .fr o) :: ts) :=
  { S.grow e with
    temp := fun t ht => by
      rcases List.mem_cons.mp ht with rfl | ht
      · exact ⟨p, rfl, S.entry_free hp, S.still_free hp, r⟩
      · exact (S.grow e).temp t ht
    dtt := by
      rw [tmpL_cons_fr]
      refine List.nodup_cons.mpr ⟨fun h => ?_, S.dtt⟩
      obtain ⟨u, hu, _⟩ := S.tmp_there h
      rw [hp] at hu
      cases hu
    dts := fun q hq i ho => by
      rw [tmpL_cons_fr] at hq
      rcases List.mem_cons.mp hq with rfl | hq
      · obtain ⟨u, hu, _⟩ := S.own_there ho
        rw [hp] at hu
        cases hu
      · exact S.dts q hq i ho }
theorem Same.new {H : Hp} {p : Addr} {o : HO} (h : H p = none) : Same H (upd H p o) := fun b u e => by
  rw [upd_ne (ne_of_none e h)]
  exact e
/-- an object at p stands still from now on -/
theorem ST.still {p : Addr} {u : HO} (S : ST T n H0 H σ ρ ts) (hu : H p = some u) (h0 : H0 p = none) (hs : n.Hs p = none) (ho : ∀ i, ¬ OwnAt σ ρ i p) (ht : p ∉ tmpL ts) : ST T n (upd H0 p u) H σ ρ ts := by
  have e : Same H0 (upd H0 p u) := Same.new h0
  exact {
    sub := fun b o h => by
      by_cases z : b = p
      · subst z; rw [upd_same] at h; cases h; exact hu
      · rw [upd_ne z] at h; exact S.sub b o h
    s0 := Same.trans S.s0 e
    len := S.len
    slot := fun i s hs' => by
      obtain ⟨x, hx, r⟩ := S.slot i s hs'
      refine ⟨x, hx, ?_⟩
      cases s with
      | un => exact r
      | sh d => obtain ⟨v, a, b⟩ := r; exact ⟨v, a, b.mono e⟩
      | ow o =>
        obtain ⟨q, a, b, c, d⟩ := r
        subst a
        have ne : q ≠ p := fun z => ho i ⟨z ▸ hx, _, hs', rfl⟩
        exact ⟨q, rfl, b, by rw [upd_ne ne]; exact c, d.move e rfl⟩
      | pa o =>
        obtain ⟨q, a, b, c, d⟩ := r
        subst a
        have ne : q ≠ p := fun z => ho i ⟨z ▸ hx, _, hs', rfl⟩
        exact ⟨q, rfl, b, by rw [upd_ne ne]; exact c, d.move e rfl⟩
    temp := fun t ht' => by
      have r := S.temp t ht'
      obtain ⟨v, q⟩ := t
      cases q with
      | d x => exact Rp.mono e r
      | fr o =>
        obtain ⟨q, a, b, c, d⟩ := r
        have ne : q ≠ p := fun z => by
          have a' : v = .ref q := a
          subst a'
          subst z
          exact ht (tmpL_mem ht')
        exact ⟨q, a, b, by rw [upd_ne ne]; exact c, d.move e rfl⟩
      | bo i => exact r
    dist := S.dist
    dtt := S.dtt
    dts := S.dts
    pak := S.pak
    keep := S.keep
    dom := S.dom
    new := fun b o h => by
      by_cases z : b = p
      · subst z; exact .inr hs
      · rw [upd_ne z] at h; exact S.new b o h }
/-- a new object stands still from now on -/
theorem ST.hold {v : V} {o : Ob} (S : ST T n H0 H σ ρ ((v, .fr o) :: ts)) : ∃ H0', ST T n H0' H σ ρ ((v, .d o.d) :: ts) := by
  obtain ⟨p, e, hs, h0, r⟩ := S.temp _ (List.mem_cons_self ..)
  have e : v = .ref p := e
  subst e
  obtain ⟨u, hu⟩ := ObR.there r
  have nd := S.dtt
  rw [tmpL_cons_fr] at nd
  have S1 := S.drop.still hu h0 hs (S.dts p (by rw [tmpL_cons_fr]; exact List.mem_cons_self ..)) (List.nodup_cons.mp nd).1
  refine ⟨upd H0 p u, S1.addD ?_⟩
  have r1 : ObR T H0 (upd H0 p u) p o := ObR.move r (Same.refl H0) (upd_same.trans hu.symm)
  exact r1.rp (Same.new h0)
theorem get_set_same {α : Type} {l : List α} {i : Nat} {x : α} (h : i < l.length) : (l.set i x)[i]? = some x := by simp [h]
theorem get_set_ne {α : Type} {l : List α} {i j : Nat} {x : α} (h : i ≠ j) : (l.set i x)[j]? = l[j]? := by simp [h]
theorem lt_of_get {α : Type} {l : List α} {i : Nat} {x : α} (h : l[i]? = some x) : i < l.length := (List.getElem?_eq_some_iff.mp h).1
/-- slot i's object, one's own, stands still from now on -/
theorem ST.holdSlot {i : Nat} {o : Ob} (S : ST T n H0 H σ ρ ts) (hi : ρ[i]? = some (.ow o)) : ∃ H0' v, σ[i]? = some (some v) ∧ Rp T H0' v o.d ∧ ST T n H0' H σ (ρ.set i (.sh o.d)) ts := by
  have hl := lt_of_get hi
  obtain ⟨x, hx, p, e, hs, h0, r⟩ := S.slot i _ hi
  subst e
  obtain ⟨u, hu⟩ := ObR.there r
  have own : OwnAt σ ρ i p := ⟨hx, _, hi, rfl⟩
  have e : Same H0 (upd H0 p u) := Same.new h0
  have rr : Rp T (upd H0 p u) (.ref p) o.d := (ObR.move r (Same.refl H0) (upd_same.trans hu.symm) : ObR T H0 (upd H0 p u) p o).rp e
  have back : ∀ {j q}, OwnAt σ (ρ.set i (.sh o.d)) j q → OwnAt σ ρ j q ∧ j ≠ i := fun {j q} ⟨a, s, b, c⟩ => by
    by_cases z : i = j
    · subst z
      rw [get_set_same hl] at b
      cases b
      cases c
    · rw [get_set_ne z] at b
      exact ⟨⟨a, s, b, c⟩, fun y => z y.symm⟩
  refine ⟨upd H0 p u, .ref p, hx, rr, ?_⟩
  exact {
    sub := fun b o h => by
      by_cases z : b = p
      · subst z; rw [upd_same] at h; cases h; exact hu
      · rw [upd_ne z] at h; exact S.sub b o h
    s0 := Same.trans S.s0 e
    len := by rw [List.length_set]; exact S.len
    slot := fun j s hs' => by
      by_cases z : i = j
      · subst z
        rw [get_set_same hl] at hs'
        cases hs'
        exact ⟨_, hx, _, rfl, rr⟩
      · rw [get_set_ne z] at hs'
        obtain ⟨y, hy, q⟩ := S.slot j s hs'
        refine ⟨y, hy, ?_⟩
        cases s with
        | un => exact q
        | sh d => obtain ⟨v, a, b⟩ := q; exact ⟨v, a, b.mono e⟩
        | ow o' =>
          obtain ⟨q, a, b, c, d⟩ := q
          subst a
          have ne : q ≠ p := fun w => z (S.dist i j p own ⟨w ▸ hy, _, hs', rfl⟩)
          exact ⟨q, rfl, b, by rw [upd_ne ne]; exact c, d.move e rfl⟩
        | pa o' =>
          obtain ⟨q, a, b, c, d⟩ := q
          subst a
          have ne : q ≠ p := fun w => z (S.dist i j p own ⟨w ▸ hy, _, hs', rfl⟩)
          exact ⟨q, rfl, b, by rw [upd_ne ne]; exact c, d.move e rfl⟩
    temp := fun t ht' => by
      have r := S.temp t ht'
      obtain ⟨v, q⟩ := t
      cases q with
      | d x => exact Rp.mono e r
      | fr o' =>
        obtain ⟨q, a, b, c, d⟩ := r
        have ne : q ≠ p := fun z => by
          have a' : v = .ref q := a
          subst a'
          subst z
          exact S.dts q (tmpL_mem ht') i own
        exact ⟨q, a, b, by rw [upd_ne ne]; exact c, d.move e rfl⟩
      | bo j =>
        obtain ⟨a, s, b, c⟩ := r
        by_cases z : i = j
        · subst z
          exact ⟨a, _, get_set_same hl, fun w => nomatch w⟩
        · exact ⟨a, s, by rw [get_set_ne z]; exact b, c⟩
    dist := fun a b q h1 h2 => S.dist a b q (back h1).1 (back h2).1
    dtt := S.dtt
    dts := fun q hq j h => S.dts q hq j (back h).1
    pak := fun q hq => by
      obtain ⟨a, o', b⟩ := S.pak q hq
      refine ⟨a, o', ?_⟩
      have z : i ≠ q.1 := fun z => by rw [← z, hi] at b; cases b
      rw [get_set_ne z]
      exact b
    keep := S.keep
    dom := S.dom
    new := fun b o h => by
      by_cases z : b = p
      · subst z; exact .inr hs
      · rw [upd_ne z] at h; exact S.new b o h }
/-- slot i's object is written -/
theorem ST.write {i : Nat} {s s' : Sl} {o o' : Ob} {p : Addr} {u : HO} (S : ST T n H0 H σ ρ ts) (hi : ρ[i]? = some s) (ho : (s = .ow o ∧ s' = .ow o') ∨ (s = .pa o ∧ s' = .pa o'))
    (hp : σ[i]? = some (some (.ref p))) (r : ObR T H0 (upd H p u) p o') : ST T n H0 (upd H p u) σ (ρ.set i s') ts := by
  have hl := lt_of_get hi
  have is : isOwn s = true := by rcases ho with ⟨rfl, _⟩ | ⟨rfl, _⟩ <;> rfl
  have is' : isOwn s' = true := by rcases ho with ⟨_, rfl⟩ | ⟨_, rfl⟩ <;> rfl
  have own : OwnAt σ ρ i p := ⟨hp, s, hi, is⟩
  obtain ⟨w, hw, h0⟩ := S.own_there own
  have back : ∀ {j q}, OwnAt σ (ρ.set i s') j q → OwnAt σ ρ j q := fun {j q} ⟨a, t, b, c⟩ => by
    by_cases z : i = j
    · subst z
      exact ⟨a, s, hi, is⟩
    · rw [get_set_ne z] at b
      exact ⟨a, t, b, c⟩
  have mv : ∀ {q o2}, q ≠ p → ObR T H0 H q o2 → ObR T H0 (upd H p u) q o2 := fun ne h => h.move (Same.refl H0) (upd_ne ne)
  exact {
    sub := fun b o h => by
      have ne : b ≠ p := fun z => by subst z; rw [h0] at h; cases h
      rw [upd_ne ne]
      exact S.sub b o h
    s0 := S.s0
    len := by rw [List.length_set]; exact S.len
    slot := fun j t ht => by
      by_cases z : i = j
      · subst z
        rw [get_set_same hl] at ht
        cases ht
        refine ⟨_, hp, ?_⟩
        obtain ⟨x, hx, q⟩ := S.slot i s hi
        rw [hp] at hx
        cases hx
        rcases ho with ⟨rfl, rfl⟩ | ⟨rfl, rfl⟩
        · obtain ⟨q, a, b, c, d⟩ := q
          cases a
          exact ⟨_, rfl, b, c, r⟩
        · obtain ⟨q, a, b, c, d⟩ := q
          cases a
          exact ⟨_, rfl, b, c, r⟩
      · rw [get_set_ne z] at ht
        obtain ⟨y, hy, q⟩ := S.slot j t ht
        refine ⟨y, hy, ?_⟩
        cases t with
        | un => exact q
        | sh d => exact q
        | ow o2 =>
          obtain ⟨q, a, b, c, d⟩ := q
          subst a
          exact ⟨q, rfl, b, c, mv (fun w => z (S.dist i j p own ⟨w ▸ hy, _, ht, rfl⟩)) d⟩
        | pa o2 =>
          obtain ⟨q, a, b, c, d⟩ := q
          subst a
          exact ⟨q, rfl, b, c, mv (fun w => z (S.dist i j p own ⟨w ▸ hy, _, ht, rfl⟩)) d⟩
    temp := fun t ht' => by
      have r := S.temp t ht'
      obtain ⟨v, q⟩ := t
      cases q with
      | d x => exact r
      | fr o2 =>
        obtain ⟨q, a, b, c, d⟩ := r
        refine ⟨q, a, b, c, mv (fun z => ?_) d⟩
        have a' : v = .ref q := a
        subst a'
        subst z
        exact S.dts q (tmpL_mem ht') i own
      | bo j =>
        obtain ⟨a, t, b, c⟩ := r
        by_cases z : i = j
        · subst z
          refine ⟨a, _, get_set_same hl, fun w => ?_⟩
          rw [w] at is'
          cases is'
        · exact ⟨a, t, by rw [get_set_ne z]; exact b, c⟩
    dist := fun a b q h1 h2 => S.dist a b q (back h1) (back h2)
    dtt := S.dtt
    dts := fun q hq j h => S.dts q hq j (back h)
    pak := fun q hq => by
      obtain ⟨a, o2, b⟩ := S.pak q hq
      by_cases z : i = q.1
      · refine ⟨a, ?_⟩
        rw [← z] at b ⊢
        rw [hi] at b
        cases b
        rcases ho with ⟨e, _⟩ | ⟨e, rfl⟩
        · cases e
        · exact ⟨_, get_set_same hl⟩
      · exact ⟨a, o2, by rw [get_set_ne z]; exact b⟩
    keep := fun b o h k => by
      have ne : b ≠ p := fun z => by
        subst z
        obtain ⟨x, hx, q⟩ := S.slot i s hi
        rw [hp] at hx
        cases hx
        rcases ho with ⟨rfl, rfl⟩ | ⟨rfl, rfl⟩
        · obtain ⟨q, a, b, c, d⟩ := q
          cases a
          rw [b] at h
          cases h
        · obtain ⟨q, a, b, c, d⟩ := q
          cases a
          exact k (List.mem_map.mpr ⟨_, b, rfl⟩)
      rw [upd_ne ne]
      exact S.keep b o h k
    dom := fun b o h => by
      obtain ⟨o2, z⟩ := S.dom b o h
      by_cases y : b = p
      · subst y; exact ⟨_, upd_same⟩
      · exact ⟨o2, by rw [upd_ne y]; exact z⟩
    new := S.new }
/-- a name is stored -/
theorem ST.store {i : Nat} {v : V} {r : Rs} {s : Sl} (S : ST T n H0 H σ ρ ((v, r) :: ts)) (hm : mayPut ρ i = true) (hr : (∃ x, r = .d x ∧ s = .sh x) ∨ (∃ o, r = .fr o ∧ s = .ow o)) (nb : ∀ t ∈ ts, t.2 ≠ .bo i) :
    ST T n H0 H (σ.set i (some v)) (ρ.set i s) ts := by
  obtain ⟨s0, hi, hpa⟩ : ∃ s0, ρ[i]? = some s0 ∧ ∀ o, s0 ≠ .pa o := by
    unfold mayPut at hm
    split at hm
    · cases hm
    · rename_i a b; exact ⟨_, b, fun o z => a o z⟩
    · cases hm
  have hl := lt_of_get hi
  have hls : i < σ.length := by rw [S.len]; exact hl
  have S' := S.drop
  have q := S.temp _ (List.mem_cons_self ..)
  have own : ∀ {j p}, OwnAt (σ.set i (some v)) (ρ.set i s) j p → (j = i ∧ p ∈ tmpL [(v, r)]) ∨ (j ≠ i ∧ OwnAt σ ρ j p) := fun {j p} ⟨a, t, b, c⟩ => by
    by_cases z : i = j
    · subst z
      rw [get_set_same hl] at b
      rw [get_set_same hls] at a
      cases a
      cases b
      rcases hr with ⟨x, rfl, rfl⟩ | ⟨o, rfl, rfl⟩
      · cases c
      · exact .inl ⟨rfl, List.mem_cons_self ..⟩
    · rw [get_set_ne z] at a b
      exact .inr ⟨fun y => z y.symm, a, t, b, c⟩
  have nd := S.dtt
  rw [show (v, r) :: ts = [(v, r)] ++ ts from rfl, tmpL_append] at nd
  have sd : ∀ p, p ∈ tmpL [(v, r)] → p ∈ tmpL ((v, r) :: ts) := fun p h => by
    rw [show (v, r) :: ts = [(v, r)] ++ ts from rfl, tmpL_append]
    exact List.mem_append_left _ h
  exact {
    sub := S.sub
    s0 := S.s0
    len := by rw [List.length_set, List.length_set]; exact S.len
    slot := fun j t ht => by
      by_cases z : i = j
      · subst z
        rw [get_set_same hl] at ht
        cases ht
        refine ⟨_, get_set_same hls, ?_⟩
        rcases hr with ⟨x, rfl, rfl⟩ | ⟨o, rfl, rfl⟩
        · exact ⟨v, rfl, q⟩
        · obtain ⟨p, a, b, c, d⟩ := q
          exact ⟨p, by rw [show v = V.ref p from a], b, c, d⟩
      · rw [get_set_ne z] at ht ⊢
        exact S.slot j t ht
    temp := fun t ht => by
      have w := S'.temp t ht
      have k := nb t ht
      obtain ⟨u, q⟩ := t
      cases q with
      | d x => exact w
      | fr o => exact w
      | bo j =>
        have z : i ≠ j := fun z => k (by rw [z])
        obtain ⟨a, t, b, c⟩ := w
        exact ⟨by rw [get_set_ne z]; exact a, t, by rw [get_set_ne z]; exact b, c⟩
    dist := fun a b p h1 h2 => by
      rcases own h1 with ⟨rfl, m1⟩ | ⟨n1, o1⟩
      · rcases own h2 with ⟨rfl, m2⟩ | ⟨n2, o2⟩
        · rfl
        · exact absurd o2 (S.dts p (sd p m1) b)
      · rcases own h2 with ⟨rfl, m2⟩ | ⟨n2, o2⟩
        · exact absurd o1 (S.dts p (sd p m2) a)
        · exact S.dist a b p o1 o2
    dtt := S'.dtt
    dts := fun p hp j h => by
      rcases own h with ⟨rfl, m1⟩ | ⟨n1, o1⟩
      · exact (List.nodup_append.mp nd).2.2 p m1 p hp rfl
      · exact S'.dts p hp j o1
    pak := fun w hw => by
      obtain ⟨a, o, b⟩ := S.pak w hw
      have z : i ≠ w.1 := fun z => by
        rw [← z, hi] at b
        cases b
        exact hpa o rfl
      exact ⟨by rw [get_set_ne z]; exact a, o, by rw [get_set_ne z]; exact b⟩
    keep := S.keep
    dom := S.dom
    new := S.new }
end
end Mi
end
section
set_option maxHeartbeats 4000000
namespace Mi
open PySem PySem.Spec PyProof.Rows L2
/-- a raised thing's own dict -/
def XR (T : Tb) (H0 H : Hp) (x : Xc) (dd : Option Addr) : Prop :=
  (x.fs = [] ∧ dd = none) ∨ ∃ d vs, dd = some d ∧ H d = some (.xd vs) ∧ RpF T H0 vs x.fs
section
variable (T : Tb) (W : WX)
/-- what is wanted behind an answer -/
def Post {α : Type} (n : En) (σ : L2.St) (ts : List Tmp) (o : Out α) (Q : α → Env → Hp → Hp → Prop) : Prop :=
  match o with
  | .ok a ρ' => ∀ H0' H', Q a ρ' H0' H'
  | .ex x ρ' => ∀ dd H0' H', ST T n H0' H' σ ρ' ts → XR T H0' H' x dd → W (.ref (T.cA x.cls)) dd σ H'
  | .no => False
/-- an expression's reading -/
def rd (d : Env → Out Rs) : TE := fun σ H Q => ∃ n H0 ρ ts, ST T n H0 H σ ρ ts ∧ Post T W n σ ts (d ρ) fun r ρ' H0' H' => ∀ v, ST T n H0' H' σ ρ' ((v, r) :: ts) → Q v H'
def rdT (d : Env → Out Bool) : TT := fun σ H Q => ∃ n H0 ρ ts, ST T n H0 H σ ρ ts ∧ Post T W n σ ts (d ρ) fun b ρ' H0' H' => ST T n H0' H' σ ρ' ts → Q b H'
def rdA (d : Env → Out (List Rs)) : TA := fun σ H Q => ∃ n H0 ρ ts, ST T n H0 H σ ρ ts ∧ Post T W n σ ts (d ρ) fun rs ρ' H0' H' => ∀ vs, vs.length = rs.length → ST T n H0' H' σ ρ' (vs.zip rs ++ ts) → Q vs H'
def rdO (d : Env → Out (Option Int)) : TO := fun σ H Q => ∃ n H0 ρ ts, ST T n H0 H σ ρ ts ∧ Post T W n σ ts (d ρ) fun o ρ' H0' H' => ST T n H0' H' σ ρ' ts → Q o H'
end
theorem pe_imp {X : Cx} {e : Expr} {t t' : TE} (h : PE X e t) (k : ∀ σ H Q, t' σ H Q → t σ H Q) : PE X e t' := ⟨fun pins s σ H Q I q => h.run pins s σ H Q I (k σ H Q q)⟩
theorem pt_imp {X : Cx} {e : Expr} {t t' : TT} (h : PT X e t) (k : ∀ σ H Q, t' σ H Q → t σ H Q) : PT X e t' := ⟨fun pins s σ H Q I q => h.run pins s σ H Q I (k σ H Q q)⟩
theorem pw_imp {X : Cx} {e : Expr} {t t' : TT} (h : PW X e t) (k : ∀ σ H Q, t' σ H Q → t σ H Q) : PW X e t' := ⟨fun w pins s σ H Q I q => h.run w pins s σ H Q I (k σ H Q q)⟩
theorem pa_imp {X : Cx} {e : List Expr} {t t' : TA} (h : PA X e t) (k : ∀ σ H Q, t' σ H Q → t σ H Q) : PA X e t' := ⟨fun p pins s σ H Q I q => h.run p pins s σ H Q I (k σ H Q q)⟩
theorem po_imp {X : Cx} {e : Option Expr} {t t' : TO} (h : PO X e t) (k : ∀ σ H Q, t' σ H Q → t σ H Q) : PO X e t' := ⟨fun pins s σ H Q I q => h.run pins s σ H Q I (k σ H Q q)⟩
section
variable {T : Tb} {W : WX} {σ : L2.St} {H : Hp} {Q : VK}
/-- two expressions, then f -/
theorem rd_two {α : Type} {n : En} {H0 : Hp} {ρ : Env} {ts : List Tmp} {da db : Env → Out Rs} {f : Rs → Rs → Env → Out α} {P : α → Env → Hp → Hp → Prop} (S : ST T n H0 H σ ρ ts)
    (h : Post T W n σ ts ((da ρ).bind fun ra e1 => (db e1).bind fun rb e2 => f ra rb e2) P) :
    rd T W da σ H fun x H1 => rd T W db σ H1 fun y H2 => ∃ H0' ρ' ra rb, ST T n H0' H2 σ ρ' ((y, rb) :: (x, ra) :: ts) ∧ Post T W n σ ts (f ra rb ρ') P := by
  refine ⟨n, H0, ρ, ts, S, ?_⟩
  cases ea : da ρ with
  | no => rw [ea] at h; exact h.elim
  | ex x e => rw [ea] at h; exact h
  | ok ra e1 =>
    rw [ea] at h
    intro H0' H1 v S1
    refine ⟨n, H0', e1, (v, ra) :: ts, S1, ?_⟩
    have h : Post T W n σ ts ((db e1).bind fun rb e2 => f ra rb e2) P := h
    cases eb : db e1 with
    | no => rw [eb] at h; exact h.elim
    | ex x e => rw [eb] at h; exact fun dd h0 h1 s => h dd h0 h1 s.drop
    | ok rb e2 =>
      rw [eb] at h
      exact fun H0'' H2 w S2 => ⟨H0'', e2, ra, rb, S2, h⟩
theorem rd_one {α : Type} {n : En} {H0 : Hp} {ρ : Env} {ts : List Tmp} {da : Env → Out Rs} {f : Rs → Env → Out α} {P : α → Env → Hp → Hp → Prop} (S : ST T n H0 H σ ρ ts)
    (h : Post T W n σ ts ((da ρ).bind fun ra e1 => f ra e1) P) :
    rd T W da σ H fun x H1 => ∃ H0' ρ' ra, ST T n H0' H1 σ ρ' ((x, ra) :: ts) ∧ Post T W n σ ts (f ra ρ') P := by
  refine ⟨n, H0, ρ, ts, S, ?_⟩
  cases ea : da ρ with
  | no => rw [ea] at h; exact h.elim
  | ex x e => rw [ea] at h; exact h
  | ok ra e1 => rw [ea] at h; exact fun H0' H1 v S1 => ⟨H0', e1, ra, S1, h⟩
theorem rd_args {α : Type} {n : En} {H0 : Hp} {ρ : Env} {ts : List Tmp} {da : Env → Out (List Rs)} {f : List Rs → Env → Out α} {P : α → Env → Hp → Hp → Prop} (S : ST T n H0 H σ ρ ts)
    (h : Post T W n σ ts ((da ρ).bind fun ra e1 => f ra e1) P) :
    rdA T W da σ H fun vs H1 => ∃ H0' ρ' rs, vs.length = rs.length ∧ ST T n H0' H1 σ ρ' (vs.zip rs ++ ts) ∧ Post T W n σ ts (f rs ρ') P := by
  refine ⟨n, H0, ρ, ts, S, ?_⟩
  cases ea : da ρ with
  | no => rw [ea] at h; exact h.elim
  | ex x e => rw [ea] at h; exact h
  | ok ra e1 => rw [ea] at h; exact fun H0' H1 vs hl S1 => ⟨H0', e1, ra, hl, S1, h⟩
theorem rd_mono {d : Env → Out Rs} {Q Q' : VK} (h : rd T W d σ H Q) (k : ∀ v H', Q v H' → Q' v H') : rd T W d σ H Q' := by
  obtain ⟨n, H0, ρ, ts, S, p⟩ := h
  refine ⟨n, H0, ρ, ts, S, ?_⟩
  cases e : d ρ with
  | no => rw [e] at p; exact p.elim
  | ex x ρ' => rw [e] at p; exact p
  | ok r ρ' => rw [e] at p; exact fun H0' H' v s => k _ _ (p H0' H' v s)
/-! ### what a result shows -/
/-- a value and its data: the top in H, what is in it in H0 -/
inductive Rv (T : Tb) (H0 H : Hp) : V → D → Prop where
  | of {v : V} {x : D} : Rp T H0 v x → Rv T H0 H v x
  | ob {p : Addr} {o : Ob} : ObR T H0 H p o → Rv T H0 H (.ref p) o.d
theorem Rv.rp {H0 : Hp} {v : V} {x : D} (h : Rv T H0 H v x) (e : Same H0 H) : Rp T H v x := by
  cases h with
  | of r => exact r.mono e
  | ob r => exact r.rp e
section
variable {H0 : Hp} {v : V}
theorem Rv.non (h : Rv T H0 H v .non) : v = .non := by
  generalize e : D.non = y at h
  cases h with
  | of r => subst e; cases r; rfl
  | ob r => rename_i o; cases o <;> cases e
theorem Rv.bl {b : Bool} (h : Rv T H0 H v (.bl b)) : v = .bl b := by
  generalize e : D.bl b = y at h
  cases h with
  | of r => subst e; cases r; rfl
  | ob r => rename_i o; cases o <;> cases e
theorem Rv.int {i : Int} (h : Rv T H0 H v (.int i)) : v = .int i := by
  generalize e : D.int i = y at h
  cases h with
  | of r => subst e; cases r; rfl
  | ob r => rename_i o; cases o <;> cases e
theorem Rv.str {s : Tx} (h : Rv T H0 H v (.str s)) : v = .str ⟨s.toArray⟩ := by
  generalize e : D.str s = y at h
  cases h with
  | of r => subst e; cases r; rfl
  | ob r => rename_i o; cases o <;> cases e
theorem Rv.tup {xs : List D} (h : Rv T H0 H v (.tup xs)) : ∃ p vs, v = .ref p ∧ SqT T.K H0 p vs ∧ Rps T H0 vs xs := by
  generalize e : D.tup xs = y at h
  cases h with
  | of r => subst e; cases r with | tup a b => exact ⟨_, _, rfl, a, b⟩
  | ob r => rename_i o; cases o <;> cases e
theorem Rv.lst {xs : List D} (h : Rv T H0 H v (.lst xs)) (s : Same H0 H) : ∃ p vs, v = .ref p ∧ H p = some (.lst vs) ∧ Rps T H0 vs xs := by
  generalize e : D.lst xs = y at h
  cases h with
  | of r => subst e; cases r with | lst a b => exact ⟨_, _, rfl, s _ _ a, b⟩
  | ob r =>
    rename_i o
    cases o with
    | lst ys => cases e; obtain ⟨vs, a, b⟩ := r; exact ⟨_, vs, rfl, a, b⟩
    | dic ys => cases e
    | ins c ys => cases e
theorem Rv.dic {xs : List (D × D)} (h : Rv T H0 H v (.dic xs)) (s : Same H0 H) : ∃ p vs, v = .ref p ∧ H p = some (.dK vs) ∧ RpK T H0 vs xs := by
  generalize e : D.dic xs = y at h
  cases h with
  | of r => subst e; cases r with | dic a b => exact ⟨_, _, rfl, s _ _ a, b⟩
  | ob r =>
    rename_i o
    cases o with
    | dic ys => cases e; obtain ⟨vs, a, b⟩ := r; exact ⟨_, vs, rfl, a, b⟩
    | lst ys => cases e
    | ins c ys => cases e
theorem Rv.ins {c : Nat} {fs : List (Nat × D)} (h : Rv T H0 H v (.ins c fs)) (s : Same H0 H) : ∃ p dx vs, v = .ref p ∧ H p = some (.ins (T.cA c) dx vs) ∧ RpF T H0 vs fs := by
  generalize e : D.ins c fs = y at h
  cases h with
  | of r => subst e; cases r with | ins a b => exact ⟨_, _, _, rfl, s _ _ a, b⟩
  | ob r =>
    rename_i o
    cases o with
    | ins c' ys => cases e; obtain ⟨dx, vs, a, b⟩ := r; exact ⟨_, dx, vs, rfl, a, b⟩
    | lst ys => cases e
    | dic ys => cases e
theorem Rv.scr {ns : List Int} (h : Rv T H0 H v (.scr ns)) : ∃ p, v = .ref p ∧ SqL T.K H0 p (ns.map V.int) := by
  generalize e : D.scr ns = y at h
  cases h with
  | of r => subst e; cases r with | scr a => exact ⟨_, rfl, a⟩
  | ob r => rename_i o; cases o <;> cases e
end
section
variable {n : En} {H0 : Hp} {ρ : Env} {ts : List Tmp} {v : V} {r : Rs}
theorem ST.seeOf (S : ST T n H0 H σ ρ ts) (m : (v, r) ∈ ts) {x : D} (h : r.see ρ = some x) : Rv T H0 H v x := by
  have q := S.temp _ m
  cases r with
  | d y => cases h; exact .of q
  | fr o =>
    cases h
    obtain ⟨p, a, _, _, d⟩ := q
    have a : v = .ref p := a
    subst a
    exact .ob d
  | bo i =>
    obtain ⟨a, s, b, _⟩ := q
    obtain ⟨y, hy, w⟩ := S.slot i s b
    have a : σ[i]? = some (some v) := a
    rw [a] at hy
    cases hy
    have h : (match ρ[i]? with
      | some (.sh x) => some x
      | some (.ow o) => some o.d
      | some (.pa o) => some o.d
      | _ => none) = some x := h
    rw [b] at h
    cases s with
    | un => cases h
    | sh d => cases h; obtain ⟨u, e, z⟩ := w; cases e; exact .of z
    | ow o => cases h; obtain ⟨p, e, _, _, z⟩ := w; cases e; exact .ob z
    | pa o => cases h; obtain ⟨p, e, _, _, z⟩ := w; cases e; exact .ob z
theorem ST.see (S : ST T n H0 H σ ρ ((v, r) :: ts)) {x : D} (h : r.see ρ = some x) : Rv T H0 H v x := S.seeOf (List.mem_cons_self ..) h
/-- a result is held: data that stands still -/
theorem ST.holdR (S : ST T n H0 H σ ρ ((v, r) :: ts)) {x : D} {ρ' : Env} (h : r.hold ρ = some (x, ρ')) : ∃ H0', ST T n H0' H σ ρ' ((v, .d x) :: ts) := by
  cases r with
  | d y => cases h; exact ⟨H0, S⟩
  | fr o => cases h; exact S.hold
  | bo i =>
    have h : (match ρ[i]? with
      | some (.sh x) => some (x, ρ)
      | some (.ow o) => some (o.d, ρ.set i (.sh o.d))
      | _ => none) = some (x, ρ') := h
    obtain ⟨a, s, b, _⟩ := S.temp _ (List.mem_cons_self ..)
    have a : σ[i]? = some (some v) := a
    rw [b] at h
    cases s with
    | un => cases h
    | sh d =>
      cases h
      obtain ⟨y, hy, u, e, z⟩ := S.slot i _ b
      rw [a] at hy
      cases hy
      cases e
      exact ⟨H0, S.drop.addD z⟩
    | ow o =>
      cases h
      obtain ⟨H0', u, c, z, S'⟩ := S.drop.holdSlot b
      rw [a] at c
      cases c
      exact ⟨H0', S'.addD z⟩
    | pa o => cases h
theorem ST.swap {a b : Tmp} (S : ST T n H0 H σ ρ (a :: b :: ts)) : ST T n H0 H σ ρ (b :: a :: ts) := S.perm (List.Perm.swap ..)
/-- results are held, one behind another -/
theorem ST.holdsR : ∀ {rs : List Rs} {vs : List V} {n : En} {H0 : Hp} {ρ ρ' : Env} {ts : List Tmp} {xs : List D}, vs.length = rs.length → ST T n H0 H σ ρ (vs.zip rs ++ ts) → holds rs ρ = some (xs, ρ') →
    ∃ H0', ST T n H0' H σ ρ' ts ∧ Rps T H0' vs xs
  | [], [], _, H0, _, _, _, _, _, S, h => by cases h; exact ⟨H0, S, .nil⟩
  | [], _ :: _, _, _, _, _, _, _, e, _, _ => by cases e
  | _ :: _, [], _, _, _, _, _, _, e, _, _ => by cases e
  | r :: rs, v :: vs, n, H0, ρ, ρ', ts, xs, e, S, h => by
    unfold holds at h
    cases e1 : r.hold ρ with
    | none => rw [e1] at h; cases h
    | some q =>
      obtain ⟨x, ρ1⟩ := q
      rw [e1] at h
      have h : (match holds rs ρ1 with
        | some (xs, e2) => some (x :: xs, e2)
        | none => none) = some (xs, ρ') := h
      cases e2 : holds rs ρ1 with
      | none => rw [e2] at h; cases h
      | some q =>
        obtain ⟨ys, ρ2⟩ := q
        rw [e2] at h
        cases h
        obtain ⟨H1, S1⟩ := ST.holdR (ts := vs.zip rs ++ ts) S e1
        have S2 : ST T n H1 H σ ρ1 (vs.zip rs ++ ((v, .d x) :: ts)) := S1.perm List.perm_middle.symm
        obtain ⟨H2, S3, r3⟩ := ST.holdsR (by simpa using e) S2 e2
        exact ⟨H2, S3.drop, .cons (S3.temp _ (List.mem_cons_self ..)) r3⟩
/-- results are seen -/
theorem ST.seesR : ∀ {rs : List Rs} {vs : List V} {ts : List Tmp} {xs : List D}, vs.length = rs.length → ST T n H0 H σ ρ (vs.zip rs ++ ts) → sees ρ rs = some xs → xs.length = vs.length ∧ ∀ (i : Nat) (x : D) (v : V), xs[i]? = some x → vs[i]? = some v → Rv T H0 H v x
  | [], [], _, _, _, _, h => by cases h; exact ⟨rfl, fun i x v h => by simp at h⟩
  | [], _ :: _, _, _, e, _, _ => by cases e
  | _ :: _, [], _, _, e, _, _ => by cases e
  | r :: rs, v :: vs, ts, xs, e, S, h => by
    unfold sees at h
    cases e1 : r.see ρ with
    | none => rw [e1] at h; cases h
    | some x =>
      rw [e1] at h
      have h : (match sees ρ rs with
        | some xs => some (x :: xs)
        | none => none) = some xs := h
      cases e2 : sees ρ rs with
      | none => rw [e2] at h; cases h
      | some ys =>
        rw [e2] at h
        cases h
        have S' : ST T n H0 H σ ρ ((v, r) :: (vs.zip rs ++ ts)) := S
        obtain ⟨l, k⟩ := ST.seesR (by simpa using e) S'.drop e2
        refine ⟨by simp [l], fun i y u hy hu => ?_⟩
        cases i with
        | zero => cases hy; cases hu; exact S'.see e1
        | succ i => exact k i y u (by simpa using hy) (by simpa using hu)
end
end
end Mi
end
section
set_option maxHeartbeats 4000000
namespace Mi
open PySem PySem.Spec PyProof.Rows L2
/-- what is asked of a body's context -/
structure Cok (T : Tb) (X : Cx) : Prop where
  hK : X.K = T.K
  calm : X.calm = true
  nd : X.N.Nodup
  un : X.A.units + 64 < cLine
  gd : X.A.guards = some []
section
variable (T : Tb) (W : WX)
abbrev Wants (n : En) (σ : L2.St) (ts : List Tmp) (Q : VK) : Rs → Env → Hp → Hp → Prop := fun r ρ' H0' H' => ∀ v, ST T n H0' H' σ ρ' ((v, r) :: ts) → Q v H'
/-- an operation on two results, on one, on a row of them -/
def Two (g : Rs → Rs → Env → Out Rs) : R2 := fun x y H Q => ∃ σ n H0 ρ ts ra rb, ST T n H0 H σ ρ ((y, rb) :: (x, ra) :: ts) ∧ Post T W n σ ts (g ra rb ρ) (Wants T n σ ts Q)
def One (g : Rs → Env → Out Rs) : V → Hp → VK → Prop := fun x H Q => ∃ σ n H0 ρ ts ra, ST T n H0 H σ ρ ((x, ra) :: ts) ∧ Post T W n σ ts (g ra ρ) (Wants T n σ ts Q)
def Many (g : List Rs → Env → Out Rs) : List V → Hp → VK → Prop := fun xs H Q => ∃ σ n H0 ρ ts rs, xs.length = rs.length ∧ ST T n H0 H σ ρ (xs.zip rs ++ ts) ∧ Post T W n σ ts (g rs ρ) (Wants T n σ ts Q)
end
section
variable {T : Tb} {W : WX} {X : Cx} {n : En} {σ : L2.St} {H0 H : Hp} {ρ : Env} {ts : List Tmp} {Q : VK}
/-- an answer that is data -/
theorem Wants.data {v : V} {x : D} (h : ∀ H0' H', Wants T n σ ts Q (.d x) ρ H0' H') (r : Rp T H0 v x) (S : ST T n H0 H σ ρ ts) : Q v H := h H0 H v (S.addD r)
/-- an answer that is a new object -/
theorem Wants.fresh {o : Ob} {H' : Hp} {p : Addr} (h : ∀ H0' H', Wants T n σ ts Q (.fr o) ρ H0' H') (S : ST T n H0 H σ ρ ts) (e : Same H H') (hp : H p = none) (r : ObR T H0 H' p o) : Q (.ref p) H' := h H0 H' _ (S.alloc e hp r)
theorem pe_two {op : Operator} {g : Rs → Rs → Env → Out Rs} {a b : Expr} {pos : Pos} {da db : Env → Out Rs} (ho : OpR X (binaryOp op) (Two T W g)) (ha : PE X a (rd T W da)) (hb : PE X b (rd T W db)) :
    PE X (.BinOp a op b pos) (rd T W fun e => (da e).bind fun ra e1 => (db e1).bind fun rb e2 => g ra rb e2) :=
  pe_imp (pe_op ho ha hb) fun σ H Q ⟨n, H0, ρ, ts, S, P⟩ => rd_mono (rd_two S P) fun v H1 h => rd_mono h fun w H2 ⟨H0', ρ', ra, rb, S', P'⟩ => ⟨σ, n, H0', ρ', ts, ra, rb, S', P'⟩
theorem pe_twoC {op : CmpOp} {g : Rs → Rs → Env → Out Rs} {a b : Expr} {pos : Pos} {da db : Env → Out Rs} (ho : OpR X (compareOp op) (Two T W g)) (ha : PE X a (rd T W da)) (hb : PE X b (rd T W db)) (hm : behindInMarks op b = false) :
    PE X (.Compare a [op] [b] pos) (rd T W fun e => (da e).bind fun ra e1 => (db e1).bind fun rb e2 => g ra rb e2) :=
  pe_imp (pe_cmpR ho ha hb hm) fun σ H Q ⟨n, H0, ρ, ts, S, P⟩ => rd_mono (rd_two S P) fun v H1 h => rd_mono h fun w H2 ⟨H0', ρ', ra, rb, S', P'⟩ => ⟨σ, n, H0', ρ', ts, ra, rb, S', P'⟩
theorem pe_twoI {g : Rs → Rs → Env → Out Rs} {a b : Expr} {pos : Pos} {da db : Env → Out Rs} (ho : IxR X (Two T W g)) (ha : PE X a (rd T W da)) (hb : PE X b (rd T W db)) (hm : PlainIx b) :
    PE X (.Subscript a b pos) (rd T W fun e => (da e).bind fun ra e1 => (db e1).bind fun rb e2 => g ra rb e2) :=
  pe_imp (pe_ix ho ha hb hm) fun σ H Q ⟨n, H0, ρ, ts, S, P⟩ => rd_mono (rd_two S P) fun v H1 h => rd_mono h fun w H2 ⟨H0', ρ', ra, rb, S', P'⟩ => ⟨σ, n, H0', ρ', ts, ra, rb, S', P'⟩
theorem Two.sees {f : D → D → Option Rs} {x y : V} (h : Two T W (sees2 f) x y H Q) : ∃ σ n H0 ρ ts a b r, ST T n H0 H σ ρ ts ∧ Rv T H0 H x a ∧ Rv T H0 H y b ∧ f a b = some r ∧ ∀ H0' H', Wants T n σ ts Q r ρ H0' H' := by
  obtain ⟨σ, n, H0, ρ, ts, ra, rb, S, P⟩ := h
  unfold sees2 at P
  cases ea : ra.see ρ with
  | none => rw [ea] at P; exact P.elim
  | some a =>
    cases eb : rb.see ρ with
    | none => rw [ea, eb] at P; exact P.elim
    | some b =>
      rw [ea, eb] at P
      have P : Post T W n σ ts (Out.of ρ (f a b)) (Wants T n σ ts Q) := P
      cases ef : f a b with
      | none => rw [ef] at P; exact P.elim
      | some r =>
        rw [ef] at P
        exact ⟨σ, n, H0, ρ, ts, a, b, r, S.drop.drop, S.seeOf (by simp) ea, S.see eb, ef, P⟩
theorem sz_of {k : Nat} (h : szOk k = true) : k ≤ sizeLine := by
  have z : k ≤ 16000000 := of_decide_eq_true h
  have e : sizeLine = 16777216 := by decide
  omega
theorem sz_lt {k : Nat} (h : szOk k = true) : k < sizeLine := by
  have z : k ≤ 16000000 := of_decide_eq_true h
  have e : sizeLine = 16777216 := by decide
  omega
def opOf : Bop → Operator
  | .add => .Add
  | .sub => .Sub
  | .mul => .Mult
  | .fdiv => .FloorDiv
  | .mod => .Mod
  | .pow => .Pow
theorem str_app (x y : Tx) : ((⟨x.toArray⟩ : Str) ++ (⟨y.toArray⟩ : Str)) = ⟨(x ++ y).toArray⟩ := by
  show Str.mk (x.toArray ++ y.toArray) = _
  simp
theorem str_len (x : Tx) : (⟨x.toArray⟩ : Str).length = x.length := by
  show x.toArray.size = x.length
  simp
theorem bit_lt {i : Int} (h : i.natAbs < 18446744073709551616) : i.natAbs < 2 ^ 64 := by
  have e : (2 : Nat) ^ 64 = 18446744073709551616 := by decide
  omega
theorem opR_bin (ok : Cok T X) (op : Bop) : OpR X (binaryOp (opOf op)) (Two T W (sees2 (binD op))) := by
  intro pins s σ H x y v u Q I rx ry h
  obtain ⟨σ', n, H0, ρ, ts, a, b, r, S, va, vb, ef, P⟩ := h.sees
  have hK := ok.hK
  unfold binD at ef
  split at ef
  · cases ef
    have e1 := va.int
    have e2 := vb.int
    subst e1 e2
    exact op_add pins s σ H _ _ v u Q I rx ry ⟨_, _, rfl, rfl, Wants.data P (.int _) S⟩
  · split at ef
    · rename_i hz
      cases ef
      have e1 := va.str
      have e2 := vb.str
      subst e1 e2
      refine op_add_str pins s σ H _ _ v u Q I rx ry ⟨_, _, rfl, rfl, by rw [str_len, str_len]; exact sz_of hz, ?_⟩
      rw [str_app]
      exact Wants.data P (.str _) S
    · cases ef
  · split at ef
    · rename_i hz
      cases ef
      obtain ⟨p, vs, rfl, h1, r1⟩ := va.lst S.sub
      obtain ⟨q, ws, rfl, h2, r2⟩ := vb.lst S.sub
      exact op_cat pins s σ H _ _ v u Q I rx ry ⟨p, q, vs, ws, rfl, rfl, h1, h2, by rw [r1.length, r2.length]; exact sz_of hz, fun c hc => Wants.fresh P S (Same.new hc) hc ⟨_, upd_same, r1.append r2⟩⟩
    · cases ef
  · split at ef
    · rename_i hz
      cases ef
      obtain ⟨p, vs, rfl, h1, r1⟩ := va.tup
      obtain ⟨q, ws, rfl, h2, r2⟩ := vb.tup
      rw [← hK] at h1 h2
      refine op_catA pins s σ H _ _ v u Q I rx ry ⟨p, q, vs, ws, rfl, rfl, Same.sqT S.sub h1, Same.sqT S.sub h2, by rw [r1.length, r2.length]; exact sz_of hz, fun e => ?_, fun _ e => ?_, fun _ _ c hc => ?_⟩
      · subst e
        cases r1
        rw [hK] at h2
        exact Wants.data P (.tup h2 r2) S
      · subst e
        cases r2
        rw [hK] at h1
        exact Wants.data P (.tup h1 (by rw [List.append_nil]; exact r1)) S
      · refine P (upd H0 c (.tup (vs ++ ws))) _ _ (ST.addD ((S.grow (Same.new hc)).still upd_same (S.still_free hc) (S.entry_free hc) (fun i ho => ?_) (fun ht => ?_)) ?_)
        · obtain ⟨w, hw, _⟩ := S.own_there ho
          rw [hc] at hw
          cases hw
        · obtain ⟨w, hw, _⟩ := S.tmp_there ht
          rw [hc] at hw
          cases hw
        · exact .tup (.inl (.inl upd_same)) ((r1.append r2).mono (Same.new (S.still_free hc)))
    · cases ef
  · cases ef
    have e1 := va.int
    have e2 := vb.int
    subst e1 e2
    exact op_sub pins s σ H _ _ v u Q I rx ry ⟨_, _, rfl, rfl, Wants.data P (.int _) S⟩
  · split at ef
    · rename_i hz
      cases ef
      have e1 := va.int
      have e2 := vb.int
      subst e1 e2
      exact op_mulW pins s σ H _ _ v u Q I rx ry ⟨_, _, rfl, rfl, (show _ < 1000000 from of_decide_eq_true hz), Wants.data P (.int _) S⟩
    · cases ef
  · split at ef
    · rename_i hz
      cases ef
      rw [Bool.and_eq_true, Bool.and_eq_true] at hz
      have z0 := of_decide_eq_true hz.1.1
      have z1 := of_decide_eq_true hz.1.2
      obtain ⟨p, vs, rfl, h1, r1⟩ := va.lst S.sub
      have e2 := vb.int
      subst e2
      exact op_rep pins s σ H _ _ v u Q I rx ry ⟨p, _, vs, rfl, rfl, h1, by omega, by omega, by rw [r1.length]; exact sz_of hz.2, fun c hc => Wants.fresh P S (Same.new hc) hc ⟨_, upd_same, r1.rep _⟩⟩
    · cases ef
  · split at ef
    · rename_i hz
      cases ef
      rw [Bool.and_eq_true, Bool.and_eq_true, Bool.and_eq_true] at hz
      have z1 := of_decide_eq_true hz.1.1.2
      have z2 := of_decide_eq_true hz.1.2
      have z3 := of_decide_eq_true hz.2
      obtain ⟨p, vs, rfl, h1, r1⟩ := va.tup
      have e2 := vb.int
      subst e2
      rw [← hK] at h1
      refine op_repT pins s σ H _ _ v u Q I rx ry ⟨p, _, vs, rfl, rfl, Same.sqT S.sub h1, fun e => ?_, z1, z2, by rw [r1.length]; exact z3, fun c hc => ?_⟩
      · subst e
        cases r1
        simp at hz
      · refine P (upd H0 c (.tup (List.replicate _ vs).flatten)) _ _ (ST.addD ((S.grow (Same.new hc)).still upd_same (S.still_free hc) (S.entry_free hc) (fun i ho => ?_) (fun ht => ?_)) ?_)
        · obtain ⟨w, hw, _⟩ := S.own_there ho
          rw [hc] at hw
          cases hw
        · obtain ⟨w, hw, _⟩ := S.tmp_there ht
          rw [hc] at hw
          cases hw
        · exact .tup (.inl (.inl upd_same)) ((r1.rep _).mono (Same.new (S.still_free hc)))
    · cases ef
  · split at ef
    · rename_i hz
      cases ef
      have e1 := va.int
      have e2 := vb.int
      subst e1 e2
      unfold divOk at hz
      rw [Bool.and_eq_true] at hz
      exact op_fdivW pins s σ H _ _ v u Q I rx ry ⟨_, _, rfl, rfl, ⟨of_decide_eq_true hz.1, of_decide_eq_true hz.2⟩, Wants.data P (.int _) S⟩
    · cases ef
  · split at ef
    · rename_i hz
      cases ef
      have e1 := va.int
      have e2 := vb.int
      subst e1 e2
      exact op_mod pins s σ H _ _ v u Q I rx ry ⟨_, _, rfl, rfl, of_decide_eq_true hz, Wants.data P (.int _) S⟩
    · cases ef
  · split at ef
    · rename_i hz
      cases ef
      have e1 := va.int
      have e2 := vb.int
      subst e1 e2
      rw [Bool.and_eq_true, Bool.and_eq_true] at hz
      exact op_pow pins s σ H _ _ v u Q I rx ry ⟨_, _, rfl, rfl, ⟨of_decide_eq_true hz.1.1, of_decide_eq_true hz.1.2, bit_lt (of_decide_eq_true hz.2)⟩, Wants.data P (.int _) S⟩
    · cases ef
  · cases ef
end
end Mi
end
section
set_option maxHeartbeats 4000000
namespace Mi
open PySem PySem.Spec PyProof.Rows L2
/-! ### == of data -/
mutual
def pyD : D → PyData
  | .non => .none
  | .bl b => .bool b
  | .int i => .int i
  | .str s => .str ⟨s.toArray⟩
  | .tup xs => .tuple (pyDs xs)
  | .lst xs => .list (pyDs xs)
  | .dic _ => .dict []
  | .ins _ _ => .none
  | .scr _ => .none
def pyDs : List D → List PyData
  | [] => []
  | x :: xs => pyD x :: pyDs xs
end
theorem strEq (a b : Tx) : ((⟨a.toArray⟩ : Str) == ⟨b.toArray⟩) = (a == b) := by
  by_cases h : a = b
  · subst h
    simp
  · have e : (a == b) = false := by simpa using h
    rw [e]
    refine beq_eq_false_iff_ne.mpr fun z => h ?_
    have z : a.toArray = b.toArray := congrArg Str.cps z
    simpa using z
mutual
theorem plain_dp {T : Tb} {H : Hp} : ∀ {n : Nat} {x : D} {v : V}, plainD n x = true → Rp T H v x → Dp T.K H v (pyD x)
  | n, .non, _, _, r => by cases r; exact .non
  | n, .bl b, _, _, r => by cases r; exact .bl b
  | n, .int i, _, _, r => by cases r; exact .int i
  | n, .str s, _, _, r => by cases r; exact .str _
  | n + 1, .tup xs, _, h, r => by
    cases r with
    | tup a b => exact .tup a (plain_dps (n := n) (by simpa [plainD] using h) b)
  | n + 1, .lst xs, _, h, r => by
    cases r with
    | lst a b => exact .lst (.of a) (plain_dps (n := n) (by simpa [plainD] using h) b)
  | 0, .tup _, _, h, _ => by simp [plainD] at h
  | 0, .lst _, _, h, _ => by simp [plainD] at h
  | n, .dic _, _, h, _ => by simp [plainD] at h
  | n, .ins _ _, _, h, _ => by simp [plainD] at h
  | n, .scr _, _, h, _ => by simp [plainD] at h
theorem plain_dps {T : Tb} {H : Hp} : ∀ {n : Nat} {xs : List D} {vs : List V}, plainDs n xs = true → Rps T H vs xs → DpAll T.K H vs (pyDs xs)
  | n, [], _, _, r => by cases r; exact .nil
  | n, x :: xs, _, h, r => by
    cases r with
    | cons a b =>
      have h : (plainD n x && plainDs n xs) = true := by simpa [plainDs] using h
      rw [Bool.and_eq_true] at h
      exact .cons (plain_dp h.1 a) (plain_dps h.2 b)
end
mutual
theorem plain_can : ∀ {n : Nat} {x : D}, plainD n x = true → (pyD x).canLay0 = true ∧ (pyD x).depth ≤ n
  | n, .non, _ => ⟨rfl, Nat.zero_le _⟩
  | n, .bl b, _ => ⟨rfl, Nat.zero_le _⟩
  | n, .int i, _ => ⟨rfl, Nat.zero_le _⟩
  | n, .str s, h => ⟨by
      have h : s.all (fun c => decide (c < 1114112)) = true := by simpa [plainD] using h
      show (s.toArray).all (· < 0x110000) = true
      simpa using h, Nat.zero_le _⟩
  | n + 1, .tup xs, h => by
    obtain ⟨a, b⟩ := plain_cans (n := n) (xs := xs) (by simpa [plainD] using h)
    exact ⟨by simpa [pyD, PyData.canLay0] using a, by simpa [pyD, PyData.depth] using b⟩
  | n + 1, .lst xs, h => by
    obtain ⟨a, b⟩ := plain_cans (n := n) (xs := xs) (by simpa [plainD] using h)
    exact ⟨by simpa [pyD, PyData.canLay0] using a, by simpa [pyD, PyData.depth] using b⟩
  | 0, .tup _, h => by simp [plainD] at h
  | 0, .lst _, h => by simp [plainD] at h
  | n, .dic _, h => by simp [plainD] at h
  | n, .ins _ _, h => by simp [plainD] at h
  | n, .scr _, h => by simp [plainD] at h
theorem plain_cans : ∀ {n : Nat} {xs : List D}, plainDs n xs = true → PyData.canLayAll0 (pyDs xs) = true ∧ PyData.depthAll (pyDs xs) ≤ n
  | n, [], _ => ⟨rfl, Nat.zero_le _⟩
  | n, x :: xs, h => by
    have h : (plainD n x && plainDs n xs) = true := by simpa [plainDs] using h
    rw [Bool.and_eq_true] at h
    obtain ⟨a, b⟩ := plain_can h.1
    obtain ⟨c, d⟩ := plain_cans h.2
    refine ⟨by simp [pyDs, PyData.canLayAll0, a, c], ?_⟩
    simp only [pyDs, PyData.depthAll]
    omega
end
theorem plain_shaped {x : D} (h : plainD 40 x = true) : SeqAt.shaped (pyD x) = true := by
  obtain ⟨a, b⟩ := plain_can h
  unfold SeqAt.shaped
  rw [a, Bool.true_and]
  exact decide_eq_true (by omega)
mutual
theorem eqv_eq : ∀ {n m : Nat} {x y : D}, plainD n x = true → plainD m y = true → PyData.eqv (pyD x) (pyD y) = eqD x y
  | _ + 1, _ + 1, .tup xs, .tup ys, hx, hy => by
    simp only [pyD, PyData.eqv, eqD]
    exact eqvs_eq (by simpa [plainD] using hx) (by simpa [plainD] using hy)
  | _ + 1, _ + 1, .lst xs, .lst ys, hx, hy => by
    simp only [pyD, PyData.eqv, eqD]
    exact eqvs_eq (by simpa [plainD] using hx) (by simpa [plainD] using hy)
  | _, _, .str a, .str b, _, _ => by simp only [pyD, PyData.eqv, eqD]; exact strEq a b
  | _, _, .non, y, _, hy => by cases y <;> simp [pyD, PyData.eqv, eqD, plainD] at hy ⊢
  | _, _, .bl b, y, _, hy => by cases y <;> simp [pyD, PyData.eqv, eqD, plainD, b2i] at hy ⊢
  | _, _, .int i, y, _, hy => by cases y <;> simp [pyD, PyData.eqv, eqD, plainD, b2i] at hy ⊢
  | _, _, .str s, .non, _, _ => rfl
  | _, _, .str s, .bl _, _, _ => rfl
  | _, _, .str s, .int _, _, _ => rfl
  | _, _, .str s, .tup _, _, _ => rfl
  | _, _, .str s, .lst _, _, _ => rfl
  | _, _, .str s, .dic _, _, h => by simp [plainD] at h
  | _, _, .str s, .ins _ _, _, h => by simp [plainD] at h
  | _, _, .str s, .scr _, _, h => by simp [plainD] at h
  | _, _, .tup s, .non, _, _ => rfl
  | _, _, .tup s, .bl _, _, _ => rfl
  | _, _, .tup s, .int _, _, _ => rfl
  | _, _, .tup s, .str _, _, _ => rfl
  | _, _, .tup s, .lst _, _, _ => rfl
  | _, _, .tup s, .dic _, _, h => by simp [plainD] at h
  | _, _, .tup s, .ins _ _, _, h => by simp [plainD] at h
  | _, _, .tup s, .scr _, _, h => by simp [plainD] at h
  | _, _, .lst s, .non, _, _ => rfl
  | _, _, .lst s, .bl _, _, _ => rfl
  | _, _, .lst s, .int _, _, _ => rfl
  | _, _, .lst s, .str _, _, _ => rfl
  | _, _, .lst s, .tup _, _, _ => rfl
  | _, _, .lst s, .dic _, _, h => by simp [plainD] at h
  | _, _, .lst s, .ins _ _, _, h => by simp [plainD] at h
  | _, _, .lst s, .scr _, _, h => by simp [plainD] at h
  | 0, _, .tup _, .tup _, h, _ => by simp [plainD] at h
  | _ + 1, 0, .tup _, .tup _, _, h => by simp [plainD] at h
  | 0, _, .lst _, .lst _, h, _ => by simp [plainD] at h
  | _ + 1, 0, .lst _, .lst _, _, h => by simp [plainD] at h
  | _, _, .dic _, _, h, _ => by simp [plainD] at h
  | _, _, .ins _ _, _, h, _ => by simp [plainD] at h
  | _, _, .scr _, _, h, _ => by simp [plainD] at h
theorem eqvs_eq : ∀ {n m : Nat} {xs ys : List D}, plainDs n xs = true → plainDs m ys = true → PyData.eqvAll (pyDs xs) (pyDs ys) = eqDs xs ys
  | _, _, [], [], _, _ => rfl
  | _, _, [], _ :: _, _, _ => rfl
  | _, _, _ :: _, [], _, _ => rfl
  | n, m, x :: xs, y :: ys, hx, hy => by
    have hx : (plainD n x && plainDs n xs) = true := by simpa [plainDs] using hx
    have hy : (plainD m y && plainDs m ys) = true := by simpa [plainDs] using hy
    rw [Bool.and_eq_true] at hx hy
    simp only [pyDs, PyData.eqvAll, eqDs]
    rw [eqv_eq hx.1 hy.1, eqvs_eq hx.2 hy.2]
end
section
variable {T : Tb} {W : WX} {X : Cx} {n : En} {σ : L2.St} {H0 H : Hp} {ρ : Env} {ts : List Tmp} {Q : VK}
theorem decStr (a b : Tx) : decide (V.str ⟨a.toArray⟩ = V.str ⟨b.toArray⟩) = (a == b) := by rw [dec_str, strEq]
/-- == and != -/
theorem same_eq (ok : Cok T X) {pins : List (Addr × Obj)} {s : Shared} {x y : V} {v u : Value} {a b : D} {k : Bool} (I : Inv X pins σ H s) (rx : RelV x v) (ry : RelV y u) (va : Rv T H0 H x a) (vb : Rv T H0 H y b) (e : Same H0 H)
    (h : sameD a b = some k) (q : Q (.bl k) H) : wpAny (model X.prog X.w) X.A (compareOp .Eq v u) (EP X pins σ Q) X.xe s := by
  unfold sameD at h
  split at h
  · cases h
    have e1 := va.str
    have e2 := vb.str
    subst e1 e2
    exact op_eq pins s σ H _ _ v u Q I rx ry ⟨rfl, by rw [decStr]; exact q⟩
  · cases h
    have e1 := va.int
    have e2 := vb.int
    subst e1 e2
    exact op_eq pins s σ H _ _ v u Q I rx ry ⟨rfl, by rw [dec_int]; exact q⟩
  · split at h
    · rename_i hz
      cases h
      rw [Bool.and_eq_true] at hz
      have d1 := plain_dp hz.1 (va.rp e)
      have d2 := plain_dp hz.2 (vb.rp e)
      rw [← ok.hK] at d1 d2
      exact op_eqD ok.un pins s σ H _ _ v u Q I rx ry ⟨_, _, d1, d2, plain_shaped hz.1, plain_shaped hz.2, by rw [eqv_eq hz.1 hz.2]; exact q⟩
    · cases h
theorem same_ne (ok : Cok T X) {pins : List (Addr × Obj)} {s : Shared} {x y : V} {v u : Value} {a b : D} {k : Bool} (I : Inv X pins σ H s) (rx : RelV x v) (ry : RelV y u) (va : Rv T H0 H x a) (vb : Rv T H0 H y b) (e : Same H0 H)
    (h : sameD a b = some k) (q : Q (.bl (!k)) H) : wpAny (model X.prog X.w) X.A (compareOp .NotEq v u) (EP X pins σ Q) X.xe s := by
  unfold sameD at h
  split at h
  · cases h
    have e1 := va.str
    have e2 := vb.str
    subst e1 e2
    exact op_ne pins s σ H _ _ v u Q I rx ry ⟨rfl, by rw [decStr]; exact q⟩
  · cases h
    have e1 := va.int
    have e2 := vb.int
    subst e1 e2
    exact op_ne pins s σ H _ _ v u Q I rx ry ⟨rfl, by rw [dec_int]; exact q⟩
  · split at h
    · rename_i hz
      cases h
      rw [Bool.and_eq_true] at hz
      have d1 := plain_dp hz.1 (va.rp e)
      have d2 := plain_dp hz.2 (vb.rp e)
      rw [← ok.hK] at d1 d2
      exact op_neD ok.un pins s σ H _ _ v u Q I rx ry ⟨_, _, d1, d2, plain_shaped hz.1, plain_shaped hz.2, by rw [eqv_eq hz.1 hz.2]; exact q⟩
    · cases h
/-! ### x in .. -/
theorem flat_rp {v : V} {x : D} (r : Rp T H v x) (h : flatD x = true) : flatV v = true := by
  cases r <;> first | rfl | cases h
theorem eqV_eq {v w : V} {x y : D} (r : Rp T H0 v x) (q : Rp T H w y) (h : flatD x = true) (h' : flatD y = true) : eqV v w = eqD x y := by
  cases r <;> cases q <;> first | rfl | cases h | cases h' | skip
  all_goals first | exact strEq _ _ | skip
theorem flat_rps : ∀ {vs : List V} {xs : List D}, Rps T H vs xs → xs.all flatD = true → vs.all flatV = true
  | _, _, .nil, _ => rfl
  | _, _, .cons a r, h => by
    rw [List.all_cons, Bool.and_eq_true] at h
    rw [List.all_cons, Bool.and_eq_true]
    exact ⟨flat_rp a h.1, flat_rps r h.2⟩
theorem inV_eq {w : V} {y : D} (q : Rp T H w y) (h' : flatD y = true) : ∀ {vs : List V} {xs : List D}, Rps T H0 vs xs → xs.all flatD = true → inV w vs = xs.any fun z => eqD z y
  | _, _, .nil, _ => rfl
  | _, _, .cons a r, h => by
    rw [List.all_cons, Bool.and_eq_true] at h
    rw [List.any_cons, ← inV_eq q h' r h.2, ← eqV_eq a q h.1 h']
    rfl
theorem ky_of {v : V} {x : D} (r : Rp T H v x) (h : keyD x = true) : ∃ k, v = kV k ∧ KyR k x := by
  cases r with
  | int i => exact ⟨.inl i, rfl, .int i⟩
  | str s => exact ⟨.inr _, rfl, .str s⟩
  | _ => cases h
theorem ky_eq {k k' : Key} {x y : D} (r : KyR k x) (q : KyR k' y) : decide (k = k') = eqD x y := by
  cases r <;> cases q
  · simp only [eqD]; rw [Bool.eq_iff_iff]; simp
  · simp only [eqD]; simp
  · simp only [eqD]; simp
  · simp only [eqD]
    rename_i a b
    rw [← strEq, Bool.eq_iff_iff]
    simp
theorem look_rp : ∀ {vs : List (Key × V)} {ks : List (D × D)} {k : Key} {x : D}, RpK T H vs ks → KyR k x → (lookD ks x = none → valV vs k = none) ∧ ∀ y, lookD ks x = some y → ∃ v, valV vs k = some v ∧ Rp T H v y
  | _, _, _, _, .nil, _ => ⟨fun _ => rfl, fun y h => by cases h⟩
  | _, _, k, x, .cons (k := k') (q := q) kr a r, h => by
    obtain ⟨i1, i2⟩ := look_rp r h
    have e := ky_eq kr h
    unfold lookD
    cases z : eqD q x with
    | true =>
      rw [z] at e
      have e : k' = k := of_decide_eq_true e
      subst e
      refine ⟨fun h => by simp at h, fun y hy => ?_⟩
      simp at hy
      subst hy
      exact ⟨_, by simp [valV], a⟩
    | false =>
      rw [z] at e
      have e : ¬ k' = k := of_decide_eq_false e
      refine ⟨fun h => ?_, fun y hy => ?_⟩
      · simp at h
        have := i1 h
        simpa [valV, e] using this
      · simp at hy
        obtain ⟨v, hv, hr⟩ := i2 y hy
        exact ⟨v, by simpa [valV, e] using hv, hr⟩
end
end Mi
end
section
set_option maxHeartbeats 4000000
namespace Mi
open PySem PySem.Spec PyProof.Rows L2
section
variable {T : Tb} {W : WX} {X : Cx} {n : En} {σ : L2.St} {H0 H : Hp} {ρ : Env} {ts : List Tmp} {Q : VK}
theorem One.sees {f : D → Option Rs} {x : V} (h : One T W (sees1 f) x H Q) : ∃ σ n H0 ρ ts a r, ST T n H0 H σ ρ ts ∧ Rv T H0 H x a ∧ f a = some r ∧ ∀ H0' H', Wants T n σ ts Q r ρ H0' H' := by
  obtain ⟨σ, n, H0, ρ, ts, ra, S, P⟩ := h
  unfold sees1 at P
  cases ea : ra.see ρ with
  | none => rw [ea] at P; exact P.elim
  | some a =>
    rw [ea] at P
    have P : Post T W n σ ts (Out.of ρ (f a)) (Wants T n σ ts Q) := P
    cases ef : f a with
    | none => rw [ef] at P; exact P.elim
    | some r =>
      rw [ef] at P
      exact ⟨σ, n, H0, ρ, ts, a, r, S.drop, S.see ea, ef, P⟩
theorem rd_seeOne {d : Env → Out Rs} {g : Rs → Env → Out Rs} (h : rd T W (fun e => (d e).bind fun ra e1 => g ra e1) σ H Q) : rd T W d σ H fun x H1 => One T W g x H1 Q := by
  obtain ⟨n, H0, ρ, ts, S, P⟩ := h
  exact rd_mono (rd_one S P) fun v H1 ⟨H0', ρ', ra, S', P'⟩ => ⟨σ, n, H0', ρ', ts, ra, S', P'⟩
theorem rd_seeMany {d : Env → Out (List Rs)} {g : List Rs → Env → Out Rs} (h : rd T W (fun e => (d e).bind fun ra e1 => g ra e1) σ H Q) : rdA T W d σ H fun x H1 => Many T W g x H1 Q := by
  obtain ⟨n, H0, ρ, ts, S, P⟩ := h
  have z := rd_args S P
  obtain ⟨n', H0', ρ', ts', S', P'⟩ := z
  refine ⟨n', H0', ρ', ts', S', ?_⟩
  cases e : d ρ' with
  | no => rw [e] at P'; exact P'.elim
  | ex x e1 => rw [e] at P'; exact P'
  | ok r e1 =>
    rw [e] at P'
    exact fun h0 h1 vs l s => by
      obtain ⟨a, b, c, l', s', p⟩ := P' h0 h1 vs l s
      exact ⟨σ, n, a, b, ts, c, l', s', p⟩
/-! ### comparisons -/
def copOf : Cop → CmpOp
  | .eq => .Eq
  | .ne => .NotEq
  | .lt => .Lt
  | .le => .LtE
  | .gt => .Gt
  | .ge => .GtE
  | .isN => .Is
  | .notN => .IsNot
  | .isIn => .In
  | .notIn => .NotIn
theorem look_is {vs : List (Key × V)} {ks : List (D × D)} {k : Key} {x : D} (h : (lookD ks x = none → valV vs k = none) ∧ ∀ y, lookD ks x = some y → ∃ v, valV vs k = some v ∧ Rp T H v y) : (valV vs k).isSome = (lookD ks x).isSome := by
  cases z : lookD ks x with
  | none => rw [h.1 z]; rfl
  | some w => obtain ⟨w', hw, _⟩ := h.2 _ z; rw [hw]; rfl
theorem in_tx (c : Nat) (t : Tx) : decide (c ∈ (⟨t.toArray⟩ : Str).cps.toList) = t.contains c := by
  rw [Bool.eq_iff_iff]
  simp
theorem opR_cmp (ok : Cok T X) (op : Cop) : OpR X (compareOp (copOf op)) (Two T W (cmpS op)) := by
  intro pins s σ H x y v u Q I rx ry h
  obtain ⟨σ', n, H0, ρ, ts, a, b, r, S, va, vb, ef, P⟩ := h.sees
  cases ec : cmpD op a b with
  | none => rw [ec] at ef; cases ef
  | some k =>
    rw [ec] at ef
    cases ef
    have P : ∀ H0' H', Wants T n σ' ts Q (.d (.bl k)) ρ H0' H' := P
    have q : Q (.bl k) H := Wants.data P (.bl _) S
    have hK := ok.hK
    unfold cmpD at ec
    split at ec
    · exact same_eq ok I rx ry va vb S.sub ec q
    · cases es : sameD a b with
      | none => rw [es] at ec; cases ec
      | some k' =>
        rw [es] at ec
        cases ec
        exact same_ne ok I rx ry va vb S.sub es q
    · cases ec
      have e1 := va.int
      have e2 := vb.int
      subst e1 e2
      exact op_lt pins s σ H _ _ v u Q I rx ry ⟨_, _, rfl, rfl, q⟩
    · cases ec
      have e1 := va.int
      have e2 := vb.int
      subst e1 e2
      exact op_le pins s σ H _ _ v u Q I rx ry ⟨_, _, rfl, rfl, q⟩
    · cases ec
      have e1 := va.int
      have e2 := vb.int
      subst e1 e2
      exact op_gt pins s σ H _ _ v u Q I rx ry ⟨_, _, rfl, rfl, q⟩
    · cases ec
      have e1 := va.int
      have e2 := vb.int
      subst e1 e2
      exact op_ge pins s σ H _ _ v u Q I rx ry ⟨_, _, rfl, rfl, q⟩
    · cases ec
      have e2 := vb.non
      subst e2
      refine op_isN pins s σ H x _ v u Q I rx ry ⟨rfl, ?_⟩
      have e : decide (x = V.non) = isNonD a := by
        cases a with
        | non => rw [va.non]; rfl
        | bl b => rw [va.bl]; rfl
        | int b => rw [va.int]; rfl
        | str b => rw [va.str]; rfl
        | tup b => obtain ⟨p, _, e, _⟩ := va.tup; rw [e]; rfl
        | lst b => obtain ⟨p, _, e, _⟩ := va.lst S.sub; rw [e]; rfl
        | dic b => obtain ⟨p, _, e, _⟩ := va.dic S.sub; rw [e]; rfl
        | ins c b => obtain ⟨p, _, _, e, _⟩ := va.ins S.sub; rw [e]; rfl
        | scr b => obtain ⟨p, e, _⟩ := va.scr; rw [e]; rfl
      rw [e]
      exact q
    · cases ec
      have e2 := vb.non
      subst e2
      refine op_notN pins s σ H x _ v u Q I rx ry ⟨rfl, ?_⟩
      have e : (!decide (x = V.non)) = (!isNonD a) := by
        cases a with
        | non => rw [va.non]; rfl
        | bl b => rw [va.bl]; rfl
        | int b => rw [va.int]; rfl
        | str b => rw [va.str]; rfl
        | tup b => obtain ⟨p, _, e, _⟩ := va.tup; rw [e]; rfl
        | lst b => obtain ⟨p, _, e, _⟩ := va.lst S.sub; rw [e]; rfl
        | dic b => obtain ⟨p, _, e, _⟩ := va.dic S.sub; rw [e]; rfl
        | ins c b => obtain ⟨p, _, _, e, _⟩ := va.ins S.sub; rw [e]; rfl
        | scr b => obtain ⟨p, e, _⟩ := va.scr; rw [e]; rfl
      rw [e]
      exact q
    · -- in
      unfold inD at ec
      split at ec
      · split at ec
        · rename_i hz
          cases ec
          rw [Bool.and_eq_true] at hz
          obtain ⟨p, vs, rfl, h1, r1⟩ := vb.tup
          rw [← hK] at h1
          have ra := va.rp S.sub
          exact op_in_seq pins s σ H _ _ v u Q I rx ry ⟨p, vs, rfl, .inr (Same.sqT S.sub h1), flat_rp ra hz.1, flat_rps r1 hz.2, by rw [if_neg Bool.false_ne_true, inV_eq ra hz.1 r1 hz.2]; exact q⟩
        · cases ec
      · split at ec
        · rename_i hz
          cases ec
          rw [Bool.and_eq_true] at hz
          obtain ⟨p, vs, rfl, h1, r1⟩ := vb.lst S.sub
          have ra := va.rp S.sub
          exact op_in_seq pins s σ H _ _ v u Q I rx ry ⟨p, vs, rfl, .inl (.of h1), flat_rp ra hz.1, flat_rps r1 hz.2, by rw [if_neg Bool.false_ne_true, inV_eq ra hz.1 r1 hz.2]; exact q⟩
        · cases ec
      · split at ec
        · cases ec
          have e1 := va.str
          have e2 := vb.str
          subst e1 e2
          refine op_in_sign pins s σ H _ _ v u Q I rx ry ⟨_, _, rfl, rfl, ?_⟩
          rw [in_tx]
          exact q
        · cases ec
      · split at ec
        · rename_i hz
          cases ec
          obtain ⟨p, kvs, rfl, h1, r1⟩ := vb.dic S.sub
          obtain ⟨key, rfl, kr⟩ := ky_of (va.rp S.sub) hz
          obtain ⟨i1, i2⟩ := look_rp r1 kr
          obtain rfl : u = Value.ref p := ry
          have e := look_is ⟨i1, i2⟩
          refine d_in (by have := ok.un; omega) I (DGet.k (k := key) h1) rx fun s' I' => ⟨.bl _, H, I', rfl, ?_⟩
          rw [e]
          exact q
        · cases ec
      · cases ec
    · -- not in
      cases ei : inD a b with
      | none => rw [ei] at ec; cases ec
      | some k' =>
        rw [ei] at ec
        cases ec
        unfold inD at ei
        split at ei
        · split at ei
          · rename_i hz
            cases ei
            rw [Bool.and_eq_true] at hz
            obtain ⟨p, vs, rfl, h1, r1⟩ := vb.tup
            rw [← hK] at h1
            have ra := va.rp S.sub
            exact op_notIn_seq pins s σ H _ _ v u Q I rx ry ⟨p, vs, rfl, .inr (Same.sqT S.sub h1), flat_rp ra hz.1, flat_rps r1 hz.2, by rw [if_pos rfl, inV_eq ra hz.1 r1 hz.2]; exact q⟩
          · cases ei
        · split at ei
          · rename_i hz
            cases ei
            rw [Bool.and_eq_true] at hz
            obtain ⟨p, vs, rfl, h1, r1⟩ := vb.lst S.sub
            have ra := va.rp S.sub
            exact op_notIn_seq pins s σ H _ _ v u Q I rx ry ⟨p, vs, rfl, .inl (.of h1), flat_rp ra hz.1, flat_rps r1 hz.2, by rw [if_pos rfl, inV_eq ra hz.1 r1 hz.2]; exact q⟩
          · cases ei
        · split at ei
          · cases ei
            have e1 := va.str
            have e2 := vb.str
            subst e1 e2
            refine op_notIn_sign pins s σ H _ _ v u Q I rx ry ⟨_, _, rfl, rfl, ?_⟩
            rw [in_tx]
            exact q
          · cases ei
        · split at ei
          · rename_i hz
            cases ei
            obtain ⟨p, kvs, rfl, h1, r1⟩ := vb.dic S.sub
            obtain ⟨key, rfl, kr⟩ := ky_of (va.rp S.sub) hz
            obtain ⟨i1, i2⟩ := look_rp r1 kr
            obtain rfl : u = Value.ref p := ry
            have e := look_is ⟨i1, i2⟩
            refine d_notIn (by have := ok.un; omega) I (DGet.k (k := key) h1) rx fun s' I' => ⟨.bl _, H, I', rfl, ?_⟩
            rw [e]
            exact q
          · cases ei
        · cases ei
    · cases ec
/-! ### a place -/
theorem plc_ix (k : Nat) (i : Int) : plc k i = ixN k i := rfl
theorem at_of {α : Type} {xs : List α} {i : Int} {k : Nat} {v : α} (h : ixN xs.length i = some k) (hv : xs[k]? = some v) : atI xs i = some v := by
  unfold atI
  rw [h]
  exact hv
theorem opR_ix (ok : Cok T X) : IxR X (Two T W (sees2 fun x y => (idxD x y).map .d)) := by
  intro value slice pins s σ H x y v u Q I rx ry h hs
  obtain ⟨σ', n, H0, ρ, ts, a, b, r, S, va, vb, ef, P⟩ := h.sees
  cases ei : idxD a b with
  | none => rw [ei] at ef; cases ef
  | some z =>
    rw [ei] at ef
    cases ef
    have P : ∀ H0' H', Wants T n σ' ts Q (.d z) ρ H0' H' := P
    have hK := ok.hK
    unfold idxD at ei
    split at ei
    · obtain ⟨k, hk, hx⟩ := Option.bind_eq_some_iff.mp ei
      obtain ⟨p, vs, rfl, h1, r1⟩ := va.tup
      have e2 := vb.int
      subst e2
      obtain ⟨w, hw, rw'⟩ := r1.get hx
      have hl := hk
      rw [plc_ix, ← r1.length] at hl
      have q : Q w H := Wants.data P rw' S
      have h2 := Same.sqT S.sub h1
      rw [← hK] at h2
      exact ix_tup value slice pins s σ H _ _ v u Q I rx ry ⟨p, vs, _, w, rfl, rfl, h2, at_of hl hw, q⟩ hs
    · obtain ⟨k, hk, hx⟩ := Option.bind_eq_some_iff.mp ei
      obtain ⟨p, vs, rfl, h1, r1⟩ := va.lst S.sub
      have e2 := vb.int
      subst e2
      obtain ⟨w, hw, rw'⟩ := r1.get hx
      have hl := hk
      rw [plc_ix, ← r1.length] at hl
      have q : Q w H := Wants.data P rw' S
      exact ix_list value slice pins s σ H _ _ v u Q I rx ry ⟨p, vs, _, w, rfl, rfl, .of h1, at_of hl hw, q⟩ hs
    · obtain ⟨i0, hb, e0⟩ := Option.map_eq_some_iff.mp ei
      obtain ⟨k, hk, hx⟩ := Option.bind_eq_some_iff.mp hb
      subst e0
      obtain ⟨p, rfl, h1⟩ := va.scr
      have e2 := vb.int
      subst e2
      rename_i xs i
      have q : Q (.int i0) H := Wants.data P (.int _) S
      have h2 := Same.sqL S.sub h1
      rw [← hK] at h2
      exact ix_list value slice pins s σ H _ _ v u Q I rx ry ⟨p, _, _, .int i0, rfl, rfl, h2, at_of (k := k) (by rw [List.length_map]; exact hk) (by rw [List.getElem?_map, hx]; rfl), q⟩ hs
    · split at ei
      · rename_i hz
        obtain ⟨c, hb, e0⟩ := Option.map_eq_some_iff.mp ei
        obtain ⟨k, hk, hx⟩ := Option.bind_eq_some_iff.mp hb
        subst e0
        have e1 := va.str
        have e2 := vb.int
        subst e1 e2
        have q : Q (.str ⟨[c].toArray⟩) H := Wants.data P (.str [c]) S
        exact ix_str value slice pins s σ H _ _ v u Q I rx ry ⟨_, _, c, rfl, rfl, by rw [str_len]; exact sz_of hz, by simpa using at_of hk hx, q⟩ hs
      · cases ei
    · split at ei
      · rename_i hz
        obtain ⟨p, kvs, rfl, h1, r1⟩ := va.dic S.sub
        obtain ⟨key, rfl, kr⟩ := ky_of (vb.rp S.sub) hz
        obtain ⟨w, hw, rr⟩ := (look_rp r1 kr).2 _ ei
        have q : Q w H := Wants.data P rr S
        obtain rfl : v = Value.ref p := rx
        have g : DGet H p (kV key) (some w) := by
          have z := DGet.k (k := key) h1
          rw [hw] at z
          exact z
        exact tail_any (ops := [.ref p, u]) (dict_typeIs I g) PySem.F.slot_dict_getitem.lookup (d_getItem (by have := ok.un; omega) I g ry fun w' s3 I3 rw' => ⟨w, H, I3, rw', q⟩) hs
      · cases ei
    · cases ei
end
end Mi
end
section
set_option maxHeartbeats 4000000
namespace Mi
open PySem PySem.Spec PyProof.Rows L2
section
variable {T : Tb} {W : WX} {X : Cx} {n : En} {σ : L2.St} {H0 H : Hp} {ρ : Env} {ts : List Tmp} {Q : VK}
theorem unR_neg : UnR X (unaryOp .USub) (One T W (sees1 negD)) := by
  intro pins s σ H x v Q I rx h
  obtain ⟨σ', n, H0, ρ, ts, a, r, S, va, ef, P⟩ := h.sees
  unfold negD at ef
  split at ef
  · cases ef
    have e1 := va.int
    subst e1
    exact un_neg pins s σ H _ v Q I rx ⟨_, rfl, Wants.data P (.int _) S⟩
  · cases ef
theorem pe_neg {a : Expr} {pos : Pos} {d : Env → Out Rs} (ha : PE X a (rd T W d)) : PE X (.UnaryOp .USub a pos) (rd T W fun e => (d e).bind fun ra e1 => sees1 negD ra e1) :=
  pe_imp (pe_un (unR_neg (T := T) (W := W)) ha) fun _ _ _ h => rd_seeOne h
/-! ### kinds -/
def kdN : Kd → String
  | .int => "int"
  | .bool => "bool"
  | .str => "str"
  | .list => "list"
  | .tuple => "tuple"
  | .dict => "dict"
def dN (x : D) : String := match kdOf x with
  | some k => kdN k
  | none => "NoneType"
theorem kit_kd (q k : Kd) : kitB (kdN q) (kdN k) = some (q == k || (k == .int && q == .bool)) := by
  cases q <;> cases k <;> decide +kernel
theorem kit_non (k : Kd) : kitB "NoneType" (kdN k) = some false := by
  cases k <;> decide +kernel
theorem kit_d {K : PySem.W.Frag} (x : D) (k : Kd) : PySem.W.kitOne K (.type (dN x)) (.type (kdN k)) = some (isKd k x) := by
  refine kit_ty ?_
  unfold dN isKd
  cases kdOf x with
  | none => exact kit_non k
  | some q => exact kit_kd q k
theorem kit_any {K : PySem.W.Frag} (x : D) : ∀ ks : List Kd, PySem.W.kitAny K (.type (dN x)) (ks.map fun k => .type (kdN k)) = some (ks.any fun k => isKd k x)
  | [] => kitAny_nil
  | k :: ks => by
    refine kitAny_cons (kit_d x k) (fun h => ?_) fun h => ?_
    · rw [kit_any x ks, List.any_cons, h, Bool.false_or]
    · rw [List.any_cons, h, Bool.true_or]
/-- the type of data -/
theorem Rv.ty {v : V} {x : D} (h : Rv T H0 H v x) (e : Same H0 H) (hi : ∀ c fs, x ≠ .ins c fs) (hs : ∀ ns, x ≠ .scr ns) : TyX T.K H v (.type (dN x)) := by
  cases x with
  | non => rw [h.non]; exact .base .non
  | bl b => rw [h.bl]; exact .base (.bl b)
  | int i => rw [h.int]; exact .base (.int i)
  | str s => rw [h.str]; exact .base (.str _)
  | tup xs =>
    obtain ⟨p, vs, rfl, h1, _⟩ := h.tup
    rcases Same.sqT e h1 with (a | ⟨o, a⟩) | ⟨o, its, k, a, b, _⟩
    · exact .base (.tup a)
    · exact .fTuple a
    · exact .kTuple a b
  | lst xs => obtain ⟨p, vs, rfl, h1, _⟩ := h.lst e; exact .base (.lst h1)
  | dic xs => obtain ⟨p, vs, rfl, h1, _⟩ := h.dic e; exact .base (.dK h1)
  | ins c fs => exact absurd rfl (hi c fs)
  | scr ns => exact absurd rfl (hs ns)
theorem isk_ok {ks : List Kd} {x : D} {r : Rs} (h : iskD ks x = some r) : r = blR (ks.any fun k => isKd k x) ∧ (∀ c fs, x ≠ .ins c fs) ∧ ∀ ns, x ≠ .scr ns := by
  unfold iskD at h
  split at h
  · cases h
  · cases h
  · rename_i h1 h2
    cases h
    exact ⟨rfl, h1, h2⟩
/-- isinstance(a, T) -/
theorem pe_isk1 (ok : Cok T X) {a : Expr} {pos p p2 : Pos} {d : Env → Out Rs} {k : Kd} {nm : Str} (hg : Gl X "isinstance") (hm : X.mg "isinstance" = none) (hg2 : Gl X nm) (hm2 : X.mg nm = none) (hv : bootBuiltins nm = some (.type (kdN k)))
    (hn : nm ≠ "__name__") (hd : (nm == ("__debug__" : Str)) = false) (hs : starEach [a, .Name nm p2] X.env = (false, eval a X.env) :: starEach [.Name nm p2] X.env)
    (ha : PE X a (rd T W d)) : PE X (.Call (.Name "isinstance" p) [a, .Name nm p2] [] pos) (rd T W fun e => (d e).bind fun ra e1 => sees1 (iskD [k]) ra e1) := by
  refine pe_imp (pe_callB call_isi hg hm (by decide +kernel) (pa_cons ha (pa_cons (pe_bltn (v := .ty (kdN k)) hg2 hm2 hv rfl hn hd) pa_nil) hs) (by decide) (by decide) hs) fun σ H Q h => ?_
  refine rd_mono (rd_seeOne h) fun x H1 q => ?_
  obtain ⟨σ', n, H0, ρ, ts, b, r, S, va, ef, P⟩ := q.sees
  obtain ⟨rfl, z1, z2⟩ := isk_ok ef
  have ty := va.ty S.sub z1 z2
  rw [← ok.hK] at ty
  refine ⟨x, .ty (kdN k), _, _, _, rfl, .ty _, ty, kit_d b k, ?_⟩
  have q : Q (.bl ([k].any fun k => isKd k b)) H1 := Wants.data P (.bl _) S
  simpa using q
end
end Mi
end
section
set_option maxHeartbeats 4000000
namespace Mi
open PySem PySem.Spec PyProof.Rows L2
section
variable {T : Tb} {W : WX} {X : Cx} {n : En} {σ : L2.St} {H0 H : Hp} {ρ : Env} {ts : List Tmp} {Q : VK}
/-- values and their data -/
def Rvs (T : Tb) (H0 H : Hp) : List V → List D → Prop
  | [], [] => True
  | v :: vs, x :: xs => Rv T H0 H v x ∧ Rvs T H0 H vs xs
  | _, _ => False
theorem rvs_of : ∀ {vs : List V} {xs : List D}, xs.length = vs.length → (∀ (i : Nat) (x : D) (v : V), xs[i]? = some x → vs[i]? = some v → Rv T H0 H v x) → Rvs T H0 H vs xs
  | [], [], _, _ => trivial
  | [], _ :: _, e, _ => by cases e
  | _ :: _, [], e, _ => by cases e
  | v :: vs, x :: xs, e, h => ⟨h 0 x v rfl rfl, rvs_of (by simpa using e) fun i y w hy hw => h (i + 1) y w (by simpa using hy) (by simpa using hw)⟩
theorem Rvs.one {vs : List V} {x : D} (h : Rvs T H0 H vs [x]) : ∃ v, vs = [v] ∧ Rv T H0 H v x := by
  cases vs with
  | nil => exact h.elim
  | cons v vs => cases vs with
    | nil => exact ⟨v, rfl, h.1⟩
    | cons w vs => exact h.2.elim
theorem Rvs.two {vs : List V} {x y : D} (h : Rvs T H0 H vs [x, y]) : ∃ v w, vs = [v, w] ∧ Rv T H0 H v x ∧ Rv T H0 H w y := by
  cases vs with
  | nil => exact h.elim
  | cons v vs =>
    obtain ⟨w, rfl, hw⟩ := Rvs.one h.2
    exact ⟨v, w, rfl, h.1, hw⟩
theorem Many.sees {b : Blt} {xs : List V} (h : Many T W (bltS b) xs H Q) : ∃ σ n H0 ρ ts as r, ST T n H0 H σ ρ ts ∧ Rvs T H0 H xs as ∧ bltD b as = some r ∧ ∀ H0' H', Wants T n σ ts Q r ρ H0' H' := by
  obtain ⟨σ, n, H0, ρ, ts, rs, hl, S, P⟩ := h
  unfold bltS at P
  cases ea : Mi.sees ρ rs with
  | none => rw [ea] at P; exact P.elim
  | some as =>
    rw [ea] at P
    have P : Post T W n σ ts (Out.of ρ (bltD b as)) (Wants T n σ ts Q) := P
    cases ef : bltD b as with
    | none => rw [ef] at P; exact P.elim
    | some r =>
      rw [ef] at P
      obtain ⟨l, k⟩ := S.seesR hl ea
      exact ⟨σ, n, H0, ρ, ts, as, r, S.dropA, rvs_of l k, ef, P⟩
theorem ints_rp : ∀ {vs : List V} {xs : List D} {ns : List Int}, Rps T H vs xs → intsOf xs = some ns → vs = ns.map V.int
  | _, _, _, .nil, h => by cases h; rfl
  | _, _, ns, .cons (x := x) a r, h => by
    cases x with
    | int i =>
      cases a
      unfold intsOf at h
      split at h
      · rename_i l hl
        cases h
        rw [ints_rp r hl]
        rfl
      · cases h
    | _ => cases h
theorem bls_rp : ∀ {vs : List V} {xs : List D} {ns : List Bool}, Rps T H vs xs → blsOf xs = some ns → vs = ns.map V.bl
  | _, _, _, .nil, h => by cases h; rfl
  | _, _, ns, .cons (x := x) a r, h => by
    cases x with
    | bl i =>
      cases a
      unfold blsOf at h
      split at h
      · rename_i l hl
        cases h
        rw [bls_rp r hl]
        rfl
      · cases h
    | _ => cases h
theorem strs_rp : ∀ {vs : List V} {xs : List D} {ns : List Tx}, Rps T H vs xs → strsOf xs = some ns → vs = (ns.map fun s => (⟨s.toArray⟩ : Str)).map V.str
  | _, _, _, .nil, h => by cases h; rfl
  | _, _, ns, .cons (x := x) a r, h => by
    cases x with
    | str i =>
      cases a
      unfold strsOf at h
      split at h
      · rename_i l hl
        cases h
        rw [strs_rp r hl]
        rfl
      · cases h
    | _ => cases h
theorem foldl_max (l : List Int) : ∀ i : Int, i ≤ l.foldl max i ∧ (∀ y ∈ l, y ≤ l.foldl max i) ∧ (l.foldl max i = i ∨ l.foldl max i ∈ l) := by
  induction l with
  | nil => exact fun i => ⟨Int.le_refl _, fun y h => by simp at h, .inl rfl⟩
  | cons a l ih =>
    intro i
    obtain ⟨h1, h2, h3⟩ := ih (max i a)
    refine ⟨by show i ≤ l.foldl max (max i a); omega, fun y hy => ?_, ?_⟩
    · rcases List.mem_cons.mp hy with rfl | hy
      · show y ≤ l.foldl max (max i y); omega
      · exact h2 y hy
    · show l.foldl max (max i a) = i ∨ l.foldl max (max i a) ∈ a :: l
      rcases h3 with h3 | h3
      · rw [h3]
        by_cases z : i ≤ a
        · right; rw [Int.max_eq_right z]; exact List.mem_cons_self ..
        · left; exact Int.max_eq_left (by omega)
      · exact .inr (List.mem_cons_of_mem _ h3)
theorem foldl_min (l : List Int) : ∀ i : Int, l.foldl min i ≤ i ∧ (∀ y ∈ l, l.foldl min i ≤ y) ∧ (l.foldl min i = i ∨ l.foldl min i ∈ l) := by
  induction l with
  | nil => exact fun i => ⟨Int.le_refl _, fun y h => by simp at h, .inl rfl⟩
  | cons a l ih =>
    intro i
    obtain ⟨h1, h2, h3⟩ := ih (min i a)
    refine ⟨by show l.foldl min (min i a) ≤ i; omega, fun y hy => ?_, ?_⟩
    · rcases List.mem_cons.mp hy with rfl | hy
      · show l.foldl min (min i y) ≤ y; omega
      · exact h2 y hy
    · show l.foldl min (min i a) = i ∨ l.foldl min (min i a) ∈ a :: l
      rcases h3 with h3 | h3
      · rw [h3]
        by_cases z : i ≤ a
        · left; exact Int.min_eq_left z
        · right; rw [Int.min_eq_right (by omega)]; exact List.mem_cons_self ..
      · exact .inr (List.mem_cons_of_mem _ h3)
theorem max_is {l : List Int} {m m' : Int} (h : maxI l = some m) (h1 : m' ∈ l) (h2 : ∀ y, y ∈ l → y ≤ m') : m' = m := by
  cases l with
  | nil => cases h
  | cons i l =>
    cases h
    obtain ⟨a, b, c⟩ := foldl_max l i
    have x : l.foldl max i ≤ m' := by
      rcases c with c | c
      · rw [c]; exact h2 i (List.mem_cons_self ..)
      · exact h2 _ (List.mem_cons_of_mem _ c)
    rcases List.mem_cons.mp h1 with rfl | z
    · omega
    · have := b m' z; omega
theorem min_is {l : List Int} {m m' : Int} (h : minI l = some m) (h1 : m' ∈ l) (h2 : ∀ y, y ∈ l → m' ≤ y) : m' = m := by
  cases l with
  | nil => cases h
  | cons i l =>
    cases h
    obtain ⟨a, b, c⟩ := foldl_min l i
    have x : m' ≤ l.foldl min i := by
      rcases c with c | c
      · rw [c]; exact h2 i (List.mem_cons_self ..)
      · exact h2 _ (List.mem_cons_of_mem _ c)
    rcases List.mem_cons.mp h1 with rfl | z
    · omega
    · have := b m' z; omega
theorem max_pos {l : List Int} {m : Int} (h : maxI l = some m) : 0 < l.length := by
  cases l with
  | nil => cases h
  | cons => simp
theorem min_pos {l : List Int} {m : Int} (h : minI l = some m) : 0 < l.length := by
  cases l with
  | nil => cases h
  | cons => simp
/-- a new tuple of what stands still -/
theorem Wants.newTup {vs : List V} {xs : List D} {p : Addr} (h : ∀ H0' H', Wants T n σ ts Q (.d (.tup xs)) ρ H0' H') (S : ST T n H0 H σ ρ ts) (hp : H p = none) (r : Rps T H0 vs xs) : Q (.ref p) (upd H p (.tup vs)) := by
  refine h (upd H0 p (.tup vs)) _ _ (ST.addD ((S.grow (Same.new hp)).still upd_same (S.still_free hp) (S.entry_free hp) (fun i ho => ?_) (fun ht => ?_)) ?_)
  · obtain ⟨w, hw, _⟩ := S.own_there ho
    rw [hp] at hw
    cases hw
  · obtain ⟨w, hw, _⟩ := S.tmp_there ht
    rw [hp] at hw
    cases hw
  · exact .tup (.inl (.inl upd_same)) (r.mono (Same.new (S.still_free hp)))
theorem rpk_len : ∀ {vs : List (Key × V)} {xs : List (D × D)}, RpK T H vs xs → vs.length = xs.length
  | _, _, .nil => rfl
  | _, _, .cons _ _ r => by simp [rpk_len r]
theorem noPy {i j : Int} (h : divOk j = true) : CDivP i j := by
  unfold divOk at h
  rw [Bool.and_eq_true] at h
  exact ⟨of_decide_eq_true h.1, PyProof.noPylong_of_log2 (of_decide_eq_true h.2)⟩
/-- what the name of a built-in stands for -/
def bltV : Blt → Value
  | .len => .builtin "len"
  | .abs => .builtin "abs"
  | .max2 => .builtin "max"
  | .min2 => .builtin "min"
  | .divmod => .builtin "divmod"
  | .list => .type "list"
  | .tuple => .type "tuple"
  | .str => .type "str"
  | .int => .type "int"
  | .all => .builtin "all"
  | .any => .builtin "any"
  | .sum => .builtin "sum"
  | .maxl => .builtin "max"
  | .minl => .builtin "min"
  | .repr => .builtin "repr"
  | .sorted => .builtin "sorted"
/-! ### repr -/
def strO (t : Tx) : Str := ⟨t.toArray⟩
theorem strO_app (a b : Tx) : strO (a ++ b) = strO a ++ strO b := by
  show (⟨(a ++ b).toArray⟩ : Str) = ⟨a.toArray ++ b.toArray⟩
  simp
theorem printable_plain : ∀ c : Nat, c < 127 → 32 ≤ c → Unicode.isPrintable c = true := by decide +kernel
theorem char_plain {c : Nat} (h1 : 32 ≤ c) (h2 : c < 127) (h3 : c ≠ 39) (h4 : c ≠ 92) : Builtin.Str.reprChar 39 c = [c] := by
  have e3 : (c == 39) = false := by simpa using h3
  have e4 : (c == 92) = false := by simpa using h4
  have e5 : (c == 10) = false := by simp; omega
  have e6 : (c == 13) = false := by simp; omega
  have e7 : (c == 9) = false := by simp; omega
  unfold Builtin.Str.reprChar
  simp only [e3, e4, e5, e6, e7, printable_plain c h2 h1, Bool.or_self, Bool.false_eq_true, if_false, if_true]
theorem plainT_get {s : Tx} (h : plainT s = true) : ∀ c ∈ s, 32 ≤ c ∧ c < 127 ∧ c ≠ 39 ∧ c ≠ 92 := fun c hc => by
  have := List.all_eq_true.mp h c hc
  simp only [Bool.and_eq_true, decide_eq_true_eq, bne_iff_ne] at this
  exact ⟨this.1.1.1, this.1.1.2, this.1.2, this.2⟩
theorem fold_plain : ∀ (s : Tx) (acc : Array Nat), (∀ c ∈ s, 32 ≤ c ∧ c < 127 ∧ c ≠ 39 ∧ c ≠ 92) → s.foldl (fun out c => out ++ (Builtin.Str.reprChar 39 c).toArray) acc = acc ++ s.toArray
  | [], acc, _ => by simp
  | c :: s, acc, h => by
    obtain ⟨h1, h2, h3, h4⟩ := h c (List.mem_cons_self ..)
    rw [List.foldl_cons, char_plain h1 h2 h3 h4, fold_plain s _ fun d hd => h d (List.mem_cons_of_mem _ hd)]
    apply Array.ext'
    simp
theorem reprText_plain {s t : Tx} (h : reprS s = some t) : reprText (strO s) = strO t := by
  unfold reprS at h
  split at h
  · rename_i hp
    cases h
    have hg := plainT_get hp
    have hq : reprQuote (strO s) = 39 := by
      unfold reprQuote
      have e : (strO s).cps.contains 39 = false := by
        show s.toArray.contains 39 = false
        simp only [List.contains_toArray, List.contains_eq_mem, decide_eq_false_iff_not]
        exact fun z => (hg 39 z).2.2.1 rfl
      rw [e]
      rfl
    unfold reprText
    rw [hq]
    have e : (strO s).cps.foldl (fun out c => out ++ (Builtin.Str.reprChar 39 c).toArray) #[39] = s.foldl (fun out c => out ++ (Builtin.Str.reprChar 39 c).toArray) #[39] := by
      show s.toArray.foldl _ _ = _
      simp
    rw [e, fold_plain s _ hg]
    show (⟨_⟩ : Str) = ⟨_⟩
    congr 1
    apply Array.ext'
    simp
  · cases h
theorem sep_flat (sep : Tx) : ∀ (x : Tx) (l : List Tx), sepT sep (x :: l) = x ++ (l.map (sep ++ ·)).flatten
  | x, [] => by simp [sepT]
  | x, y :: l => by
    show x ++ sep ++ sepT sep (y :: l) = _
    rw [sep_flat sep y l]
    simp
theorem textFrom_succ : ∀ (ts : List Tx) (k : Nat) (a : Tx), textFrom (k + 1) (strO a) (ts.map strO) = strO (a ++ (ts.map ([44, 32] ++ ·)).flatten)
  | [], k, a => by simp [textFrom]
  | t :: ts, k, a => by
    rw [List.map_cons]
    unfold textFrom
    have e : (strO a ++ (if k + 1 > 0 then ", " else "" : String) ++ strO t : Str) = strO (a ++ [44, 32] ++ t) := by
      rw [if_pos (by omega), strO_app, strO_app]
      rfl
    rw [e, textFrom_succ ts (k + 1)]
    simp
theorem listText_str : ∀ ts : List Tx, listText (ts.map strO) = strO (lstT ts)
  | [] => by
    unfold listText lstT
    rfl
  | t :: ts => by
    unfold listText lstT
    rw [List.map_cons]
    unfold textFrom
    have e : (("[" : Str) ++ (if 0 > 0 then ", " else "" : String) ++ strO t : Str) = strO (91 :: t) := by
      rw [if_neg (by omega), show (91 :: t : Tx) = [91] ++ [] ++ t from rfl, strO_app, strO_app]
      rfl
    rw [e, textFrom_succ ts 0, sep_flat]
    have e2 : (91 :: t ++ (ts.map ([44, 32] ++ ·)).flatten : Tx) ++ [93] = 91 :: (t ++ (ts.map ([44, 32] ++ ·)).flatten) ++ [93] := by simp
    rw [← e2, strO_app (91 :: t ++ (ts.map ([44, 32] ++ ·)).flatten) [93]]
    rfl
theorem join_str : ∀ ts : List Tx, Str.join ", " (ts.map strO) = strO (sepT [44, 32] ts)
  | [] => rfl
  | [t] => rfl
  | t :: u :: ts => by
    have ih := join_str (u :: ts)
    show strO t ++ ", " ++ Str.join ", " ((u :: ts).map strO) = strO (t ++ [44, 32] ++ sepT [44, 32] (u :: ts))
    rw [ih, strO_app, strO_app]
    rfl
theorem tupleText_str (ts : List Tx) : tupleText (ts.map strO) = strO (tupT ts) := by
  unfold tupleText tupT
  rw [join_str, List.length_map]
  by_cases h : (ts.length == 1) = true
  · rw [if_pos h, if_pos h, show (40 :: sepT [44, 32] ts ++ [44, 41] : Tx) = [40] ++ sepT [44, 32] ts ++ [44, 41] from rfl, strO_app, strO_app]
    rfl
  · rw [if_neg h, if_neg h, show (40 :: sepT [44, 32] ts ++ [41] : Tx) = [40] ++ sepT [44, 32] ts ++ [41] from rfl, strO_app, strO_app]
    rfl
mutual
theorem shown_repr : ∀ {x : D} {t : Tx}, reprD x = some t → (pyD x).shown = strO t ∧ (pyD x).showable = true
  | .non, t, h => by
    simp only [reprD, Option.some.injEq] at h
    subst h
    exact ⟨by simp only [pyD, PyData.shown]; rfl, rfl⟩
  | .bl true, t, h => by
    simp only [reprD, Option.some.injEq] at h
    subst h
    exact ⟨by simp only [pyD, PyData.shown]; rfl, rfl⟩
  | .bl false, t, h => by
    simp only [reprD, Option.some.injEq] at h
    subst h
    exact ⟨by simp only [pyD, PyData.shown]; rfl, rfl⟩
  | .int i, t, h => by
    simp only [reprD] at h
    split at h
    · rename_i hz
      cases h
      refine ⟨?_, ?_⟩
      · simp only [pyD, PyData.shown]
        show Str.ofString (toString i) = _
        rw [Str.ofString_eq_toList]
        rfl
      · simp only [pyD, PyData.showable]
        exact hz
    · cases h
  | .str s, t, h => by
    simp only [reprD] at h
    exact ⟨by simp only [pyD, PyData.shown]; exact reprText_plain h, rfl⟩
  | .tup xs, t, h => by
    simp only [reprD] at h
    cases e : reprDs xs with
    | none => rw [e] at h; cases h
    | some ts =>
      rw [e] at h
      cases h
      obtain ⟨a, b⟩ := shown_reprs e
      exact ⟨by simp only [pyD, PyData.shown]; rw [a]; exact tupleText_str ts, by simpa [pyD, PyData.showable] using b⟩
  | .lst xs, t, h => by
    simp only [reprD] at h
    cases e : reprDs xs with
    | none => rw [e] at h; cases h
    | some ts =>
      rw [e] at h
      cases h
      obtain ⟨a, b⟩ := shown_reprs e
      exact ⟨by simp only [pyD, PyData.shown]; rw [a]; exact listText_str ts, by simpa [pyD, PyData.showable] using b⟩
  | .dic [], t, h => by
    simp only [reprD, List.isEmpty_nil, if_true, Option.some.injEq] at h
    subst h
    exact ⟨by simp only [pyD, PyData.shown, PyData.shownKv]; rfl, by simp only [pyD, PyData.showable, PyData.showableKv]⟩
  | .dic (_ :: _), t, h => by simp [reprD] at h
  | .ins _ _, t, h => by simp [reprD] at h
  | .scr _, t, h => by simp [reprD] at h
theorem shown_reprs : ∀ {xs : List D} {ts : List Tx}, reprDs xs = some ts → PyData.shownAll (pyDs xs) = ts.map strO ∧ PyData.showableAll (pyDs xs) = true
  | [], ts, h => by
    simp only [reprDs, Option.some.injEq] at h
    subst h
    exact ⟨by simp only [pyDs, PyData.shownAll, List.map_nil], by simp only [pyDs, PyData.showableAll]⟩
  | x :: xs, ts, h => by
    simp only [reprDs] at h
    cases e : reprD x with
    | none => rw [e] at h; cases h
    | some t =>
      rw [e] at h
      simp only at h
      cases e2 : reprDs xs with
      | none => rw [e2] at h; cases h
      | some us =>
        rw [e2] at h
        cases h
        obtain ⟨a, b⟩ := shown_repr e
        obtain ⟨c, d⟩ := shown_reprs e2
        exact ⟨by simp only [pyDs, PyData.shownAll, List.map_cons]; rw [a, c], by simp [pyDs, PyData.showableAll, b, d]⟩
end
theorem thin_readss {T : Tb} {pins : List (Addr × Obj)} {s : Shared} {n : Nat} (one : ∀ {x : D} {v : V} {u : Value}, thinD n x = true → Rp T H v x → RelV v u → ∃ as, Reads s.heap u (pyD x) as ∧ sysModules ∉ as ∧ (pyD x).depth ≤ n) :
    ∀ (xs : List D) (vs : List V) (us : List Value), thinDs n xs = true → Rps T H vs xs → Vals vs us → ∃ as, ReadsAll s.heap us (pyDs xs) as ∧ sysModules ∉ as ∧ PyData.depthAll (pyDs xs) ≤ n
  | [], _, _, _, r, rv => by
    cases r
    cases rv
    exact ⟨[], ReadsAll.nil, by simp, by simp [pyDs, PyData.depthAll]⟩
  | x :: xs, _, _, h, r, rv => by
    cases r with
    | cons a b =>
      cases rv with
      | cons r1 r2 =>
        have h : (thinD n x && thinDs n xs) = true := by simpa [thinDs] using h
        rw [Bool.and_eq_true] at h
        obtain ⟨as, q1, q2, q3⟩ := one h.1 a r1
        obtain ⟨bs, p1, p2, p3⟩ := thin_readss (pins := pins) one xs _ _ h.2 b r2
        refine ⟨as ++ bs, ReadsAll.cons q1 p1, ?_, ?_⟩
        · intro hm
          rcases List.mem_append.mp hm with hm | hm
          · exact q2 hm
          · exact p2 hm
        · simp only [pyDs, PyData.depthAll]
          omega
theorem thin_reads {T : Tb} {X : L2.Cx} {pins : List (Addr × Obj)} {σ : L2.St} {H : Hp} {s : Shared} (I : Inv X pins σ H s) (hK : X.K = T.K) : ∀ (n : Nat) {x : D} {v : V} {u : Value}, thinD n x = true → Rp T H v x → RelV v u → ∃ as, Reads s.heap u (pyD x) as ∧ sysModules ∉ as ∧ (pyD x).depth ≤ n := by
  intro n
  induction n with
  | zero =>
    intro x v u h r rv
    cases r with
    | non => cases rv; exact ⟨[], Reads.none, by simp, Nat.zero_le _⟩
    | bl b => cases rv; exact ⟨[], Reads.bool b, by simp, Nat.zero_le _⟩
    | int i => obtain ⟨t, rfl⟩ := rv; exact ⟨[], Reads.int i t, by simp, Nat.zero_le _⟩
    | str y => obtain ⟨t, rfl⟩ := rv; exact ⟨[], Reads.str _ t, by simp, Nat.zero_le _⟩
    | tup a b => simp [thinD] at h
    | lst a b => simp [thinD] at h
    | dic a b => simp [thinD] at h
    | ins a b => simp [thinD] at h
    | scr a => simp [thinD] at h
  | succ n ih =>
    intro x v u h r rv
    cases r with
    | non => cases rv; exact ⟨[], Reads.none, by simp, Nat.zero_le _⟩
    | bl b => cases rv; exact ⟨[], Reads.bool b, by simp, Nat.zero_le _⟩
    | int i => obtain ⟨t, rfl⟩ := rv; exact ⟨[], Reads.int i t, by simp, Nat.zero_le _⟩
    | str y => obtain ⟨t, rfl⟩ := rv; exact ⟨[], Reads.str _ t, by simp, Nat.zero_le _⟩
    | tup a b =>
      cases rv
      rw [← hK] at a
      obtain ⟨its, rvs, ⟨o, ho, hc, m, hd⟩, _⟩ := I.tuple a
      obtain ⟨as, hr, hn, hp⟩ := thin_readss (pins := pins) ih _ _ _ (by simpa [thinD] using h) b rvs
      exact ⟨as, Reads.tuple ho hc hd hr, hn, by simpa [pyD, PyData.depth] using hp⟩
    | lst a b => simp [thinD] at h
    | dic a b =>
      cases b with
      | cons _ _ _ => simp [thinD] at h
      | nil =>
        cases rv
        obtain ⟨_, hsys, vs, kv, o, es, ep, ho, hx, hd, hk, hp, _⟩ := I.hok _ _ a
        cases kv
        have he : es.toList = [] := by
          have := hp
          generalize es.toList = l at this
          cases this
          rfl
        refine ⟨_, Reads.dict (as := []) (bs := []) (kvs := []) ho hx.1 hd (by rw [he]; exact ReadsAll.nil) (by rw [he]; exact ReadsAll.nil), ?_, ?_⟩
        · simp only [List.append_nil, List.mem_singleton]
          exact fun z => by rw [← z] at hsys; simp at hsys
        · simp [pyD, PyData.depth, PyData.depthKv]
    | ins a b => simp [thinD] at h
    | scr a => simp [thinD] at h
theorem call_reprX {T : Tb} (hK : X.K = T.K) (gd : X.A.guards = some []) (un : X.A.units + 64 < cLine) {pins : List (Addr × Obj)} {s : Shared} {v : V} {u : Value} {x : D} {t : Tx} (I : Inv X pins σ H s) (rv : RelV v u) (rp : Rp T H v x) (hx : rokD x = true) (ht : reprX x = some t)
    (q : Q (.str ⟨t.toArray⟩) H) : wpAny (model X.prog X.w) X.A (call (.builtin "repr") [u]) (EP X pins σ Q) X.xe s := by
  unfold reprX at ht
  cases e : reprD x with
  | none => rw [e] at ht; cases ht
  | some t' =>
    rw [e] at ht
    have ht : (if szOk t'.length then some t' else none) = some t := ht
    split at ht
    · rename_i hz
      cases ht
      obtain ⟨sh, sb⟩ := shown_repr e
      have len : (strO t).length ≤ sizeLine := by rw [show (strO t).length = t.length from str_len _]; exact sz_of hz
      obtain ⟨as, rd, hnd, dep⟩ : ∃ as, Reads s.heap u (pyD x) as ∧ ((pyD x).hasDict = true → sysModules ∉ as) ∧ (pyD x).depth ≤ 40 := by
        unfold rokD at hx
        rw [Bool.or_eq_true] at hx
        rcases hx with hx | hx
        · obtain ⟨can, dep⟩ := plain_can hx
          have dp := plain_dp hx rp
          rw [← hK] at dp
          obtain ⟨as, rd⟩ := Dp.reads I (pyD x) v u dp rv
          exact ⟨as, rd, PyData.noDict_hsm (PyData.hasDict_of_canLay _ can), dep⟩
        · obtain ⟨as, rd, ns, dep⟩ := thin_reads I hK _ hx rp rv
          exact ⟨as, rd, fun _ => ns, dep⟩
      have fin : ∀ h' u' tk, (∀ b o, s.heap.get? b = some o → h'.get? b = some o) → EP X pins σ Q (.str (pyD x).shown u') { s with heap := h', toks := tk } := fun h' u' tk kp => by
        rw [sh]
        exact ⟨.str (strO t), H, I.kept kp, ⟨_, rfl⟩, q⟩
      have fin' : ∀ u' tk, EP X pins σ Q (.str (pyD x).shown u') { s with toks := tk } := fun u' tk => fin s.heap u' tk fun _ _ z => z
      have len' : (pyD x).shown.length ≤ sizeLine := by rw [sh]; exact len
      generalize hgd : pyD x = pd at rd sb fin fin' len' hnd dep sh
      cases rd with
      | none => exact PySem.P.repr_of_none (fin' _ _)
      | bool b => exact PySem.P.repr_of_bool (fin' _ _)
      | int i t => exact PySem.P.repr_of_int (by simpa [PyData.showable] using sb) (fin' _ _)
      | str y t => exact PySem.P.repr_of_str (fin' _ _) len'
      | list h1 h2 h3 h4 => exact repr_of_reads' (.list h1 h2 h3 h4) sb hnd gd (by omega) (fun _ _ z => z) fin len'
      | tuple h1 h2 h3 h4 => exact repr_of_reads' (.tuple h1 h2 h3 h4) sb hnd gd (by omega) (fun _ _ z => z) fin len'
      | dict h1 h2 h3 h4 h5 => exact repr_of_reads' (.dict h1 h2 h3 h4 h5) sb hnd gd (by omega) (fun _ _ z => z) fin len'
    · cases ht
/-! ### sorted -/
theorem rps_ints : ∀ l : List Int, Rps T H (l.map V.int) (l.map D.int)
  | [] => .nil
  | i :: l => .cons (.int i) (rps_ints l)
theorem insI_perm (x : Int) : ∀ l : List Int, (insI x l).Perm (x :: l)
  | [] => .refl _
  | y :: l => by
    unfold insI
    split
    · exact .refl _
    · exact ((insI_perm x l).cons y).trans (.swap x y l)
theorem sortI_perm : ∀ l : List Int, (sortI l).Perm l
  | [] => .refl _
  | x :: l => (insI_perm x (sortI l)).trans ((sortI_perm l).cons x)
theorem insI_sorted (x : Int) : ∀ l : List Int, l.Pairwise (· ≤ ·) → (insI x l).Pairwise (· ≤ ·)
  | [], _ => List.pairwise_singleton ..
  | y :: l, h => by
    obtain ⟨h1, h2⟩ := List.pairwise_cons.mp h
    unfold insI
    split
    · rename_i c
      refine List.pairwise_cons.mpr ⟨fun z hz => ?_, h⟩
      rcases List.mem_cons.mp hz with rfl | hz
      · exact c
      · exact Int.le_trans c (h1 z hz)
    · refine List.pairwise_cons.mpr ⟨fun z hz => ?_, insI_sorted x l h2⟩
      rcases List.mem_cons.mp ((insI_perm x l).mem_iff.mp hz) with rfl | hz
      · omega
      · exact h1 z hz
theorem sortI_sorted : ∀ l : List Int, (sortI l).Pairwise (· ≤ ·)
  | [] => .nil
  | x :: l => insI_sorted x _ (sortI_sorted l)
theorem sorted_one : ∀ {a b : List Int}, a.Perm b → a.Pairwise (· ≤ ·) → b.Pairwise (· ≤ ·) → a = b
  | [], b, p, _, _ => (List.nil_perm.mp p).symm
  | x :: a, [], p, _, _ => nomatch (List.perm_nil.mp p)
  | x :: a, y :: b, p, ha, hb => by
    obtain ⟨a1, a2⟩ := List.pairwise_cons.mp ha
    obtain ⟨b1, b2⟩ := List.pairwise_cons.mp hb
    have e : x = y := by
      have m1 : x ∈ y :: b := p.mem_iff.mp (List.mem_cons_self ..)
      have m2 : y ∈ x :: a := p.mem_iff.mpr (List.mem_cons_self ..)
      rcases List.mem_cons.mp m1 with e | m1
      · exact e
      · rcases List.mem_cons.mp m2 with e | m2
        · exact e.symm
        · exact Int.le_antisymm (a1 y m2) (b1 x m1)
    subst e
    rw [sorted_one p.cons_inv a2 b2]
theorem callR_blt (ok : Cok T X) (b : Blt) : CallR X (bltV b) (Many T W (bltS b)) := by
  intro pins s σ H xs us Q I rs h
  obtain ⟨σ', n, H0, ρ, ts, as, r, S, va, ef, P⟩ := h.sees
  have hK := ok.hK
  unfold bltD at ef
  split at ef
  · cases ef
    obtain ⟨v, rfl, h1⟩ := va.one
    obtain ⟨p, vs, rfl, h2, r2⟩ := h1.tup
    rw [← hK] at h2
    exact call_len_seq pins s σ H _ us Q I rs ⟨p, vs, rfl, .inr (Same.sqT S.sub h2), by rw [r2.length]; exact Wants.data P (.int _) S⟩
  · cases ef
    obtain ⟨v, rfl, h1⟩ := va.one
    obtain ⟨p, vs, rfl, h2, r2⟩ := h1.lst S.sub
    exact call_len_seq pins s σ H _ us Q I rs ⟨p, vs, rfl, .inl (.of h2), by rw [r2.length]; exact Wants.data P (.int _) S⟩
  · cases ef
    obtain ⟨v, rfl, h1⟩ := va.one
    obtain ⟨p, rfl, h2⟩ := h1.scr
    rw [← hK] at h2
    exact call_len_seq pins s σ H _ us Q I rs ⟨p, _, rfl, .inl (Same.sqL S.sub h2), by rw [List.length_map]; exact Wants.data P (.int _) S⟩
  · split at ef
    · rename_i hz
      cases ef
      obtain ⟨v, rfl, h1⟩ := va.one
      have e1 := h1.str
      subst e1
      exact call_len_str pins s σ H _ us Q I rs ⟨_, rfl, by rw [str_len]; exact sz_of hz, by rw [str_len]; exact Wants.data P (.int _) S⟩
    · cases ef
  · cases ef
    obtain ⟨v, rfl, h1⟩ := va.one
    obtain ⟨p, vs, rfl, h2, r2⟩ := h1.dic S.sub
    exact call_lenD pins s σ H _ us Q I rs ⟨p, vs, rfl, h2, by rw [rpk_len r2]; exact Wants.data P (.int _) S⟩
  · cases ef
    obtain ⟨v, rfl, h1⟩ := va.one
    have e1 := h1.int
    subst e1
    exact call_abs pins s σ H _ us Q I rs ⟨_, rfl, Wants.data P (.int _) S⟩
  · cases ef
    obtain ⟨v, w, rfl, h1, h2⟩ := va.two
    have e1 := h1.int
    have e2 := h2.int
    subst e1 e2
    exact call_max2 ok.calm pins s σ H _ us Q I rs ⟨_, _, rfl, Wants.data P (.int _) S⟩
  · cases ef
    obtain ⟨v, w, rfl, h1, h2⟩ := va.two
    have e1 := h1.int
    have e2 := h2.int
    subst e1 e2
    exact call_min2 ok.calm pins s σ H _ us Q I rs ⟨_, _, rfl, Wants.data P (.int _) S⟩
  · split at ef
    · rename_i hz
      cases ef
      obtain ⟨v, w, rfl, h1, h2⟩ := va.two
      have e1 := h1.int
      have e2 := h2.int
      subst e1 e2
      exact call_divmodW pins s σ H _ us Q I rs ⟨_, _, rfl, noPy hz, fun p hp => Wants.newTup P S hp (.cons (.int _) (.cons (.int _) .nil))⟩
    · cases ef
  · cases ef
    obtain ⟨v, rfl, h1⟩ := va.one
    obtain ⟨p, vs, rfl, h2, r2⟩ := h1.tup
    rw [← hK] at h2
    exact call_list_of pins s σ H _ us Q I rs ⟨p, vs, rfl, .inr (Same.sqT S.sub h2), fun l hl => Wants.fresh P S (Same.new hl) hl ⟨vs, upd_same, r2⟩⟩
  · cases ef
    obtain ⟨v, rfl, h1⟩ := va.one
    obtain ⟨p, vs, rfl, h2, r2⟩ := h1.lst S.sub
    exact call_list_of pins s σ H _ us Q I rs ⟨p, vs, rfl, .inl (.of h2), fun l hl => Wants.fresh P S (Same.new hl) hl ⟨vs, upd_same, r2⟩⟩
  · cases ef
    obtain ⟨v, rfl, h1⟩ := va.one
    obtain ⟨p, vs, rfl, h2, r2⟩ := h1.tup
    have h3 := h2
    rw [← hK] at h3
    exact call_tuple_of pins s σ H _ us Q I rs ⟨p, vs, rfl, .inr ⟨Same.sqT S.sub h3, Wants.data P (.tup h2 r2) S⟩⟩
  · cases ef
    obtain ⟨v, rfl, h1⟩ := va.one
    obtain ⟨p, vs, rfl, h2, r2⟩ := h1.lst S.sub
    exact call_tuple_of pins s σ H _ us Q I rs ⟨p, vs, rfl, .inl ⟨.of h2, fun l hl => Wants.newTup P S hl r2⟩⟩
  · split at ef
    · rename_i hz
      cases ef
      obtain ⟨v, rfl, h1⟩ := va.one
      have e1 := h1.int
      subst e1
      refine call_str_int pins s σ H _ us Q I rs ⟨_, rfl, of_decide_eq_true hz, ?_⟩
      rw [Str.ofString_eq_toList]
      exact Wants.data P (.str _) S
    · cases ef
  · cases ef
    obtain ⟨v, rfl, h1⟩ := va.one
    have e1 := h1.str
    subst e1
    exact SkE.call_str_str pins s σ H _ us Q I rs ⟨_, rfl, Wants.data P (.str _) S⟩
  · cases ef
    obtain ⟨v, rfl, h1⟩ := va.one
    have e1 := h1.int
    subst e1
    exact call_int1 pins s σ H _ us Q I rs (.inl ⟨_, rfl, Wants.data P (.int _) S⟩)
  · cases ef
    obtain ⟨v, rfl, h1⟩ := va.one
    have e1 := h1.bl
    subst e1
    exact call_int1 pins s σ H _ us Q I rs (.inr ⟨_, rfl, Wants.data P (.int _) S⟩)
  · split at ef
    · rename_i l hz
      cases ef
      obtain ⟨v, rfl, h1⟩ := va.one
      obtain ⟨p, vs, rfl, h2, r2⟩ := h1.lst S.sub
      rw [bls_rp r2 hz] at h2
      exact cr_all ok.calm pins s σ H _ us Q I rs ⟨p, l, rfl, .of h2, Wants.data P (.bl _) S⟩
    · cases ef
  · split at ef
    · rename_i l hz
      cases ef
      obtain ⟨v, rfl, h1⟩ := va.one
      obtain ⟨p, vs, rfl, h2, r2⟩ := h1.lst S.sub
      rw [bls_rp r2 hz] at h2
      exact cr_any ok.calm pins s σ H _ us Q I rs ⟨p, l, rfl, .of h2, Wants.data P (.bl _) S⟩
    · cases ef
  · split at ef
    · rename_i l hz
      cases ef
      obtain ⟨v, rfl, h1⟩ := va.one
      obtain ⟨p, vs, rfl, h2, r2⟩ := h1.lst S.sub
      rw [ints_rp r2 hz] at h2
      exact cr_sum ok.calm pins s σ H _ us Q I rs ⟨p, l, rfl, .of h2, Wants.data P (.int _) S⟩
    · cases ef
  · split at ef
    · rename_i l hz
      obtain ⟨m, hm, e⟩ := Option.map_eq_some_iff.mp ef
      subst e
      obtain ⟨v, rfl, h1⟩ := va.one
      obtain ⟨p, vs, rfl, h2, r2⟩ := h1.lst S.sub
      rw [ints_rp r2 hz] at h2
      exact cr_max ok.calm pins s σ H _ us Q I rs ⟨p, l, rfl, .of h2, max_pos hm, fun m' a b => by rw [max_is hm a b]; exact Wants.data P (.int _) S⟩
    · cases ef
  · split at ef
    · rename_i l hz
      obtain ⟨m, hm, e⟩ := Option.map_eq_some_iff.mp ef
      subst e
      obtain ⟨v, rfl, h1⟩ := va.one
      obtain ⟨p, vs, rfl, h2, r2⟩ := h1.lst S.sub
      rw [ints_rp r2 hz] at h2
      exact cr_min ok.calm pins s σ H _ us Q I rs ⟨p, l, rfl, .of h2, min_pos hm, fun m' a b => by rw [min_is hm a b]; exact Wants.data P (.int _) S⟩
    · cases ef
  · split at ef
    · rename_i hp
      obtain ⟨t, ht, e⟩ := Option.map_eq_some_iff.mp ef
      subst e
      obtain ⟨v, rfl, h1⟩ := va.one
      obtain ⟨u, rfl, rv⟩ := vals1 rs
      exact call_reprX hK ok.gd ok.un I rv (h1.rp S.sub) hp ht (Wants.data P (.str _) S)
    · cases ef
  · split at ef
    · rename_i l hz
      cases ef
      obtain ⟨v, rfl, h1⟩ := va.one
      obtain ⟨p, vs, rfl, h2, r2⟩ := h1.lst S.sub
      rw [ints_rp r2 hz] at h2
      refine cr_sortedI pins s σ H _ us Q I rs ⟨p, l, rfl, .inl (.inl h2), fun ns q hp hs hq => ?_⟩
      have e := sorted_one (hp.trans (sortI_perm l).symm) hs (sortI_sorted l)
      subst e
      exact Wants.fresh P S (Same.new hq) hq ⟨_, upd_same, rps_ints _⟩
    · cases ef
  · cases ef
end
end Mi
end
section
set_option maxHeartbeats 4000000
namespace Mi
open PySem PySem.Spec PyProof.Rows L2
section
variable {T : Tb} {W : WX} {X : Cx} {n : En} {σ : L2.St} {H0 H : Hp} {ρ : Env} {ts : List Tmp} {Q : VK}
/-! ### slices -/
def slcG (r : Rs) (lo hi : Option Int) (e : Env) : Out Rs := match r.see e with
  | some x => Out.of e (slcD x lo hi)
  | none => .no
def Slc (T : Tb) (W : WX) : V → Option Int → Option Int → Hp → VK → Prop := fun x lo hi H Q => ∃ σ n H0 ρ ts ra, ST T n H0 H σ ρ ((x, ra) :: ts) ∧ Post T W n σ ts (slcG ra lo hi ρ) (Wants T n σ ts Q)
theorem bnd_eq (k d : Nat) (o : Option Int) : bnd k d o = HT.sIx k d o := by
  cases o <;> rfl
theorem cut_rps {vs : List V} {xs : List D} (r : Rps T H vs xs) (lo hi : Option Int) : Rps T H (cutV vs lo hi) (cut xs lo hi) := by
  unfold cutV cut
  rw [bnd_eq, bnd_eq, r.length]
  exact (r.drop _).take _
theorem slR (ok : Cok T X) : SlR X (Slc T W) := by
  intro pins s σ H x v vl vu lo hi sl Q I rx hs pl pu h
  obtain ⟨σ', n, H0, ρ, ts, ra, S, P⟩ := h
  unfold slcG at P
  cases ea : ra.see ρ with
  | none => rw [ea] at P; exact P.elim
  | some a =>
    rw [ea] at P
    replace P : Post T W n σ' ts (Out.of ρ (slcD a lo hi)) (Wants T n σ' ts Q) := P
    have va := S.see ea
    replace S := S.drop
    have hK := ok.hK
    cases ef : slcD a lo hi with
    | none => rw [ef] at P; exact P.elim
    | some r =>
      rw [ef] at P
      have P : ∀ H0' H', Wants T n σ' ts Q r ρ H0' H' := P
      unfold slcD at ef
      split at ef
      · cases ef
        obtain ⟨p, vs, rfl, h1, r1⟩ := va.tup
        have h2 := h1
        rw [← hK] at h2
        refine sl_tupA pins s σ H _ v vl vu _ _ sl Q I rx hs pl pu ⟨p, vs, rfl, Same.sqT S.sub h2, fun e => ?_, fun _ c hc => Wants.newTup P S hc (cut_rps r1 _ _)⟩
        refine Wants.data P (.tup h1 ?_) S
        have z := cut_rps r1 lo hi
        unfold cutV at z
        rw [e.1, e.2, List.drop_zero, Nat.sub_zero, List.take_length] at z
        exact z
      · cases ef
        obtain ⟨p, vs, rfl, h1, r1⟩ := va.lst S.sub
        exact sl_list pins s σ H _ v vl vu _ _ sl Q I rx hs pl pu ⟨p, vs, rfl, .of h1, fun c hc => Wants.fresh P S (Same.new hc) hc ⟨_, upd_same, cut_rps r1 _ _⟩⟩
      · split at ef
        · rename_i hz
          cases ef
          have e1 := va.str
          subst e1
          refine sl_str pins s σ H _ v vl vu _ _ sl Q I rx hs pl pu ⟨_, rfl, by rw [str_len]; exact sz_of hz, ?_⟩
          have e : ∀ t : Tx, cutS ⟨t.toArray⟩ lo hi = ⟨(cut t lo hi).toArray⟩ := fun t => by
            unfold cutS cut
            rw [bnd_eq, bnd_eq, str_len]
          rw [e]
          exact Wants.data P (.str _) S
        · cases ef
      · cases ef
theorem po_part {e : Option Expr} {d : Env → Out (Option Int)} (h : PO X e (rdO T W d)) : PO X e (rdO T W d) := h
theorem po_no : PO X none (rdO T W fun e => .ok none e) := po_imp po_none fun σ H Q ⟨n, H0, ρ, ts, S, P⟩ => P H0 H S
theorem po_yes {a : Expr} {d : Env → Out Rs} (ha : PE X a (rd T W d)) : PO X (some a) (rdO T W fun e => (d e).bind fun r e1 => (partO e1 r).bind fun i e2 => .ok (some i) e2) := by
  refine po_imp (po_some ha) fun σ H Q ⟨n, H0, ρ, ts, S, P⟩ => ?_
  refine rd_mono (rd_one S P) fun v H1 ⟨H0', ρ', ra, S', P'⟩ => ?_
  cases ra with
  | d x =>
    cases x with
    | int i =>
      have r := S'.temp _ (List.mem_cons_self ..)
      have r : Rp T H0' v (.int i) := r
      cases r
      exact ⟨i, rfl, P' H0' H1 S'.drop⟩
    | _ => exact P'.elim
  | fr o => exact P'.elim
  | bo j => exact P'.elim
theorem pe_slc (ok : Cok T X) {a : Expr} {lo hi : Option Expr} {pos p2 : Pos} {d : Env → Out Rs} {dl dh : Env → Out (Option Int)} (ha : PE X a (rd T W d)) (hl : PO X lo (rdO T W dl)) (hh : PO X hi (rdO T W dh)) :
    PE X (.Subscript a (.Slice lo hi none p2) pos) (rd T W fun e => (d e).bind fun ra e1 => (dl e1).bind fun l e2 => (dh e2).bind fun h e3 => slcG ra l h e3) := by
  refine pe_imp (pe_slice (slR (W := W) ok) ha hl hh) fun σ H Q ⟨n, H0, ρ, ts, S, P⟩ => ?_
  refine rd_mono (rd_one S P) fun v H1 ⟨H0', ρ', ra, S', P'⟩ => ?_
  refine ⟨n, H0', ρ', (v, ra) :: ts, S', ?_⟩
  cases el : dl ρ' with
  | no => rw [el] at P'; exact P'.elim
  | ex x e => rw [el] at P'; exact fun dd h0 h1 s => P' dd h0 h1 s.drop
  | ok l e2 =>
    rw [el] at P'
    intro H0'' H2 S2
    refine ⟨n, H0'', e2, (v, ra) :: ts, S2, ?_⟩
    have P' : Post T W n σ ts ((dh e2).bind fun h e3 => slcG ra l h e3) (Wants T n σ ts Q) := P'
    cases eh : dh e2 with
    | no => rw [eh] at P'; exact P'.elim
    | ex x e => rw [eh] at P'; exact fun dd h0 h1 s => P' dd h0 h1 s.drop
    | ok h e3 =>
      rw [eh] at P'
      exact fun H03 H3 S3 => ⟨σ, n, H03, e3, ts, ra, S3, P'⟩
/-! ### attributes -/
/-- what the classes' places have: the names that no class of it has -/
structure ClsOk (T : Tb) (G : Gs) : Prop where
  cls : ∀ c f, G.free c f = true → Cls T.K (T.cA c)
  att : ∀ c f, G.free c f = true → NoAttr T.K (T.cA c) (T.an f)
theorem pe_fldG (ok : Cok T X) {G : Gs} (hc : ClsOk T G) {o : Expr} {f : Nat} {pos : Pos} {d : Env → Out Rs} (ho : PE X o (rd T W d)) (hb : attributeBase o (T.an f) X.env (eval o X.env) = eval o X.env) :
    PE X (.Attribute o (T.an f) pos) (rd T W fun e => (d e).bind fun ro e1 => sees1 (fldD G f) ro e1) := by
  refine pe_imp (pe_fld ho hb) fun σ H Q h => ?_
  refine rd_mono (rd_seeOne h) fun x H1 q => ?_
  obtain ⟨σ', n, H0, ρ, ts, b, r, S, va, ef, P⟩ := q.sees
  unfold fldD at ef
  split at ef
  · split at ef
    · rename_i c fs hf
      obtain ⟨y, hy, e⟩ := Option.map_eq_some_iff.mp ef
      subst e
      obtain ⟨p, dx, vs, rfl, h1, r1⟩ := va.ins S.sub
      obtain ⟨w, hw, rw'⟩ := r1.look hy
      rw [ok.hK]
      exact ⟨p, _, dx, vs, w, rfl, h1, hc.cls c f hf, hc.att c f hf, hw, Wants.data P rw' S⟩
    · cases ef
  · cases ef
end
end Mi
end
section
set_option maxHeartbeats 4000000
namespace Mi
open PySem PySem.Spec PyProof.Rows L2
section
variable {T : Tb} {W : WX} {X : Cx} {n : En} {σ : L2.St} {H0 H : Hp} {ρ : Env} {ts : List Tmp} {Q : VK}
def frz : Rs → Rs
  | .fr o => .d o.d
  | r => r
theorem ST.holdFr : ∀ {rs : List Rs} {vs : List V} {H0 : Hp} {ts : List Tmp}, vs.length = rs.length → ST T n H0 H σ ρ (vs.zip rs ++ ts) → ∃ H0', ST T n H0' H σ ρ (vs.zip (rs.map frz) ++ ts)
  | [], [], H0, _, _, S => ⟨H0, S⟩
  | [], _ :: _, _, _, e, _ => by cases e
  | _ :: _, [], _, _, e, _ => by cases e
  | r :: rs, v :: vs, H0, ts, e, S => by
    have S1 : ∃ H0', ST T n H0' H σ ρ ((v, frz r) :: (vs.zip rs ++ ts)) := by
      cases r with
      | d x => exact ⟨H0, S⟩
      | bo i => exact ⟨H0, S⟩
      | fr o => exact ST.hold (ts := vs.zip rs ++ ts) S
    obtain ⟨H1, S1⟩ := S1
    have S2 : ST T n H1 H σ ρ (vs.zip rs ++ ((v, frz r) :: ts)) := S1.perm List.perm_middle.symm
    obtain ⟨H2, S3⟩ := ST.holdFr (by simpa using e) S2
    exact ⟨H2, S3.perm List.perm_middle⟩
theorem passS_frz (e : Env) (r : Rs) : passS e (frz r) = passS e r := by cases r <;> rfl
/-- what was lent, by places -/
def pasOf : Nat → List V → List Sl → List (Nat × Addr)
  | k, .ref p :: vs, .pa _ :: ls => (k, p) :: pasOf (k + 1) vs ls
  | k, _ :: vs, _ :: ls => pasOf (k + 1) vs ls
  | _, _, _ => []
theorem pasOf_mem : ∀ {vs : List V} {ls : List Sl} {k j : Nat} {p : Addr}, (j, p) ∈ pasOf k vs ls → k ≤ j ∧ vs[j - k]? = some (.ref p) ∧ ∃ o, ls[j - k]? = some (.pa o)
  | [], _, _, _, _, h => by simp [pasOf] at h
  | _ :: _, [], _, _, _, h => by simp [pasOf] at h
  | v :: vs, s :: ls, k, j, p, h => by
    have go : (j, p) ∈ pasOf (k + 1) vs ls → k ≤ j ∧ (v :: vs)[j - k]? = some (.ref p) ∧ ∃ o, (s :: ls)[j - k]? = some (.pa o) := fun h => by
      obtain ⟨a, b, c⟩ := pasOf_mem h
      have e : j - k = (j - (k + 1)) + 1 := by omega
      rw [e]
      exact ⟨by omega, by simpa using b, by simpa using c⟩
    unfold pasOf at h
    split at h
    · rename_i p' vs' o ls' e1 e2
      cases e1
      cases e2
      rcases List.mem_cons.mp h with h | h
      · cases h
        simp
      · exact go h
    · rename_i e1 e2
      cases e1
      cases e2
      exact go h
    · rename_i e3
      exact (e3 _ _ _ _ rfl rfl).elim
theorem pasOf_get : ∀ {vs : List V} {ls : List Sl} {k j : Nat} {p : Addr} {o : Ob}, vs[j]? = some (.ref p) → ls[j]? = some (.pa o) → (k + j, p) ∈ pasOf k vs ls
  | [], _, _, _, _, _, h, _ => by simp at h
  | _ :: _, [], _, _, _, _, _, h => by simp at h
  | v :: vs, s :: ls, k, 0, p, o, h1, h2 => by
    simp at h1 h2
    subst h1 h2
    simp [pasOf]
  | v :: vs, s :: ls, k, j + 1, p, o, h1, h2 => by
    have z := pasOf_get (k := k + 1) (j := j) (by simpa using h1) (by simpa using h2)
    have e : k + 1 + j = k + (j + 1) := by omega
    rw [e] at z
    unfold pasOf
    split
    · rename_i e1 e2
      cases e1
      cases e2
      exact List.mem_cons_of_mem _ z
    · rename_i e1 e2
      cases e1
      cases e2
      exact z
    · rename_i e3
      exact (e3 _ _ _ _ rfl rfl).elim
/-- the answers of passAll, one by one -/
theorem passAll_get {e : Env} : ∀ {rs : List Rs} {ls : List Sl}, passAll e rs = some ls → ls.length = rs.length ∧ ∀ (j : Nat) (s : Sl), ls[j]? = some s → ∃ r, rs[j]? = some r ∧ passS e r = some s
  | [], _, h => by cases h; exact ⟨rfl, fun j s h => by simp at h⟩
  | r :: rs, ls, h => by
    unfold passAll at h
    cases e1 : passS e r with
    | none => rw [e1] at h; cases h
    | some s =>
      rw [e1] at h
      have h : (match passAll e rs with
        | some l => some (s :: l)
        | none => none) = some ls := h
      cases e2 : passAll e rs with
      | none => rw [e2] at h; cases h
      | some l =>
        rw [e2] at h
        cases h
        obtain ⟨a, b⟩ := passAll_get e2
        refine ⟨by simp [a], fun j s' hj => ?_⟩
        cases j with
        | zero => simp at hj; subst hj; exact ⟨r, rfl, e1⟩
        | succ j => obtain ⟨r', h1, h2⟩ := b j s' (by simpa using hj); exact ⟨r', by simpa using h1, h2⟩
theorem lent_mem : ∀ {rs : List Rs} {i : Nat}, i ∈ lent rs ↔ Rs.bo i ∈ rs
  | [], i => by simp [lent]
  | r :: rs, i => by
    cases r with
    | d x => simp [lent, lent_mem (rs := rs)]
    | fr x => simp [lent, lent_mem (rs := rs)]
    | bo k => simp [lent, lent_mem (rs := rs)]
theorem noTwice_get : ∀ {rs : List Rs}, noTwice (lent rs) = true → ∀ (j k i : Nat), rs[j]? = some (.bo i) → rs[k]? = some (.bo i) → j = k
  | [], _, j, _, _, h, _ => by simp at h
  | r :: rs, h, j, k, i, hj, hk => by
    have step : ∀ {r' : Rs}, r = r' → noTwice (lent rs) = true ∧ ((∃ m, r' = .bo m) → ∀ m, r' = .bo m → m ∉ lent rs) := fun {r'} e => by
      subst e
      cases r with
      | d x => exact ⟨h, fun ⟨m, z⟩ => nomatch z⟩
      | fr x => exact ⟨h, fun ⟨m, z⟩ => nomatch z⟩
      | bo m =>
        have h : (!(lent rs).contains m && noTwice (lent rs)) = true := h
        rw [Bool.and_eq_true] at h
        refine ⟨h.2, fun _ m' z => ?_⟩
        cases z
        intro z
        have h1 := h.1
        rw [List.contains_iff_mem.mpr z] at h1
        cases h1
    cases j with
    | zero =>
      simp at hj
      obtain ⟨h1, h2⟩ := step hj
      cases k with
      | zero => rfl
      | succ k =>
        have : i ∈ lent rs := lent_mem.mpr (List.mem_of_getElem? (by simpa using hk))
        exact absurd this (h2 ⟨i, rfl⟩ i rfl)
    | succ j =>
      cases k with
      | zero =>
        simp at hk
        obtain ⟨h1, h2⟩ := step hk
        have : i ∈ lent rs := lent_mem.mpr (List.mem_of_getElem? (by simpa using hj))
        exact absurd this (h2 ⟨i, rfl⟩ i rfl)
      | succ k =>
        have z := noTwice_get (step rfl).1 j k i (by simpa using hj) (by simpa using hk)
        omega
/-- the callee's entry -/
theorem ST.lend {rs : List Rs} {vs : List V} {ls : List Sl} (hl : vs.length = rs.length) (S : ST T n H0 H σ ρ (vs.zip (rs.map frz) ++ ts)) (hp : passAll ρ rs = some ls) (ht : noTwice (lent rs) = true) :
    ST T ⟨H, H0, pasOf 0 vs ls⟩ H0 H (vs.map some) ls [] := by
  obtain ⟨l1, g⟩ := passAll_get hp
  have at_ : ∀ (j : Nat) (s : Sl), ls[j]? = some s → ∃ v r, vs[j]? = some v ∧ rs[j]? = some r ∧ passS ρ r = some s ∧ (v, frz r) ∈ vs.zip (rs.map frz) := fun j s h => by
    obtain ⟨r, h1, h2⟩ := g j s h
    have hj : j < vs.length := by rw [hl]; exact lt_of_get h1
    refine ⟨vs[j], r, List.getElem?_eq_getElem hj, h1, h2, ?_⟩
    apply List.mem_of_getElem? (i := j)
    rw [List.getElem?_zip_eq_some]
    exact ⟨List.getElem?_eq_getElem hj, by rw [List.getElem?_map, h1]; rfl⟩
  have slot : ∀ (j : Nat) (s : Sl), ls[j]? = some s → ∃ v, vs[j]? = some v ∧ ((∃ d, s = .sh d ∧ Rp T H0 v d) ∨ ∃ o p i, s = .pa o ∧ v = .ref p ∧ H0 p = none ∧ ObR T H0 H p o ∧ OwnAt σ ρ i p ∧ rs[j]? = some (.bo i)) := fun j s h => by
    obtain ⟨v, r, h1, h2, h3, h4⟩ := at_ j s h
    refine ⟨v, h1, ?_⟩
    have q := S.temp _ (List.mem_append_left ts h4)
    cases r with
    | d x => cases h3; exact .inl ⟨_, rfl, q⟩
    | fr o => cases h3; exact .inl ⟨_, rfl, q⟩
    | bo i =>
      obtain ⟨a, t, b, _⟩ := q
      have a : σ[i]? = some (some v) := a
      have h3 : (match ρ[i]? with
        | some (.sh x) => some (Sl.sh x)
        | some (.ow o) => some (.pa o)
        | some (.pa o) => some (.pa o)
        | _ => none) = some s := h3
      rw [b] at h3
      obtain ⟨y, hy, w⟩ := S.slot i t b
      rw [a] at hy
      cases hy
      cases t with
      | un => cases h3
      | sh d => cases h3; obtain ⟨u, e, z⟩ := w; cases e; exact .inl ⟨_, rfl, z⟩
      | ow o => cases h3; obtain ⟨p, e, _, c, z⟩ := w; cases e; exact .inr ⟨o, p, i, rfl, rfl, c, z, ⟨a, _, b, rfl⟩, h2⟩
      | pa o => cases h3; obtain ⟨p, e, _, c, z⟩ := w; cases e; exact .inr ⟨o, p, i, rfl, rfl, c, z, ⟨a, _, b, rfl⟩, h2⟩
  have own : ∀ {j p}, OwnAt (vs.map some) ls j p → ∃ i, OwnAt σ ρ i p ∧ rs[j]? = some (.bo i) := fun {j p} ⟨a, s, b, c⟩ => by
    obtain ⟨v, h1, h2⟩ := slot j s b
    rw [List.getElem?_map, h1] at a
    cases a
    rcases h2 with ⟨d, rfl, _⟩ | ⟨o, p', i, rfl, e, _, _, w, z⟩
    · cases c
    · cases e
      exact ⟨i, w, z⟩
  exact {
    sub := S.sub
    s0 := Same.refl _
    len := by rw [List.length_map, hl, l1]
    slot := fun j s h => by
      obtain ⟨v, h1, h2⟩ := slot j s h
      refine ⟨some v, by rw [List.getElem?_map, h1]; rfl, ?_⟩
      rcases h2 with ⟨d, rfl, r⟩ | ⟨o, p, i, rfl, rfl, c, z, _⟩
      · exact ⟨v, rfl, r⟩
      · refine ⟨p, rfl, ?_, c, z⟩
        have q := pasOf_get (k := 0) h1 h
        rwa [Nat.zero_add] at q
    temp := fun t h => by simp at h
    dist := fun j k p h1 h2 => by
      obtain ⟨i, a, b⟩ := own h1
      obtain ⟨i', a', b'⟩ := own h2
      have e := S.dist i i' p a a'
      subst e
      exact noTwice_get ht j k i b b'
    dtt := by simp [tmpL]
    dts := fun p h => by simp [tmpL] at h
    pak := fun q h => by
      obtain ⟨j, p⟩ := q
      obtain ⟨a, b, o, c⟩ := pasOf_mem h
      exact ⟨by rw [List.getElem?_map, show (vs[j]? = _) from b]; rfl, o, c⟩
    keep := fun b o h _ => h
    dom := fun b o h => ⟨o, h⟩
    new := fun b o h => .inl ⟨o, h⟩ }
/-- what an own slot has, told by the entry -/
theorem ST.own_slot (S : ST T n H0 H σ ρ ts) {i : Nat} {p : Addr} (h : OwnAt σ ρ i p) : ∃ o, (ρ[i]? = some (.ow o) ∨ ρ[i]? = some (.pa o)) ∧ ObR T H0 H p o ∧ H0 p = none := by
  obtain ⟨a, s, b, c⟩ := h
  obtain ⟨x, hx, q⟩ := S.slot i s b
  rw [a] at hx
  cases hx
  cases s with
  | un => cases c
  | sh d => cases c
  | ow o => obtain ⟨p', e, _, h0, r⟩ := q; cases e; exact ⟨o, .inl b, r, h0⟩
  | pa o => obtain ⟨p', e, _, h0, r⟩ := q; cases e; exact ⟨o, .inr b, r, h0⟩
/-- of one kind, with another object at most -/
def Kin (s s' : Sl) : Prop := s' = s ∨ (∃ o o', s = .ow o ∧ s' = .ow o') ∨ ∃ o o', s = .pa o ∧ s' = .pa o'
theorem Kin.refl (s : Sl) : Kin s s := .inl rfl
theorem Kin.trans {a b c : Sl} (h : Kin a b) (k : Kin b c) : Kin a c := by
  rcases h with rfl | ⟨o, o', rfl, rfl⟩ | ⟨o, o', rfl, rfl⟩
  · exact k
  · rcases k with rfl | ⟨p, p', e, rfl⟩ | ⟨p, p', e, rfl⟩
    · exact .inr (.inl ⟨_, _, rfl, rfl⟩)
    · exact .inr (.inl ⟨_, _, rfl, rfl⟩)
    · cases e
  · rcases k with rfl | ⟨p, p', e, rfl⟩ | ⟨p, p', e, rfl⟩
    · exact .inr (.inr ⟨_, _, rfl, rfl⟩)
    · cases e
    · exact .inr (.inr ⟨_, _, rfl, rfl⟩)
theorem Kin.own {s s' : Sl} (h : Kin s s') : isOwn s' = isOwn s := by
  rcases h with rfl | ⟨o, o', rfl, rfl⟩ | ⟨o, o', rfl, rfl⟩ <;> rfl
theorem Kin.un {s s' : Sl} (h : Kin s s') (k : s ≠ .un) : s' ≠ .un := by
  rcases h with rfl | ⟨o, o', rfl, rfl⟩ | ⟨o, o', rfl, rfl⟩
  · exact k
  · exact fun z => nomatch z
  · exact fun z => nomatch z
theorem backS_len (e : Env) (r : Rs) (s : Sl) : (backS e r s).length = e.length := by
  unfold backS
  split
  · split <;> simp
  · rfl
theorem backS_kin (e : Env) (r : Rs) (s : Sl) (i : Nat) {t : Sl} (h : e[i]? = some t) : ∃ t', (backS e r s)[i]? = some t' ∧ Kin t t' := by
  unfold backS
  split
  · rename_i k o
    split
    · rename_i o' hk
      by_cases z : k = i
      · subst z
        rw [hk] at h
        cases h
        exact ⟨_, get_set_same (lt_of_get hk), .inr (.inl ⟨_, _, rfl, rfl⟩)⟩
      · exact ⟨t, by rw [get_set_ne z]; exact h, .refl _⟩
    · rename_i o' hk
      by_cases z : k = i
      · subst z
        rw [hk] at h
        cases h
        exact ⟨_, get_set_same (lt_of_get hk), .inr (.inr ⟨_, _, rfl, rfl⟩)⟩
      · exact ⟨t, by rw [get_set_ne z]; exact h, .refl _⟩
    · exact ⟨t, h, .refl _⟩
  · exact ⟨t, h, .refl _⟩
theorem backS_other (e : Env) (r : Rs) (s : Sl) (i : Nat) (h : r ≠ .bo i) : (backS e r s)[i]? = e[i]? := by
  unfold backS
  split
  · rename_i k o
    have z : k ≠ i := fun z => h (by rw [z])
    split
    · rw [get_set_ne z]
    · rw [get_set_ne z]
    · rfl
  · rfl
theorem backS_val (o : Ob) (i : Nat) (e : Env) : (backS e (.bo i) (.pa o))[i]? = (match e[i]? with
    | some (.ow _) => some (.ow o)
    | some (.pa _) => some (.pa o)
    | x => x) := by
  show (match e[i]? with
    | some (.ow _) => e.set i (.ow o)
    | some (.pa _) => e.set i (.pa o)
    | _ => e)[i]? = _
  cases z : e[i]? with
  | none => exact z
  | some t =>
    have hl := lt_of_get z
    cases t with
    | un => exact z
    | sh d => exact z
    | ow o' => exact get_set_same hl
    | pa o' => exact get_set_same hl
theorem backS_at {e e' : Env} {i : Nat} {s : Sl} (h : e[i]? = e'[i]?) : (backS e (.bo i) s)[i]? = (backS e' (.bo i) s)[i]? := by
  cases s with
  | pa o => rw [backS_val, backS_val, h]
  | un => exact h
  | sh d => exact h
  | ow o => exact h
theorem backAll_len : ∀ (rs : List Rs) (ls : List Sl) (e : Env), (backAll e rs ls).length = e.length
  | [], _, _ => by simp [backAll]
  | _ :: _, [], _ => by simp [backAll]
  | r :: rs, s :: ls, e => by simp [backAll, backAll_len rs ls, backS_len]
theorem backAll_kin : ∀ (rs : List Rs) (ls : List Sl) (e : Env) (i : Nat) {t : Sl}, e[i]? = some t → ∃ t', (backAll e rs ls)[i]? = some t' ∧ Kin t t'
  | [], _, _, _, t, h => ⟨t, by simpa [backAll] using h, .refl _⟩
  | _ :: _, [], _, _, t, h => ⟨t, by simpa [backAll] using h, .refl _⟩
  | r :: rs, s :: ls, e, i, t, h => by
    obtain ⟨t1, h1, k1⟩ := backS_kin e r s i h
    obtain ⟨t2, h2, k2⟩ := backAll_kin rs ls _ i h1
    exact ⟨t2, by simpa [backAll] using h2, k1.trans k2⟩
theorem backAll_out : ∀ (rs : List Rs) (ls : List Sl) (e : Env) (i : Nat), i ∉ lent rs → (backAll e rs ls)[i]? = e[i]?
  | [], _, _, _, _ => by simp [backAll]
  | _ :: _, [], _, _, _ => by simp [backAll]
  | r :: rs, s :: ls, e, i, h => by
    have h1 : r ≠ .bo i := fun z => h (lent_mem.mpr (by rw [z]; exact List.mem_cons_self ..))
    have h2 : i ∉ lent rs := fun z => h (lent_mem.mpr (List.mem_cons_of_mem _ (lent_mem.mp z)))
    show (backAll (backS e r s) rs ls)[i]? = _
    rw [backAll_out rs ls _ i h2, backS_other e r s i h1]
theorem noTwice_tail {r : Rs} {rs : List Rs} (h : noTwice (lent (r :: rs)) = true) : noTwice (lent rs) = true ∧ ∀ i, r = .bo i → i ∉ lent rs := by
  cases r with
  | d x => exact ⟨h, fun i z => nomatch z⟩
  | fr x => exact ⟨h, fun i z => nomatch z⟩
  | bo m =>
    have h : (!(lent rs).contains m && noTwice (lent rs)) = true := h
    rw [Bool.and_eq_true] at h
    refine ⟨h.2, fun i z w => ?_⟩
    cases z
    have h1 := h.1
    rw [List.contains_iff_mem.mpr w] at h1
    cases h1
theorem backAll_in : ∀ (rs : List Rs) (ls : List Sl) (e : Env) (j i : Nat) (s : Sl), noTwice (lent rs) = true → rs[j]? = some (.bo i) → ls[j]? = some s → (backAll e rs ls)[i]? = (backS e (.bo i) s)[i]?
  | [], _, _, j, _, _, _, h, _ => by simp at h
  | _ :: _, [], _, j, _, _, _, _, h => by simp at h
  | r :: rs, s0 :: ls, e, 0, i, s, ht, h1, h2 => by
    simp at h1 h2
    subst h1 h2
    obtain ⟨_, z⟩ := noTwice_tail ht
    show (backAll (backS e (.bo i) s0) rs ls)[i]? = _
    rw [backAll_out rs ls _ i (z i rfl)]
  | r :: rs, s0 :: ls, e, j + 1, i, s, ht, h1, h2 => by
    obtain ⟨a, z⟩ := noTwice_tail ht
    have h1' : rs[j]? = some (.bo i) := by simpa using h1
    have ne : r ≠ .bo i := fun w => z i w (lent_mem.mpr (List.mem_of_getElem? h1'))
    show (backAll (backS e r s0) rs ls)[i]? = _
    rw [backAll_in rs ls _ j i s a h1' (by simpa using h2)]
    exact backS_at (backS_other e r s0 i ne)
/-- behind a call: the caller's state -/
theorem ST.back {rs : List Rs} {vs : List V} {ls ls' : List Sl} {H0' H' : Hp} {us : List Tmp} (hl : vs.length = rs.length) (S : ST T n H0 H σ ρ (vs.zip (rs.map frz) ++ ts)) (hp : passAll ρ rs = some ls) (ht : noTwice (lent rs) = true)
    (C : ST T ⟨H, H0, pasOf 0 vs ls⟩ H0' H' (vs.map some) ls' us) : ST T n H0' H' σ (backAll ρ rs ls') ts := by
  obtain ⟨l1, g⟩ := passAll_get hp
  have S1 := S.dropA
  -- a lent object belongs to a slot that is lent
  have lentAt : ∀ {j p}, (j, p) ∈ pasOf 0 vs ls → ∃ i, OwnAt σ ρ i p ∧ rs[j]? = some (.bo i) := fun {j p} h => by
    obtain ⟨_, hv, o, ho⟩ := pasOf_mem h
    have hv : vs[j]? = some (.ref p) := hv
    have ho : ls[j]? = some (.pa o) := ho
    obtain ⟨r, h1, h2⟩ := g j _ ho
    cases r with
    | d x => cases h2
    | fr x => cases h2
    | bo i =>
      have q := S.temp (.ref p, .bo i) (List.mem_append_left ts (List.mem_of_getElem? (i := j) (by
        rw [List.getElem?_zip_eq_some]
        exact ⟨hv, by rw [List.getElem?_map, h1]; rfl⟩)))
      obtain ⟨a, t, b, _⟩ := q
      refine ⟨i, ⟨a, t, b, ?_⟩, h1⟩
      have h2 : (match ρ[i]? with
        | some (.sh x) => some (Sl.sh x)
        | some (.ow o) => some (.pa o)
        | some (.pa o) => some (.pa o)
        | _ => none) = some (.pa o) := h2
      rw [b] at h2
      cases t with
      | un => cases h2
      | sh d => cases h2
      | ow o => rfl
      | pa o => rfl
  have keepC : ∀ {p u}, H p = some u → (∀ i, OwnAt σ ρ i p → i ∉ lent rs) → H' p = some u := fun {p u} h k => by
    refine C.keep p u h fun m => ?_
    obtain ⟨q, hq, e⟩ := List.mem_map.mp m
    obtain ⟨j, p'⟩ := q
    have e : p' = p := e
    subst e
    obtain ⟨i, a, b⟩ := lentAt hq
    exact k i a (lent_mem.mpr (List.mem_of_getElem? b))
  have freeC : ∀ {p u}, H p = some u → H0 p = none → H0' p = none := fun {p u} h h0 => by
    cases e : H0' p with
    | none => rfl
    | some o =>
      rcases C.new p o e with ⟨o', z⟩ | z
      · have z : H0 p = some o' := z
        rw [h0] at z
        cases z
      · have z : H p = none := z
        rw [h] at z
        cases z
  have kin : ∀ {i : Nat} {s : Sl}, (backAll ρ rs ls')[i]? = some s → ∃ t : Sl, ρ[i]? = some t ∧ Kin t s := fun {i s} h => by
    cases e : ρ[i]? with
    | none =>
      have z1 := lt_of_get h
      rw [backAll_len] at z1
      have z2 := List.getElem?_eq_none_iff.mp e
      omega
    | some t =>
      obtain ⟨t', a, b⟩ := backAll_kin rs ls' ρ i e
      rw [a] at h
      cases h
      exact ⟨t, rfl, b⟩
  have ownB : ∀ {i : Nat} {p : Addr}, OwnAt σ (backAll ρ rs ls') i p → OwnAt σ ρ i p := fun {i p} ⟨a, s, b, c⟩ => by
    obtain ⟨t, h1, h2⟩ := kin b
    exact ⟨a, t, h1, by rw [← h2.own]; exact c⟩
  exact {
    sub := C.sub
    s0 := Same.trans S.s0 C.s0
    len := by rw [backAll_len]; exact S.len
    slot := fun i s hs => by
      obtain ⟨t, h1, h2⟩ := kin hs
      obtain ⟨x, hx, q⟩ := S.slot i t h1
      refine ⟨x, hx, ?_⟩
      by_cases hi : i ∈ lent rs
      · obtain ⟨j, hj⟩ := List.getElem?_of_mem (lent_mem.mp hi)
        have jl : j < ls'.length := by
          have := C.len
          rw [List.length_map, hl] at this
          rw [← this]
          exact lt_of_get hj
        have e := backAll_in rs ls' ρ j i _ ht hj (List.getElem?_eq_getElem jl)
        rw [hs] at e
        -- the value at the callee's slot j
        have hv : ∃ v, vs[j]? = some v ∧ σ[i]? = some (some v) := by
          have jv : j < vs.length := by rw [hl]; exact lt_of_get hj
          refine ⟨vs[j], List.getElem?_eq_getElem jv, ?_⟩
          exact (S.temp (vs[j], .bo i) (List.mem_append_left ts (List.mem_of_getElem? (i := j) (by
            rw [List.getElem?_zip_eq_some]
            exact ⟨List.getElem?_eq_getElem jv, by rw [List.getElem?_map, hj]; rfl⟩)))).1
        obtain ⟨v, hv1, hv2⟩ := hv
        rw [hx] at hv2
        cases hv2
        cases t with
        | un =>
          rcases h2 with rfl | ⟨o, o', e1, _⟩ | ⟨o, o', e1, _⟩
          · trivial
          · cases e1
          · cases e1
        | sh d =>
          rcases h2 with rfl | ⟨o, o', e1, _⟩ | ⟨o, o', e1, _⟩
          · obtain ⟨w, a, b⟩ := q; exact ⟨w, a, b.mono C.s0⟩
          · cases e1
          · cases e1
        | ow o =>
          obtain ⟨p, a, b, c, d⟩ := q
          cases a
          obtain ⟨u, hu⟩ := d.there
          -- slot j was lent
          obtain ⟨s0, hs0⟩ : ∃ s0, ls[j]? = some s0 := by
            have : j < ls.length := by rw [l1]; exact lt_of_get hj
            exact ⟨_, List.getElem?_eq_getElem this⟩
          obtain ⟨r, hr1, hr2⟩ := g j s0 hs0
          rw [hj] at hr1
          cases hr1
          have hr2 : (match ρ[i]? with
            | some (.sh x) => some (Sl.sh x)
            | some (.ow o) => some (.pa o)
            | some (.pa o) => some (.pa o)
            | _ => none) = some s0 := hr2
          rw [h1] at hr2
          cases hr2
          have m := pasOf_get (k := 0) hv1 hs0
          rw [Nat.zero_add] at m
          obtain ⟨_, o', ho'⟩ := C.pak _ m
          have ho' : ls'[j]? = some (.pa o') := ho'
          obtain ⟨y, hy, w⟩ := C.slot j _ ho'
          rw [List.getElem?_map, hv1] at hy
          cases hy
          have eo : ls'[j] = .pa o' := Option.some.inj ((List.getElem?_eq_getElem jl).symm.trans ho')
          rw [eo] at e
          obtain ⟨p', a', _, c', d'⟩ := w
          cases a'
          have e : some s = (match ρ[i]? with
            | some (.ow _) => ρ.set i (.ow o')
            | some (.pa _) => ρ.set i (.pa o')
            | _ => ρ)[i]? := e
          rw [h1] at e
          have e : some s = (ρ.set i (.ow o'))[i]? := e
          rw [get_set_same (lt_of_get h1)] at e
          cases e
          exact ⟨p, rfl, b, c', d'⟩
        | pa o =>
          obtain ⟨p, a, b, c, d⟩ := q
          cases a
          obtain ⟨u, hu⟩ := d.there
          obtain ⟨s0, hs0⟩ : ∃ s0, ls[j]? = some s0 := by
            have : j < ls.length := by rw [l1]; exact lt_of_get hj
            exact ⟨_, List.getElem?_eq_getElem this⟩
          obtain ⟨r, hr1, hr2⟩ := g j s0 hs0
          rw [hj] at hr1
          cases hr1
          have hr2 : (match ρ[i]? with
            | some (.sh x) => some (Sl.sh x)
            | some (.ow o) => some (.pa o)
            | some (.pa o) => some (.pa o)
            | _ => none) = some s0 := hr2
          rw [h1] at hr2
          cases hr2
          have m := pasOf_get (k := 0) hv1 hs0
          rw [Nat.zero_add] at m
          obtain ⟨_, o', ho'⟩ := C.pak _ m
          have ho' : ls'[j]? = some (.pa o') := ho'
          obtain ⟨y, hy, w⟩ := C.slot j _ ho'
          rw [List.getElem?_map, hv1] at hy
          cases hy
          have eo : ls'[j] = .pa o' := Option.some.inj ((List.getElem?_eq_getElem jl).symm.trans ho')
          rw [eo] at e
          obtain ⟨p', a', _, c', d'⟩ := w
          cases a'
          have e : some s = (match ρ[i]? with
            | some (.ow _) => ρ.set i (.ow o')
            | some (.pa _) => ρ.set i (.pa o')
            | _ => ρ)[i]? := e
          rw [h1] at e
          have e : some s = (ρ.set i (.pa o'))[i]? := e
          rw [get_set_same (lt_of_get h1)] at e
          cases e
          exact ⟨p, rfl, b, c', d'⟩
      · rw [backAll_out rs ls' ρ i hi, h1] at hs
        cases hs
        cases s with
        | un => trivial
        | sh d => obtain ⟨w, a, b⟩ := q; exact ⟨w, a, b.mono C.s0⟩
        | ow o =>
          obtain ⟨p, a, b, c, d⟩ := q
          subst a
          obtain ⟨u, hu⟩ := d.there
          have k := keepC hu fun i' w z => hi (S.dist i' i p w ⟨hx, _, h1, rfl⟩ ▸ z)
          exact ⟨p, rfl, b, freeC hu c, d.move C.s0 (k.trans hu.symm)⟩
        | pa o =>
          obtain ⟨p, a, b, c, d⟩ := q
          subst a
          obtain ⟨u, hu⟩ := d.there
          have k := keepC hu fun i' w z => hi (S.dist i' i p w ⟨hx, _, h1, rfl⟩ ▸ z)
          exact ⟨p, rfl, b, freeC hu c, d.move C.s0 (k.trans hu.symm)⟩
    temp := fun t ht' => by
      have q := S1.temp t ht'
      obtain ⟨w, r⟩ := t
      cases r with
      | d x => exact Rp.mono C.s0 q
      | fr o =>
        obtain ⟨p, a, b, c, d⟩ := q
        have a' : w = .ref p := a
        subst a'
        obtain ⟨u, hu⟩ := d.there
        have k := keepC hu fun i' w' _ => S1.dts p (tmpL_mem ht') i' w'
        exact ⟨p, rfl, b, freeC hu c, d.move C.s0 (k.trans hu.symm)⟩
      | bo i =>
        obtain ⟨a, t, b, c⟩ := q
        obtain ⟨t', b', k⟩ := backAll_kin rs ls' ρ i b
        exact ⟨a, t', b', k.un c⟩
    dist := fun i j p h1 h2 => S.dist i j p (ownB h1) (ownB h2)
    dtt := S1.dtt
    dts := fun p hp i h => S1.dts p hp i (ownB h)
    pak := fun q hq => by
      obtain ⟨a, o, b⟩ := S.pak q hq
      obtain ⟨t', b', k⟩ := backAll_kin rs ls' ρ q.1 b
      refine ⟨a, ?_⟩
      rcases k with rfl | ⟨_, _, e, _⟩ | ⟨_, o', _, rfl⟩
      · exact ⟨o, b'⟩
      · cases e
      · exact ⟨o', b'⟩
    keep := fun b o h k => by
      refine keepC (S.keep b o h k) fun i w _ => ?_
      obtain ⟨a, s, c, d⟩ := w
      obtain ⟨x, hx, q⟩ := S.slot i s c
      rw [a] at hx
      cases hx
      cases s with
      | un => cases d
      | sh y => cases d
      | ow y => obtain ⟨p, e, z, _⟩ := q; cases e; rw [h] at z; cases z
      | pa y => obtain ⟨p, e, z, _⟩ := q; cases e; exact k (List.mem_map.mpr ⟨_, z, rfl⟩)
    dom := fun b o h => by
      obtain ⟨o', z⟩ := S.dom b o h
      exact C.dom b o' z
    new := fun b o h => by
      rcases C.new b o h with ⟨o', z⟩ | z
      · exact S.new b o' z
      · exact .inr (S.entry_free z) }
end
end Mi
end
section
set_option maxHeartbeats 4000000
namespace Mi
open PySem PySem.Spec PyProof.Rows L2
section
variable {T : Tb} {W : WX} {X : Cx} {n : En} {σ : L2.St} {H0 H : Hp} {ρ : Env} {ts : List Tmp} {Q : VK}
/-- a new object is one more temporary -/
theorem ST.addF {p : Addr} {o : Ob} (S : ST T n H0 H σ ρ ts) (hs : n.Hs p = none) (h0 : H0 p = none) (r : ObR T H0 H p o) (ho : ∀ i, ¬ OwnAt σ ρ i p) (ht : p ∉ tmpL ts) : ST T n H0 H σ ρ ((.ref p, .fr o) :: ts) where
  sub := S.sub
  s0 := S.s0
  len := S.len
  slot := S.slot
  temp := fun t h => by
    rcases List.mem_cons.mp h with rfl | h
    · exact ⟨p, rfl, hs, h0, r⟩
    · exact S.temp t h
  dist := S.dist
  dtt := by
    rw [tmpL_cons_fr]
    exact List.nodup_cons.mpr ⟨ht, S.dtt⟩
  dts := fun q hq i h => by
    rw [tmpL_cons_fr] at hq
    rcases List.mem_cons.mp hq with rfl | hq
    · exact ho i h
    · exact S.dts q hq i h
  pak := S.pak
  keep := S.keep
  dom := S.dom
  new := S.new
theorem own_back {rs : List Rs} {ls : List Sl} {i : Nat} {p : Addr} (h : OwnAt σ (backAll ρ rs ls) i p) : OwnAt σ ρ i p := by
  obtain ⟨a, s, b, c⟩ := h
  cases e : ρ[i]? with
  | none =>
    have z1 := lt_of_get b
    rw [backAll_len] at z1
    have z2 := List.getElem?_eq_none_iff.mp e
    omega
  | some t =>
    obtain ⟨t', a', b'⟩ := backAll_kin rs ls ρ i e
    rw [a'] at b
    cases b
    exact ⟨a, t, e, by rw [← b'.own]; exact c⟩
/-- behind a call, with its result -/
theorem ST.backV {rs : List Rs} {vs : List V} {ls ls' : List Sl} {H0' H' : Hp} {v : V} {r : Rs} (hl : vs.length = rs.length) (S : ST T n H0 H σ ρ (vs.zip (rs.map frz) ++ ts)) (hp : passAll ρ rs = some ls) (ht : noTwice (lent rs) = true)
    (C : ST T ⟨H, H0, pasOf 0 vs ls⟩ H0' H' (vs.map some) ls' [(v, r)]) (nb : ∀ i, r ≠ .bo i) : ST T n H0' H' σ (backAll ρ rs ls') ((v, r) :: ts) := by
  have B := S.back hl hp ht C
  have q := C.temp (v, r) (List.mem_cons_self ..)
  cases r with
  | d x => exact B.addD q
  | bo i => exact (nb i rfl).elim
  | fr o =>
    obtain ⟨p, a, b, c, d⟩ := q
    have a : v = .ref p := a
    have b : H p = none := b
    subst a
    refine B.addF (S.entry_free b) c d (fun i w => ?_) fun w => ?_
    · obtain ⟨u, hu, _⟩ := S.own_there (own_back w)
      rw [b] at hu
      cases hu
    · obtain ⟨u, hu, _⟩ := S.dropA.tmp_there w
      rw [b] at hu
      cases hu
/-- what a def keeps, by what it is worth -/
def SpF (T : Tb) (np : Nat) (F : Env → Out Rs) : Sp := fun vs H Q E => vs.length = np ∧ ∃ H0 ls, ls.length = np ∧ (∀ s ∈ ls, (∃ d, s = .sh d) ∨ ∃ o, s = .pa o) ∧ ST T ⟨H, H0, pasOf 0 vs ls⟩ H0 H (vs.map some) ls [] ∧
  Post T (fun c dd _ H' => E c dd H') ⟨H, H0, pasOf 0 vs ls⟩ (vs.map some) [] (F ls) fun r ls' H0' H' => ∀ v, (∀ i, r ≠ .bo i) → ST T ⟨H, H0, pasOf 0 vs ls⟩ H0' H' (vs.map some) ls' [(v, r)] → Q v H'
theorem SpF.len {np : Nat} {F : Env → Out Rs} : ∀ vs H Q E, SpF T np F vs H Q E → vs.length = np := fun _ _ _ _ h => h.1
theorem passS_kind {e : Env} {r : Rs} {s : Sl} (h : passS e r = some s) : (∃ d, s = .sh d) ∨ ∃ o, s = .pa o := by
  cases r with
  | d x => cases h; exact .inl ⟨_, rfl⟩
  | fr o => cases h; exact .inl ⟨_, rfl⟩
  | bo i =>
    have h : (match e[i]? with
      | some (.sh x) => some (Sl.sh x)
      | some (.ow o) => some (.pa o)
      | some (.pa o) => some (.pa o)
      | _ => none) = some s := h
    split at h
    · cases h; exact .inl ⟨_, rfl⟩
    · cases h; exact .inr ⟨_, rfl⟩
    · cases h; exact .inr ⟨_, rfl⟩
    · cases h
/-- the arguments are handed over -/
theorem call_sp {G : Gs} {f np : Nat} {rs : List Rs} {vs : List V} (hn : ∀ l : List Sl, l.length ≠ np → G.fn f l = .no) (hl : vs.length = rs.length) (S : ST T n H0 H σ ρ (vs.zip rs ++ ts))
    (h : Post T W n σ ts (callS G f rs ρ) (Wants T n σ ts Q)) : SpF T np (G.fn f) vs H Q (WE W σ) := by
  unfold callS at h
  split at h
  · rename_i ht
    cases e : passAll ρ rs with
    | none => rw [e] at h; exact h.elim
    | some ls =>
      rw [e] at h
      obtain ⟨l1, g⟩ := passAll_get e
      obtain ⟨H0a, S1⟩ := S.holdFr hl
      have C := S1.lend hl e ht
      have h : Post T W n σ ts (match G.fn f ls with
        | .ok (.d x) l' => Out.ok (Rs.d x) (backAll ρ rs l')
        | .ok (.fr o) l' => .ok (.fr o) (backAll ρ rs l')
        | .ok (.bo _) _ => .no
        | .ex x l' => .ex x (backAll ρ rs l')
        | .no => .no) (Wants T n σ ts Q) := h
      have len : ls.length = np := by
        by_cases z : ls.length = np
        · exact z
        · rw [hn ls z] at h
          exact h.elim
      refine ⟨by rw [hl, ← l1]; exact len, H0a, ls, len, fun s hs => ?_, C, ?_⟩
      · obtain ⟨j, hj⟩ := List.getElem?_of_mem hs
        obtain ⟨r, _, z⟩ := g j s hj
        exact passS_kind z
      · cases ef : G.fn f ls with
        | no => rw [ef] at h; exact h.elim
        | ex x l' =>
          rw [ef] at h
          exact fun dd H0' H' C' xr => h dd H0' H' (S1.back hl e ht C') xr
        | ok r l' =>
          rw [ef] at h
          cases r with
          | d x => exact fun H0' H' v nb C' => h H0' H' v (S1.backV hl e ht C' nb)
          | fr x => exact fun H0' H' v nb C' => h H0' H' v (S1.backV hl e ht C' nb)
          | bo i => exact h.elim
  · exact h.elim
/-- f(..) -/
theorem pe_callF {CX : CXT} {G : Gs} {f np k : Nat} {fa : Addr} {fd : FuncData} {ps : List Str} {x : Str} {p pos : Pos} {e : Expr} {es : List Expr} {d : Env → Out (List Rs)}
    (F : FnOk X.prog X.w X.K X.mg X.base CX k fa fd ps (SpF T np (G.fn f))) (hr : Room k X.A) (hg : Gl X x) (hm : X.mg x = some (.ref fa)) (hk : PySem.W.keepIn X.K (.ref fa) = true) (hb : Binds X.K fd ps []) (hx : ∀ σ, PassesAt CX X σ (WE W σ))
    (hn : ∀ l : List Sl, l.length ≠ np → G.fn f l = .no) (ha : PA X (e :: es) (rdA T W d)) (hdb : (x == ("__debug__" : Str)) = false) (he : starEach (e :: es) X.env = (false, eval e X.env) :: starEach es X.env) (hpl : (backTo pos (starEach es X.env)).any (·.1) = false) :
    PE X (.Call (.Name x p) (e :: es) [] pos) (rd T W fun e => (d e).bind fun rs e1 => callS G f rs e1) := by
  refine pe_imp (pe_callS (E := WE W) F hr hg hm hk hb hx ha hdb he hpl) fun σ H Q h => ?_
  obtain ⟨n, H0, ρ, ts, S, h⟩ := h
  obtain ⟨n', H0', ρ', ts', S', h'⟩ := rd_args S h
  refine ⟨n', H0', ρ', ts', S', ?_⟩
  revert h'
  cases d ρ' <;> first | exact fun z => z | skip
  intro h' H0'' H'' vs hl hS
  obtain ⟨H0b, ρb, rs, hl', S'', h''⟩ := h' H0'' H'' vs hl hS
  exact call_sp hn hl' S'' h''
end
end Mi
end
section
set_option maxHeartbeats 4000000
namespace Mi
open PySem PySem.Spec PyProof.Rows L2
/-! ### lists and tuples that are walked by enumerate, zip -/
inductive Bs where
  | lst (a : Addr) | tup (a : Addr)
def Bs.addr : Bs → Addr
  | .lst a => a
  | .tup a => a
def Bs.has (K : PySem.W.Frag) (H : Hp) (xs : List V) : Bs → Prop
  | .lst a => SqL K H a xs
  | .tup a => SqT K H a xs
def Bs.its (h : Heap) (its : Array Value) : Bs → Prop
  | .lst a => h.IsList a its
  | .tup a => h.IsTuple a its
def Bs.iter (h : Heap) (it : Addr) (i : Nat) : Bs → Prop
  | .lst a => h.IsListIter it a i
  | .tup a => h.IsTupleIter it a i
def Bs.obj : Bs → Obj
  | .lst a => { cls := .type "list_iterator", data := .fields #[.ref a, .int 0 0] }
  | .tup a => { cls := .type "tuple_iterator", data := .fields #[.ref a, .int 0 0] }
theorem Bs.draws {prog : Program} {w : World} {A : Around} (hh : A.handled = none) (b : Bs) (it : Addr) (hne : b.addr ≠ it) (items : Array Value) :
    Draws prog w A it [it, b.addr] items.size (fun i v => items[i]? = some v) (fun i h => b.iter h it i ∧ b.its h items) := by
  cases b with
  | lst a => exact Draws.list hh it a hne items
  | tup a => exact Draws.tuple hh it a hne items
theorem Bs.begins (b : Bs) (items : Array Value) : Begins (.ref b.addr) b.obj fun h => b.its h items := by
  cases b with
  | lst a => exact begins_list a items
  | tup a => exact begins_tuple a items
theorem Bs.fresh (b : Bs) {h : Heap} {it : Addr} (e : h.get? it = some b.obj) : b.iter h it 0 := by
  cases b with
  | lst a => exact ⟨_, e, rfl, rfl⟩
  | tup a => exact ⟨_, e, rfl, rfl⟩
theorem Bs.iter_obj {b : Bs} {h : Heap} {it : Addr} {i : Nat} (st : b.iter h it i) : ∃ o fs, h.get? it = some o ∧ o.data = .fields fs := by
  cases b with
  | lst a => obtain ⟨o, e, _, d⟩ := st; exact ⟨o, _, e, d⟩
  | tup a => obtain ⟨o, e, _, d⟩ := st; exact ⟨o, _, e, d⟩
theorem Bs.its_obj {b : Bs} {h : Heap} {its : Array Value} (st : b.its h its) : ∃ o n, h.get? b.addr = some o ∧ o.data = .seq its n := by
  cases b with
  | lst a => obtain ⟨o, e, _, n, d⟩ := st; exact ⟨o, n, e, d⟩
  | tup a => obtain ⟨o, e, _, n, d⟩ := st; exact ⟨o, n, e, d⟩
theorem Bs.iter_at {b : Bs} {h h' : Heap} {it : Addr} {i : Nat} (st : b.iter h it i) (k : ∀ o, h.get? it = some o → h'.get? it = some o) : b.iter h' it i := by
  cases b with
  | lst a => exact Heap.IsListIter.at st k
  | tup a => exact Heap.IsTupleIter.at st k
/-- what is walked is no record of fields -/
theorem Bs.ne_fields {b : Bs} {h : Heap} {its : Array Value} {e : Addr} {o : Obj} {fs : Array Value} (st : b.its h its) (he : h.get? e = some o) (hd : o.data = .fields fs) : e ≠ b.addr := fun z => by
  obtain ⟨o', n, e', d⟩ := Bs.its_obj st
  rw [← z, he] at e'
  cases e'
  rw [hd] at d
  cases d
section
variable {X : Cx} {pins : List (Addr × Obj)} {σ : L2.St} {H : Hp} {s : Shared}
theorem Bs.read {b : Bs} {xs : List V} (I : Inv X pins σ H s) (h : b.has X.K H xs) : ∃ its : List Value, Vals xs its ∧ b.its s.heap its.toArray := by
  cases b with
  | lst a => obtain ⟨its, rv, p, _⟩ := I.list h; exact ⟨its, rv, p.isList⟩
  | tup a => obtain ⟨its, rv, p, _⟩ := I.tuple h; exact ⟨its, rv, p⟩
theorem Bs.inj {b : Bs} {xs ys : List V} (I : Inv X pins σ H s) (h : b.has X.K H xs) (h' : b.has X.K H ys) : xs = ys := by
  cases b with
  | lst a => exact I.list_inj h h'
  | tup a => exact I.tuple_inj h h'
end
def ItE (K : PySem.W.Frag) (b : Bs) : L2.It :=
  ⟨fun i H => ∃ xs x, b.has K H xs ∧ xs[i]? = some x, fun i H v H' => ∃ Tp x, v = .ref Tp ∧ H Tp = none ∧ H' = upd H Tp (.tup [.int (i : Nat), x]) ∧ ∀ xs, b.has K H xs → xs[i]? = some x, fun i H => ∃ xs, b.has K H xs ∧ xs.length = i⟩
theorem turn_enumB {P : Program} {w : World} {K : PySem.W.Frag} {elts : List Expr} {kk : Nat} {tpos : Pos} (b : Bs) (e it : Addr) :
    Turn P w K (.Tuple elts kk tpos) (ItE K b) [e, it] e (fun i h => (∃ old, IsEnum h e it ((i : Nat) : Int) old) ∧ b.iter h it i ∧ e ≠ it) where
  mem := by simp
  obj := fun i h st c hb => by
    obtain ⟨⟨old, he⟩, hi, _⟩ := st
    obtain ⟨o, fs, ho, hd⟩ := Bs.iter_obj hi
    have e' : c = e ∨ c = it := by simpa using hb
    rcases e' with z | z
    · rw [z]; exact ⟨_, he, fun v q => nomatch q⟩
    · rw [z]; exact ⟨o, ho, fun v q => by rw [hd] at q; cases q⟩
  keep := fun i h h' st k => let ⟨⟨old, he⟩, hi, hne⟩ := st; ⟨⟨old, k e (by simp) _ he⟩, Bs.iter_at hi fun o q => k it (by simp) o q, hne⟩
  item := by
    intro X hP hw hK hc i pins s σ H E I hf st hg
    subst hP hw hK
    obtain ⟨⟨old, he⟩, hit, hne⟩ := st
    obtain ⟨xs, x, hq, hx⟩ := hg
    obtain ⟨its, rv, p⟩ := Bs.read I hq
    obtain ⟨u, hu, ru⟩ := rv.get hx
    obtain ⟨oi, fi, hoi, hdi⟩ := Bs.iter_obj hit
    have hel : e < s.heap.objs.size := Heap.lt_size he
    have hil : it < s.heap.objs.size := Heap.lt_size hoi
    have n1 : it ≠ b.addr := Bs.ne_fields p hoi hdi
    have n2 : e ≠ b.addr := Bs.ne_fields p he rfl
    have hu' : its.toArray[i]? = some u := by simpa using hu
    have hlt : i < its.toArray.size := by
      rcases Array.getElem?_eq_some_iff.mp hu' with ⟨a, _⟩
      exact a
    refine wpAny_pyNext_enum_itemD (b.draws (A := X.A.in1) (I.ok.hd hc) it (Ne.symm n1) its.toArray) he ⟨hit, p⟩ hlt hne (by simp [hne, n2]) fun u' h' tk hP ho hst' hT hsz hk => ?_
    have hP : its.toArray[i]? = some u' := hP
    rw [hu'] at hP
    cases hP
    refine ⟨_, rfl, wpAny_letOwnedTupleGo_enum (s := { s with heap := h', toks := tk + 1 }) ho fun h'' he' sb => ?_⟩
    have hT2 : h''.get? s.heap.objs.size = some { cls := .type "tuple", data := .seq #[.int i tk, u] } := (sb.2 _ (Nat.ne_of_gt hel)).trans hT
    have new : ObjOk X.prog X.w (upd H s.heap.objs.size (.tup [.int (i : Nat), x])) h'' s.heap.objs.size (.tup [.int (i : Nat), x]) :=
      ⟨by show 2 ≤ sizeLine; decide, [.int i tk, u], .cons ⟨_, rfl⟩ (.cons ru .nil), ⟨_, hT2, rfl, _, rfl⟩⟩
    have I1 : Inv X pins σ (upd H s.heap.objs.size (.tup [.int (i : Nat), x])) { s with heap := h'', toks := tk + 1 } :=
      I.turnedNew (ch := [e, it]) (fun c ob hb q => (sb.2 c (fun z => hb (by simp [z]))).trans (hk c ob (fun z => hb (by simp [z])) (fun z => hb (by simp [z])) q)) hf (Nat.le_refl _) new
    refine ⟨.ref s.heap.objs.size, _, I1, rfl, ⟨_, x, rfl, I.hok.fresh (Nat.le_refl _), rfl, fun ys hy => by rw [Bs.inj I hy hq]; exact hx⟩, ⟨⟨u, ?_⟩, Bs.iter_at hst'.1 fun o q => (sb.2 it (Ne.symm hne)).trans q, hne⟩, fun c hb => ?_⟩
    · have e1 : ((i + 1 : Nat) : Int) = (i : Int) + 1 := by omega
      rw [e1]; exact he'
    · have hb' : c < s.heap.objs.size := by
        have e' : c = e ∨ c = it := by simpa using hb
        rcases e' with z | z
        · rw [z]; exact hel
        · rw [z]; exact hil
      rw [upd_ne (Nat.ne_of_lt hb')]
      exact (hf c hb).1
  done := by
    intro X hP hw hK hc i pins s σ H E I hf st hg
    subst hP hw hK
    obtain ⟨⟨old, he⟩, hit, hne⟩ := st
    obtain ⟨xs, hq, hx⟩ := hg
    obtain ⟨its, rv, p⟩ := Bs.read I hq
    obtain ⟨oi, fi, hoi, hdi⟩ := Bs.iter_obj hit
    have n1 : it ≠ b.addr := Bs.ne_fields p hoi hdi
    obtain ⟨f0, f1, f2, f3, f4, f5⟩ := hf it (by simp)
    have hl := rv.length
    have e1 : i = its.toArray.size := by simp; omega
    refine wpAny_pyNext_enum_endD (n := its.toArray.size) (b.draws (A := X.A.in1) (I.ok.hd hc) it (Ne.symm n1) its.toArray) he ⟨by rw [← e1]; exact hit, p⟩ fun h' eb => ⟨rfl, I.turned (t' := s.toks) (fun c o hb q => eb c o hb q) f0 f1 f3 f4 f5⟩
  self := fun A i s Q E st h => let ⟨⟨_, he⟩, _⟩ := st; wpAny_pyIter_enum he h
/-- a pair of each turn -/
def ItZ (K : PySem.W.Frag) (a b : Bs) : L2.It :=
  ⟨fun i H => ∃ (xs ys : List V) (x y : V), a.has K H xs ∧ b.has K H ys ∧ xs[i]? = some x ∧ ys[i]? = some y,
    fun i H v H' => ∃ Tp x y, v = .ref Tp ∧ H Tp = none ∧ H' = upd H Tp (.tup [x, y]) ∧ (∀ xs, a.has K H xs → xs[i]? = some x) ∧ ∀ ys, b.has K H ys → ys[i]? = some y,
    fun i H => ∃ xs ys : List V, a.has K H xs ∧ b.has K H ys ∧ i ≤ xs.length ∧ i ≤ ys.length ∧ (i = xs.length ∨ i = ys.length)⟩
theorem turn_zipB {P : Program} {w : World} {K : PySem.W.Frag} {elts : List Expr} {kk : Nat} {tpos : Pos} {a b : Bs} {z TI TO i1 i2 : Addr} (D : ZipSep2 z TI TO i1 i2 [i1, a.addr] [i2, b.addr]) :
    Turn P w K (.Tuple elts kk tpos) (ItZ K a b) [z, TI, TO, i1, i2] z (fun i h => IsZip h z TI TO .none ∧ IsTupOf2 h TI (.ref i1) (.ref i2) ∧ (∃ x y, IsTupOf2 h TO x y) ∧ a.iter h i1 i ∧ b.iter h i2 i) where
  mem := by simp
  obj := fun i h st c hc => by
    obtain ⟨hz, hTI, ⟨x, y, hTO⟩, h1, h2⟩ := st
    obtain ⟨o1, f1, e1, d1⟩ := Bs.iter_obj h1
    obtain ⟨o2, f2, e2, d2⟩ := Bs.iter_obj h2
    have e' : c = z ∨ c = TI ∨ c = TO ∨ c = i1 ∨ c = i2 := by simpa using hc
    rcases e' with q | q | q | q | q
    · rw [q]; exact ⟨_, hz, fun v q => nomatch q⟩
    · rw [q]; exact ⟨_, hTI, fun v q => nomatch q⟩
    · rw [q]; exact ⟨_, hTO, fun v q => nomatch q⟩
    · rw [q]; exact ⟨o1, e1, fun v q => by rw [d1] at q; cases q⟩
    · rw [q]; exact ⟨o2, e2, fun v q => by rw [d2] at q; cases q⟩
  keep := fun i h h' st k => by
    obtain ⟨hz, hTI, ⟨x, y, hTO⟩, h1, h2⟩ := st
    exact ⟨k z (by simp) _ hz, k TI (by simp) _ hTI, ⟨x, y, k TO (by simp) _ hTO⟩, Bs.iter_at h1 fun o q => k i1 (by simp) o q, Bs.iter_at h2 fun o q => k i2 (by simp) o q⟩
  item := by
    intro X hP hw hK hc i pins s σ H E I hf st hg
    subst hP hw hK
    obtain ⟨hz, hTI, ⟨x0, y0, hTO⟩, h1, h2⟩ := st
    obtain ⟨xs, ys, x, y, hqx, hqy, hx, hy⟩ := hg
    obtain ⟨its, rv, p⟩ := Bs.read I hqx
    obtain ⟨its2, rv2, p2⟩ := Bs.read I hqy
    obtain ⟨u, hu, ru⟩ := rv.get hx
    obtain ⟨u2, hu2, ru2⟩ := rv2.get hy
    obtain ⟨o1, f1, e1, d1⟩ := Bs.iter_obj h1
    obtain ⟨o2, f2, e2, d2⟩ := Bs.iter_obj h2
    have hzl : z < s.heap.objs.size := Heap.lt_size hz
    have hu' : its.toArray[i]? = some u := by simpa using hu
    have hu2' : its2.toArray[i]? = some u2 := by simpa using hu2
    have l1 : i < its.toArray.size := by
      rcases Array.getElem?_eq_some_iff.mp hu' with ⟨a, _⟩
      exact a
    have l2 : i < its2.toArray.size := by
      rcases Array.getElem?_eq_some_iff.mp hu2' with ⟨a, _⟩
      exact a
    refine wpAny_pyNext_zipD2_item D (a.draws (A := X.A.in1) (I.ok.hd hc) i1 (Ne.symm (Bs.ne_fields p e1 d1)) its.toArray) (b.draws (A := X.A.in1) (I.ok.hd hc) i2 (Ne.symm (Bs.ne_fields p2 e2 d2)) its2.toArray) hz hTI hTO ⟨h1, p⟩ ⟨h2, p2⟩ l1 l2
      fun w1 w2 h' tk hP1 hP2 z' TO' h1' h2' hT hsz hk => ?_
    have hP1 : its.toArray[i]? = some w1 := hP1
    have hP2 : its2.toArray[i]? = some w2 := hP2
    rw [hu'] at hP1
    rw [hu2'] at hP2
    cases hP1
    cases hP2
    refine ⟨_, rfl, wpAny_letOwnedTupleGo_zip (s := { s with heap := h', toks := tk }) z' fun h'' z'' sb => ?_⟩
    have hT2 : h''.get? s.heap.objs.size = some { cls := .type "tuple", data := .seq #[u, u2] } := (sb.2 _ (Nat.ne_of_gt hzl)).trans hT
    have new : ObjOk X.prog X.w (upd H s.heap.objs.size (.tup [x, y])) h'' s.heap.objs.size (.tup [x, y]) :=
      ⟨by show 2 ≤ sizeLine; decide, [u, u2], .cons ru (.cons ru2 .nil), ⟨_, hT2, rfl, _, rfl⟩⟩
    have I1 : Inv X pins σ (upd H s.heap.objs.size (.tup [x, y])) { s with heap := h'', toks := tk } :=
      I.turnedNew (ch := [z, TI, TO, i1, i2]) (fun c o hb q => (sb.2 c (fun q' => hb (by simp [q']))).trans (hk c o (fun q' => hb (by simp [q'])) (fun q' => hb (by simp [q'])) (fun q' => hb (by simp [q'])) (fun q' => hb (by simp [q'])) q)) hf (Nat.le_refl _) new
    have i1z : i1 ≠ z := fun q => D.zf1 (by simp [q])
    have i2z : i2 ≠ z := fun q => D.zf2 (by simp [q])
    refine ⟨.ref s.heap.objs.size, _, I1, rfl, ⟨_, x, y, rfl, I.hok.fresh (Nat.le_refl _), rfl, fun l hl => by rw [Bs.inj I hl hqx]; exact hx, fun l hl => by rw [Bs.inj I hl hqy]; exact hy⟩, ⟨z'', ?_, ⟨u, u2, ?_⟩, ?_, ?_⟩, fun c hcm => ?_⟩
    · exact (sb.2 _ D.TIz).trans (hk _ _ D.TIz D.TITO D.TIi1 D.TIi2 hTI)
    · exact (sb.2 _ D.TOz).trans TO'
    · exact Bs.iter_at h1'.1 fun o q => (sb.2 _ i1z).trans q
    · exact Bs.iter_at h2'.1 fun o q => (sb.2 _ i2z).trans q
    · have hlt : c < s.heap.objs.size := by
        have e' : c = z ∨ c = TI ∨ c = TO ∨ c = i1 ∨ c = i2 := by simpa using hcm
        rcases e' with q | q | q | q | q
        · rw [q]; exact hzl
        · rw [q]; exact Heap.lt_size hTI
        · rw [q]; exact Heap.lt_size hTO
        · rw [q]; exact Heap.lt_size e1
        · rw [q]; exact Heap.lt_size e2
      rw [upd_ne (Nat.ne_of_lt hlt)]
      exact (hf c hcm).1
  done := by
    intro X hP hw hK hc i pins s σ H E I hf st hg
    subst hP hw hK
    obtain ⟨hz, hTI, ⟨x0, y0, hTO⟩, h1, h2⟩ := st
    obtain ⟨xs, ys, hqx, hqy, g1, g2, hend⟩ := hg
    obtain ⟨its, rv, p⟩ := Bs.read I hqx
    obtain ⟨its2, rv2, p2⟩ := Bs.read I hqy
    obtain ⟨o1, f1, e1, d1⟩ := Bs.iter_obj h1
    obtain ⟨o2, f2, e2, d2⟩ := Bs.iter_obj h2
    have l1 := rv.length
    have l2 := rv2.length
    have m1 : its.toArray.size = xs.length := by simp; omega
    have m2 : its2.toArray.size = ys.length := by simp; omega
    refine wpAny_pyNext_zipD2_end D (a.draws (A := X.A.in1) (I.ok.hd hc) i1 (Ne.symm (Bs.ne_fields p e1 d1)) its.toArray) (b.draws (A := X.A.in1) (I.ok.hd hc) i2 (Ne.symm (Bs.ne_fields p2 e2 d2)) its2.toArray) hz hTI hTO ⟨h1, p⟩ ⟨h2, p2⟩ (by omega) (by omega) (by omega)
      fun h' tk hk => ⟨rfl, I.turnedL (ch := [z, TI, TO, i1, i2]) (fun c o hb q => hk c o (fun q' => hb (by simp [q'])) (fun q' => hb (by simp [q'])) (fun q' => hb (by simp [q'])) (fun q' => hb (by simp [q'])) q) hf⟩
  self := fun A i s Q E st h => wpAny_pyIter_zip st.1 h
section
variable {X : Cx}
/-- enumerate(..) of a list, a tuple -/
def iEnumB (K : PySem.W.Frag) (te : TE) : TI := fun σ H R => te σ H fun v H1 => ∃ (b : Bs) (xs : List V), v = .ref b.addr ∧ b.has K H1 xs ∧ R (ItE K b) H1
theorem Bs.lt {b : Bs} {h : Heap} {its : Array Value} (st : b.its h its) : b.addr < h.objs.size := by
  obtain ⟨o, n, e, _⟩ := Bs.its_obj st
  exact Heap.lt_size e
end
end Mi
end
section
set_option maxHeartbeats 4000000
namespace Mi
open PySem PySem.Spec PyProof.Rows L2
section
variable {T : Tb} {W : WX} {X : Cx} {n : En} {σ : L2.St} {H0 H : Hp} {ρ : Env} {ts : List Tmp} {Q : VK}
/-! ### what a loop walks, by the data -/
structure Sw (T : Tb) (b : Bs) (u : Tmp) (s : Src) : Prop where
  has : ∀ {n : En} {H0 H : Hp} {σ : L2.St} {ρ : Env} {ts : List Tmp}, ST T n H0 H σ ρ ts → u ∈ ts → ((∃ k x, s.at_ k ρ = some x) ∨ s.fine ρ = true) →
    ∃ vs, b.has T.K H vs ∧ (∀ k x, s.at_ k ρ = some x → ∃ v, vs[k]? = some v ∧ Rp T H0 v x) ∧ (s.fine ρ = true → vs.length = s.len)
structure Walk (T : Tb) (J : L2.It) (us : List Tmp) (w : It) : Prop where
  go : ∀ {n : En} {H0 H : Hp} {σ : L2.St} {ρ : Env} {ts : List Tmp} {k : Nat} {x : D}, ST T n H0 H σ ρ ts → (∀ u ∈ us, u ∈ ts) → k < w.len → w.at_ k ρ = some x → J.go k H
  yld : ∀ {n : En} {H0 H H' : Hp} {σ : L2.St} {ρ : Env} {ts : List Tmp} {k : Nat} {x : D} {v : V}, ST T n H0 H σ ρ ts → (∀ u ∈ us, u ∈ ts) → k < w.len → w.at_ k ρ = some x → J.yld k H v H' → ∃ H0', ST T n H0' H' σ ρ ((v, .d x) :: ts)
  stop : ∀ {n : En} {H0 H : Hp} {σ : L2.St} {ρ : Env} {ts : List Tmp}, ST T n H0 H σ ρ ts → (∀ u ∈ us, u ∈ ts) → w.fine ρ = true → J.stop w.len H
def Bs.it (K : PySem.W.Frag) : Bs → L2.It
  | .lst a => Itl K a
  | .tup a => Itt K a
theorem Sw.snapL {p : Addr} {xs : List D} : Sw T (.lst p) (.ref p, .d (.lst xs)) (.snap xs) where
  has := fun S hu _ => by
    have r : Rp T _ (.ref p) (.lst xs) := S.temp _ hu
    cases r with
    | lst h r => exact ⟨_, .of (S.sub _ _ h), fun k x e => r.get e, fun _ => r.length⟩
theorem Sw.snapT {p : Addr} {xs : List D} : Sw T (.tup p) (.ref p, .d (.tup xs)) (.snap xs) where
  has := fun S hu _ => by
    have r : Rp T _ (.ref p) (.tup xs) := S.temp _ hu
    cases r with
    | tup h r => exact ⟨_, Same.sqT S.sub h, fun k x e => r.get e, fun _ => r.length⟩
theorem Sw.slot {p : Addr} {i m : Nat} : Sw T (.lst p) (.ref p, .bo i) (.slot i m) where
  has := fun {n H0 H σ ρ ts} S hu hv => by
    obtain ⟨a, s, b, c⟩ := S.temp _ hu
    have a : σ[i]? = some (some (.ref p)) := a
    -- the slot holds a list
    have hx : ∃ xs, obAt ρ i = some (.lst xs) := by
      cases e : obAt ρ i with
      | none =>
        rcases hv with ⟨k, x, z⟩ | z
        · have z : (match obAt ρ i with
            | some (.lst xs) => xs[k]?
            | _ => none) = some x := z
          rw [e] at z
          cases z
        · have z : (match obAt ρ i with
            | some (.lst xs) => xs.length == m
            | _ => false) = true := z
          rw [e] at z
          cases z
      | some o =>
        cases o with
        | lst xs => exact ⟨xs, rfl⟩
        | dic ks =>
          rcases hv with ⟨k, x, z⟩ | z
          · have z : (match obAt ρ i with
              | some (.lst xs) => xs[k]?
              | _ => none) = some x := z
            rw [e] at z
            cases z
          · have z : (match obAt ρ i with
              | some (.lst xs) => xs.length == m
              | _ => false) = true := z
            rw [e] at z
            cases z
        | ins q fs =>
          rcases hv with ⟨k, x, z⟩ | z
          · have z : (match obAt ρ i with
              | some (.lst xs) => xs[k]?
              | _ => none) = some x := z
            rw [e] at z
            cases z
          · have z : (match obAt ρ i with
              | some (.lst xs) => xs.length == m
              | _ => false) = true := z
            rw [e] at z
            cases z
    obtain ⟨xs, ex⟩ := hx
    have own : OwnAt σ ρ i p := by
      refine ⟨a, s, b, ?_⟩
      have ex : (match ρ[i]? with
        | some (.ow o) => some o
        | some (.pa o) => some o
        | _ => none) = some (Ob.lst xs) := ex
      rw [b] at ex
      cases s with
      | un => cases ex
      | sh d => cases ex
      | ow o => rfl
      | pa o => rfl
    obtain ⟨o, ho, r, h0⟩ := S.own_slot own
    have eo : o = .lst xs := by
      have ex : (match ρ[i]? with
        | some (.ow o) => some o
        | some (.pa o) => some o
        | _ => none) = some (Ob.lst xs) := ex
      rcases ho with ho | ho
      · rw [ho] at ex; exact Option.some.inj ex
      · rw [ho] at ex; exact Option.some.inj ex
    subst eo
    obtain ⟨vs, h1, h2⟩ := r
    refine ⟨vs, .of h1, fun k x e => ?_, fun e => ?_⟩
    · have e : (match obAt ρ i with
        | some (.lst xs) => xs[k]?
        | _ => none) = some x := e
      rw [ex] at e
      exact h2.get e
    · have e : (match obAt ρ i with
        | some (.lst xs) => xs.length == m
        | _ => false) = true := e
      rw [ex] at e
      rw [h2.length]
      exact eq_of_beq e
theorem src_walk {v : V} {r : Rs} {s : Src} (S : ST T n H0 H σ ρ ((v, r) :: ts)) (h : srcL ρ r = some s) : ∃ H0' u b, ST T n H0' H σ ρ (u :: ts) ∧ v = .ref (Bs.addr b) ∧ Sw T b u s ∧ ∀ i, u.2 = .bo i → i ∈ s.slots := by
  cases r with
  | d x =>
    cases x with
    | lst xs =>
      cases h
      have r : Rp T _ v (.lst xs) := S.temp _ (List.mem_cons_self ..)
      cases r with
      | lst h r => exact ⟨H0, _, .lst _, S, rfl, Sw.snapL, fun i e => nomatch e⟩
    | tup xs =>
      cases h
      have r : Rp T _ v (.tup xs) := S.temp _ (List.mem_cons_self ..)
      cases r with
      | tup h r => exact ⟨H0, _, .tup _, S, rfl, Sw.snapT, fun i e => nomatch e⟩
    | non => cases h
    | bl _ => cases h
    | int _ => cases h
    | str _ => cases h
    | dic _ => cases h
    | ins _ _ => cases h
    | scr _ => cases h
  | fr o =>
    cases o with
    | lst xs =>
      cases h
      obtain ⟨H0', S'⟩ := S.hold
      have r : Rp T _ v (.lst xs) := S'.temp _ (List.mem_cons_self ..)
      cases r with
      | lst h r => exact ⟨H0', _, .lst _, S', rfl, Sw.snapL, fun i e => nomatch e⟩
    | dic _ => cases h
    | ins _ _ => cases h
  | bo i =>
    have h : (match obAt ρ i with
      | some (.lst xs) => some (Src.slot i xs.length)
      | _ => none) = some s := h
    obtain ⟨a, t, b, c⟩ := S.temp _ (List.mem_cons_self ..)
    have a : σ[i]? = some (some v) := a
    cases e : obAt ρ i with
    | none => rw [e] at h; cases h
    | some o =>
      rw [e] at h
      cases o with
      | dic _ => cases h
      | ins _ _ => cases h
      | lst xs =>
        cases h
        have e : (match ρ[i]? with
          | some (.ow o) => some o
          | some (.pa o) => some o
          | _ => none) = some (Ob.lst xs) := e
        rw [b] at e
        obtain ⟨x, hx, q⟩ := S.slot i t b
        rw [a] at hx
        cases hx
        cases t with
        | un => cases e
        | sh d => cases e
        | ow o =>
          obtain ⟨p, ep, _⟩ := q
          cases ep
          exact ⟨H0, _, .lst p, S, rfl, Sw.slot, fun j z => by cases z; exact List.mem_singleton.mpr rfl⟩
        | pa o =>
          obtain ⟨p, ep, _⟩ := q
          cases ep
          exact ⟨H0, _, .lst p, S, rfl, Sw.slot, fun j z => by cases z; exact List.mem_singleton.mpr rfl⟩
theorem Walk.one {b : Bs} {u : Tmp} {s : Src} (w : Sw T b u s) : Walk T (b.it T.K) [u] (.one s) where
  go := fun {n H0 H σ ρ ts k x} S hu hk hx => by
    obtain ⟨vs, h1, h2, _⟩ := w.has S (hu u (List.mem_singleton.mpr rfl)) (.inl ⟨k, x, hx⟩)
    obtain ⟨v, h3, _⟩ := h2 k x hx
    cases b with
    | lst a => exact ⟨vs, v, h1, h3⟩
    | tup a => exact ⟨vs, v, h1, h3⟩
  yld := fun {n H0 H H' σ ρ ts k x v} S hu hk hx hy => by
    obtain ⟨vs, h1, h2, _⟩ := w.has S (hu u (List.mem_singleton.mpr rfl)) (.inl ⟨k, x, hx⟩)
    obtain ⟨v', h3, r⟩ := h2 k x hx
    have e : H' = H ∧ vs[k]? = some v := by
      cases b with
      | lst a => exact ⟨hy.1, hy.2 vs h1⟩
      | tup a => exact ⟨hy.1, hy.2 vs h1⟩
    obtain ⟨e1, e2⟩ := e
    subst e1
    rw [h3] at e2
    cases e2
    exact ⟨H0, S.addD r⟩
  stop := fun {n H0 H σ ρ ts} S hu hf => by
    obtain ⟨vs, h1, _, h2⟩ := w.has S (hu u (List.mem_singleton.mpr rfl)) (.inr hf)
    have e := h2 hf
    cases b with
    | lst a => exact ⟨vs, h1, Nat.le_of_eq e⟩
    | tup a => exact ⟨vs, h1, Nat.le_of_eq e⟩
/-- the signs of a text -/
theorem Walk.str {s : Tx} : Walk T (Its ⟨s.toArray⟩) [] (.one (.snap (s.map fun c => .str [c]))) where
  go := fun {n H0 H σ ρ ts k x} S hu hk hx => by
    show k < (⟨s.toArray⟩ : Str).cps.size
    have hk : k < (s.map fun c => D.str [c]).length := hk
    simpa using hk
  yld := fun {n H0 H H' σ ρ ts k x v} S hu hk hx hy => by
    obtain ⟨e1, c, e2, e3⟩ := hy
    subst e1 e3
    have hx : (s.map fun c => D.str [c])[k]? = some x := hx
    have e2 : s.toArray[k]? = some c := e2
    rw [List.getElem?_map] at hx
    rw [List.getElem?_toArray] at e2
    rw [e2] at hx
    cases hx
    exact ⟨H0, S.addD (.str [c])⟩
  stop := fun {n H0 H σ ρ ts} S hu hf => by
    show (⟨s.toArray⟩ : Str).cps.size ≤ (s.map fun c => D.str [c]).length
    simp
theorem Walk.rng {lo : Int} {m : Nat} : Walk T (Itr lo m) [] (.rng lo m) where
  go := fun S hu hk hx => hk
  yld := fun {n H0 H H' σ ρ ts k x v} S hu hk hx hy => by
    obtain ⟨e1, e2⟩ := hy
    subst e1 e2
    cases hx
    exact ⟨H0, S.addD (.int _)⟩
  stop := fun S hu hf => Nat.le_refl m
/-- a new tuple is one more temporary -/
theorem ST.newTup {vs : List V} {xs : List D} {p : Addr} (S : ST T n H0 H σ ρ ts) (hp : H p = none) (r : Rps T H0 vs xs) : ∃ H0', ST T n H0' (upd H p (.tup vs)) σ ρ ((.ref p, .d (.tup xs)) :: ts) := by
  refine ⟨upd H0 p (.tup vs), ST.addD ((S.grow (Same.new hp)).still upd_same (S.still_free hp) (S.entry_free hp) (fun i ho => ?_) (fun ht => ?_)) ?_⟩
  · obtain ⟨w, hw, _⟩ := S.own_there ho
    rw [hp] at hw
    cases hw
  · obtain ⟨w, hw, _⟩ := S.tmp_there ht
    rw [hp] at hw
    cases hw
  · exact .tup (.inl (.inl upd_same)) (r.mono (Same.new (S.still_free hp)))
theorem Walk.enum {b : Bs} {u : Tmp} {s : Src} (w : Sw T b u s) : Walk T (ItE T.K b) [u] (.enum s) where
  go := fun {n H0 H σ ρ ts k x} S hu hk hx => by
    have hx : (s.at_ k ρ).map (fun x => D.tup [.int (k : Nat), x]) = some x := hx
    cases e : s.at_ k ρ with
    | none => rw [e] at hx; cases hx
    | some y =>
      obtain ⟨vs, h1, h2, _⟩ := w.has S (hu u (List.mem_singleton.mpr rfl)) (.inl ⟨k, y, e⟩)
      obtain ⟨v, h3, _⟩ := h2 k y e
      exact ⟨vs, v, h1, h3⟩
  yld := fun {n H0 H H' σ ρ ts k x v} S hu hk hx hy => by
    have hx : (s.at_ k ρ).map (fun x => D.tup [.int (k : Nat), x]) = some x := hx
    cases e : s.at_ k ρ with
    | none => rw [e] at hx; cases hx
    | some y =>
      rw [e] at hx
      cases hx
      obtain ⟨vs, h1, h2, _⟩ := w.has S (hu u (List.mem_singleton.mpr rfl)) (.inl ⟨k, y, e⟩)
      obtain ⟨v', h3, r⟩ := h2 k y e
      obtain ⟨Tp, z, rfl, hn, rfl, hz⟩ := hy
      have e2 := hz vs h1
      rw [h3] at e2
      cases e2
      exact S.newTup hn (.cons (.int _) (.cons r .nil))
  stop := fun {n H0 H σ ρ ts} S hu hf => by
    obtain ⟨vs, h1, _, h2⟩ := w.has S (hu u (List.mem_singleton.mpr rfl)) (.inr hf)
    exact ⟨vs, h1, h2 hf⟩
theorem Walk.zip {a b : Bs} {u1 u2 : Tmp} {s1 s2 : Src} (w1 : Sw T a u1 s1) (w2 : Sw T b u2 s2) : Walk T (ItZ T.K a b) [u1, u2] (.zip s1 s2) where
  go := fun {n H0 H σ ρ ts k x} S hu hk hx => by
    have hx : ((s1.at_ k ρ).bind fun x => (s2.at_ k ρ).map fun y => D.tup [x, y]) = some x := hx
    cases e1 : s1.at_ k ρ with
    | none => rw [e1] at hx; cases hx
    | some y1 =>
      cases e2 : s2.at_ k ρ with
      | none => rw [e1, e2] at hx; cases hx
      | some y2 =>
        obtain ⟨vs, h1, h2, _⟩ := w1.has S (hu u1 (by simp)) (.inl ⟨k, y1, e1⟩)
        obtain ⟨ws, g1, g2, _⟩ := w2.has S (hu u2 (by simp)) (.inl ⟨k, y2, e2⟩)
        obtain ⟨v, h3, _⟩ := h2 k y1 e1
        obtain ⟨w, g3, _⟩ := g2 k y2 e2
        exact ⟨vs, ws, v, w, h1, g1, h3, g3⟩
  yld := fun {n H0 H H' σ ρ ts k x v} S hu hk hx hy => by
    have hx : ((s1.at_ k ρ).bind fun x => (s2.at_ k ρ).map fun y => D.tup [x, y]) = some x := hx
    cases e1 : s1.at_ k ρ with
    | none => rw [e1] at hx; cases hx
    | some y1 =>
      cases e2 : s2.at_ k ρ with
      | none => rw [e1, e2] at hx; cases hx
      | some y2 =>
        rw [e1, e2] at hx
        cases hx
        obtain ⟨vs, h1, h2, _⟩ := w1.has S (hu u1 (by simp)) (.inl ⟨k, y1, e1⟩)
        obtain ⟨ws, g1, g2, _⟩ := w2.has S (hu u2 (by simp)) (.inl ⟨k, y2, e2⟩)
        obtain ⟨v1, h3, r1⟩ := h2 k y1 e1
        obtain ⟨v2, g3, r2⟩ := g2 k y2 e2
        obtain ⟨Tp, z1, z2, rfl, hn, rfl, hz1, hz2⟩ := hy
        have q1 := hz1 vs h1
        have q2 := hz2 ws g1
        rw [h3] at q1
        rw [g3] at q2
        cases q1
        cases q2
        exact S.newTup hn (.cons r1 (.cons r2 .nil))
  stop := fun {n H0 H σ ρ ts} S hu hf => by
    have hf : (s1.fine ρ && s2.fine ρ) = true := hf
    rw [Bool.and_eq_true] at hf
    obtain ⟨vs, h1, _, h2⟩ := w1.has S (hu u1 (by simp)) (.inr hf.1)
    obtain ⟨ws, g1, _, g2⟩ := w2.has S (hu u2 (by simp)) (.inr hf.2)
    have q1 := h2 hf.1
    have q2 := g2 hf.2
    have e : (It.zip s1 s2).len = min s1.len s2.len := rfl
    rw [e]
    exact ⟨vs, ws, h1, g1, by omega, by omega, by omega⟩
end
end Mi
end
section
set_option maxHeartbeats 4000000
namespace PySem
set_option maxHeartbeats 1000000 in
theorem meets_enumerate_new1 {v : Value} {o : Obj} {H : Heap → Prop} (B : Begins v o H) :
    Meets (Builtin.«enumerate.__new__» ⟨[.type "enumerate", v], []⟩) (fun _ R s => H s.heap ∧
      R (.ok (.ret (.ref (s.heap.push o).objs.size))) { s with heap := (s.heap.push o).push { cls := .type "enumerate", data := .fields #[.none, .bool false, .ref s.heap.objs.size, rawInt 0, .none, .none] } }) :=
  .of_wp fun prog w A R s h => by
    obtain ⟨hp, g, d, tk, os⟩ := s
    obtain ⟨h1, h⟩ := h
    have hsub := sub_enumerate
    have q1 : ∀ {A' : Around} {E : Value → Shared → Prop} {Q : Value → Shared → Prop}, Q (.ref hp.objs.size) ⟨hp.push o, g, d, tk, os⟩ → wpAny (model prog w) A' (pyIter v) Q E ⟨hp, g, d, tk, os⟩ :=
      fun q => B.iter prog w _ _ ⟨hp, g, d, tk, os⟩ _ h1 q
    wp_walk using q1
    refine wpAny_stack_any fun st => wpAny_pure ?_
    split
    · rename_i c _ _ _ _ _
      cases (c == Value.type "enumerate")
      · wp_walk using q1
        exact ⟨_, rfl, h⟩
      · wp_walk using q1
        exact ⟨_, rfl, h⟩
    · wp_walk using q1
      exact ⟨_, rfl, h⟩
section
variable {prog : Program} {w : World} {A : Around} {E : Value → Shared → Prop} {s : Shared}
theorem enum_begins1 {v : Value} {o : Obj} {H : Heap → Prop} {Q : Value → Shared → Prop} (B : Begins v o H) (h1 : H s.heap)
    (h : ∀ h', IsEnum h' (s.heap.objs.size + 1) s.heap.objs.size 0 .none → h'.get? s.heap.objs.size = some o → h'.objs.size = s.heap.objs.size + 2 →
      (∀ b o, s.heap.get? b = some o → h'.get? b = some o) → Q (.ref (s.heap.objs.size + 1)) { s with heap := h' }) :
    wpAny (model prog w) A (call (.type "enumerate") [v]) Q E s := by
  refine callType_new F.called_enumerate (by decide) (F.typeCall_enumerate_1 _) (F.newCall_enumerate_1 _) (fun obj => F.args_object_init_2 obj _) F.entry_enumerate_new
    (meets_enumerate_new1 B) ⟨h1, ?_⟩
  have hz : (s.heap.push o).objs.size = s.heap.objs.size + 1 := Heap.size_push ..
  show _ ∧ _
  rw [hz]
  have he : IsEnum ((s.heap.push o).push { cls := .type "enumerate", data := .fields #[.none, .bool false, .ref s.heap.objs.size, rawInt 0, .none, .none] }) (s.heap.objs.size + 1) s.heap.objs.size 0 .none := by
    have := Heap.get?_push_size (s.heap.push o) (o := { cls := .type "enumerate", data := .fields #[.none, .bool false, .ref s.heap.objs.size, rawInt 0, .none, .none] }) rfl
    rw [hz] at this; exact this
  refine ⟨⟨_, he, rfl⟩, h _ he (Heap.get?_push_of_some _ (Heap.get?_push_size _ B.free)) (by rw [Heap.size_push, hz]) fun b o x => Heap.get?_push_of_some _ (Heap.get?_push_of_some _ x)⟩
end
end PySem
namespace Mi
open PySem PySem.Spec PyProof.Rows L2
section
variable {T : Tb} {W : WX} {X : Cx} {n : En} {σ : L2.St} {H0 H : Hp} {ρ : Env} {ts : List Tmp} {Q : VK}
theorem pi_imp {tg e : Expr} {t t' : TI} (h : PI X tg e t) (k : ∀ σ H R, t' σ H R → t σ H R) : PI X tg e t' := ⟨fun pins s σ H R I q => h.run pins s σ H R I (k σ H R q)⟩
/-- a list, a tuple, a text -/
def iSeq (K : PySem.W.Frag) (t : TE) : TI := fun σ H R => t σ H fun v H1 => (∃ b vs, v = .ref (Bs.addr b) ∧ b.has K H1 vs ∧ R (Bs.it K b) H1) ∨ ∃ x, v = .str x ∧ R (Its x) H1
theorem pi_seqB {tg e : Expr} {t : TE} (he : PE X e t) : PI X tg e (iSeq X.K t) := by
  refine ⟨fun pins s σ H R I h => ?_⟩
  refine thn (he.run pins s σ H _ I h) fun v s1 ⟨y, H1, I1, r1, q1⟩ => ?_
  rcases q1 with ⟨b, vs, ey, hb, q⟩ | ⟨x, ex, q⟩
  · cases b with
    | lst a =>
      have ey : y = .ref a := ey
      subst ey
      cases r1
      obtain ⟨its, rv, p, hz⟩ := I1.list (show SqL X.K H1 a vs from hb)
      exact wpAny_pyIter_list p.isList (pi_one (tk := s1.toks) I1 _ (turn_list a _) ⟨_, Heap.get?_push_size _ rfl, rfl, rfl⟩ q)
    | tup a =>
      have ey : y = .ref a := ey
      subst ey
      cases r1
      obtain ⟨its, rv, p, hz⟩ := I1.tuple (show SqT X.K H1 a vs from hb)
      exact wpAny_pyIter_tuple (show s1.heap.IsTuple a its.toArray from p) (pi_one (tk := s1.toks) I1 _ (turn_tuple a _) ⟨_, Heap.get?_push_size _ rfl, rfl, rfl⟩ q)
  · subst ex
    obtain ⟨t, rfl⟩ := r1
    cases ha : x.cps.all (· < 128)
    · exact wpAny_pyIter_wide ha (pi_one (tk := s1.toks) I1 _ (turn_str _ x t "str_iterator" (.inr rfl)) ⟨_, Heap.get?_push_size _ rfl, rfl, rfl⟩ q)
    · exact wpAny_pyIter_ascii ha (pi_one (tk := s1.toks) I1 _ (turn_str _ x t "str_ascii_iterator" (.inl rfl)) ⟨_, Heap.get?_push_size _ rfl, rfl, rfl⟩ q)
theorem pi_enumB {e : Expr} {te : TE} {p pos tpos : Pos} {elts : List Expr} {kk : Nat} (hg : Gl X "enumerate") (hm : X.mg "enumerate" = none) (he : PE X e te) (hs : starEach [e] X.env = [(false, eval e X.env)]) :
    PI X (.Tuple elts kk tpos) (.Call (.Name "enumerate" p) [e] [] pos) (iEnumB X.K te) := by
  refine ⟨fun pins s σ H R I h => ?_⟩
  refine Call_ (ld_blt I hg hm boot_enumerate (PyProof.Rows.callWith_type1 (thn ((pa_cons he pa_nil hs).run pos pins s σ H (fun vs H1 => match vs with
    | [v] => ∃ (b : Bs) (xs : List V), v = .ref b.addr ∧ b.has X.K H1 xs ∧ R (ItE X.K b) H1
    | _ => False) I h) fun us s1 ⟨vs, H1, I1, r1, q1⟩ => ?_) hs rfl))
  cases r1 with
  | nil => exact q1.elim
  | cons r rr =>
    cases rr with
    | cons r2 r3 => exact q1.elim
    | nil =>
      obtain ⟨b, xs, ex, hq, q⟩ := q1
      subst ex
      cases r
      obtain ⟨its, rv, p'⟩ := Bs.read I1 hq
      refine enum_begins1 (b.begins its.toArray) p' fun h' he hit hsz hk => wpAny_pyIter_enum he ?_
      have I2 : Inv X pins σ H1 { s1 with heap := h' } := I1.kept (t' := s1.toks) hk
      refine ⟨s1.heap.objs.size + 1, [s1.heap.objs.size + 1, s1.heap.objs.size], _, _, H1, rfl, I2, turn_enumB b (s1.heap.objs.size + 1) s1.heap.objs.size, ⟨⟨.none, he⟩, b.fresh hit, Nat.succ_ne_self _⟩, fun c hb => ?_, q⟩
      have e' : c = s1.heap.objs.size + 1 ∨ c = s1.heap.objs.size := by simpa using hb
      have hle : s1.heap.objs.size ≤ c := by
        rcases e' with z | z
        · rw [z]; exact Nat.le_add_right _ _
        · rw [z]; exact Nat.le_refl _
      exact I1.fpOk hle (I1.hok.fresh hle)
def iZipB (K : PySem.W.Frag) (ta tb : TE) : TI := fun σ H R => ta σ H fun v H1 => tb σ H1 fun w H2 => ∃ (a b : Bs) (xs ys : List V), v = .ref a.addr ∧ w = .ref b.addr ∧ a.has K H2 xs ∧ b.has K H2 ys ∧ R (ItZ K a b) H2
theorem pi_zipB {e e2 : Expr} {ta tb : TE} {p pos tpos : Pos} {elts : List Expr} {kk : Nat} (hg : Gl X "zip") (hm : X.mg "zip" = none) (he : PE X e ta) (he2 : PE X e2 tb)
    (hs : starEach [e, e2] X.env = (false, eval e X.env) :: starEach [e2] X.env) (hs2 : starEach [e2] X.env = (false, eval e2 X.env) :: starEach [] X.env) (hpl : (backTo pos (starEach [e2] X.env)).any (·.1) = false) :
    PI X (.Tuple elts kk tpos) (.Call (.Name "zip" p) [e, e2] [] pos) (iZipB X.K ta tb) := by
  refine ⟨fun pins s σ H R I h => ?_⟩
  refine Call_ (ld_blt I hg hm PyProof.Rows.boot_zip (PyProof.Rows.callWith_type1 (thn ((pa_cons he (pa_cons he2 pa_nil hs2) hs).run pos pins s σ H (fun vs H1 => match vs with
    | [v, w] => ∃ (a b : Bs) (xs ys : List V), v = .ref a.addr ∧ w = .ref b.addr ∧ a.has X.K H1 xs ∧ b.has X.K H1 ys ∧ R (ItZ X.K a b) H1
    | _ => False) I h) fun us s1 ⟨vs, H1, I1, r1, q1⟩ => ?_) hs hpl))
  cases r1 with
  | nil => exact q1.elim
  | cons r rr =>
  cases rr with
  | nil => exact q1.elim
  | cons r' rr =>
  cases rr with
  | cons _ _ => exact q1.elim
  | nil =>
    obtain ⟨a, b, xs, ys, ex, ey, hqx, hqy, q⟩ := q1
    subst ex ey
    cases r
    cases r'
    obtain ⟨its, rv, p1⟩ := Bs.read I1 hqx
    obtain ⟨its2, rv2, p2⟩ := Bs.read I1 hqy
    have la := Bs.lt p1
    have lb := Bs.lt p2
    refine zip_begins2 (a.begins its.toArray) (b.begins its2.toArray) p1 p2 fun h' hz hTI hTO h1 h2 hsz hk => wpAny_pyIter_zip hz ?_
    have I2 : Inv X pins σ H1 { s1 with heap := h' } := I1.kept (t' := s1.toks) hk
    refine ⟨s1.heap.objs.size + 4, [s1.heap.objs.size + 4, s1.heap.objs.size + 2, s1.heap.objs.size + 3, s1.heap.objs.size, s1.heap.objs.size + 1], _, _, H1, rfl, I2,
      turn_zipB (zip_sep2 (fun c hc => by rw [List.mem_singleton.mp hc]; exact la) fun c hc => by rw [List.mem_singleton.mp hc]; exact lb), ⟨hz, hTI, ⟨_, _, hTO⟩, a.fresh h1, b.fresh h2⟩, fun c hcm => ?_, q⟩
    have e' : c = s1.heap.objs.size + 4 ∨ c = s1.heap.objs.size + 2 ∨ c = s1.heap.objs.size + 3 ∨ c = s1.heap.objs.size ∨ c = s1.heap.objs.size + 1 := by simpa using hcm
    have hle : s1.heap.objs.size ≤ c := by
      rcases e' with z | z | z | z | z
      · rw [z]; exact Nat.le_add_right _ _
      · rw [z]; exact Nat.le_add_right _ _
      · rw [z]; exact Nat.le_add_right _ _
      · rw [z]; exact Nat.le_refl _
      · rw [z]; exact Nat.le_add_right _ _
    exact I1.fpOk hle (I1.hok.fresh hle)
/-! ### by the readings -/
section
variable (T : Tb) (W : WX)
def rdI (d : Env → Out It) : TI := fun σ H R => ∃ n H0 ρ ts, ST T n H0 H σ ρ ts ∧ Post T W n σ ts (d ρ) fun w ρ' H0' H' => ∀ J us, Walk T J us w → ST T n H0' H' σ ρ' (us ++ ts) → (∀ u ∈ us, ∀ i, u.2 = .bo i → i ∈ w.slots) → R J H'
end
theorem srcL_of {e : Env} {r : Rs} {s : Src} (h : srcOf e r = some s) (k : ∀ x, r ≠ .d (.str x)) : srcL e r = some s := by
  unfold srcL
  split
  · rename_i x
    exact (k _ rfl).elim
  · exact h
theorem srcOf_fine {e : Env} {r : Rs} {s : Src} (h : srcOf e r = some s) : s.fine e = true := by
  cases r with
  | d x => cases x <;> first | (cases h; rfl) | (cases h)
  | fr o => cases o <;> first | (cases h; rfl) | (cases h)
  | bo i =>
    have h : (match obAt e i with
      | some (.lst xs) => some (Src.slot i xs.length)
      | _ => none) = some s := h
    cases eo : obAt e i with
    | none => rw [eo] at h; cases h
    | some o =>
      rw [eo] at h
      cases o with
      | dic _ => cases h
      | ins _ _ => cases h
      | lst xs =>
        cases h
        show (match obAt e i with
          | some (.lst ys) => ys.length == xs.length
          | _ => false) = true
        rw [eo]
        exact beq_self_eq_true _
theorem srcL_src {e : Env} {r : Rs} {s : Src} (h : srcL e r = some s) : srcOf e r = some s := by
  unfold srcL at h
  split at h
  · cases h
  · exact h
theorem src_now {v : V} {r : Rs} {s : Src} (S : ST T n H0 H σ ρ ((v, r) :: ts)) (h : srcL ρ r = some s) : ∃ H0' u b vs, ST T n H0' H σ ρ (u :: ts) ∧ v = .ref (Bs.addr b) ∧ Sw T b u s ∧ (∀ i, u.2 = .bo i → i ∈ s.slots) ∧ b.has T.K H vs := by
  obtain ⟨H0', u, b, S', ev, w, hs⟩ := src_walk S h
  obtain ⟨vs, hv, _⟩ := w.has S' (List.mem_cons_self ..) (.inr (srcOf_fine (srcL_src h)))
  exact ⟨H0', u, b, vs, S', ev, w, hs, hv⟩
theorem pi_one_rd (ok : Cok T X) {tg e : Expr} {d : Env → Out Rs} (he : PE X e (rd T W d)) : PI X tg e (rdI T W fun e => (d e).bind fun r e1 => Out.of e1 ((srcOf e1 r).map .one)) := by
  refine pi_imp (pi_seqB he) fun σ H R h => ?_
  obtain ⟨n, H0, ρ, ts, S, P⟩ := h
  refine rd_mono (rd_one S P) fun v H1 h => ?_
  obtain ⟨H0', ρ', ra, S', P'⟩ := h
  cases es : srcOf ρ' ra with
  | none => rw [es] at P'; exact P'.elim
  | some s =>
    rw [es] at P'
    by_cases k : ∃ x, ra = .d (.str x)
    · obtain ⟨x, rfl⟩ := k
      cases es
      have r : Rp T _ v (.str x) := S'.temp _ (List.mem_cons_self ..)
      cases r
      exact .inr ⟨_, rfl, P' _ _ _ [] Walk.str S'.drop fun u h => by simp at h⟩
    · obtain ⟨H0'', u, b, vs, S'', ev, w, hs, hv⟩ := src_now S' (srcL_of es fun x z => k ⟨x, z⟩)
      subst ev
      rw [ok.hK]
      exact .inl ⟨b, vs, rfl, hv, P' _ _ _ [u] (Walk.one w) S'' fun q hq i z => by
        rw [List.mem_singleton.mp hq] at z
        exact hs i z⟩
theorem pi_enum_rd (ok : Cok T X) {e : Expr} {d : Env → Out Rs} {p pos tpos : Pos} {elts : List Expr} {kk : Nat} (hg : Gl X "enumerate") (hm : X.mg "enumerate" = none) (he : PE X e (rd T W d)) (hs : starEach [e] X.env = [(false, eval e X.env)]) :
    PI X (.Tuple elts kk tpos) (.Call (.Name "enumerate" p) [e] [] pos) (rdI T W fun e => (d e).bind fun r e1 => Out.of e1 ((srcL e1 r).map .enum)) := by
  refine pi_imp (pi_enumB hg hm he hs) fun σ H R h => ?_
  obtain ⟨n, H0, ρ, ts, S, P⟩ := h
  refine rd_mono (rd_one S P) fun v H1 h => ?_
  obtain ⟨H0', ρ', ra, S', P'⟩ := h
  cases es : srcL ρ' ra with
  | none => rw [es] at P'; exact P'.elim
  | some s =>
    rw [es] at P'
    obtain ⟨H0'', u, b, vs, S'', ev, w, hs, hv⟩ := src_now S' es
    subst ev
    rw [ok.hK]
    exact ⟨b, vs, rfl, hv, P' _ _ _ [u] (Walk.enum w) S'' fun q hq i z => by
      rw [List.mem_singleton.mp hq] at z
      exact hs i z⟩
theorem pi_zip_rd (ok : Cok T X) {e e2 : Expr} {da db : Env → Out Rs} {p pos tpos : Pos} {elts : List Expr} {kk : Nat} (hg : Gl X "zip") (hm : X.mg "zip" = none) (he : PE X e (rd T W da)) (he2 : PE X e2 (rd T W db))
    (hs : starEach [e, e2] X.env = (false, eval e X.env) :: starEach [e2] X.env) (hs2 : starEach [e2] X.env = (false, eval e2 X.env) :: starEach [] X.env) (hpl : (backTo pos (starEach [e2] X.env)).any (·.1) = false) :
    PI X (.Tuple elts kk tpos) (.Call (.Name "zip" p) [e, e2] [] pos) (rdI T W fun e => (da e).bind fun q e1 => (db e1).bind fun r e2 => match srcL e2 q, srcL e2 r with
      | some x, some y => .ok (.zip x y) e2
      | _, _ => .no) := by
  refine pi_imp (pi_zipB hg hm he he2 hs hs2 hpl) fun σ H R h => ?_
  obtain ⟨n, H0, ρ, ts, S, P⟩ := h
  refine rd_mono (rd_two S P) fun v H1 h => rd_mono h fun y H2 h => ?_
  obtain ⟨H0', ρ', ra, rb, S', P'⟩ := h
  cases es : srcL ρ' ra with
  | none => rw [es] at P'; exact P'.elim
  | some s =>
    cases es2 : srcL ρ' rb with
    | none => rw [es, es2] at P'; exact P'.elim
    | some s2 =>
      rw [es, es2] at P'
      obtain ⟨Ha, u2, b2, ys, S2, ev2, w2, hs2, hv2⟩ := src_now S' es2
      obtain ⟨Hb, u1, b1, xs, S1, ev1, w1, hs1, hv1⟩ := src_now S2.swap es
      subst ev1 ev2
      rw [ok.hK]
      refine ⟨b1, b2, xs, ys, rfl, rfl, hv1, hv2, P' _ _ _ [u1, u2] (Walk.zip w1 w2) S1 fun q hq i z => ?_⟩
      rcases List.mem_cons.mp hq with rfl | hq
      · exact List.mem_append_left _ (hs1 i z)
      · rw [List.mem_singleton.mp hq] at z
        exact List.mem_append_right _ (hs2 i z)
theorem rng_b {j : Int} (h : decide (j.natAbs ≤ 4000000000000000000) = true) : -(2 ^ 62) ≤ j ∧ j < 2 ^ 62 := by
  have h := of_decide_eq_true h
  constructor <;> omega
theorem pi_rng1_rd {tg e : Expr} {d : Env → Out Rs} {p pos : Pos} (hg : Gl X "range") (hm : X.mg "range" = none) (he : PE X e (rd T W d)) (hs : starEach [e] X.env = [(false, eval e X.env)]) :
    PI X tg (.Call (.Name "range" p) [e] [] pos) (rdI T W fun e => (d e).bind fun r e1 => (partO e1 r).bind fun j e2 => if rngOk 0 j then .ok (.rng 0 j.toNat) e2 else .no) := by
  refine pi_imp (pi_range1 hg hm (pa_cons he pa_nil hs) hs) fun σ H R h => ?_
  obtain ⟨n, H0, ρ, ts, S, P⟩ := h
  show rd T W d σ H _
  refine rd_mono (rd_one S P) fun v H1 h => ?_
  obtain ⟨H0', ρ', ra, S', P'⟩ := h
  show ∃ j, _
  cases ra with
  | fr _ => exact P'.elim
  | bo _ => exact P'.elim
  | d x =>
    cases x with
    | int j =>
      have r : Rp T _ v (.int j) := S'.temp _ (List.mem_cons_self ..)
      cases r
      have P' : Post T W n σ ts (if rngOk 0 j then Out.ok (It.rng 0 j.toNat) ρ' else .no) _ := P'
      split at P'
      · rename_i hr
        unfold rngOk at hr
        simp only [Bool.and_eq_true] at hr
        obtain ⟨q1, q2⟩ := rng_b hr.2
        exact ⟨j, rfl, q1, q2, P' _ _ _ [] Walk.rng S'.drop fun u h => by simp at h⟩
      · exact P'.elim
    | non => exact P'.elim
    | bl _ => exact P'.elim
    | str _ => exact P'.elim
    | tup _ => exact P'.elim
    | lst _ => exact P'.elim
    | dic _ => exact P'.elim
    | ins _ _ => exact P'.elim
    | scr _ => exact P'.elim
theorem pi_rng2_rd {tg e e2 : Expr} {da db : Env → Out Rs} {p pos : Pos} (hg : Gl X "range") (hm : X.mg "range" = none) (he : PE X e (rd T W da)) (he2 : PE X e2 (rd T W db))
    (hs : starEach [e, e2] X.env = [(false, eval e X.env), (false, eval e2 X.env)]) (hs2 : starEach [e2] X.env = [(false, eval e2 X.env)]) :
    PI X tg (.Call (.Name "range" p) [e, e2] [] pos) (rdI T W fun e => (da e).bind fun q e1 => (partO e1 q).bind fun i e2 => (db e2).bind fun r e3 => (partO e3 r).bind fun j e4 => if rngOk i j then .ok (.rng i (j - i).toNat) e4 else .no) := by
  refine pi_imp (pi_range2 hg hm (pa_cons he (pa_cons he2 pa_nil hs2) (by rw [hs, hs2])) hs hs2) fun σ H R h => ?_
  obtain ⟨n, H0, ρ, ts, S, P⟩ := h
  show rd T W da σ H _
  refine rd_mono (rd_one S P) fun v H1 h => ?_
  obtain ⟨H0', ρ', ra, S', P'⟩ := h
  cases ra with
  | fr _ => exact P'.elim
  | bo _ => exact P'.elim
  | d x =>
    cases x with
    | int i =>
      have r : Rp T _ v (.int i) := S'.temp _ (List.mem_cons_self ..)
      cases r
      have S' := S'.drop
      show rd T W db σ H1 _
      refine rd_mono (rd_one S' P') fun w H2 h => ?_
      obtain ⟨H0'', ρ'', rb, S'', P''⟩ := h
      cases rb with
      | fr _ => exact P''.elim
      | bo _ => exact P''.elim
      | d y =>
        cases y with
        | int j =>
          have r : Rp T _ w (.int j) := S''.temp _ (List.mem_cons_self ..)
          cases r
          have P'' : Post T W n σ ts (if rngOk i j then Out.ok (It.rng i (j - i).toNat) ρ'' else .no) _ := P''
          split at P''
          · rename_i hr
            unfold rngOk at hr
            simp only [Bool.and_eq_true] at hr
            obtain ⟨q1, q2⟩ := rng_b hr.2
            obtain ⟨q3, q4⟩ := rng_b hr.1
            exact ⟨i, j, rfl, ⟨q3, q4, q1, q2⟩, P'' _ _ _ [] Walk.rng S''.drop fun u h => by simp at h⟩
          · exact P''.elim
        | non => exact P''.elim
        | bl _ => exact P''.elim
        | str _ => exact P''.elim
        | tup _ => exact P''.elim
        | lst _ => exact P''.elim
        | dic _ => exact P''.elim
        | ins _ _ => exact P''.elim
        | scr _ => exact P''.elim
    | non => exact P'.elim
    | bl _ => exact P'.elim
    | str _ => exact P'.elim
    | tup _ => exact P'.elim
    | lst _ => exact P'.elim
    | dic _ => exact P'.elim
    | ins _ _ => exact P'.elim
    | scr _ => exact P'.elim
end
end Mi
end
section
set_option maxHeartbeats 4000000
namespace Mi
open PySem PySem.Spec PyProof.Rows L2
/-! ### statements -/
section
variable (T : Tb) (W : WX)
def PostS (n : En) (ts : List Tmp) (o : SOut) (D : Ends) : Prop :=
  match o with
  | .nx ρ' => ∀ σ' H0' H', ST T n H0' H' σ' ρ' ts → D.nx σ' H'
  | .rt r ρ' => ∀ v σ' H0' H', (∀ i, r ≠ .bo i) → ST T n H0' H' σ' ρ' [(v, r)] → D.rt v H'
  | .ex x ρ' => ∀ dd σ' H0' H', ST T n H0' H' σ' ρ' [] → XR T H0' H' x dd → W (.ref (T.cA x.cls)) dd σ' H'
  | .no => False
/-- a statement's reading; A: the names that it stores -/
def rdS (A : List Nat) (d : Env → SOut) : TS := fun D σ H => ∃ n H0 ρ ts, ST T n H0 H σ ρ ts ∧ (∀ t ∈ ts, ∀ i, t.2 = .bo i → i ∉ A) ∧ PostS T W n ts (d ρ) D
end
section
variable {T : Tb} {W : WX} {X : Cx} {n : En} {σ : L2.St} {H0 H : Hp} {ρ : Env} {ts us vs : List Tmp} {Q : VK} {Z : Ends} {A B : List Nat}
theorem ps_imp {s : Stmt} {t t' : TS} (h : PS X s t) (k : ∀ D σ H, t' D σ H → t D σ H) : PS X s t' := ⟨fun pins s σ H D I q => h.run pins s σ H D I (k D σ H q)⟩
theorem pss_imp {s : List Stmt} {t t' : TS} (h : PSs X s t) (k : ∀ D σ H, t' D σ H → t D σ H) : PSs X s t' := ⟨fun pins s σ H D I q => h.run pins s σ H D I (k D σ H q)⟩
theorem ST.none_ (S : ST T n H0 H σ ρ ts) : ST T n H0 H σ ρ [] := ST.dropA (us := ts) (ts := []) (by rw [List.append_nil]; exact S)
theorem ST.only {t : Tmp} (S : ST T n H0 H σ ρ (t :: ts)) : ST T n H0 H σ ρ [t] := ST.dropA (us := ts) (S.perm (List.perm_append_singleton t ts).symm)
theorem PostS.more {o : SOut} (h : PostS T W n ts o Z) : PostS T W n (us ++ ts) o Z := by
  cases o with
  | nx ρ' => exact fun σ' H0' H' S => h σ' H0' H' S.dropA
  | rt r ρ' => exact h
  | ex x ρ' => exact h
  | no => exact h
theorem thn_one {da : Env → Out Rs} {f : Rs → Env → SOut} (S : ST T n H0 H σ ρ vs) (h : PostS T W n ts ((da ρ).thn fun r e1 => f r e1) Z) :
    rd T W da σ H fun x H1 => ∃ H0' ρ' ra, ST T n H0' H1 σ ρ' ((x, ra) :: vs) ∧ PostS T W n ts (f ra ρ') Z := by
  refine ⟨n, H0, ρ, vs, S, ?_⟩
  cases ea : da ρ with
  | no => rw [ea] at h; exact h.elim
  | ex x e => rw [ea] at h; exact fun dd H0' H' S' xr => h dd σ H0' H' S'.none_ xr
  | ok ra e1 => rw [ea] at h; exact fun H0' H1 v S1 => ⟨H0', e1, ra, S1, h⟩
theorem thn_t {da : Env → Out Bool} {f : Bool → Env → SOut} (S : ST T n H0 H σ ρ vs) (h : PostS T W n ts ((da ρ).thn fun r e1 => f r e1) Z) :
    rdT T W da σ H fun b H1 => ∃ H0' ρ', ST T n H0' H1 σ ρ' vs ∧ PostS T W n ts (f b ρ') Z := by
  refine ⟨n, H0, ρ, vs, S, ?_⟩
  cases ea : da ρ with
  | no => rw [ea] at h; exact h.elim
  | ex x e => rw [ea] at h; exact fun dd H0' H' S' xr => h dd σ H0' H' S'.none_ xr
  | ok ra e1 => rw [ea] at h; exact fun H0' H1 S1 => ⟨H0', e1, S1, h⟩
theorem rdT_mono {d : Env → Out Bool} {Q Q' : Bool → Hp → Prop} (h : rdT T W d σ H Q) (k : ∀ v H', Q v H' → Q' v H') : rdT T W d σ H Q' := by
  obtain ⟨n, H0, ρ, ts, S, p⟩ := h
  refine ⟨n, H0, ρ, ts, S, ?_⟩
  cases e : d ρ with
  | no => rw [e] at p; exact p.elim
  | ex x ρ' => rw [e] at p; exact p
  | ok r ρ' => rw [e] at p; exact fun H0' H' s => k _ _ (p H0' H' s)
theorem rdA_mono {d : Env → Out (List Rs)} {Q Q' : List V → Hp → Prop} (h : rdA T W d σ H Q) (k : ∀ v H', Q v H' → Q' v H') : rdA T W d σ H Q' := by
  obtain ⟨n, H0, ρ, ts, S, p⟩ := h
  refine ⟨n, H0, ρ, ts, S, ?_⟩
  cases e : d ρ with
  | no => rw [e] at p; exact p.elim
  | ex x ρ' => rw [e] at p; exact p
  | ok r ρ' => rw [e] at p; exact fun H0' H' v hl s => k _ _ (p H0' H' v hl s)
theorem rdI_mono {d : Env → Out It} {R R' : L2.It → Hp → Prop} (h : rdI T W d σ H R) (k : ∀ v H', R v H' → R' v H') : rdI T W d σ H R' := by
  obtain ⟨n, H0, ρ, ts, S, p⟩ := h
  refine ⟨n, H0, ρ, ts, S, ?_⟩
  cases e : d ρ with
  | no => rw [e] at p; exact p.elim
  | ex x ρ' => rw [e] at p; exact p
  | ok r ρ' => rw [e] at p; exact fun H0' H' J us w s c => k _ _ (p H0' H' J us w s c)
theorem thn_it {da : Env → Out It} {f : It → Env → SOut} (S : ST T n H0 H σ ρ vs) (h : PostS T W n ts ((da ρ).thn fun r e1 => f r e1) Z) :
    rdI T W da σ H fun J H1 => ∃ H0' ρ' w us, Walk T J us w ∧ ST T n H0' H1 σ ρ' (us ++ vs) ∧ (∀ u ∈ us, ∀ i, u.2 = .bo i → i ∈ w.slots) ∧ PostS T W n ts (f w ρ') Z := by
  refine ⟨n, H0, ρ, vs, S, ?_⟩
  cases ea : da ρ with
  | no => rw [ea] at h; exact h.elim
  | ex x e => rw [ea] at h; exact fun dd H0' H' S' xr => h dd σ H0' H' S'.none_ xr
  | ok w e1 => rw [ea] at h; exact fun H0' H1 J us wk S1 c => ⟨H0', e1, w, us, wk, S1, c, h⟩
/-! ### blocks -/
theorem pss_nilR : PSs X [] (rdS T W [] fun e => .nx e) := pss_imp pss_nil fun D σ H ⟨n, H0, ρ, ts, S, _, P⟩ => P σ H0 H S
theorem pss_consR {s : Stmt} {ss : List Stmt} {da db : Env → SOut} (h1 : PS X s (rdS T W A da)) (h2 : PSs X ss (rdS T W B db)) : PSs X (s :: ss) (rdS T W (A ++ B) fun e => (da e).seq db) := by
  refine pss_imp (pss_cons h1 h2) fun D σ H h => ?_
  obtain ⟨n, H0, ρ, ts, S, k, P⟩ := h
  have kB : ∀ t ∈ ts, ∀ i, t.2 = .bo i → i ∉ B := fun t ht i e z => k t ht i e (List.mem_append_right _ z)
  refine ⟨n, H0, ρ, ts, S, fun t ht i e z => k t ht i e (List.mem_append_left _ z), ?_⟩
  have P : PostS T W n ts ((da ρ).seq db) D := P
  cases ea : da ρ with
  | no => rw [ea] at P; exact P.elim
  | ex x e => rw [ea] at P; exact P
  | rt r e => rw [ea] at P; exact P
  | nx ρ1 => rw [ea] at P; exact fun σ' H0' H' S' => ⟨n, H0', ρ1, ts, S', kB, P⟩
/-! ### stores -/
theorem hold_may {i : Nat} {r : Rs} {x : D} {ρ' : Env} (h : mayPut ρ i = true) (hr : r.hold ρ = some (x, ρ')) : mayPut ρ' i = true := by
  cases r with
  | d y => cases hr; exact h
  | fr o => cases hr; exact h
  | bo j =>
    have hr : (match ρ[j]? with
      | some (.sh x) => some (x, ρ)
      | some (.ow o) => some (o.d, ρ.set j (.sh o.d))
      | _ => none) = some (x, ρ') := hr
    split at hr
    · cases hr; exact h
    · rename_i o ho
      cases hr
      by_cases e : j = i
      · subst e
        unfold mayPut
        rw [get_set_same (lt_of_get ho)]
      · unfold mayPut
        rw [get_set_ne e]
        exact h
    · cases hr
theorem putR_st {own : Bool} {i : Nat} {v : V} {r : Rs} {ρ' : Env} (S : ST T n H0 H σ ρ ((v, r) :: ts)) (h : putR own i r ρ = some ρ') (nb : ∀ t ∈ ts, t.2 ≠ .bo i) : ∃ H0', ST T n H0' H (σ.set i (some v)) ρ' ts := by
  unfold putR at h
  split at h
  · rename_i hm
    cases r with
    | d x => cases h; exact ⟨H0, S.store hm (.inl ⟨x, rfl, rfl⟩) nb⟩
    | fr o =>
      cases own with
      | true => cases h; exact ⟨H0, S.store hm (.inr ⟨o, rfl, rfl⟩) nb⟩
      | false =>
        cases h
        obtain ⟨H0', S'⟩ := S.hold
        exact ⟨H0', S'.store hm (.inl ⟨_, rfl, rfl⟩) nb⟩
    | bo j =>
      have h : (match (Rs.bo j).hold ρ with
        | some (x, e1) => some (e1.set i (.sh x))
        | none => none) = some ρ' := h
      cases er : (Rs.bo j).hold ρ with
      | none => rw [er] at h; cases h
      | some p =>
        obtain ⟨x, e1⟩ := p
        rw [er] at h
        cases h
        obtain ⟨H0', S'⟩ := S.holdR er
        exact ⟨H0', S'.store (hold_may hm er) (.inl ⟨_, rfl, rfl⟩) nb⟩
  · cases h
theorem unbo_st {v : V} {r r' : Rs} {ρ' : Env} (S : ST T n H0 H σ ρ ((v, r) :: ts)) (h : unbo r ρ = some (r', ρ')) : ∃ H0', ST T n H0' H σ ρ' ((v, r') :: ts) ∧ ∀ i, r' ≠ .bo i := by
  cases r with
  | d x => cases h; exact ⟨H0, S, fun i z => nomatch z⟩
  | fr o => cases h; exact ⟨H0, S, fun i z => nomatch z⟩
  | bo j =>
    have h : (match (Rs.bo j).hold ρ with
      | some (x, e1) => some (Rs.d x, e1)
      | none => none) = some (r', ρ') := h
    cases er : (Rs.bo j).hold ρ with
    | none => rw [er] at h; cases h
    | some p =>
      obtain ⟨x, e1⟩ := p
      rw [er] at h
      cases h
      obtain ⟨H0', S'⟩ := S.holdR er
      exact ⟨H0', S', fun i z => nomatch z⟩
theorem lock_ne {i : Nat} (k : ∀ t ∈ ts, ∀ i, t.2 = .bo i → i ∉ A) (h : i ∈ A) : ∀ t ∈ ts, t.2 ≠ .bo i := fun t ht e => k t ht i e h
theorem ps_setR {i : Nat} {x : Str} {e : Expr} {own : Bool} {d : Env → Out Rs} {pos pos' : Pos} (hN : X.N.Nodup) (hi : X.N[i]? = some x) (hx : Loc X.env.scope x) (he : PE X e (rd T W d)) (hs : swapsWith e (some (.Name x pos')) pos.line X.env = pure false)
    (hf : X.fn x = true ∨ X.env.scope.names.lookup x = some .local) : PS X (.Assign [.Name x pos'] e pos) (rdS T W [i] fun e => (d e).thn fun r e1 => SOut.of (putR own i r e1)) := by
  refine ps_imp (ps_set hN hi hx he hs hf) fun D σ H h => ?_
  obtain ⟨n, H0, ρ, ts, S, k, P⟩ := h
  refine rd_mono (thn_one S P) fun v H1 h => ?_
  obtain ⟨H0', ρ', ra, S', P'⟩ := h
  cases ep : putR own i ra ρ' with
  | none => rw [ep] at P'; exact P'.elim
  | some ρ2 =>
    rw [ep] at P'
    obtain ⟨H0'', S''⟩ := putR_st S' ep (lock_ne k (List.mem_singleton.mpr rfl))
    exact P' _ _ _ S''
theorem ps_expR {e : Expr} {d : Env → Out Rs} {pos : Pos} (he : PE X e (rd T W d)) (hs : swapsWith e none pos.line X.env = pure false) : PS X (.Expr e pos) (rdS T W [] fun e => (d e).thn fun _ e1 => .nx e1) := by
  refine ps_imp (ps_expr he hs) fun D σ H h => ?_
  obtain ⟨n, H0, ρ, ts, S, k, P⟩ := h
  refine rd_mono (thn_one S P) fun v H1 h => ?_
  obtain ⟨H0', ρ', ra, S', P'⟩ := h
  exact P' _ _ _ S'.drop
/-- slot i's object, one's own, is handed back -/
theorem ST.takeSlot {v : V} {i : Nat} {o : Ob} (S : ST T n H0 H σ ρ [(v, .bo i)]) (h : ρ[i]? = some (.ow o)) : ST T n H0 H σ (ρ.set i .un) [(v, .fr o)] := by
  obtain ⟨a, s, b, _⟩ := S.temp _ (List.mem_cons_self ..)
  have a : σ[i]? = some (some v) := a
  rw [h] at b
  cases b
  obtain ⟨y, hy, p, ep, hn, h0, r⟩ := S.slot i _ h
  rw [a] at hy
  cases hy
  cases ep
  have own : OwnAt σ ρ i p := ⟨a, _, h, rfl⟩
  have il := lt_of_get h
  have back : ∀ {j q}, OwnAt σ (ρ.set i .un) j q → OwnAt σ ρ j q ∧ j ≠ i := fun {j q} ⟨x1, s, x2, x3⟩ => by
    by_cases e : i = j
    · subst e
      rw [get_set_same il] at x2
      cases x2
      cases x3
    · rw [get_set_ne e] at x2
      exact ⟨⟨x1, s, x2, x3⟩, fun z => e z.symm⟩
  exact {
    sub := S.sub
    s0 := S.s0
    len := by rw [List.length_set]; exact S.len
    slot := fun j s hj => by
      by_cases e : i = j
      · subst e
        rw [get_set_same il] at hj
        cases hj
        exact ⟨_, a, True.intro⟩
      · rw [get_set_ne e] at hj
        exact S.slot j s hj
    temp := fun t ht => by
      rw [List.mem_singleton.mp ht]
      exact ⟨p, rfl, hn, h0, r⟩
    dist := fun j k q h1 h2 => S.dist j k q (back h1).1 (back h2).1
    dtt := by simp [tmpL]
    dts := fun q hq j hj => by
      rw [tmpL_cons_fr] at hq
      have hq : q = p := by simpa [tmpL] using hq
      subst hq
      obtain ⟨h1, h2⟩ := back hj
      exact h2 (S.dist j i q h1 own)
    pak := fun q hq => by
      obtain ⟨x1, o', x2⟩ := S.pak q hq
      have e : i ≠ q.1 := fun e => by
        rw [← e, h] at x2
        cases x2
      exact ⟨x1, o', by rw [get_set_ne e]; exact x2⟩
    keep := S.keep
    dom := S.dom
    new := S.new }
theorem retR_st {v : V} {r : Rs} (S : ST T n H0 H σ ρ ((v, r) :: ts)) (P : PostS T W n ts (retR r ρ) Z) : Z.rt v H := by
  have S := S.only
  cases r with
  | d x => exact P v σ H0 H (fun i z => nomatch z) S
  | fr o => exact P v σ H0 H (fun i z => nomatch z) S
  | bo i =>
    have P : PostS T W n ts (match ρ[i]? with
      | some (.ow o) => .rt (.fr o) (ρ.set i .un)
      | some (.sh x) => .rt (.d x) ρ
      | _ => .no) Z := P
    split at P
    · rename_i o ho
      exact P v σ H0 H (fun i z => nomatch z) (S.takeSlot ho)
    · rename_i x hx
      obtain ⟨a, s, b, _⟩ := S.temp _ (List.mem_cons_self ..)
      have a : σ[i]? = some (some v) := a
      obtain ⟨y, hy, w, e, r⟩ := S.slot i _ hx
      rw [a] at hy
      cases hy
      cases e
      exact P v σ H0 H (fun i z => nomatch z) (S.drop.addD r)
    · exact P.elim
theorem ps_retR {e : Expr} {d : Env → Out Rs} {pos : Pos} (he : PE X e (rd T W d)) : PS X (.Return (some e) pos) (rdS T W [] fun e => (d e).thn fun r e1 => retR r e1) := by
  refine ps_imp (ps_ret he) fun D σ H h => ?_
  obtain ⟨n, H0, ρ, ts, S, k, P⟩ := h
  refine rd_mono (thn_one S P) fun v H1 h => ?_
  obtain ⟨H0', ρ', ra, S', P'⟩ := h
  exact retR_st S' P'
theorem ps_retNR {pos : Pos} : PS X (.Return none pos) (rdS T W [] fun e => .rt (.d .non) e) := by
  refine ps_imp ps_retN fun D σ H h => ?_
  obtain ⟨n, H0, ρ, ts, S, k, P⟩ := h
  exact P _ _ _ _ (fun i z => nomatch z) (S.none_.addD .non)
theorem ps_passR {pos : Pos} : PS X (.Pass pos) (rdS T W [] fun e => .nx e) := ps_imp ps_pass fun D σ H ⟨n, H0, ρ, ts, S, _, P⟩ => P σ H0 H S
theorem ps_noR {s : Stmt} : PS X s (rdS T W [] fun _ => .no) := ps_imp ps_never fun D σ H ⟨n, H0, ρ, ts, S, _, P⟩ => P.elim
theorem ps_iteR {c : Expr} {a b : List Stmt} {pos : Pos} {dc : Env → Out Bool} {da db : Env → SOut} (hc : PT X c (rdT T W dc)) (ha : PSs X a (rdS T W A da)) (hb : PSs X b (rdS T W B db)) :
    PS X (.If c a b pos) (rdS T W (A ++ B) fun e => (dc e).thn fun k e1 => if k then da e1 else db e1) := by
  refine ps_imp (ps_if hc ha hb) fun D σ H h => ?_
  obtain ⟨n, H0, ρ, ts, S, k, P⟩ := h
  refine rdT_mono (thn_t S P) fun v H1 h => ?_
  obtain ⟨H0', ρ', S', P'⟩ := h
  cases v with
  | true => exact ⟨n, H0', ρ', ts, S', fun t ht i e z => k t ht i e (List.mem_append_left _ z), P'⟩
  | false => exact ⟨n, H0', ρ', ts, S', fun t ht i e z => k t ht i e (List.mem_append_right _ z), P'⟩
theorem ps_whlR {c : Expr} {a : List Stmt} {pos : Pos} {fuel : Nat} {dc : Env → Out Bool} {da : Env → SOut} (hp : PassesOwn (model X.prog X.w) X.A X.env X.xe) (hc : PT X c (rdT T W dc)) (ha : PSs X a (rdS T W A da)) :
    PS X (.While c a [] pos) (rdS T W A fun e => whlLoop dc da fuel e) := by
  refine ps_imp (ps_while hp hc ha) fun D σ H h => ?_
  refine ⟨fun m σ H => rdS T W A (fun e => whlLoop dc da m e) D σ H, ⟨fuel, h⟩, fun m σ H h => ?_⟩
  obtain ⟨n, H0, ρ, ts, S, k, P⟩ := h
  cases m with
  | zero => exact P.elim
  | succ m =>
    refine rdT_mono (thn_t S P) fun v H1 h => ?_
    obtain ⟨H0', ρ', S', P'⟩ := h
    cases v with
    | false => exact P' _ _ _ S'
    | true =>
      refine ⟨fun σ' H' => rdS T W A (fun e => whlLoop dc da m e) D σ' H', fun σ' H' q => ⟨m, Nat.lt_succ_self m, q⟩, n, H0', ρ', ts, S', k, ?_⟩
      have P' : PostS T W n ts ((da ρ').seq fun e2 => whlLoop dc da m e2) D := P'
      cases ea : da ρ' with
      | no => rw [ea] at P'; exact P'.elim
      | ex x e => rw [ea] at P'; exact P'
      | rt r e => rw [ea] at P'; exact P'
      | nx ρ1 => rw [ea] at P'; exact fun σ' H0'' H' S'' => ⟨n, H0'', ρ1, ts, S'', k, P'⟩
end
end Mi
end
section
set_option maxHeartbeats 4000000
namespace Mi
open PySem PySem.Spec PyProof.Rows L2
/-- alike beside some slots -/
def Wq (is : List Nat) (σ σ' : L2.St) : Prop := σ'.length = σ.length ∧ ∀ j, j ∉ is → σ'[j]? = σ[j]?
section
variable (T : Tb)
/-- a plain target's reading -/
def rdG (t : Tgt) : TG := fun v σ H Q => ∃ n H0 ρ ts x ρ', ST T n H0 H σ ρ ts ∧ Rp T H0 v x ∧ t.put x ρ = some ρ' ∧ (∀ u ∈ ts, ∀ i, u.2 = .bo i → i ∉ t.is) ∧ ∀ σ', Wq t.is σ σ' → ST T n H0 H σ' ρ' ts → Q σ' H
def rdGs (is : List Nat) : TGs := fun vs σ H Q => ∃ n H0 ρ ts xs ρ', ST T n H0 H σ ρ ts ∧ Rps T H0 vs xs ∧ putNs is xs ρ = some ρ' ∧ (∀ u ∈ ts, ∀ i, u.2 = .bo i → i ∉ is) ∧ ∀ σ', Wq is σ σ' → ST T n H0 H σ' ρ' ts → Q σ' H
end
section
variable {T : Tb} {W : WX} {X : Cx} {n : En} {σ : L2.St} {H0 H : Hp} {ρ : Env} {ts us : List Tmp} {Q : VK} {A B : List Nat}
theorem pg_imp {e : Expr} {t t' : TG} (h : PG X e t) (k : ∀ v σ H Q, t' v σ H Q → t v σ H Q) : PG X e t' := ⟨fun pins s σ H v u Q I r q => h.run pins s σ H v u Q I r (k v σ H Q q)⟩
theorem pgs_imp {e : List Expr} {t t' : TGs} (h : PGs X e t) (k : ∀ v σ H Q, t' v σ H Q → t v σ H Q) : PGs X e t' := ⟨fun pins s σ H v u Q I r q => h.run pins s σ H v u Q I r (k v σ H Q q)⟩
theorem pg_nmR {i : Nat} {x : Str} {pos : Pos} (hN : X.N.Nodup) (hi : X.N[i]? = some x) (hx : Loc X.env.scope x) (hf : X.fn x = true ∨ X.env.scope.names.lookup x = some .local) : PG X (.Name x pos) (rdG T (.nm i)) := by
  refine pg_imp (pg_name hN hi hx hf) fun v σ H Q h => ?_
  obtain ⟨n, H0, ρ, ts, x, ρ', S, r, hp, k, q⟩ := h
  have hp : (if mayPut ρ i then some (ρ.set i (.sh x)) else none) = some ρ' := hp
  split at hp
  · rename_i hm
    cases hp
    exact q _ ⟨by rw [List.length_set], fun j hj => get_set_ne fun e => hj (by rw [← e]; exact List.mem_singleton.mpr rfl)⟩ ((S.addD r).store hm (.inl ⟨x, rfl, rfl⟩) (lock_ne k (List.mem_singleton.mpr rfl)))
  · cases hp
theorem pgs_nilR : PGs X [] (rdGs T []) := by
  refine pgs_imp pgs_nil fun vs σ H Q h => ?_
  obtain ⟨n, H0, ρ, ts, xs, ρ', S, r, hp, k, q⟩ := h
  cases r with
  | cons _ _ => cases hp
  | nil => cases hp; exact ⟨rfl, q σ ⟨rfl, fun j _ => rfl⟩ S⟩
theorem pgs_consR {i : Nat} {is : List Nat} {e : Expr} {es : List Expr} (h1 : PG X e (rdG T (.nm i))) (h2 : PGs X es (rdGs T is)) (hs : (assignEach (e :: es) X.env).map (·.2) = assign e X.env :: (assignEach es X.env).map (·.2)) : PGs X (e :: es) (rdGs T (i :: is)) := by
  refine pgs_imp (pgs_cons h1 h2 hs) fun vs σ H Q h => ?_
  obtain ⟨n, H0, ρ, ts, xs, ρ', S, r, hp, k, q⟩ := h
  cases r with
  | nil => cases hp
  | @cons v x vs xs r rr =>
    have hp : (if mayPut ρ i then putNs is xs (ρ.set i (.sh x)) else none) = some ρ' := hp
    split at hp
    · rename_i hm
      refine ⟨v, vs, rfl, n, H0, ρ, ts, x, ρ.set i (.sh x), S, r, ?_, fun u hu j e z => ?_, fun σ' w S' => ⟨n, H0, _, ts, xs, ρ', S', rr, hp, fun u hu j e z => k u hu j e (List.mem_cons_of_mem _ z), fun σ2 w2 => q σ2 ⟨w2.1.trans w.1, fun j hj => (w2.2 j fun z => hj (List.mem_cons_of_mem _ z)).trans (w.2 j fun z => hj (by rw [List.mem_singleton.mp z]; exact List.mem_cons_self ..))⟩⟩⟩
      · show (if mayPut ρ i then some (ρ.set i (.sh x)) else none) = _
        rw [if_pos hm]
      · have z : j ∈ [i] := z
        rw [List.mem_singleton.mp z] at e
        exact k u hu i e (List.mem_cons_self ..)
    · cases hp
theorem pg_tpR (ok : Cok T X) {is : List Nat} {es : List Expr} {kk : Nat} {pos : Pos} (h : PGs X es (rdGs T is)) (hn : (assignEach es X.env).length = is.length) (hst : (assignEach es X.env).findIdx? (·.1) = none) : PG X (.Tuple es kk pos) (rdG T (.tp is)) := by
  refine pg_imp (pg_tup ok.calm h hn hst) fun v σ H Q h => ?_
  obtain ⟨n, H0, ρ, ts, x, ρ', S, r, hp, k, q⟩ := h
  have hp : (match tupD x with
    | some xs => putNs is xs ρ
    | none => none) = some ρ' := hp
  cases x with
  | tup xs =>
    have hp : putNs is xs ρ = some ρ' := hp
    cases r with
    | @tup p vs _ h1 h2 =>
      have len : ∀ {is : List Nat} {xs : List D} {ρ : Env}, putNs is xs ρ = some ρ' → xs.length = is.length := fun {is} => by
        induction is with
        | nil => intro xs ρ h; cases xs with
          | nil => rfl
          | cons _ _ => cases h
        | cons i is ih =>
          intro xs ρ h
          cases xs with
          | nil => cases h
          | cons x xs =>
            have h : (if mayPut ρ i then putNs is xs (ρ.set i (.sh x)) else none) = some ρ' := h
            split at h
            · simp [ih h]
            · cases h
      rw [ok.hK]
      exact ⟨p, vs, rfl, Same.sqT S.sub h1, by rw [h2.length, len hp], n, H0, ρ, ts, xs, ρ', S, h2, hp, k, q⟩
  | non => cases hp
  | bl _ => cases hp
  | int _ => cases hp
  | str _ => cases hp
  | lst _ => cases hp
  | dic _ => cases hp
  | ins _ _ => cases hp
  | scr _ => cases hp
/-- for -/
theorem ps_forR (ok : Cok T X) {tg iter : Expr} {body : List Stmt} {pos : Pos} {t : Tgt} {dw : Env → Out It} {db : Env → SOut} (hp : PassesOwn (model X.prog X.w) X.A X.env X.xe) (hi : PI X tg iter (rdI T W dw)) (hg : PG X tg (rdG T t)) (hb : PSs X body (rdS T W B db))
    (hs : ∀ x, foldedSetIterable iter X.env x = pure x) :
    PS X (.For tg iter body [] pos) (rdS T W (t.is ++ B) fun e => (dw e).thn fun w e1 => if w.slots.all (fun i => !(t.is ++ B).contains i) then forLoop w t db w.len 0 e1 else .no) := by
  refine ps_imp (ps_for hp ok.calm hi hg hb hs) fun D σ H h => ?_
  obtain ⟨n, H0, ρ, ts, S, k, P⟩ := h
  refine rdI_mono (thn_it S P) fun J H1 h => ?_
  obtain ⟨H0', ρ', w, us, wk, S', ks, P'⟩ := h
  split at P'
  · rename_i hw
    have lock : ∀ u ∈ us ++ ts, ∀ i, u.2 = .bo i → i ∉ t.is ++ B := fun u hu i e => by
      rcases List.mem_append.mp hu with hu | hu
      · have z := List.all_eq_true.mp hw i (ks u hu i e)
        intro m
        rw [List.contains_iff_mem.mpr m] at z
        cases z
      · exact k u hu i e
    refine ⟨fun i m σ H => i + m = w.len ∧ ∃ H0 ρ, ST T n H0 H σ ρ (us ++ ts) ∧ PostS T W n (us ++ ts) (forLoop w t db m i ρ) D, ⟨w.len, by omega, H0', ρ', S', P'.more⟩, fun i m σ H h => ?_⟩
    obtain ⟨hl, H0a, ρa, Sa, Pa⟩ := h
    cases m with
    | zero =>
      have hl : i = w.len := by omega
      subst hl
      have Pa : PostS T W n (us ++ ts) (if w.fine ρa then .nx ρa else .no) D := Pa
      split at Pa
      · rename_i hf
        exact .inl ⟨wk.stop Sa (fun u hu => List.mem_append_left _ hu) hf, Pa _ _ _ Sa⟩
      · exact Pa.elim
    | succ m =>
      have Pa : PostS T W n (us ++ ts) (match w.at_ i ρa with
        | some x => match t.put x ρa with
          | some e1 => (db e1).seq fun e2 => forLoop w t db m (i + 1) e2
          | none => .no
        | none => .no) D := Pa
      cases ex : w.at_ i ρa with
      | none => rw [ex] at Pa; exact Pa.elim
      | some x =>
        rw [ex] at Pa
        have Pa : PostS T W n (us ++ ts) (match t.put x ρa with
          | some e1 => (db e1).seq fun e2 => forLoop w t db m (i + 1) e2
          | none => .no) D := Pa
        cases ep : t.put x ρa with
        | none => rw [ep] at Pa; exact Pa.elim
        | some ρb =>
          rw [ep] at Pa
          have Pa : PostS T W n (us ++ ts) ((db ρb).seq fun e2 => forLoop w t db m (i + 1) e2) D := Pa
          have hu : ∀ u ∈ us, u ∈ us ++ ts := fun u hu => List.mem_append_left _ hu
          have hk : i < w.len := by omega
          refine .inr ⟨wk.go Sa hu hk ex, fun σ' H' => i + 1 + m = w.len ∧ ∃ H0 ρ, ST T n H0 H' σ' ρ (us ++ ts) ∧ PostS T W n (us ++ ts) (forLoop w t db m (i + 1) ρ) D, fun σ' H' q => ⟨m, Nat.lt_succ_self m, q⟩, fun v H' y => ?_⟩
          obtain ⟨H0b, Sb⟩ := wk.yld Sa hu hk ex y
          refine ⟨n, H0b, ρa, us ++ ts, x, ρb, Sb.drop, Sb.temp _ (List.mem_cons_self ..), ep, fun u hu i e z => lock u hu i e (List.mem_append_left _ z), fun σ' _ Sc => ?_⟩
          refine ⟨n, H0b, ρb, us ++ ts, Sc, fun u hu i e z => lock u hu i e (List.mem_append_right _ z), ?_⟩
          cases ed : db ρb with
          | no => rw [ed] at Pa; exact Pa.elim
          | ex x e => rw [ed] at Pa; exact Pa
          | rt r e => rw [ed] at Pa; exact Pa
          | nx ρc => rw [ed] at Pa; exact fun σ2 H02 H2 S2 => ⟨by omega, H02, ρc, S2, Pa⟩
  · exact P'.elim
/-- a, b = x, y -/
theorem ps_parR (ok : Cok T X) {i j : Nat} {x y : Str} {a b : Expr} {own1 own2 : Bool} {da db : Env → Out Rs} {px py pt pos : Pos} {kt k2 : Nat} {pt2 : Pos} (hN : X.N.Nodup) (hi : X.N[i]? = some x) (hj : X.N[j]? = some y) (hij : i ≠ j)
    (hx : X.env.scope.names.lookup x = some .local) (hy : X.env.scope.names.lookup y = some .local) (ha : PE X a (rd T W da)) (hb : PE X b (rd T W db)) (hst : starEach [a, b] X.env = (false, eval a X.env) :: starEach [b] X.env) (hst2 : starEach [b] X.env = (false, eval b X.env) :: starEach [] X.env)
    (hw : swappedStores [.Tuple [.Name x px, .Name y py] kt pt] (.Tuple [a, b] k2 pt2) X.env = pure (some [x, y])) (hs : swapsWithSole [.Tuple [.Name x px, .Name y py] kt pt] (.Tuple [a, b] k2 pt2) pos.line X.env = pure false) :
    PS X (.Assign [.Tuple [.Name x px, .Name y py] kt pt] (.Tuple [a, b] k2 pt2) pos) (rdS T W [i, j] fun e => (da e).thn fun r e1 => (db e1).thn fun q e2 => match unbo r e2 with
      | some (r', e3) => match unbo q e3 with
        | some (q', e4) => match putR own1 i r' e4 with
          | some e5 => SOut.of (putR own2 j q' e5)
          | none => .no
        | none => .no
      | none => .no) := by
  refine ps_imp (ps_par ok.calm hN hi hj hij hx hy (pa_cons ha (pa_cons hb pa_nil hst2) hst) hw hs) fun D σ H h => ?_
  obtain ⟨n, H0, ρ, ts, S, k, P⟩ := h
  show rd T W da σ H _
  refine rd_mono (thn_one S P) fun v H1 h => ?_
  obtain ⟨H01, ρ1, r, S1, P1⟩ := h
  show rd T W db σ H1 _
  refine rd_mono (thn_one S1 P1) fun w H2 h => ?_
  obtain ⟨H02, ρ2, q, S2, P2⟩ := h
  refine ⟨v, w, rfl, ?_⟩
  cases e1 : unbo r ρ2 with
  | none => rw [e1] at P2; exact P2.elim
  | some p =>
    obtain ⟨r', ρ3⟩ := p
    rw [e1] at P2
    obtain ⟨H03, S3, nb⟩ := unbo_st S2.swap e1
    have P2 : PostS T W n ts (match unbo q ρ3 with
        | some (q', e4) => match putR own1 i r' e4 with
          | some e5 => SOut.of (putR own2 j q' e5)
          | none => .no
        | none => .no) D := P2
    cases e2 : unbo q ρ3 with
    | none => rw [e2] at P2; exact P2.elim
    | some p =>
      obtain ⟨q', ρ4⟩ := p
      rw [e2] at P2
      obtain ⟨H04, S4, nb2⟩ := unbo_st S3.swap e2
      have P2 : PostS T W n ts (match putR own1 i r' ρ4 with
          | some e5 => SOut.of (putR own2 j q' e5)
          | none => .no) D := P2
      cases e3 : putR own1 i r' ρ4 with
      | none => rw [e3] at P2; exact P2.elim
      | some ρ5 =>
        rw [e3] at P2
        obtain ⟨H05, S5⟩ := putR_st S4.swap e3 fun t ht => by
          rcases List.mem_cons.mp ht with rfl | ht
          · exact nb2 i
          · exact lock_ne k (by simp) t ht
        have P2 : PostS T W n ts (SOut.of (putR own2 j q' ρ5)) D := P2
        cases e4 : putR own2 j q' ρ5 with
        | none => rw [e4] at P2; exact P2.elim
        | some ρ6 =>
          rw [e4] at P2
          obtain ⟨H06, S6⟩ := putR_st S5 e4 (lock_ne k (by simp))
          exact P2 _ _ _ S6
end
end Mi
end
section
set_option maxHeartbeats 4000000
namespace Mi
open PySem PySem.Spec PyProof.Rows L2
section
variable {T : Tb} {W : WX} {X : Cx} {n : En} {σ : L2.St} {H0 H : Hp} {ρ : Env} {ts us : List Tmp} {Q : VK} {A B : List Nat}
theorem rpk_any : ∀ {vs : List (Key × V)} {ks : List (D × D)} {k : Key} {q : D}, RpK T H vs ks → KyR k q → (vs.any fun kv => decide (kv.1 = k)) = ks.any fun p => eqD p.1 q
  | _, _, _, _, .nil, _ => rfl
  | _, _, k, q, .cons r _ rr, h => by
    simp only [List.any_cons]
    rw [ky_eq r h, rpk_any rr h]
theorem rpk_map : ∀ {vs : List (Key × V)} {ks : List (D × D)} {k : Key} {q : D} {v : V} {x : D}, RpK T H vs ks → KyR k q → Rp T H v x → RpK T H (vs.map fun kv => if kv.1 = k then (kv.1, v) else kv) (ks.map fun p => if eqD p.1 q then (p.1, x) else p)
  | _, _, _, _, _, _, .nil, _, _ => .nil
  | _, _, k, q, v, x, .cons (k := k1) (q := q1) r r2 rr, h, hv => by
    simp only [List.map_cons]
    have e := ky_eq r h
    have ih := rpk_map rr h hv
    by_cases z : k1 = k
    · rw [if_pos z]
      have e : eqD q1 q = true := by rw [← e]; exact decide_eq_true z
      rw [if_pos e]
      exact .cons r hv ih
    · rw [if_neg z]
      have e : eqD q1 q = false := by rw [← e]; exact decide_eq_false z
      rw [e]
      exact .cons r r2 ih
theorem rpk_app : ∀ {vs ws : List (Key × V)} {ks ls : List (D × D)}, RpK T H vs ks → RpK T H ws ls → RpK T H (vs ++ ws) (ks ++ ls)
  | _, _, _, _, .nil, h => h
  | _, _, _, _, .cons a b c, h => .cons a b (rpk_app c h)
theorem rpk_put {vs : List (Key × V)} {ks : List (D × D)} {k : Key} {q : D} {v : V} {x : D} (h : RpK T H vs ks) (hk : KyR k q) (hv : Rp T H v x) : RpK T H (putK vs k v) (putD q x ks) := by
  unfold putK putD
  rw [rpk_any h hk]
  split
  · exact rpk_map h hk hv
  · exact rpk_app h (.cons hk hv .nil)
/-- an own object, by its slot -/
theorem ob_at {v : V} {j : Nat} {o : Ob} (S : ST T n H0 H σ ρ ts) (m : (v, Rs.bo j) ∈ ts) (h : obAt ρ j = some o) : ∃ p, v = .ref p ∧ ObR T H0 H p o ∧ σ[j]? = some (some (.ref p)) ∧ (ρ[j]? = some (.ow o) ∨ ρ[j]? = some (.pa o)) := by
  obtain ⟨a, s, b, c⟩ := S.temp _ m
  have a : σ[j]? = some (some v) := a
  have h : (match ρ[j]? with
    | some (.ow o) => some o
    | some (.pa o) => some o
    | _ => none) = some o := h
  obtain ⟨y, hy, q⟩ := S.slot j s b
  rw [a] at hy
  cases hy
  rw [b] at h
  cases s with
  | un => cases h
  | sh d => cases h
  | ow o' => cases h; obtain ⟨p, ep, _, _, r⟩ := q; cases ep; exact ⟨p, rfl, r, a, .inl b⟩
  | pa o' => cases h; obtain ⟨p, ep, _, _, r⟩ := q; cases ep; exact ⟨p, rfl, r, a, .inr b⟩
theorem putOb_st {v : V} {j : Nat} {o o' : Ob} {ρ' : Env} (S : ST T n H0 H σ ρ ts) (m : (v, Rs.bo j) ∈ ts) (h : obAt ρ j = some o) (h2 : putOb ρ j o' = some ρ') :
    ∃ p, v = .ref p ∧ ObR T H0 H p o ∧ ∀ u, ObR T H0 (upd H p u) p o' → ST T n H0 (upd H p u) σ ρ' ts := by
  obtain ⟨p, e, r, a, b⟩ := ob_at S m h
  refine ⟨p, e, r, fun u ru => ?_⟩
  have h2 : (match ρ[j]? with
    | some (.ow _) => some (ρ.set j (.ow o'))
    | some (.pa _) => some (ρ.set j (.pa o'))
    | _ => none) = some ρ' := h2
  rcases b with b | b
  · rw [b] at h2
    cases h2
    exact S.write b (.inl ⟨rfl, rfl⟩) a ru
  · rw [b] at h2
    cases h2
    exact S.write b (.inr ⟨rfl, rfl⟩) a ru
/-! ### o[i] = v -/
def rSet : TSet := fun o i v H Q => rSetL o i v H Q ∨ rSetD o i v H Q
theorem set_any (ok : Cok T X) : PSet X rSet := fun pins s σ H o i v ov iv u Q I ro ri rv h => h.elim (set_list pins s σ H o i v ov iv u Q I ro ri rv) (set_dict (Nat.lt_of_le_of_lt (Nat.add_le_add_left (by decide) _) ok.un) pins s σ H o i v ov iv u Q I ro ri rv)
theorem setSub_st {ov iv v : V} {ro ri : Rs} {k x : D} {ρ' : Env} (S : ST T n H0 H σ ρ ((iv, ri) :: (ov, ro) :: (v, .d x) :: ts)) (hk : ri.see ρ = some k) (h : setSubS ro k x ρ = some ρ') {P : Hp → Prop} (q : ∀ H', ST T n H0 H' σ ρ' ts → P H') : rSet ov iv v H P := by
  cases ro with
  | d _ => cases h
  | fr _ => cases h
  | bo j =>
    have rv := S.seeOf (List.mem_cons_self ..) hk
    have rx : Rp T H0 v x := S.temp (v, .d x) (by simp)
    have h : (match obAt ρ j with
      | some (.lst xs) => (match (generalizing := false) k with
        | .int k => (plc xs.length k).bind fun n => putOb ρ j (.lst (xs.set n x))
        | _ => none)
      | some (.dic ks) => if keyD k && szOk ks.length then putOb ρ j (.dic (putD k x ks)) else none
      | _ => none) = some ρ' := h
    cases eo : obAt ρ j with
    | none => rw [eo] at h; cases h
    | some o =>
      rw [eo] at h
      cases o with
      | ins _ _ => cases h
      | lst xs =>
        have h : (match (generalizing := false) k with
          | .int k => (plc xs.length k).bind fun n => putOb ρ j (.lst (xs.set n x))
          | _ => none) = some ρ' := h
        cases k with
        | int k =>
          have h : ((plc xs.length k).bind fun n => putOb ρ j (.lst (xs.set n x))) = some ρ' := h
          cases ep : plc xs.length k with
          | none => rw [ep] at h; cases h
          | some m =>
            rw [ep] at h
            obtain ⟨p, e, ⟨vs, h1, h2⟩, w⟩ := putOb_st (v := ov) (j := j) S (by simp) eo h
            subst e
            obtain rfl := rv.int
            refine .inl ⟨p, vs, k, m, rfl, rfl, h1, by rw [h2.length, ← plc_ix]; exact ep, q _ (w _ ⟨_, upd_same, h2.set rx⟩).drop.drop.drop⟩
        | non => cases h
        | bl _ => cases h
        | str _ => cases h
        | tup _ => cases h
        | lst _ => cases h
        | dic _ => cases h
        | ins _ _ => cases h
        | scr _ => cases h
      | dic ks =>
        have h : (if keyD k && szOk ks.length then putOb ρ j (.dic (putD k x ks)) else none) = some ρ' := h
        split at h
        · rename_i hc
          rw [Bool.and_eq_true] at hc
          obtain ⟨p, e, ⟨vs, h1, h2⟩, w⟩ := putOb_st (v := ov) (j := j) S (by simp) eo h
          subst e
          obtain ⟨kk, ek, hk2⟩ := ky_of (rv.rp S.sub) hc.1
          subst ek
          refine .inr ⟨p, _, rfl, .k h1 (by rw [rpk_len h2]; exact sz_lt hc.2), q _ (w _ ⟨_, upd_same, rpk_put h2 hk2 rx⟩).drop.drop.drop⟩
        · cases h
/-- a target of any kind -/
def rdTg (T : Tb) (W : WX) (A : List Nat) (d : D → Env → SOut) : TG := fun v σ H Q => ∃ n H0 ρ ts x, ST T n H0 H σ ρ ((v, .d x) :: ts) ∧ (∀ u ∈ ts, ∀ i, u.2 = .bo i → i ∉ A) ∧ PostS T W n ts (d x ρ) { nx := Q, rt := fun _ _ => False }
theorem tg_nm {i : Nat} {x : Str} {pos : Pos} (hN : X.N.Nodup) (hi : X.N[i]? = some x) (hx : Loc X.env.scope x) (hf : X.fn x = true ∨ X.env.scope.names.lookup x = some .local) : PG X (.Name x pos) (rdTg T W [i] fun x e => SOut.of (if mayPut e i then some (e.set i (.sh x)) else none)) := by
  refine pg_imp (pg_name hN hi hx hf) fun v σ H Q h => ?_
  obtain ⟨n, H0, ρ, ts, x, S, k, P⟩ := h
  have P : PostS T W n ts (SOut.of (if mayPut ρ i then some (ρ.set i (.sh x)) else none)) _ := P
  split at P
  · rename_i hm
    exact P _ _ _ (S.store hm (.inl ⟨x, rfl, rfl⟩) (lock_ne k (List.mem_singleton.mpr rfl)))
  · exact P.elim
theorem tg_sub (ok : Cok T X) {o i : Expr} {pos : Pos} {od id : Env → Out Rs} (ho : PE X o (rd T W od)) (hi : PE X i (rd T W id))
    (ha : ∀ v, assign (.Subscript o i pos) X.env v = (do
      let ov ← holding [v] (eval o X.env)
      let iv ← holding [v, ov] (eval i X.env)
      standAt pos
      holding [v, ov, iv] (setItem ov iv v)
      release [v, ov, iv] [])) : PG X (.Subscript o i pos) (rdTg T W [] fun x e => (od e).thn fun ro e1 => (id e1).thn fun ri e2 => match ri.see e2 with
    | some k => SOut.of (setSubS ro k x e2)
    | none => .no) := by
  refine pg_imp (pg_sub ho hi (set_any ok) ha) fun v σ H Q h => ?_
  obtain ⟨n, H0, ρ, ts, x, S, k, P⟩ := h
  refine rd_mono (thn_one S P) fun ov H1 h => ?_
  obtain ⟨H01, ρ1, ro, S1, P1⟩ := h
  refine rd_mono (thn_one S1 P1) fun iv H2 h => ?_
  obtain ⟨H02, ρ2, ri, S2, P2⟩ := h
  cases ek : ri.see ρ2 with
  | none => rw [ek] at P2; exact P2.elim
  | some kk =>
    rw [ek] at P2
    have P2 : PostS T W n ts (SOut.of (setSubS ro kk x ρ2)) _ := P2
    cases es : setSubS ro kk x ρ2 with
    | none => rw [es] at P2; exact P2.elim
    | some ρ3 =>
      rw [es] at P2
      exact setSub_st S2 ek es fun H' S' => P2 _ _ _ S'
theorem of_nort {o : Option Env} {r : Rs} {e : Env} : SOut.of o ≠ .rt r e := by
  cases o <;> exact fun z => nomatch z
theorem thn_nort {α : Type} {o : Out α} {f : α → Env → SOut} {r : Rs} {e : Env} (h : ∀ a e', f a e' ≠ .rt r e) : o.thn f ≠ .rt r e := by
  cases o with
  | ok a e' => exact h a e'
  | ex x e' => exact fun z => nomatch z
  | no => exact fun z => nomatch z
/-- a value goes to a target -/
theorem ps_asgR {tg e : Expr} {d : Env → Out Rs} {f : D → Env → SOut} {pos : Pos} (he : PE X e (rd T W d)) (hg : PG X tg (rdTg T W A f)) (hs : swapsWithSole [tg] e pos.line X.env = pure false) (hw : swappedStores [tg] e X.env = pure none)
    (h1 : (assignEach [tg] X.env).map (·.2) = [assign tg X.env]) (hf : ∀ x e r e', f x e ≠ .rt r e') : PS X (.Assign [tg] e pos) (rdS T W A fun e => (d e).thn fun r e1 => match r.hold e1 with
    | some (x, e2) => f x e2
    | none => .no) := by
  refine ps_imp (ps_asg he hg hs hw h1) fun D σ H h => ?_
  obtain ⟨n, H0, ρ, ts, S, k, P⟩ := h
  refine rd_mono (thn_one S P) fun v H1 h => ?_
  obtain ⟨H01, ρ1, r, S1, P1⟩ := h
  cases er : r.hold ρ1 with
  | none => rw [er] at P1; exact P1.elim
  | some p =>
    obtain ⟨x, ρ2⟩ := p
    rw [er] at P1
    obtain ⟨H02, S2⟩ := S1.holdR er
    refine ⟨n, H02, ρ2, ts, x, S2, k, ?_⟩
    have P1 : PostS T W n ts (f x ρ2) D := P1
    revert P1
    cases ef : f x ρ2 with
    | no => exact fun z => z
    | nx ρ3 => exact fun z => z
    | ex _ _ => exact fun z => z
    | rt r ρ3 => exact (hf _ _ _ _ ef).elim
theorem ps_setSubR (ok : Cok T X) {o i e : Expr} {pos' pos : Pos} {d od id : Env → Out Rs} (he : PE X e (rd T W d)) (ho : PE X o (rd T W od)) (hi : PE X i (rd T W id))
    (ha : ∀ v, assign (.Subscript o i pos') X.env v = (do
      let ov ← holding [v] (eval o X.env)
      let iv ← holding [v, ov] (eval i X.env)
      standAt pos'
      holding [v, ov, iv] (setItem ov iv v)
      release [v, ov, iv] [])) (hs : swapsWithSole [.Subscript o i pos'] e pos.line X.env = pure false) (hw : swappedStores [.Subscript o i pos'] e X.env = pure none)
    (h1 : (assignEach [.Subscript o i pos'] X.env).map (·.2) = [assign (.Subscript o i pos') X.env]) :
    PS X (.Assign [.Subscript o i pos'] e pos) (rdS T W [] fun e => (d e).thn fun r e1 => match r.hold e1 with
    | some (x, e2) => (od e2).thn fun ro e3 => (id e3).thn fun ri e4 => match ri.see e4 with
      | some k => SOut.of (setSubS ro k x e4)
      | none => .no
    | none => .no) :=
  ps_asgR he (tg_sub ok ho hi ha) hs hw h1 fun x e r e' => thn_nort fun ro e1 => thn_nort fun ri e2 => by
    split
    · exact of_nort
    · exact fun z => nomatch z
/-- o.f = e -/
theorem ps_setFldR (ok : Cok T X) {G : Gs} (hc : ClsOk T G) {o e : Expr} {f : Nat} {pos' pos : Pos} {d od : Env → Out Rs} (he : PE X e (rd T W d)) (ho : PE X o (rd T W od)) (hs : swapsWith e (some (.Attribute o (T.an f) pos')) pos.line X.env = pure false) :
    PS X (.Assign [.Attribute o (T.an f) pos'] e pos) (rdS T W [] fun e => (d e).thn fun r e1 => match r.hold e1 with
    | some (x, e2) => (od e2).thn fun ro e3 => SOut.of (setFldS G ro f x e3)
    | none => .no) := by
  refine ps_imp (ps_fld ho he hs) fun D σ H h => ?_
  obtain ⟨n, H0, ρ, ts, S, k, P⟩ := h
  refine rd_mono (thn_one S P) fun v H1 h => ?_
  obtain ⟨H01, ρ1, r, S1, P1⟩ := h
  cases er : r.hold ρ1 with
  | none => rw [er] at P1; exact P1.elim
  | some p =>
    obtain ⟨x, ρ2⟩ := p
    rw [er] at P1
    obtain ⟨H02, S2⟩ := S1.holdR er
    refine rd_mono (thn_one S2 P1) fun ov H2 h => ?_
    obtain ⟨H03, ρ3, ro, S3, P3⟩ := h
    cases es : setFldS G ro f x ρ3 with
    | none => rw [es] at P3; exact P3.elim
    | some ρ4 =>
      rw [es] at P3
      cases ro with
      | d _ => cases es
      | fr _ => cases es
      | bo j =>
        have rx : Rp T H03 v x := S3.temp (v, .d x) (by simp)
        have es : (match obAt ρ3 j with
          | some (.ins c fs) => if G.free c f && decide (fs.length < 1000) then putOb ρ3 j (.ins c (putFs f x fs)) else none
          | _ => none) = some ρ4 := es
        cases eo : obAt ρ3 j with
        | none => rw [eo] at es; cases es
        | some ob =>
          rw [eo] at es
          cases ob with
          | lst _ => cases es
          | dic _ => cases es
          | ins c fs =>
            have es : (if G.free c f && decide (fs.length < 1000) then putOb ρ3 j (.ins c (putFs f x fs)) else none) = some ρ4 := es
            split at es
            · rename_i hcond
              rw [Bool.and_eq_true] at hcond
              obtain ⟨p, ep, ⟨dx, vs, h1, h2⟩, w⟩ := putOb_st (v := ov) (j := j) S3 (by simp) eo es
              subst ep
              rw [ok.hK]
              exact ⟨p, _, dx, vs, rfl, h1, hc.cls _ _ hcond.1, hc.att _ _ hcond.1, by rw [h2.length]; exact of_decide_eq_true hcond.2, P3 _ _ _ (w _ ⟨dx, _, upd_same, h2.put rx⟩).drop.drop⟩
            · cases es
/-- name op= e -/
theorem ps_augR {i : Nat} {x : Str} {e : Expr} {op : Bop} {pos pos' : Pos} {d : Env → Out Rs} (hop : op = .add ∨ op = .sub) (hN : X.N.Nodup) (hi : X.N[i]? = some x) (hx : Loc X.env.scope x) (he : PE X e (rd T W d)) (hf : X.fn x = true ∨ X.env.scope.names.lookup x = some .local) :
    PS X (.AugAssign (.Name x pos') (opOf op) e pos) (rdS T W [i] fun e => match e[i]? with
      | some (.sh (.int n)) => (d e).thn fun r e1 => match r with
        | .d (.int k) => match (generalizing := false) op with
          | .add => SOut.of (putR false i (.d (.int (n + k))) e1)
          | .sub => SOut.of (putR false i (.d (.int (n - k))) e1)
          | _ => .no
        | _ => .no
      | _ => .no) := by
  have main : ∀ (g : Int → Int → Int), PIp X (opOf op) (ipI g) → PS X (.AugAssign (.Name x pos') (opOf op) e pos) (rdS T W [i] fun e => match e[i]? with
      | some (.sh (.int n)) => (d e).thn fun r e1 => match r with
        | .d (.int k) => SOut.of (putR false i (.d (.int (g n k))) e1)
        | _ => .no
      | _ => .no) := fun g hip => by
    refine ps_imp (ps_aug hN hi hx he hip hf) fun D σ H h => ?_
    obtain ⟨n, H0, ρ, ts, S, k, P⟩ := h
    cases ei : ρ[i]? with
    | none => simp only [ei] at P; exact P.elim
    | some s =>
      cases s with
      | un => simp only [ei] at P; exact P.elim
      | ow _ => simp only [ei] at P; exact P.elim
      | pa _ => simp only [ei] at P; exact P.elim
      | sh y =>
        cases y with
        | int m =>
          simp only [ei] at P
          obtain ⟨w, hw, u, eu, ru⟩ := S.slot i _ ei
          subst eu
          cases ru
          refine ⟨_, hw, rd_mono (thn_one S P) fun v H1 h => ?_⟩
          obtain ⟨H01, ρ1, r, S1, P1⟩ := h
          cases r with
          | fr _ => exact P1.elim
          | bo _ => exact P1.elim
          | d z =>
            cases z with
            | int q =>
              have r : Rp T _ v (.int q) := S1.temp _ (List.mem_cons_self ..)
              cases r
              have P1 : PostS T W n ts (SOut.of (putR false i (.d (.int (g m q))) ρ1)) D := P1
              cases ep : putR false i (.d (.int (g m q))) ρ1 with
              | none => rw [ep] at P1; exact P1.elim
              | some ρ2 =>
                rw [ep] at P1
                obtain ⟨H02, S2⟩ := putR_st (S1.drop.addD (.int (g m q))) ep (lock_ne k (List.mem_singleton.mpr rfl))
                exact ⟨m, q, rfl, rfl, P1 _ _ _ S2⟩
            | non => exact P1.elim
            | bl _ => exact P1.elim
            | str _ => exact P1.elim
            | tup _ => exact P1.elim
            | lst _ => exact P1.elim
            | dic _ => exact P1.elim
            | ins _ _ => exact P1.elim
            | scr _ => exact P1.elim
        | non => simp only [ei] at P; exact P.elim
        | bl _ => simp only [ei] at P; exact P.elim
        | str _ => simp only [ei] at P; exact P.elim
        | tup _ => simp only [ei] at P; exact P.elim
        | lst _ => simp only [ei] at P; exact P.elim
        | dic _ => simp only [ei] at P; exact P.elim
        | ins _ _ => simp only [ei] at P; exact P.elim
        | scr _ => simp only [ei] at P; exact P.elim
  rcases hop with rfl | rfl
  · exact main (fun a b => a + b) ip_add
  · exact main (fun a b => a - b) ip_sub
end
end Mi
end
section
set_option maxHeartbeats 4000000
namespace Mi
open PySem PySem.Spec PyProof.Rows L2
section
variable {T : Tb} {W : WX} {X : Cx} {n : En} {σ : L2.St} {H0 H : Hp} {ρ : Env} {ts us : List Tmp} {Q : VK} {A B : List Nat}
/-- a new object that is a temporary is written -/
theorem ST.writeT {p : Addr} {o o' : Ob} {u : HO} (S : ST T n H0 H σ ρ ((.ref p, .fr o) :: ts)) (r : ObR T H0 (upd H p u) p o') : ST T n H0 (upd H p u) σ ρ ((.ref p, .fr o') :: ts) := by
  obtain ⟨q, eq, hn, h0, rr⟩ := S.temp _ (List.mem_cons_self ..)
  have eq : V.ref p = .ref q := eq
  cases eq
  have nd := S.dtt
  rw [tmpL_cons_fr] at nd
  obtain ⟨nd1, nd2⟩ := List.nodup_cons.mp nd
  have own : ∀ i, ¬ OwnAt σ ρ i p := S.dts p (by rw [tmpL_cons_fr]; exact List.mem_cons_self ..)
  have mv : ∀ {q o2}, q ≠ p → ObR T H0 H q o2 → ObR T H0 (upd H p u) q o2 := fun ne h => h.move (Same.refl H0) (upd_ne ne)
  exact {
    sub := fun b o h => by
      have ne : b ≠ p := fun z => by subst z; rw [h0] at h; cases h
      rw [upd_ne ne]
      exact S.sub b o h
    s0 := S.s0
    len := S.len
    slot := fun j t ht => by
      obtain ⟨y, hy, q⟩ := S.slot j t ht
      refine ⟨y, hy, ?_⟩
      cases t with
      | un => exact q
      | sh d => exact q
      | ow o2 =>
        obtain ⟨q, a, b, c, d⟩ := q
        subst a
        exact ⟨q, rfl, b, c, mv (fun w => own j ⟨w ▸ hy, _, ht, rfl⟩) d⟩
      | pa o2 =>
        obtain ⟨q, a, b, c, d⟩ := q
        subst a
        exact ⟨q, rfl, b, c, mv (fun w => own j ⟨w ▸ hy, _, ht, rfl⟩) d⟩
    temp := fun t ht' => by
      rcases List.mem_cons.mp ht' with rfl | ht'
      · exact ⟨p, rfl, hn, h0, r⟩
      · have r := S.temp t (List.mem_cons_of_mem _ ht')
        obtain ⟨v, q⟩ := t
        cases q with
        | d x => exact r
        | bo j => exact r
        | fr o2 =>
          obtain ⟨q, a, b, c, d⟩ := r
          have a' : v = .ref q := a
          subst a'
          exact ⟨q, rfl, b, c, mv (fun z => nd1 (z ▸ tmpL_mem ht')) d⟩
    dist := S.dist
    dtt := by rw [tmpL_cons_fr]; exact nd
    dts := fun q hq i h => S.dts q (by rw [tmpL_cons_fr] at hq ⊢; exact hq) i h
    pak := S.pak
    keep := fun b o h k => by
      have ne : b ≠ p := fun z => by subst z; rw [hn] at h; cases h
      rw [upd_ne ne]
      exact S.keep b o h k
    dom := fun b o h => by
      have ne : b ≠ p := fun z => by subst z; rw [hn] at h; cases h
      rw [upd_ne ne]
      exact S.dom b o h
    new := S.new }
/-! ### a comprehension's own names -/
theorem wipe_get (σ : L2.St) : ∀ (is : List Nat) (j : Nat), (wipe σ is)[j]? = if j ∈ is then (if j < σ.length then some none else none) else σ[j]?
  | [], j => by simp [wipe]
  | i :: is, j => by
    show ((wipe σ is).set i none)[j]? = _
    by_cases e : i = j
    · subst e
      rw [if_pos (List.mem_cons_self ..)]
      by_cases hl : i < σ.length
      · rw [if_pos hl, get_set_same (by rw [wipe_length]; exact hl)]
      · rw [if_neg hl, List.getElem?_eq_none (by rw [List.length_set, wipe_length]; omega)]
    · rw [get_set_ne e, wipe_get σ is j]
      have z : j ∈ i :: is ↔ j ∈ is := by
        constructor
        · intro h
          rcases List.mem_cons.mp h with h | h
          · exact (e h.symm).elim
          · exact h
        · exact List.mem_cons_of_mem _
      simp only [z]
theorem wipeE_len (ρ : Env) : ∀ is : List Nat, (wipeE ρ is).length = ρ.length
  | [] => rfl
  | i :: is => by
    show ((wipeE ρ is).set i .un).length = _
    rw [List.length_set, wipeE_len ρ is]
theorem wipeE_get (ρ : Env) : ∀ (is : List Nat) (j : Nat), (wipeE ρ is)[j]? = if j ∈ is then (if j < ρ.length then some .un else none) else ρ[j]?
  | [], j => by simp [wipeE]
  | i :: is, j => by
    show ((wipeE ρ is).set i .un)[j]? = _
    by_cases e : i = j
    · subst e
      rw [if_pos (List.mem_cons_self ..)]
      by_cases hl : i < ρ.length
      · rw [if_pos hl, get_set_same (by rw [wipeE_len]; exact hl)]
      · rw [if_neg hl, List.getElem?_eq_none (by rw [List.length_set, wipeE_len]; omega)]
    · rw [get_set_ne e, wipeE_get ρ is j]
      have z : j ∈ i :: is ↔ j ∈ is := by
        constructor
        · intro h
          rcases List.mem_cons.mp h with h | h
          · exact (e h.symm).elim
          · exact h
        · exact List.mem_cons_of_mem _
      simp only [z]
theorem wipe_eq {is : List Nat} {σ σ' : L2.St} (h : Wq is (wipe σ is) σ') : wipe σ' is = wipe σ is := by
  apply List.ext_getElem?
  intro j
  rw [wipe_get, wipe_get]
  have hl : σ'.length = σ.length := by rw [h.1, wipe_length]
  by_cases z : j ∈ is
  · rw [if_pos z, if_pos z, hl]
  · rw [if_neg z, if_neg z, h.2 j z, wipe_get, if_neg z]
/-- some slots are forgotten -/
theorem ST.forget {is : List Nat} (S : ST T n H0 H σ ρ ts) (hp : ∀ q ∈ n.pas, q.1 ∉ is) (ht : ∀ t ∈ ts, ∀ i ∈ is, t.2 ≠ .bo i) : ST T n H0 H (wipe σ is) (wipeE ρ is) ts := by
  have back : ∀ {j q}, OwnAt (wipe σ is) (wipeE ρ is) j q → OwnAt σ ρ j q := fun {j q} ⟨a, s, b, c⟩ => by
    by_cases z : j ∈ is
    · rw [wipeE_get, if_pos z] at b
      split at b
      · cases b; cases c
      · cases b
    · rw [wipeE_get, if_neg z] at b
      rw [wipe_get, if_neg z] at a
      exact ⟨a, s, b, c⟩
  exact {
    sub := S.sub
    s0 := S.s0
    len := by rw [wipe_length, wipeE_len]; exact S.len
    slot := fun j s hj => by
      by_cases z : j ∈ is
      · rw [wipeE_get, if_pos z] at hj
        split at hj
        · rename_i hl
          cases hj
          exact ⟨none, by rw [wipe_get, if_pos z, if_pos (by rw [S.len]; exact hl)], True.intro⟩
        · cases hj
      · rw [wipeE_get, if_neg z] at hj
        obtain ⟨x, hx, q⟩ := S.slot j s hj
        exact ⟨x, by rw [wipe_get, if_neg z]; exact hx, q⟩
    temp := fun t h => by
      have q := S.temp t h
      obtain ⟨v, r⟩ := t
      cases r with
      | d x => exact q
      | fr o => exact q
      | bo j =>
        have z : j ∉ is := fun z => ht _ h j z rfl
        obtain ⟨a, s, b, c⟩ := q
        exact ⟨by rw [wipe_get, if_neg z]; exact a, s, by rw [wipeE_get, if_neg z]; exact b, c⟩
    dist := fun i j p h1 h2 => S.dist i j p (back h1) (back h2)
    dtt := S.dtt
    dts := fun p hp i h => S.dts p hp i (back h)
    pak := fun q hq => by
      obtain ⟨a, o, b⟩ := S.pak q hq
      have z := hp q hq
      exact ⟨by rw [wipe_get, if_neg z]; exact a, o, by rw [wipeE_get, if_neg z]; exact b⟩
    keep := S.keep
    dom := S.dom
    new := S.new }
def isBo (i : Nat) : Rs → Bool
  | .bo j => i == j
  | _ => false
theorem isBo_ne {i : Nat} {r : Rs} (h : (!isBo i r) = true) : r ≠ .bo i := fun z => by
  subst z
  have h : (!(i == i)) = true := h
  rw [beq_self_eq_true] at h
  cases h
theorem tmpL_filter (i : Nat) : ∀ ts : List Tmp, tmpL (ts.filter fun t => !isBo i t.2) = tmpL ts
  | [] => rfl
  | (v, r) :: ts => by
    cases r with
    | d x =>
      rw [List.filter_cons_of_pos (by rfl), tmpL_cons_d, tmpL_cons_d, tmpL_filter i ts]
    | fr o =>
      rw [List.filter_cons_of_pos (by rfl)]
      cases v <;> first
        | (rw [tmpL_cons_fr, tmpL_cons_fr, tmpL_filter i ts])
        | (show tmpL (ts.filter _) = tmpL ts; exact tmpL_filter i ts)
    | bo j =>
      rw [tmpL_cons_bo]
      by_cases e : i = j
      · subst e
        rw [List.filter_cons_of_neg (by show ¬ (!(i == i)) = true; rw [beq_self_eq_true]; exact fun z => nomatch z), tmpL_filter i ts]
      · rw [List.filter_cons_of_pos (by show (!(i == j)) = true; rw [beq_false_of_ne e]; rfl), tmpL_cons_bo, tmpL_filter i ts]
theorem tmpL_data : ∀ {ks : List Tmp}, (∀ u ∈ ks, ∃ d, u.2 = Rs.d d) → tmpL ks = []
  | [], _ => rfl
  | (v, r) :: ks, h => by
    obtain ⟨d, e⟩ := h (v, r) (List.mem_cons_self ..)
    have e : r = .d d := e
    subst e
    rw [tmpL_cons_d]
    exact tmpL_data fun u hu => h u (List.mem_cons_of_mem _ hu)
/-- one slot is forgotten, and comes back -/
theorem ST.wipe1 {i : Nat} (S : ST T n H0 H σ ρ ts) (h : ρ[i]? = some .un ∨ ∃ d, ρ[i]? = some (.sh d)) :
    ∃ ks : List Tmp, (∀ u ∈ ks, ∃ d, u.2 = .d d) ∧ ST T n H0 H (wipe σ [i]) (wipeE ρ [i]) (ks ++ ts.filter fun t => !isBo i t.2) ∧
      ∀ H0' H' ρ' us, ST T n H0' H' (wipe σ [i]) ρ' (us ++ (ks ++ ts.filter fun t => !isBo i t.2)) → (∀ u ∈ us, u.2 ≠ .bo i) → ST T n H0' H' σ (ρ'.set i (ρ[i]?.getD .un)) (us ++ ts) := by
  obtain ⟨s0, hs0, hs⟩ : ∃ s0, ρ[i]? = some s0 ∧ (s0 = .un ∨ ∃ d, s0 = .sh d) := by
    rcases h with h | ⟨d, h⟩
    · exact ⟨_, h, .inl rfl⟩
    · exact ⟨_, h, .inr ⟨d, rfl⟩⟩
  have il := lt_of_get hs0
  have hp : ∀ q ∈ n.pas, q.1 ≠ i := fun q hq e => by
    obtain ⟨_, o, b⟩ := S.pak q hq
    rw [e, hs0] at b
    rcases hs with rfl | ⟨d, rfl⟩ <;> cases b
  -- what stands there, kept as a temporary
  obtain ⟨ks, hk, Sk, hkv⟩ : ∃ ks : List Tmp, (∀ u ∈ ks, ∃ d, u.2 = .d d) ∧ ST T n H0 H σ ρ (ks ++ ts) ∧ (∀ d, s0 = .sh d → ∃ v, σ[i]? = some (some v) ∧ (v, Rs.d d) ∈ ks) := by
    rcases hs with rfl | ⟨d, rfl⟩
    · exact ⟨[], fun u hu => by simp at hu, S, fun d e => nomatch e⟩
    · obtain ⟨x, hx, v, ev, rv⟩ := S.slot i _ hs0
      subst ev
      exact ⟨[(v, .d d)], fun u hu => ⟨d, by rw [List.mem_singleton.mp hu]⟩, S.addD rv, fun d' e => by cases e; exact ⟨v, hx, List.mem_singleton.mpr rfl⟩⟩
  have Sf : ST T n H0 H σ ρ (ks ++ ts.filter fun t => !isBo i t.2) := {
    Sk with
    temp := fun t ht => Sk.temp t (by
      rcases List.mem_append.mp ht with ht | ht
      · exact List.mem_append_left _ ht
      · exact List.mem_append_right _ (List.mem_filter.mp ht).1)
    dtt := by rw [tmpL_append, tmpL_filter, ← tmpL_append]; exact Sk.dtt
    dts := fun p hp j hj => Sk.dts p (by rw [tmpL_append, tmpL_filter, ← tmpL_append] at hp; exact hp) j hj }
  refine ⟨ks, hk, Sf.forget (fun q hq z => hp q hq (List.mem_singleton.mp z)) (fun t ht j hj => ?_), fun H0' H' ρ' us S' hu => ?_⟩
  · rw [List.mem_singleton.mp hj]
    rcases List.mem_append.mp ht with ht | ht
    · obtain ⟨d, e⟩ := hk t ht
      rw [e]
      exact fun z => nomatch z
    · exact isBo_ne (List.mem_filter.mp ht).2
  · have e0 : ρ[i]?.getD .un = s0 := by rw [hs0]; rfl
    rw [e0]
    have hl : σ.length = ρ'.length := by have := S'.len; rw [wipe_length] at this; exact this
    have il' : i < ρ'.length := by rw [← hl, S.len]; exact il
    have gw : ∀ j, j ≠ i → (wipe σ [i])[j]? = σ[j]? := fun j hj => by rw [wipe_get, if_neg (by simpa using hj)]
    have no0 : isOwn s0 = false := by rcases hs with rfl | ⟨d, rfl⟩ <;> rfl
    have back : ∀ {j q}, OwnAt σ (ρ'.set i s0) j q → OwnAt (wipe σ [i]) ρ' j q := fun {j q} ⟨a, s, b, c⟩ => by
      by_cases e : i = j
      · subst e
        rw [get_set_same il'] at b
        cases b
        rw [no0] at c
        cases c
      · rw [get_set_ne e] at b
        exact ⟨by rw [gw j (Ne.symm e)]; exact a, s, b, c⟩
    have etl : tmpL (us ++ (ks ++ ts.filter fun t => !isBo i t.2)) = tmpL (us ++ ts) := by
      rw [tmpL_append, tmpL_append, tmpL_filter, tmpL_data hk, List.nil_append, ← tmpL_append]
    exact {
      sub := S'.sub
      s0 := S'.s0
      len := by rw [List.length_set]; exact hl
      slot := fun j s hj => by
        by_cases e : i = j
        · subst e
          rw [get_set_same il'] at hj
          cases hj
          obtain ⟨x, hx, _⟩ := S.slot i _ hs0
          rcases hs with rfl | ⟨d, rfl⟩
          · exact ⟨x, hx, True.intro⟩
          · obtain ⟨v, hv, m⟩ := hkv d rfl
            exact ⟨_, hv, v, rfl, S'.temp (v, .d d) (List.mem_append_right _ (List.mem_append_left _ m))⟩
        · rw [get_set_ne e] at hj
          obtain ⟨x, hx, q⟩ := S'.slot j s hj
          rw [gw j (Ne.symm e)] at hx
          exact ⟨x, hx, q⟩
      temp := fun t ht => by
        have other : ∀ {t}, t ∈ us ++ (ks ++ ts.filter fun t => !isBo i t.2) → t.2 ≠ .bo i → TmpR T n H0' H' σ (ρ'.set i s0) t.1 t.2 := fun {t} ht ne => by
          have q := S'.temp t ht
          obtain ⟨v, r⟩ := t
          cases r with
          | d x => exact q
          | fr o => exact q
          | bo j =>
            have z : j ≠ i := fun z => ne (by rw [z])
            obtain ⟨a, s, b, c⟩ := q
            exact ⟨by rw [← gw j z]; exact a, s, by rw [get_set_ne (Ne.symm z)]; exact b, c⟩
        rcases List.mem_append.mp ht with ht | ht
        · exact other (List.mem_append_left _ ht) (hu t ht)
        · by_cases e : (!isBo i t.2) = true
          · exact other (List.mem_append_right _ (List.mem_append_right _ (List.mem_filter.mpr ⟨ht, e⟩))) (isBo_ne e)
          · have q := S.temp t ht
            obtain ⟨v, r⟩ := t
            cases r with
            | d x => exact (e rfl).elim
            | fr o => exact (e rfl).elim
            | bo j =>
              have z : i = j := by
                by_cases z : i = j
                · exact z
                · exact (e (by show (!(i == j)) = true; rw [beq_false_of_ne z]; rfl)).elim
              subst z
              obtain ⟨a, s, b, c⟩ := q
              rw [hs0] at b
              cases b
              exact ⟨a, s0, get_set_same il', c⟩
      dist := fun a b p h1 h2 => S'.dist a b p (back h1) (back h2)
      dtt := by rw [← etl]; exact S'.dtt
      dts := fun p hp j hj => S'.dts p (by rw [etl]; exact hp) j (back hj)
      pak := fun q hq => by
        obtain ⟨a, o, b⟩ := S'.pak q hq
        have z := hp q hq
        exact ⟨by rw [← gw q.1 z]; exact a, o, by rw [get_set_ne (Ne.symm z)]; exact b⟩
      keep := S'.keep
      dom := S'.dom
      new := S'.new }
theorem wipeOk_at {e : Env} : ∀ {is : List Nat}, wipeOk e is = true → ∀ i ∈ is, e[i]? = some .un ∨ ∃ d, e[i]? = some (.sh d)
  | [], _, i, h => by simp at h
  | k :: is, h, i, hi => by
    have h : ((match e[k]? with
      | some .un => true
      | some (.sh _) => true
      | _ => false) && wipeOk e is) = true := h
    rw [Bool.and_eq_true] at h
    rcases List.mem_cons.mp hi with rfl | hi
    · have h1 := h.1
      split at h1
      · rename_i z; exact .inl z
      · rename_i d z; exact .inr ⟨d, z⟩
      · cases h1
    · exact wipeOk_at h.2 i hi
/-- a comprehension's own names are forgotten, and come back -/
theorem ST.wipeN : ∀ (is : List Nat), ST T n H0 H σ ρ ts → wipeOk ρ is = true → ∃ vs : List Tmp, ST T n H0 H (wipe σ is) (wipeE ρ is) vs ∧ (∀ t ∈ ts, (∀ i ∈ is, t.2 ≠ .bo i) → t ∈ vs) ∧ (∀ t ∈ vs, ∀ i ∈ is, t.2 ≠ .bo i) ∧
    ∀ H0' H' ρ' us, ST T n H0' H' (wipe σ is) ρ' (us ++ vs) → (∀ u ∈ us, ∀ i ∈ is, u.2 ≠ .bo i) → ST T n H0' H' σ (unwipe ρ ρ' is) (us ++ ts)
  | [], S, _ => ⟨ts, S, fun t h _ => h, fun t h i hi => by simp at hi, fun H0' H' ρ' us S' _ => S'⟩
  | i :: is, S, h => by
    have h2 : wipeOk ρ is = true := by
      have h : ((match ρ[i]? with
        | some .un => true
        | some (.sh _) => true
        | _ => false) && wipeOk ρ is) = true := h
      rw [Bool.and_eq_true] at h
      exact h.2
    obtain ⟨vs, S1, m1, m2, b1⟩ := ST.wipeN is S h2
    have hi : (wipeE ρ is)[i]? = some .un ∨ ∃ d, (wipeE ρ is)[i]? = some (.sh d) := by
      rw [wipeE_get]
      have z := wipeOk_at h i (List.mem_cons_self ..)
      by_cases e : i ∈ is
      · rw [if_pos e]
        have il : i < ρ.length := by
          rcases z with z | ⟨d, z⟩ <;> exact lt_of_get z
        rw [if_pos il]
        exact .inl rfl
      · rw [if_neg e]
        exact z
    obtain ⟨ks, hk, S2, b2⟩ := S1.wipe1 hi
    refine ⟨ks ++ vs.filter fun t => !isBo i t.2, S2, fun t ht ne => ?_, fun t ht j hj => ?_, fun H0' H' ρ' us S' hu => ?_⟩
    · refine List.mem_append_right _ (List.mem_filter.mpr ⟨m1 t ht fun j hj => ne j (List.mem_cons_of_mem _ hj), ?_⟩)
      have z := ne i (List.mem_cons_self ..)
      obtain ⟨v, r⟩ := t
      cases r with
      | d x => rfl
      | fr o => rfl
      | bo j =>
        show (!(i == j)) = true
        rw [beq_false_of_ne fun e => z (by rw [e])]
        rfl
    · rcases List.mem_append.mp ht with ht | ht
      · obtain ⟨d, e⟩ := hk t ht
        rw [e]
        exact fun z => nomatch z
      · obtain ⟨a, b⟩ := List.mem_filter.mp ht
        rcases List.mem_cons.mp hj with rfl | hj
        · exact isBo_ne b
        · exact m2 t a j hj
    · have S3 := b2 H0' H' ρ' us S' fun u h => hu u h i (List.mem_cons_self ..)
      exact b1 H0' H' _ us S3 fun u h j hj => hu u h j (List.mem_cons_of_mem _ hj)
end
end Mi
end
section
set_option maxHeartbeats 4000000
namespace Mi
open PySem PySem.Spec PyProof.Rows L2
/-- no exception -/
abbrev W0 : WX := fun _ _ _ _ => False
section
variable {T : Tb} {W : WX} {X : Cx} {n : En} {σ : L2.St} {H0 H : Hp} {ρ : Env} {ts us : List Tmp} {Q : VK} {A B : List Nat}
def compD (t : Tgt) (dw : Env → Out It) (dt : Env → Out Bool) (de : Env → Out Rs) : Env → Out Rs := fun e => (dw e).bind fun w e1 =>
  if wipeOk e1 t.is && w.slots.all (fun i => !t.is.contains i) then
    match compLoop w t dt de w.len 0 [] (wipeE e1 t.is) with
    | .ok xs e2 => .ok (.fr (.lst xs)) (unwipe e1 e2 t.is)
    | _ => .no
  else .no
theorem rd_it {α : Type} {da : Env → Out It} {f : It → Env → Out α} {P : α → Env → Hp → Hp → Prop} (S : ST T n H0 H σ ρ ts) (h : Post T W n σ ts ((da ρ).bind fun ra e1 => f ra e1) P) :
    rdI T W da σ H fun J H1 => ∃ H0' ρ' w us, Walk T J us w ∧ ST T n H0' H1 σ ρ' (us ++ ts) ∧ (∀ u ∈ us, ∀ i, u.2 = .bo i → i ∈ w.slots) ∧ Post T W n σ ts (f w ρ') P := by
  refine ⟨n, H0, ρ, ts, S, ?_⟩
  cases ea : da ρ with
  | no => rw [ea] at h; exact h.elim
  | ex x e => rw [ea] at h; exact h
  | ok ra e1 => rw [ea] at h; exact fun H0' H1 J us wk S1 k => ⟨H0', e1, ra, us, wk, S1, k, h⟩
theorem lc_rd {t : Tgt} {dw : Env → Out It} {dt : Env → Out Bool} {de : Env → Out Rs} (h : rd T W (compD t dw dt de) σ H Q) : tLc (rdI T W dw) (rdG T t) (rdT T W0 dt) (rd T W0 de) t.is σ H Q := by
  obtain ⟨n, H0, ρ, ts, S, P⟩ := h
  refine rdI_mono (rd_it S P) fun J H1 h D hD => ?_
  obtain ⟨H01, e1, w, us, wk, S1, ks, P1⟩ := h
  split at P1
  · rename_i hc
    rw [Bool.and_eq_true] at hc
    obtain ⟨hw, hs⟩ := hc
    obtain ⟨vs, S2, m1, m2, back⟩ := S1.wipeN t.is hw
    have hp : ∀ q ∈ n.pas, q.1 ∉ t.is := fun q hq z => by
      obtain ⟨_, o, b⟩ := S1.pak q hq
      rcases wipeOk_at hw _ z with e | ⟨d, e⟩ <;> rw [e] at b <;> cases b
    have hus : ∀ u ∈ us, u ∈ vs := fun u hu => m1 u (List.mem_append_left _ hu) fun i hi e => by
      have z := List.all_eq_true.mp hs i (ks u hu i e)
      rw [List.contains_iff_mem.mpr hi] at z
      cases z
    have S3 : ST T n H01 (upd H1 D (.lst [])) (wipe σ t.is) (wipeE e1 t.is) ((.ref D, .fr (.lst [])) :: vs) := S2.alloc (Same.new hD) hD ⟨[], upd_same, .nil⟩
    have nb : ∀ {acc : List Mi.D}, ∀ t' ∈ ((V.ref D, Rs.fr (.lst acc)) :: vs), ∀ i ∈ t.is, t'.2 ≠ .bo i := fun {acc} t' ht i hi => by
      rcases List.mem_cons.mp ht with rfl | ht
      · exact fun z => nomatch z
      · exact m2 t' ht i hi
    refine ⟨fun i m H => i + m = w.len ∧ ∃ H0 ρ acc, ST T n H0 H (wipe σ t.is) ρ ((.ref D, .fr (.lst acc)) :: vs) ∧ Post T W n σ ts (match compLoop w t dt de m i acc ρ with
      | .ok xs e2 => Out.ok (Rs.fr (.lst xs)) (unwipe e1 e2 t.is)
      | _ => .no) (Wants T n σ ts Q), ⟨w.len, by omega, H01, _, [], S3, P1⟩, fun i m H h => ?_⟩
    obtain ⟨hl, H0a, ρa, acc, Sa, Pa⟩ := h
    cases m with
    | zero =>
      have hl : i = w.len := by omega
      subst hl
      have Pa : Post T W n σ ts (match (if w.fine ρa then Out.ok acc ρa else .no) with
        | .ok xs e2 => Out.ok (Rs.fr (.lst xs)) (unwipe e1 e2 t.is)
        | _ => .no) (Wants T n σ ts Q) := Pa
      by_cases hf : w.fine ρa = true
      · rw [if_pos hf] at Pa
        refine .inl ⟨wk.stop Sa (fun u hu => List.mem_cons_of_mem _ (hus u hu)) hf, Pa H0a H (.ref D) ?_⟩
        have Sb := back H0a H ρa [(.ref D, .fr (.lst acc))] Sa fun u hu i _ => by
          rw [List.mem_singleton.mp hu]
          exact fun z => nomatch z
        exact ST.dropA (us := us) (ST.perm (ts := (V.ref D, Rs.fr (.lst acc)) :: (us ++ ts)) Sb List.perm_middle.symm)
      · rw [if_neg hf] at Pa
        exact Pa.elim
    | succ m =>
      have Pa : Post T W n σ ts (match (match w.at_ i ρa with
        | some x => match t.put x ρa with
          | some e1 => match dt e1 with
            | .ok true e2 => match de e2 with
              | .ok r e3 => match r.hold e3 with
                | some (y, e4) => if szOk acc.length then compLoop w t dt de m (i + 1) (acc ++ [y]) (wipeE e4 t.is) else .no
                | none => .no
              | _ => .no
            | .ok false e2 => compLoop w t dt de m (i + 1) acc (wipeE e2 t.is)
            | _ => .no
          | none => .no
        | none => .no : Out (List Mi.D)) with
        | .ok xs e2 => Out.ok (Rs.fr (.lst xs)) (unwipe e1 e2 t.is)
        | _ => .no) (Wants T n σ ts Q) := Pa
      cases ex : w.at_ i ρa with
      | none => simp only [ex] at Pa; exact Pa.elim
      | some x =>
        cases ep : t.put x ρa with
        | none => simp only [ex, ep] at Pa; exact Pa.elim
        | some ρb =>
          simp only [ex, ep] at Pa
          have hu : ∀ u ∈ us, u ∈ ((V.ref D, Rs.fr (.lst acc)) :: vs) := fun u hu => List.mem_cons_of_mem _ (hus u hu)
          have hk : i < w.len := by omega
          refine .inr ⟨wk.go Sa hu hk ex, fun H' => i + 1 + m = w.len ∧ ∃ H0 ρ acc, ST T n H0 H' (wipe σ t.is) ρ ((.ref D, .fr (.lst acc)) :: vs) ∧ Post T W n σ ts (match compLoop w t dt de m (i + 1) acc ρ with
            | .ok xs e2 => Out.ok (Rs.fr (.lst xs)) (unwipe e1 e2 t.is)
            | _ => .no) (Wants T n σ ts Q), fun H' q => ⟨m, Nat.lt_succ_self m, q⟩, fun v H' y => ?_⟩
          obtain ⟨H0b, Sb⟩ := wk.yld Sa hu hk ex y
          refine ⟨n, H0b, ρa, _, x, ρb, Sb.drop, Sb.temp _ (List.mem_cons_self ..), ep, fun u hu i e z => nb u hu i z e, fun σ2 wq Sc => ?_⟩
          refine ⟨wipe_eq wq, n, H0b, ρb, _, Sc, ?_⟩
          have wpe : wipe σ2 t.is = wipe σ t.is := wipe_eq wq
          cases ed : dt ρb with
          | no => simp only [ed] at Pa; exact Pa.elim
          | ex x e => simp only [ed] at Pa; exact Pa.elim
          | ok b ρc =>
            intro H0c Hc Sd
            cases b with
            | false =>
              simp only [ed] at Pa
              show i + 1 + m = w.len ∧ _
              have Se := Sd.forget hp nb
              rw [wpe] at Se
              exact ⟨by omega, H0c, _, acc, Se, Pa⟩
            | true =>
              simp only [ed] at Pa
              refine ⟨n, H0c, ρc, _, Sd, ?_⟩
              cases ee : de ρc with
              | no => simp only [ee] at Pa; exact Pa.elim
              | ex x e => simp only [ee] at Pa; exact Pa.elim
              | ok r ρd =>
                simp only [ee] at Pa
                intro H0d Hd yv Se
                cases eh : r.hold ρd with
                | none => simp only [eh] at Pa; exact Pa.elim
                | some p =>
                  obtain ⟨yd, ρe⟩ := p
                  simp only [eh] at Pa
                  by_cases hz : szOk acc.length = true
                  · rw [if_pos hz] at Pa
                    obtain ⟨H0e, Sf⟩ := Se.holdR eh
                    have ry : Rp T H0e yv yd := Sf.temp _ (List.mem_cons_self ..)
                    have Sg := Sf.drop
                    obtain ⟨pp, epp, _, _, vl, hvl, rvl⟩ := Sg.temp _ (List.mem_cons_self ..)
                    have epp : V.ref D = .ref pp := epp
                    cases epp
                    refine ⟨vl, hvl, by rw [rvl.length]; exact sz_lt hz, by omega, H0e, _, acc ++ [yd], ?_, Pa⟩
                    have Sh := (Sg.writeT (u := .lst (vl ++ [yv])) (o' := .lst (acc ++ [yd])) ⟨_, upd_same, rvl.append (.cons ry .nil)⟩).forget hp nb
                    rw [wpe] at Sh
                    exact Sh
                  · rw [if_neg hz] at Pa
                    exact Pa.elim
  · exact P1.elim
theorem pts_none {T : Tb} {W : WX} {X : Cx} : PTs X [] (rdT T W fun e => .ok true e) := ⟨fun pins s σ H Q I h => by
  obtain ⟨n, H0, ρ, ts, S, P⟩ := h
  exact pts_nil.run pins s σ H Q I (P H0 H S)⟩
theorem pe_comp (ok : Cok T X) {elt tg iter : Expr} {ifs : List Expr} {scope : Scope} {own : List (Str × Nat)} {pos : Pos} {t : Tgt} {dw : Env → Out It} {dt : Env → Out Bool} {de : Env → Out Rs} (hi : PI X tg iter (rdI T W dw)) (bk : BlkOk X.N X.env.scope scope own) (ho : own.map (·.2) = t.is)
    (hg : ∀ (s : Shared) (H : Hp) (C : Addr) (cl : List (Str × Addr)) (fp : List Addr), PG (X.blk s H scope (compEnvC scope cl C X.env) fp) tg (rdG T t)) (ht : ∀ (s : Shared) (H : Hp) (C : Addr) (cl : List (Str × Addr)) (fp : List Addr), PTs (X.blk s H scope (compEnvC scope cl C X.env) fp) ifs (rdT T W0 dt))
    (he : ∀ (s : Shared) (H : Hp) (C : Addr) (cl : List (Str × Addr)) (fp : List Addr), PE (X.blk s H scope (compEnvC scope cl C X.env) fp) elt (rd T W0 de)) (hs : ∀ x, foldedSetIterable iter X.env x = pure x) :
    PE X (.ListComp elt [⟨tg, iter, ifs, 0⟩] scope pos) (rd T W (compD t dw dt de)) :=
  pe_imp (pe_lc ok.calm ok.nd hi bk hg ht he hs) fun σ H Q h => by
    rw [ho]
    exact lc_rd h
theorem ps_setComp (ok : Cok T X) {own1 : Bool} {i : Nat} {y : Str} {py : Pos} {elt tg iter : Expr} {ifs : List Expr} {scope : Scope} {own : List (Str × Nat)} {pos spos : Pos} {t : Tgt} {dw : Env → Out It} {dt : Env → Out Bool} {de : Env → Out Rs} (hy : X.N[i]? = some y) (hyl : X.env.scope.names.lookup y = some .local)
    (hsw : swapsWith (.ListComp elt [⟨tg, iter, ifs, 0⟩] scope pos) (some (.Name y py)) spos.line X.env = pure true) (hi : PI X tg iter (rdI T W dw)) (bk : BlkOk X.N X.env.scope scope own) (ho : own.map (·.2) = t.is)
    (hg : ∀ (s : Shared) (H : Hp) (C : Addr) (cl : List (Str × Addr)) (fp : List Addr), PG (X.blk s H scope (compEnvC scope cl C X.env) fp) tg (rdG T t)) (ht : ∀ (s : Shared) (H : Hp) (C : Addr) (cl : List (Str × Addr)) (fp : List Addr), PTs (X.blk s H scope (compEnvC scope cl C X.env) fp) ifs (rdT T W0 dt))
    (he : ∀ (s : Shared) (H : Hp) (C : Addr) (cl : List (Str × Addr)) (fp : List Addr), PE (X.blk s H scope (compEnvC scope cl C X.env) fp) elt (rd T W0 de)) (hs : ∀ x, foldedSetIterable iter X.env x = pure x) :
    PS X (.Assign [.Name y py] (.ListComp elt [⟨tg, iter, ifs, 0⟩] scope pos) spos) (rdS T W [i] fun e => (compD t dw dt de e).thn fun r e1 => SOut.of (putR own1 i r e1)) := by
  refine ps_imp (ps_setLc ok.calm ok.nd hy hyl hsw hi bk hg ht he hs) fun D σ H h => ?_
  obtain ⟨n, H0, ρ, ts, S, k, P⟩ := h
  rw [ho]
  refine lc_rd (rd_mono (thn_one S P) fun v H1 h => ?_)
  obtain ⟨H0', ρ', ra, S', P'⟩ := h
  cases ep : putR own1 i ra ρ' with
  | none => rw [ep] at P'; exact P'.elim
  | some ρ2 =>
    rw [ep] at P'
    obtain ⟨H0'', S''⟩ := putR_st S' ep (lock_ne k (List.mem_singleton.mpr rfl))
    exact P' _ _ _ S''
end
end Mi
end
section
set_option maxHeartbeats 4000000
namespace Mi
open PySem PySem.Spec PyProof.Rows L2
section
variable {T : Tb} {W : WX} {X : Cx} {G : Gs} {n : En} {σ : L2.St} {H0 H : Hp} {ρ : Env} {ts us : List Tmp} {Q : VK} {A B : List Nat}
/-! ### the rules by the texts: names, constants -/
theorem r_var {i : Nat} {x : Str} {pos : Pos} (hN : X.N[i]? = some x := by rfl) (hv : Vis X.env.scope x := by first | exact Or.inl rfl | exact Or.inr (Or.inl rfl) | exact Or.inr (Or.inr rfl)) (hd : (x == ("__debug__" : Str)) = false := by decide)
    (hcd : (x == ("__classdict__" : Str)) = false := by decide) : PE X (.Name x pos) (rd T W (ev G (.var i))) := by
  refine pe_imp (pe_var hN hv hd hcd) fun σ H Q h => ?_
  obtain ⟨n, H0, ρ, ts, S, P⟩ := h
  have P : Post T W n σ ts (match ρ[i]? with
    | some (.sh x) => .ok (.d x) ρ
    | some (.ow _) => .ok (.bo i) ρ
    | some (.pa _) => .ok (.bo i) ρ
    | _ => .no) (Wants T n σ ts Q) := P
  cases e : ρ[i]? with
  | none => rw [e] at P; exact P.elim
  | some s =>
    rw [e] at P
    obtain ⟨y, hy, q⟩ := S.slot i s e
    cases s with
    | un => exact P.elim
    | sh d =>
      obtain ⟨v, ev, r⟩ := q
      subst ev
      exact ⟨v, hy, P H0 H v (S.addD r)⟩
    | ow o =>
      obtain ⟨p, ev, _⟩ := q
      subst ev
      exact ⟨_, hy, P H0 H _ (S.addB hy e fun z => nomatch z)⟩
    | pa o =>
      obtain ⟨p, ev, _⟩ := q
      subst ev
      exact ⟨_, hy, P H0 H _ (S.addB hy e fun z => nomatch z)⟩
theorem r_c {v : V} {d : D} {e : Expr} (h : PE X e (tC v)) (r : ∀ H0, Rp T H0 v d) : PE X e (rd T W (ev G (.cst d))) := pe_imp h fun σ H Q ⟨n, H0, ρ, ts, S, P⟩ => P H0 H v (S.addD (r H0))
theorem r_int {i : Int} {j pos} : PE X (.Constant (.int i) j pos) (rd T W (ev G (.cst (.int i)))) := r_c pe_int fun _ => .int i
theorem r_bl {i : Bool} {j pos} : PE X (.Constant (.bool i) j pos) (rd T W (ev G (.cst (.bl i)))) := r_c pe_bl fun _ => .bl i
theorem r_non {j pos} : PE X (.Constant .none j pos) (rd T W (ev G (.cst .non))) := r_c pe_non fun _ => .non
theorem r_str {x : Str} {s : Tx} {j pos} (h : x.cps.toList = s) : PE X (.Constant (.str x) j pos) (rd T W (ev G (.cst (.str s)))) := r_c pe_str fun _ => by
  subst h
  exact .str x.cps.toList
/-! ### rows of expressions -/
theorem a_nil : PA X [] (rdA T W (evs G [])) := pa_imp pa_nil fun σ H Q ⟨n, H0, ρ, ts, S, P⟩ => P H0 H [] rfl S
theorem a_cons {a : Expr} {as : List Expr} {m : MExp} {ms : List MExp} (ha : PE X a (rd T W (ev G m))) (hs : PA X as (rdA T W (evs G ms))) (hst : starEach (a :: as) X.env = (false, eval a X.env) :: starEach as X.env := by rfl) : PA X (a :: as) (rdA T W (evs G (m :: ms))) := by
  refine pa_imp (pa_cons ha hs hst) fun σ H Q h => ?_
  obtain ⟨n, H0, ρ, ts, S, P⟩ := h
  have P : Post T W n σ ts ((ev G m ρ).bind fun r e1 => (evs G ms e1).bind fun rs e2 => .ok (r :: rs) e2) fun rs ρ' H0' H' => ∀ vs, vs.length = rs.length → ST T n H0' H' σ ρ' (vs.zip rs ++ ts) → Q vs H' := P
  refine rd_mono (rd_one S P) fun v H1 h => ?_
  obtain ⟨H01, ρ1, r, S1, P1⟩ := h
  refine ⟨n, H01, ρ1, (v, r) :: ts, S1, ?_⟩
  cases es : evs G ms ρ1 with
  | no => rw [es] at P1; exact P1.elim
  | ex x e => rw [es] at P1; exact fun dd H0' H' S' xr => P1 dd H0' H' S'.drop xr
  | ok rs e2 =>
    rw [es] at P1
    exact fun H0' H' vs hl S' => P1 H0' H' (v :: vs) (by simp [hl]) (S'.perm List.perm_middle)
theorem evs_len : ∀ {ms : List MExp} {e e' : Env} {rs : List Rs}, evs G ms e = .ok rs e' → rs.length = ms.length
  | [], e, e', rs, h => by
    have h : Out.ok [] e = .ok rs e' := h
    cases h
    rfl
  | m :: ms, e, e', rs, h => by
    have h : ((ev G m e).bind fun r e1 => (evs G ms e1).bind fun rs e2 => .ok (r :: rs) e2) = .ok rs e' := h
    cases ea : ev G m e with
    | no => rw [ea] at h; cases h
    | ex x e1 => rw [ea] at h; cases h
    | ok r e1 =>
      rw [ea] at h
      have h : ((evs G ms e1).bind fun rs e2 => .ok (r :: rs) e2) = .ok rs e' := h
      cases eb : evs G ms e1 with
      | no => rw [eb] at h; cases h
      | ex x e2 => rw [eb] at h; cases h
      | ok rs2 e2 =>
        rw [eb] at h
        cases h
        simp [evs_len eb]
theorem rd_args_len {α : Type} {ms : List MExp} {f : List Rs → Env → Out α} {P : α → Env → Hp → Hp → Prop} (S : ST T n H0 H σ ρ ts)
    (h : Post T W n σ ts ((evs G ms ρ).bind fun ra e1 => f ra e1) P) :
    rdA T W (evs G ms) σ H fun vs H1 => ∃ H0' ρ' rs, vs.length = rs.length ∧ rs.length = ms.length ∧ ST T n H0' H1 σ ρ' (vs.zip rs ++ ts) ∧ Post T W n σ ts (f rs ρ') P := by
  refine ⟨n, H0, ρ, ts, S, ?_⟩
  cases ea : evs G ms ρ with
  | no => rw [ea] at h; exact h.elim
  | ex x e => rw [ea] at h; exact h
  | ok ra e1 => rw [ea] at h; exact fun H0' H1 vs hl S1 => ⟨H0', e1, ra, hl, evs_len ea, S1, h⟩
theorem r_tup {es : List Expr} {ms : List MExp} {x1 : Nat} {pos : Pos} (h : PA X es (rdA T W (evs G ms))) (hl : ms.length ≤ 1000 := by decide) : PE X (.Tuple es x1 pos) (rd T W (ev G (.tup ms))) := by
  refine pe_imp (pe_tup h) fun σ H Q h => ?_
  obtain ⟨n, H0, ρ, ts, S, P⟩ := h
  refine rdA_mono (rd_args_len S P) fun vs H1 h => ?_
  obtain ⟨H01, ρ1, rs, l1, l2, S1, P1⟩ := h
  refine ⟨Nat.le_of_lt (small1000 (by omega)), fun p hp => ?_⟩
  cases eh : holds rs ρ1 with
  | none => rw [eh] at P1; exact P1.elim
  | some q =>
    obtain ⟨xs, ρ2⟩ := q
    rw [eh] at P1
    obtain ⟨H02, S2, r⟩ := S1.holdsR l1 eh
    obtain ⟨H03, S3⟩ := S2.newTup hp r
    exact P1 _ _ _ S3
theorem r_lst {es : List Expr} {ms : List MExp} {pos : Pos} (h : PA X es (rdA T W (evs G ms))) (hl : ms.length ≤ 1000 := by decide) : PE X (.List es pos) (rd T W (ev G (.lst ms))) := by
  refine pe_imp (pe_lst h) fun σ H Q h => ?_
  obtain ⟨n, H0, ρ, ts, S, P⟩ := h
  refine rdA_mono (rd_args_len S P) fun vs H1 h => ?_
  obtain ⟨H01, ρ1, rs, l1, l2, S1, P1⟩ := h
  refine ⟨Nat.le_of_lt (small1000 (by omega)), fun p hp => ?_⟩
  cases eh : holds rs ρ1 with
  | none => rw [eh] at P1; exact P1.elim
  | some q =>
    obtain ⟨xs, ρ2⟩ := q
    rw [eh] at P1
    obtain ⟨H02, S2, r⟩ := S1.holdsR l1 eh
    exact P1 _ _ _ (S2.alloc (Same.new hp) hp ⟨vs, upd_same, r⟩)
/-! ### operators -/
theorem r_bin (ok : Cok T X) (op : Bop) {a b : Expr} {ma mb : MExp} {pos : Pos} (ha : PE X a (rd T W (ev G ma))) (hb : PE X b (rd T W (ev G mb))) : PE X (.BinOp a (opOf op) b pos) (rd T W (ev G (.bin op ma mb))) := pe_two (opR_bin ok op) ha hb
theorem r_neg {a : Expr} {m : MExp} {pos : Pos} (ha : PE X a (rd T W (ev G m))) : PE X (.UnaryOp .USub a pos) (rd T W (ev G (.neg m))) := pe_neg ha
theorem r_cmp (ok : Cok T X) (op : Cop) {a b : Expr} {ma mb : MExp} {pos : Pos} (ha : PE X a (rd T W (ev G ma))) (hb : PE X b (rd T W (ev G mb))) (hm : behindInMarks (copOf op) b = false := by with_unfolding_all rfl) :
    PE X (.Compare a [copOf op] [b] pos) (rd T W (ev G (.cmp op ma mb))) := pe_twoC (opR_cmp ok op) ha hb hm
theorem r_idx (ok : Cok T X) {a b : Expr} {ma mb : MExp} {pos : Pos} (ha : PE X a (rd T W (ev G ma))) (hb : PE X b (rd T W (ev G mb))) (hm : PlainIx b := by exact fun _ _ => rfl) : PE X (.Subscript a b pos) (rd T W (ev G (.idx ma mb))) := pe_twoI (opR_ix ok) ha hb hm
theorem o_no : PO X none (rdO T W (evp G none)) := po_no
theorem o_yes {a : Expr} {m : MExp} (ha : PE X a (rd T W (ev G m))) : PO X (some a) (rdO T W (evp G (some m))) := po_yes ha
theorem r_slc (ok : Cok T X) {a : Expr} {m : MExp} {lo hi : Option Expr} {ml mh : Option MExp} {pos p2 : Pos} (ha : PE X a (rd T W (ev G m))) (hl : PO X lo (rdO T W (evp G ml))) (hh : PO X hi (rdO T W (evp G mh))) :
    PE X (.Subscript a (.Slice lo hi none p2) pos) (rd T W (ev G (.slc m ml mh))) := pe_slc ok ha hl hh
theorem r_fld (ok : Cok T X) (hc : ClsOk T G) {f : Nat} {o : Expr} {m : MExp} {pos : Pos} (ho : PE X o (rd T W (ev G m))) (hb : attributeBase o (T.an f) X.env (eval o X.env) = eval o X.env := by rfl) : PE X (.Attribute o (T.an f) pos) (rd T W (ev G (.fld m f))) := pe_fldG ok hc ho hb
/-! ### tests -/
theorem tru_of {x : V} {d : D} {k : Bool} (r : Rv T H0 H x d) (s : Same H0 H) (h : truD d = some k) : TruV T.K x H k := by
  cases d with
  | non =>
    cases h
    have e := r.non
    subst e
    exact rfl
  | bl b =>
    cases h
    have e := r.bl
    subst e
    exact rfl
  | int i =>
    cases h
    have e := r.int
    subst e
    exact rfl
  | str t =>
    have h : (if szOk t.length then some (!t.isEmpty) else none) = some k := h
    split at h
    · rename_i hz
      cases h
      have e := r.str
      subst e
      refine ⟨by rw [str_len]; exact sz_of hz, ?_⟩
      rw [str_len]
      cases t with
      | nil => rfl
      | cons c t =>
        have e : (((c :: t).length : Int) != 0) = true := bne_iff_ne.mpr (by simp; omega)
        rw [e]
        rfl
    · cases h
  | tup xs =>
    cases h
    obtain ⟨p, vs, e, h1, h2⟩ := r.tup
    subst e
    refine .inr (.inl ⟨vs, Same.sqT s h1, ?_⟩)
    cases h2 <;> rfl
  | lst xs =>
    cases h
    obtain ⟨p, vs, e, h1, h2⟩ := r.lst s
    subst e
    refine .inl ⟨vs, .of h1, ?_⟩
    cases h2 <;> rfl
  | dic ks =>
    cases h
    obtain ⟨p, vs, e, h1, h2⟩ := r.dic s
    subst e
    refine .inr (.inr ⟨vs, h1, ?_⟩)
    cases h2 <;> rfl
  | ins _ _ => cases h
  | scr _ => cases h
theorem rdT_val {d : Env → Out Rs} {Q : Bool → Hp → Prop} (h : rdT T W (fun e => (d e).bind fun r e1 => tstR r e1) σ H Q) : rd T W d σ H fun x H' => ∃ k, TruV T.K x H' k ∧ Q k H' := by
  obtain ⟨n, H0, ρ, ts, S, P⟩ := h
  refine rd_mono (rd_one S P) fun v H1 h => ?_
  obtain ⟨H01, ρ1, r, S1, P1⟩ := h
  have P1 : Post T W n σ ts (Out.of ρ1 ((r.see ρ1).bind truD)) _ := P1
  cases es : r.see ρ1 with
  | none => rw [es] at P1; exact P1.elim
  | some x =>
    rw [es] at P1
    have P1 : Post T W n σ ts (Out.of ρ1 (truD x)) _ := P1
    cases et : truD x with
    | none => rw [et] at P1; exact P1.elim
    | some k =>
      rw [et] at P1
      exact ⟨k, tru_of (S1.see es) S1.sub et, P1 _ _ S1.drop⟩
theorem t_val (ok : Cok T X) {a : Expr} {m : MExp} (ha : PE X a (rd T W (ev G m))) (he : ∀ whole, isTrue a X.env whole = (do let v ← whole; standAt a.pos; holding [v] (truthy v)) := by intro _; rfl) : PT X a (rdT T W (tst G m)) := by
  refine pt_imp (pt_truth ha he) fun σ H Q h => ?_
  rw [ok.hK]
  exact rdT_val h
def BoolD (d : Env → Out Rs) : Prop := ∀ e r e', d e = .ok r e' → ∃ k, r = .d (.bl k)
theorem rdT_bool {d : Env → Out Rs} (hd : BoolD d) {Q : Bool → Hp → Prop} (h : rdT T W (fun e => (d e).bind fun r e1 => tstR r e1) σ H Q) : rd T W d σ H fun x H' => ∃ k, x = .bl k ∧ Q k H' := by
  obtain ⟨n, H0, ρ, ts, S, P⟩ := h
  refine ⟨n, H0, ρ, ts, S, ?_⟩
  have P : Post T W n σ ts ((d ρ).bind fun r e1 => tstR r e1) _ := P
  cases ea : d ρ with
  | no => rw [ea] at P; exact P.elim
  | ex x e => rw [ea] at P; exact P
  | ok r e1 =>
    rw [ea] at P
    obtain ⟨k, rfl⟩ := hd _ _ _ ea
    intro H0' H' v S'
    have r : Rp T _ v (.bl k) := S'.temp _ (List.mem_cons_self ..)
    cases r
    exact ⟨k, rfl, P _ _ S'.drop⟩
theorem boolD_cmp {op : Cop} {ma mb : MExp} : BoolD (ev G (.cmp op ma mb)) := fun e r e' h => by
  have h : ((ev G ma e).bind fun ra e1 => (ev G mb e1).bind fun rb e2 => cmpS op ra rb e2) = .ok r e' := h
  cases ea : ev G ma e with
  | no => rw [ea] at h; cases h
  | ex x e1 => rw [ea] at h; cases h
  | ok ra e1 =>
    rw [ea] at h
    have h : ((ev G mb e1).bind fun rb e2 => cmpS op ra rb e2) = .ok r e' := h
    cases eb : ev G mb e1 with
    | no => rw [eb] at h; cases h
    | ex x e1 => rw [eb] at h; cases h
    | ok rb e2 =>
      rw [eb] at h
      have h : (match ra.see e2, rb.see e2 with
        | some x, some y => Out.of e2 ((cmpD op x y).map blR)
        | _, _ => .no) = .ok r e' := h
      split at h
      · rename_i x y _ _
        cases ec : cmpD op x y with
        | none => rw [ec] at h; cases h
        | some k => rw [ec] at h; cases h; exact ⟨k, rfl⟩
      · cases h
theorem t_cmp (ok : Cok T X) (op : Cop) {a b : Expr} {ma mb : MExp} {pos : Pos} (ha : PE X a (rd T W (ev G ma))) (hb : PE X b (rd T W (ev G mb))) (hm : behindInMarks (copOf op) b = false := by with_unfolding_all rfl) :
    PT X (.Compare a [copOf op] [b] pos) (rdT T W (tst G (.cmp op ma mb))) := by
  refine pt_imp (pt_cmpR (opR_cmp (W := W) ok op) ha hb hm) fun σ H Q h => ?_
  have h := rdT_bool boolD_cmp h
  obtain ⟨n, H0, ρ, ts, S, P⟩ := h
  exact rd_mono (rd_two S P) fun v H1 h => rd_mono h fun w H2 ⟨H0', ρ', ra, rb, S', P'⟩ => ⟨σ, n, H0', ρ', ts, ra, rb, S', P'⟩
theorem t_and1 {a : Expr} {m : MExp} {pos : Pos} (ha : PT X a (rdT T W (tst G m))) : PW X (.BoolOp .And [a] pos) (rdT T W (tst G m)) := pw_and1 ha
theorem t_or1 {a : Expr} {m : MExp} {pos : Pos} (ha : PT X a (rdT T W (tst G m))) : PW X (.BoolOp .Or [a] pos) (rdT T W (tst G m)) := pw_or1 ha
theorem t_and {a b : Expr} {rest : List Expr} {ma mb : MExp} {pos : Pos} (ha : PT X a (rdT T W (tst G ma))) (hb : PW X (.BoolOp .And (b :: rest) pos) (rdT T W (tst G mb))) : PW X (.BoolOp .And (a :: b :: rest) pos) (rdT T W (tst G (.and_ ma mb))) := by
  refine pw_imp (pw_and ha hb) fun σ H Q h => ?_
  obtain ⟨n, H0, ρ, ts, S, P⟩ := h
  refine ⟨n, H0, ρ, ts, S, ?_⟩
  have P : Post T W n σ ts (((ev G ma ρ).bind fun ra e1 => match ra with
    | .d (.bl true) => ev G mb e1
    | .d (.bl false) => .ok (.d (.bl false)) e1
    | _ => .no).bind fun r e1 => tstR r e1) fun b ρ' H0' H' => ST T n H0' H' σ ρ' ts → Q b H' := P
  show Post T W n σ ts ((ev G ma ρ).bind fun r e1 => tstR r e1) _
  cases ea : ev G ma ρ with
  | no => rw [ea] at P; exact P.elim
  | ex x e => rw [ea] at P; exact P
  | ok ra e1 =>
    rw [ea] at P
    cases ra with
    | fr _ => exact P.elim
    | bo _ => exact P.elim
    | d x =>
      cases x with
      | bl k =>
        cases k with
        | true => exact fun H0' H' S' => ⟨n, H0', e1, ts, S', P⟩
        | false => exact fun H0' H' S' => P H0' H' S'
      | non => exact P.elim
      | int _ => exact P.elim
      | str _ => exact P.elim
      | tup _ => exact P.elim
      | lst _ => exact P.elim
      | dic _ => exact P.elim
      | ins _ _ => exact P.elim
      | scr _ => exact P.elim
theorem t_or {a b : Expr} {rest : List Expr} {ma mb : MExp} {pos : Pos} (ha : PT X a (rdT T W (tst G ma))) (hb : PW X (.BoolOp .Or (b :: rest) pos) (rdT T W (tst G mb))) : PW X (.BoolOp .Or (a :: b :: rest) pos) (rdT T W (tst G (.or_ ma mb))) := by
  refine pw_imp (pw_or ha hb) fun σ H Q h => ?_
  obtain ⟨n, H0, ρ, ts, S, P⟩ := h
  refine ⟨n, H0, ρ, ts, S, ?_⟩
  have P : Post T W n σ ts (((ev G ma ρ).bind fun ra e1 => match ra with
    | .d (.bl true) => .ok (.d (.bl true)) e1
    | .d (.bl false) => ev G mb e1
    | _ => .no).bind fun r e1 => tstR r e1) fun b ρ' H0' H' => ST T n H0' H' σ ρ' ts → Q b H' := P
  show Post T W n σ ts ((ev G ma ρ).bind fun r e1 => tstR r e1) _
  cases ea : ev G ma ρ with
  | no => rw [ea] at P; exact P.elim
  | ex x e => rw [ea] at P; exact P
  | ok ra e1 =>
    rw [ea] at P
    cases ra with
    | fr _ => exact P.elim
    | bo _ => exact P.elim
    | d x =>
      cases x with
      | bl k =>
        cases k with
        | false => exact fun H0' H' S' => ⟨n, H0', e1, ts, S', P⟩
        | true => exact fun H0' H' S' => P H0' H' S'
      | non => exact P.elim
      | int _ => exact P.elim
      | str _ => exact P.elim
      | tup _ => exact P.elim
      | lst _ => exact P.elim
      | dic _ => exact P.elim
      | ins _ _ => exact P.elim
      | scr _ => exact P.elim
theorem t_w {e : Expr} {m : MExp} (h : PW X e (rdT T W (tst G m))) : PT X e (rdT T W (tst G m)) := h.pt
theorem t_not {a : Expr} {m : MExp} {pos : Pos} (ha : PT X a (rdT T W (tst G m))) : PT X (.UnaryOp .Not a pos) (rdT T W (tst G (.not_ m))) := by
  refine pt_imp (pt_not ha) fun σ H Q h => ?_
  obtain ⟨n, H0, ρ, ts, S, P⟩ := h
  refine ⟨n, H0, ρ, ts, S, ?_⟩
  have P : Post T W n σ ts (((ev G m ρ).bind fun ra e1 => (tstR ra e1).bind fun k e2 => .ok (.d (.bl (!k))) e2).bind fun r e1 => tstR r e1) fun b ρ' H0' H' => ST T n H0' H' σ ρ' ts → Q b H' := P
  show Post T W n σ ts ((ev G m ρ).bind fun r e1 => tstR r e1) _
  cases ea : ev G m ρ with
  | no => rw [ea] at P; exact P.elim
  | ex x e => rw [ea] at P; exact P
  | ok ra e1 =>
    rw [ea] at P
    show Post T W n σ ts (tstR ra e1) _
    have P : Post T W n σ ts (((tstR ra e1).bind fun k e2 => .ok (.d (.bl (!k))) e2).bind fun r e1 => tstR r e1) fun b ρ' H0' H' => ST T n H0' H' σ ρ' ts → Q b H' := P
    cases et : tstR ra e1 with
    | no => rw [et] at P; exact P.elim
    | ex x e => rw [et] at P; exact P
    | ok k e2 => rw [et] at P; exact fun H0' H' S' => P H0' H' S'
/-! ### and, or, not, if as values -/
theorem r_one {op : BoolOp} {a : Expr} {m : MExp} {pos : Pos} (ha : PE X a (rd T W (ev G m))) : PE X (.BoolOp op [a] pos) (rd T W (ev G m)) := pe_one ha
theorem r_and {a b : Expr} {rest : List Expr} {ma mb : MExp} {pos : Pos} (ha : PE X a (rd T W (ev G ma))) (hb : PE X (.BoolOp .And (b :: rest) pos) (rd T W (ev G mb))) : PE X (.BoolOp .And (a :: b :: rest) pos) (rd T W (ev G (.and_ ma mb))) := by
  refine pe_imp (pe_and ha hb) fun σ H Q h => ?_
  obtain ⟨n, H0, ρ, ts, S, P⟩ := h
  refine rd_mono (rd_one S P) fun v H1 h => ?_
  obtain ⟨H01, ρ1, r, S1, P1⟩ := h
  cases r with
  | fr _ => exact P1.elim
  | bo _ => exact P1.elim
  | d x =>
    cases x with
    | bl k =>
      have r : Rp T _ v (.bl k) := S1.temp _ (List.mem_cons_self ..)
      cases r
      cases k with
      | true => exact ⟨true, rfl, n, H01, ρ1, ts, S1.drop, P1⟩
      | false => exact ⟨false, rfl, P1 _ _ _ S1⟩
    | non => exact P1.elim
    | int _ => exact P1.elim
    | str _ => exact P1.elim
    | tup _ => exact P1.elim
    | lst _ => exact P1.elim
    | dic _ => exact P1.elim
    | ins _ _ => exact P1.elim
    | scr _ => exact P1.elim
theorem r_or {a b : Expr} {rest : List Expr} {ma mb : MExp} {pos : Pos} (ha : PE X a (rd T W (ev G ma))) (hb : PE X (.BoolOp .Or (b :: rest) pos) (rd T W (ev G mb))) : PE X (.BoolOp .Or (a :: b :: rest) pos) (rd T W (ev G (.or_ ma mb))) := by
  refine pe_imp (pe_or ha hb) fun σ H Q h => ?_
  obtain ⟨n, H0, ρ, ts, S, P⟩ := h
  refine rd_mono (rd_one S P) fun v H1 h => ?_
  obtain ⟨H01, ρ1, r, S1, P1⟩ := h
  cases r with
  | fr _ => exact P1.elim
  | bo _ => exact P1.elim
  | d x =>
    cases x with
    | bl k =>
      have r : Rp T _ v (.bl k) := S1.temp _ (List.mem_cons_self ..)
      cases r
      cases k with
      | true => exact ⟨true, rfl, P1 _ _ _ S1⟩
      | false => exact ⟨false, rfl, n, H01, ρ1, ts, S1.drop, P1⟩
    | non => exact P1.elim
    | int _ => exact P1.elim
    | str _ => exact P1.elim
    | tup _ => exact P1.elim
    | lst _ => exact P1.elim
    | dic _ => exact P1.elim
    | ins _ _ => exact P1.elim
    | scr _ => exact P1.elim
theorem r_not (ok : Cok T X) {a : Expr} {m : MExp} {pos : Pos} (ha : PE X a (rd T W (ev G m))) : PE X (.UnaryOp .Not a pos) (rd T W (ev G (.not_ m))) := by
  refine pe_imp (pe_notT ha) fun σ H Q h => ?_
  obtain ⟨n, H0, ρ, ts, S, P⟩ := h
  rw [ok.hK]
  refine rd_mono (rd_one S P) fun v H1 h => ?_
  obtain ⟨H01, ρ1, r, S1, P1⟩ := h
  have P1 : Post T W n σ ts ((Out.of ρ1 ((r.see ρ1).bind truD)).bind fun k e2 => Out.ok (Rs.d (.bl (!k))) e2) (Wants T n σ ts Q) := P1
  cases es : r.see ρ1 with
  | none => rw [es] at P1; exact P1.elim
  | some x =>
    rw [es] at P1
    have P1 : Post T W n σ ts ((Out.of ρ1 (truD x)).bind fun k e2 => Out.ok (Rs.d (.bl (!k))) e2) (Wants T n σ ts Q) := P1
    cases et : truD x with
    | none => rw [et] at P1; exact P1.elim
    | some k =>
      rw [et] at P1
      exact ⟨k, tru_of (S1.see es) S1.sub et, P1 _ _ _ (S1.drop.addD (.bl _))⟩
theorem r_ite {c a b : Expr} {mc ma mb : MExp} {pos : Pos} (hc : PT X c (rdT T W (tst G mc))) (ha : PE X a (rd T W (ev G ma))) (hb : PE X b (rd T W (ev G mb))) : PE X (.IfExp c a b pos) (rd T W (ev G (.ite mc ma mb))) := by
  refine pe_imp (pe_ifExp hc ha hb) fun σ H Q h => ?_
  obtain ⟨n, H0, ρ, ts, S, P⟩ := h
  refine ⟨n, H0, ρ, ts, S, ?_⟩
  have P : Post T W n σ ts ((ev G mc ρ).bind fun rc e1 => (tstR rc e1).bind fun k e2 => if k then ev G ma e2 else ev G mb e2) (Wants T n σ ts Q) := P
  show Post T W n σ ts ((ev G mc ρ).bind fun r e1 => tstR r e1) _
  cases ea : ev G mc ρ with
  | no => rw [ea] at P; exact P.elim
  | ex x e => rw [ea] at P; exact P
  | ok ra e1 =>
    rw [ea] at P
    show Post T W n σ ts (tstR ra e1) _
    have P : Post T W n σ ts ((tstR ra e1).bind fun k e2 => if k then ev G ma e2 else ev G mb e2) (Wants T n σ ts Q) := P
    cases et : tstR ra e1 with
    | no => rw [et] at P; exact P.elim
    | ex x e => rw [et] at P; exact P
    | ok k e2 =>
      rw [et] at P
      cases k with
      | true => exact fun H0' H' S' => ⟨n, H0', e2, ts, S', P⟩
      | false => exact fun H0' H' S' => ⟨n, H0', e2, ts, S', P⟩
end
end Mi
end
section
set_option maxHeartbeats 4000000
namespace Mi
open PySem PySem.Spec PyProof.Rows L2
section
variable {T : Tb} {W : WX} {X : Cx} {G : Gs} {n : En} {σ : L2.St} {H0 H : Hp} {ρ : Env} {ts us : List Tmp} {Q : VK} {A B : List Nat}
theorem Cok.blk {T : Tb} {X : Cx} (ok : Cok T X) (s : Shared) (H : Hp) (sc : Scope) (e : PySem.Env) (fp : List Addr) : Cok T (X.blk s H sc e fp) := ⟨ok.hK, ok.calm, ok.nd, ok.un, ok.gd⟩
/-! ### calls -/
/-- a def that may be called by its name -/
structure Cal (P : Program) (w : World) (K : PySem.W.Frag) (mg : Str → Option Value) (base : Heap) (CX : CXT) (T : Tb) (F : Env → Out Rs) (k np : Nat) (x : Str) : Prop where
  ex : ∃ fa fd ps, FnOk P w K mg base CX k fa fd ps (SpF T np F) ∧ mg x = some (.ref fa) ∧ PySem.W.keepIn K (.ref fa) = true ∧ Binds K fd ps []
  no : ∀ l : List Sl, l.length ≠ np → F l = .no
theorem r_call {CX : CXT} {f k np : Nat} {x : Str} {p pos : Pos} {e : Expr} {es : List Expr} {ms : List MExp} (c : Cal X.prog X.w X.K X.mg X.base CX T (G.fn f) k np x) (hr : Room k X.A) (hx : ∀ σ, PassesAt CX X σ (WE W σ)) (ha : PA X (e :: es) (rdA T W (evs G ms)))
    (hg : Gl X x := by rfl) (hdb : (x == ("__debug__" : Str)) = false := by decide) (he : starEach (e :: es) X.env = (false, eval e X.env) :: starEach es X.env := by rfl) (hpl : (backTo pos (starEach es X.env)).any (·.1) = false := by rfl) :
    PE X (.Call (.Name x p) (e :: es) [] pos) (rd T W (ev G (.call f ms))) := by
  obtain ⟨fa, fd, ps, F, hm, hk, hb⟩ := c.ex
  exact pe_callF F hr hg hm hk hb hx c.no ha hdb he hpl
theorem pass0S {X : Cx} {σ : L2.St} {E : XK} : PassesAt CX0 X σ E := fun _ _ _ _ _ _ h => h.elim
theorem r_blt (ok : Cok T X) (b : Blt) {x : Str} {p pos : Pos} {e : Expr} {es : List Expr} {ms : List MExp} (hm : X.mg x = none) (hv : bootBuiltins x = some (bltV b)) (ha : PA X (e :: es) (rdA T W (evs G ms)))
    (hg : Gl X x := by rfl) (hn : x ≠ "__name__" := by decide) (hdb : (x == ("__debug__" : Str)) = false := by decide) (he : starEach (e :: es) X.env = (false, eval e X.env) :: starEach es X.env := by rfl) (hpl : (backTo pos (starEach es X.env)).any (·.1) = false := by rfl) :
    PE X (.Call (.Name x p) (e :: es) [] pos) (rd T W (ev G (.blt b ms))) := by
  have hc := callR_blt (W := W) ok b
  have go : PE X (.Call (.Name x p) (e :: es) [] pos) (tCB (Many T W (bltS b)) (rdA T W (evs G ms))) := by
    cases b <;> first
      | exact pe_callB hc hg hm hv ha hn hdb he hpl
      | exact pe_callTy hc hg hm hv ha hn hdb he hpl
  exact pe_imp go fun σ H Q h => rd_seeMany h
theorem r_isk (ok : Cok T X) {a : Expr} {m : MExp} {pos p p2 : Pos} {k : Kd} {nm : Str} (hm : X.mg "isinstance" = none) (hm2 : X.mg nm = none) (hv : bootBuiltins nm = some (.type (kdN k))) (ha : PE X a (rd T W (ev G m))) (hg : Gl X "isinstance" := by rfl) (hg2 : Gl X nm := by rfl)
    (hn : nm ≠ "__name__" := by decide) (hd : (nm == ("__debug__" : Str)) = false := by decide) (hs : starEach [a, .Name nm p2] X.env = (false, eval a X.env) :: starEach [.Name nm p2] X.env := by rfl) :
    PE X (.Call (.Name "isinstance" p) [a, .Name nm p2] [] pos) (rd T W (ev G (.isk m [k]))) := pe_isk1 ok hg hm hg2 hm2 hv hn hd hs ha
/-! ### what is walked -/
theorem i_seq (ok : Cok T X) {tg e : Expr} {m : MExp} (he : PE X e (rd T W (ev G m))) : PI X tg e (rdI T W (evIt G (.seq m))) := pi_one_rd ok he
theorem i_enum (ok : Cok T X) {e : Expr} {m : MExp} {p pos tpos : Pos} {elts : List Expr} {kk : Nat} (hm : X.mg "enumerate" = none) (he : PE X e (rd T W (ev G m))) (hg : Gl X "enumerate" := by rfl) (hs : starEach [e] X.env = [(false, eval e X.env)] := by rfl) :
    PI X (.Tuple elts kk tpos) (.Call (.Name "enumerate" p) [e] [] pos) (rdI T W (evIt G (.enum m))) := pi_enum_rd ok hg hm he hs
theorem i_zip (ok : Cok T X) {e e2 : Expr} {ma mb : MExp} {p pos tpos : Pos} {elts : List Expr} {kk : Nat} (hm : X.mg "zip" = none) (he : PE X e (rd T W (ev G ma))) (he2 : PE X e2 (rd T W (ev G mb))) (hg : Gl X "zip" := by rfl)
    (hs : starEach [e, e2] X.env = (false, eval e X.env) :: starEach [e2] X.env := by rfl) (hs2 : starEach [e2] X.env = (false, eval e2 X.env) :: starEach [] X.env := by rfl) (hpl : (backTo pos (starEach [e2] X.env)).any (·.1) = false := by rfl) :
    PI X (.Tuple elts kk tpos) (.Call (.Name "zip" p) [e, e2] [] pos) (rdI T W (evIt G (.zip ma mb))) := pi_zip_rd ok hg hm he he2 hs hs2 hpl
theorem i_rng1 {tg e : Expr} {m : MExp} {p pos : Pos} (hm : X.mg "range" = none) (he : PE X e (rd T W (ev G m))) (hg : Gl X "range" := by rfl) (hs : starEach [e] X.env = [(false, eval e X.env)] := by rfl) : PI X tg (.Call (.Name "range" p) [e] [] pos) (rdI T W (evIt G (.rng none m))) := pi_rng1_rd hg hm he hs
theorem i_rng2 {tg e e2 : Expr} {ma mb : MExp} {p pos : Pos} (hm : X.mg "range" = none) (he : PE X e (rd T W (ev G ma))) (he2 : PE X e2 (rd T W (ev G mb))) (hg : Gl X "range" := by rfl)
    (hs : starEach [e, e2] X.env = [(false, eval e X.env), (false, eval e2 X.env)] := by rfl) (hs2 : starEach [e2] X.env = [(false, eval e2 X.env)] := by rfl) : PI X tg (.Call (.Name "range" p) [e, e2] [] pos) (rdI T W (evIt G (.rng (some ma) mb))) := pi_rng2_rd hg hm he he2 hs hs2
/-! ### targets -/
theorem g_nm {i : Nat} {x : Str} {pos : Pos} (nd : X.N.Nodup) (hi : X.N[i]? = some x := by rfl) (hx : Loc X.env.scope x := by first | exact Or.inl rfl | exact Or.inr rfl) (hf : X.fn x = true ∨ X.env.scope.names.lookup x = some .local := by first | exact .inl rfl | exact .inr rfl) : PG X (.Name x pos) (rdG T (.nm i)) := pg_nmR nd hi hx hf
theorem gs_nil : PGs X [] (rdGs T []) := pgs_nilR
theorem gs_cons {i : Nat} {is : List Nat} {e : Expr} {es : List Expr} (h1 : PG X e (rdG T (.nm i))) (h2 : PGs X es (rdGs T is)) (hs : (assignEach (e :: es) X.env).map (·.2) = assign e X.env :: (assignEach es X.env).map (·.2) := by rfl) : PGs X (e :: es) (rdGs T (i :: is)) := pgs_consR h1 h2 hs
theorem g_tp (ok : Cok T X) {is : List Nat} {es : List Expr} {kk : Nat} {pos : Pos} (h : PGs X es (rdGs T is)) (hn : (assignEach es X.env).length = is.length := by rfl) (hst : (assignEach es X.env).findIdx? (·.1) = none := by rfl) : PG X (.Tuple es kk pos) (rdG T (.tp is)) := pg_tpR ok h hn hst
/-! ### comprehensions -/
theorem c_no {T : Tb} {W : WX} {X : Cx} {G : Gs} : PTs X [] (rdT T W (evc G none)) := pts_none
theorem c_yes {T : Tb} {W : WX} {X : Cx} {G : Gs} {c : Expr} {m : MExp} (h : PT X c (rdT T W (tst G m))) : PTs X [c] (rdT T W (evc G (some m))) := pts_one h
theorem r_comp (ok : Cok T X) (own : List (Str × Nat)) {elt tg iter : Expr} {ifs : List Expr} {scope : Scope} {pos : Pos} {t : Tgt} {mi : MIt} {mc : Option MExp} {me : MExp} (hi : PI X tg iter (rdI T W (evIt G mi))) (bk : BlkOk X.N X.env.scope scope own)
    (hg : ∀ (s : Shared) (H : Hp) (C : Addr) (cl : List (Str × Addr)) (fp : List Addr), PG (X.blk s H scope (compEnvC scope cl C X.env) fp) tg (rdG T t)) (ht : ∀ (s : Shared) (H : Hp) (C : Addr) (cl : List (Str × Addr)) (fp : List Addr), PTs (X.blk s H scope (compEnvC scope cl C X.env) fp) ifs (rdT T W0 (evc G mc)))
    (he : ∀ (s : Shared) (H : Hp) (C : Addr) (cl : List (Str × Addr)) (fp : List Addr), PE (X.blk s H scope (compEnvC scope cl C X.env) fp) elt (rd T W0 (ev G me))) (ho : own.map (·.2) = t.is := by rfl) (hs : ∀ x, foldedSetIterable iter X.env x = pure x := by intro _; rfl) :
    PE X (.ListComp elt [⟨tg, iter, ifs, 0⟩] scope pos) (rd T W (ev G (.comp me t mi mc))) := pe_comp ok hi bk ho hg ht he hs
/-! ### statements -/
theorem s_set (own : Bool) {i : Nat} {x : Str} {e : Expr} {m : MExp} {pos pos' : Pos} (nd : X.N.Nodup) (he : PE X e (rd T W (ev G m))) (hi : X.N[i]? = some x := by rfl) (hx : Loc X.env.scope x := by first | exact Or.inl rfl | exact Or.inr rfl)
    (hs : swapsWith e (some (.Name x pos')) pos.line X.env = pure false := by rfl) (hf : X.fn x = true ∨ X.env.scope.names.lookup x = some .local := by first | exact .inl rfl | exact .inr rfl) : PS X (.Assign [.Name x pos'] e pos) (rdS T W [i] (exec G (.set i own m))) := ps_setR nd hi hx he hs hf
theorem s_setc (ok : Cok T X) (own1 : Bool) (own : List (Str × Nat)) {i : Nat} {y : Str} {py : Pos} {elt tg iter : Expr} {ifs : List Expr} {scope : Scope} {pos spos : Pos} {t : Tgt} {mi : MIt} {mc : Option MExp} {me : MExp} (hi : PI X tg iter (rdI T W (evIt G mi))) (bk : BlkOk X.N X.env.scope scope own)
    (hsw : swapsWith (.ListComp elt [⟨tg, iter, ifs, 0⟩] scope pos) (some (.Name y py)) spos.line X.env = pure true)
    (hg : ∀ (s : Shared) (H : Hp) (C : Addr) (cl : List (Str × Addr)) (fp : List Addr), PG (X.blk s H scope (compEnvC scope cl C X.env) fp) tg (rdG T t)) (ht : ∀ (s : Shared) (H : Hp) (C : Addr) (cl : List (Str × Addr)) (fp : List Addr), PTs (X.blk s H scope (compEnvC scope cl C X.env) fp) ifs (rdT T W0 (evc G mc)))
    (he : ∀ (s : Shared) (H : Hp) (C : Addr) (cl : List (Str × Addr)) (fp : List Addr), PE (X.blk s H scope (compEnvC scope cl C X.env) fp) elt (rd T W0 (ev G me))) (hy : X.N[i]? = some y := by rfl) (hyl : X.env.scope.names.lookup y = some .local := by rfl) (ho : own.map (·.2) = t.is := by rfl) (hs : ∀ x, foldedSetIterable iter X.env x = pure x := by intro _; rfl) :
    PS X (.Assign [.Name y py] (.ListComp elt [⟨tg, iter, ifs, 0⟩] scope pos) spos) (rdS T W [i] (exec G (.set i own1 (.comp me t mi mc)))) := ps_setComp ok hy hyl hsw hi bk ho hg ht he hs
theorem s_exp {e : Expr} {m : MExp} {pos : Pos} (he : PE X e (rd T W (ev G m))) (hs : swapsWith e none pos.line X.env = pure false := by rfl) : PS X (.Expr e pos) (rdS T W [] (exec G (.exp m))) := ps_expR he hs
theorem s_ret {e : Expr} {m : MExp} {pos : Pos} (he : PE X e (rd T W (ev G m))) : PS X (.Return (some e) pos) (rdS T W [] (exec G (.ret m))) := ps_retR he
theorem s_retN {pos : Pos} : PS X (.Return none pos) (rdS T W [] (exec G .retN)) := ps_retNR
theorem s_pass {pos : Pos} : PS X (.Pass pos) (rdS T W [] (exec G .pass)) := ps_passR
theorem s_never {s : Stmt} : PS X s (rdS T W [] (exec G .never)) := ps_noR
theorem s_if {c : Expr} {a b : List Stmt} {pos : Pos} {mc : MExp} {ma mb : List MStmt} (hc : PT X c (rdT T W (tst G mc))) (ha : PSs X a (rdS T W (MStmt.sts ma) (execs G ma))) (hb : PSs X b (rdS T W (MStmt.sts mb) (execs G mb))) :
    PS X (.If c a b pos) (rdS T W (MStmt.st (.ite mc ma mb)) (exec G (.ite mc ma mb))) := ps_iteR hc ha hb
theorem s_whl (own : PassesOwn (model X.prog X.w) X.A X.env X.xe) {c : Expr} {a : List Stmt} {pos : Pos} {mc : MExp} {ma : List MStmt} (hc : PT X c (rdT T W (tst G mc))) (ha : PSs X a (rdS T W (MStmt.sts ma) (execs G ma))) :
    PS X (.While c a [] pos) (rdS T W (MStmt.st (.whl mc ma)) (exec G (.whl mc ma))) := ps_whlR own hc ha
theorem s_for (ok : Cok T X) (own : PassesOwn (model X.prog X.w) X.A X.env X.xe) {tg iter : Expr} {body : List Stmt} {pos : Pos} {t : Tgt} {mi : MIt} {mb : List MStmt} (hi : PI X tg iter (rdI T W (evIt G mi))) (hg : PG X tg (rdG T t)) (hb : PSs X body (rdS T W (MStmt.sts mb) (execs G mb)))
    (hs : ∀ x, foldedSetIterable iter X.env x = pure x := by intro _; rfl) : PS X (.For tg iter body [] pos) (rdS T W (MStmt.st (.for_ t mi mb)) (exec G (.for_ t mi mb))) := ps_forR ok own hi hg hb hs
theorem s_par (ok : Cok T X) (own1 own2 : Bool) {i j : Nat} {x y : Str} {a b : Expr} {ma mb : MExp} {px py pt pos : Pos} {kt k2 : Nat} {pt2 : Pos} (ha : PE X a (rd T W (ev G ma))) (hb : PE X b (rd T W (ev G mb))) (hi : X.N[i]? = some x := by rfl) (hj : X.N[j]? = some y := by rfl) (hij : i ≠ j := by decide)
    (hx : X.env.scope.names.lookup x = some .local := by rfl) (hy : X.env.scope.names.lookup y = some .local := by rfl) (hst : starEach [a, b] X.env = (false, eval a X.env) :: starEach [b] X.env := by rfl) (hst2 : starEach [b] X.env = (false, eval b X.env) :: starEach [] X.env := by rfl)
    (hw : swappedStores [.Tuple [.Name x px, .Name y py] kt pt] (.Tuple [a, b] k2 pt2) X.env = pure (some [x, y]) := by rfl) (hs : swapsWithSole [.Tuple [.Name x px, .Name y py] kt pt] (.Tuple [a, b] k2 pt2) pos.line X.env = pure false := by rfl) :
    PS X (.Assign [.Tuple [.Name x px, .Name y py] kt pt] (.Tuple [a, b] k2 pt2) pos) (rdS T W [i, j] (exec G (.par i j own1 own2 ma mb))) := ps_parR ok ok.nd hi hj hij hx hy ha hb hst hst2 hw hs
theorem s_sub (ok : Cok T X) {o i e : Expr} {mo mi me : MExp} {pos' pos : Pos} (he : PE X e (rd T W (ev G me))) (ho : PE X o (rd T W (ev G mo))) (hi : PE X i (rd T W (ev G mi)))
    (ha : ∀ v, assign (.Subscript o i pos') X.env v = (do
      let ov ← holding [v] (eval o X.env)
      let iv ← holding [v, ov] (eval i X.env)
      standAt pos'
      holding [v, ov, iv] (setItem ov iv v)
      release [v, ov, iv] []) := by intro _; rfl) (hs : swapsWithSole [.Subscript o i pos'] e pos.line X.env = pure false := by rfl) (hw : swappedStores [.Subscript o i pos'] e X.env = pure none := by rfl)
    (h1 : (assignEach [.Subscript o i pos'] X.env).map (·.2) = [assign (.Subscript o i pos') X.env] := by rfl) : PS X (.Assign [.Subscript o i pos'] e pos) (rdS T W [] (exec G (.setSub mo mi me))) := ps_setSubR ok he ho hi ha hs hw h1
theorem s_fld (ok : Cok T X) (hc : ClsOk T G) {f : Nat} {o e : Expr} {mo me : MExp} {pos' pos : Pos} (he : PE X e (rd T W (ev G me))) (ho : PE X o (rd T W (ev G mo))) (hs : swapsWith e (some (.Attribute o (T.an f) pos')) pos.line X.env = pure false := by rfl) :
    PS X (.Assign [.Attribute o (T.an f) pos'] e pos) (rdS T W [] (exec G (.setFld mo f me))) := ps_setFldR ok hc he ho hs
theorem s_aug (nd : X.N.Nodup) {op : Bop} {i : Nat} {x : Str} {e : Expr} {m : MExp} {pos pos' : Pos} (he : PE X e (rd T W (ev G m))) (hop : op = .add ∨ op = .sub := by first | exact .inl rfl | exact .inr rfl) (hi : X.N[i]? = some x := by rfl) (hx : Loc X.env.scope x := by first | exact Or.inl rfl | exact Or.inr rfl)
    (hf : X.fn x = true ∨ X.env.scope.names.lookup x = some .local := by first | exact .inl rfl | exact .inr rfl) : PS X (.AugAssign (.Name x pos') (opOf op) e pos) (rdS T W [i] (exec G (.aug i op m))) := by
  rcases hop with rfl | rfl
  · exact ps_augR (.inl rfl) nd hi hx he hf
  · exact ps_augR (.inr rfl) nd hi hx he hf
theorem ss_nil : PSs X [] (rdS T W (MStmt.sts []) (execs G [])) := pss_nilR
theorem ss_cons {s : Stmt} {ss : List Stmt} {m : MStmt} {ms : List MStmt} (h1 : PS X s (rdS T W (MStmt.st m) (exec G m))) (h2 : PSs X ss (rdS T W (MStmt.sts ms) (execs G ms))) : PSs X (s :: ss) (rdS T W (MStmt.sts (m :: ms)) (execs G (m :: ms))) := pss_consR h1 h2
end
end Mi
end
section
set_option maxHeartbeats 4000000
namespace Mi
open PySem PySem.Spec PyProof.Rows L2
section
variable {T : Tb} {W : WX} {X : Cx} {G : Gs} {n : En} {σ : L2.St} {H0 H : Hp} {ρ : Env} {ts us : List Tmp} {Q : VK} {A B : List Nat}
/-! ### a def's body: entry and end -/
theorem ST.entry {N : List Str} {vs : List V} {ls : List Sl} (S : ST T n H0 H (vs.map some) ls []) (hl : ls.length ≤ N.length) : ST T n H0 H (L2.start N vs) (ls ++ List.replicate (N.length - ls.length) .un) [] := by
  have l0 : vs.length = ls.length := by have := S.len; rw [List.length_map] at this; exact this
  have old : ∀ {j s}, (ls ++ List.replicate (N.length - ls.length) Sl.un)[j]? = some s → ls[j]? = some s ∨ (s = .un ∧ ls.length ≤ j ∧ j < N.length) := fun {j s} h => by
    by_cases z : j < ls.length
    · rw [List.getElem?_append_left z] at h
      exact .inl h
    · rw [List.getElem?_append_right (by omega), List.getElem?_replicate] at h
      split at h
      · cases h; exact .inr ⟨rfl, by omega, by omega⟩
      · cases h
  have st : ∀ j, j < ls.length → (L2.start N vs)[j]? = (vs.map some)[j]? := fun j hj => by
    unfold L2.start
    rw [List.getElem?_append_left (by rw [List.length_map, l0]; exact hj)]
  have back : ∀ {j p}, OwnAt (L2.start N vs) (ls ++ List.replicate (N.length - ls.length) Sl.un) j p → OwnAt (vs.map some) ls j p := fun {j p} ⟨a, s, b, c⟩ => by
    rcases old b with z | ⟨z, _⟩
    · exact ⟨by rw [← st j (lt_of_get z)]; exact a, s, z, c⟩
    · subst z; cases c
  exact {
    sub := S.sub
    s0 := S.s0
    len := by unfold L2.start; simp; omega
    slot := fun j s h => by
      rcases old h with z | ⟨z, z1, z2⟩
      · obtain ⟨x, hx, q⟩ := S.slot j s z
        exact ⟨x, by rw [st j (lt_of_get z)]; exact hx, q⟩
      · subst z
        refine ⟨none, ?_, True.intro⟩
        unfold L2.start
        rw [List.getElem?_append_right (by rw [List.length_map]; omega), List.getElem?_replicate, if_pos (by rw [List.length_map]; omega)]
    temp := fun t h => by simp at h
    dist := fun i j p h1 h2 => S.dist i j p (back h1) (back h2)
    dtt := S.dtt
    dts := fun p h => by simp [tmpL] at h
    pak := fun q hq => by
      obtain ⟨a, o, b⟩ := S.pak q hq
      have z := lt_of_get b
      exact ⟨by rw [st q.1 z]; exact a, o, by rw [List.getElem?_append_left z]; exact b⟩
    keep := S.keep
    dom := S.dom
    new := S.new }
theorem backP_len : ∀ (ls : List Sl) (e : Env), (backP ls e).length = ls.length
  | [], _ => rfl
  | s :: ls, e => by cases s <;> simp [backP, backP_len ls]
theorem tail_get (e : Env) (j : Nat) : e.tail[j]? = e[j + 1]? := by cases e <;> simp
theorem backP_get : ∀ {ls : List Sl} {e : Env} {j : Nat} {s : Sl}, pasKept ls e = true → (backP ls e)[j]? = some s → ∃ s0, ls[j]? = some s0 ∧ (((∀ o, s0 ≠ .pa o) ∧ s = s0) ∨ ∃ o o', s0 = .pa o ∧ e[j]? = some (.pa o') ∧ s = .pa o')
  | [], e, j, s, _, h => by simp [backP] at h
  | s0 :: ls, e, 0, s, hk, h => by
    cases s0 with
    | un => simp [backP] at h; exact ⟨_, rfl, .inl ⟨fun o z => (nomatch z), h.symm⟩⟩
    | sh d => simp [backP] at h; exact ⟨_, rfl, .inl ⟨fun o z => (nomatch z), h.symm⟩⟩
    | ow o => simp [backP] at h; exact ⟨_, rfl, .inl ⟨fun o z => (nomatch z), h.symm⟩⟩
    | pa o =>
      cases e with
      | nil => cases hk
      | cons t e =>
        cases t with
        | un => cases hk
        | sh _ => cases hk
        | ow _ => cases hk
        | pa o' => simp [backP] at h; exact ⟨_, rfl, .inr ⟨o, o', rfl, rfl, h.symm⟩⟩
  | s0 :: ls, e, j + 1, s, hk, h => by
    have hk2 : pasKept ls e.tail = true := by
      cases s0 with
      | un => exact hk
      | sh _ => exact hk
      | ow _ => exact hk
      | pa o =>
        have hk : ((match (generalizing := false) e with
          | .pa _ :: _ => true
          | _ => false) && pasKept ls e.tail) = true := hk
        rw [Bool.and_eq_true] at hk
        exact hk.2
    have h2 : (backP ls e.tail)[j]? = some s := by
      cases s0 <;> simpa [backP] using h
    obtain ⟨t, a, b⟩ := backP_get hk2 h2
    refine ⟨t, by simpa using a, ?_⟩
    rw [tail_get] at b
    exact b
/-- at a body's end: the parameters' slots -/
theorem ST.exit {vs : List V} {ls : List Sl} {H0e H0' H' : Hp} {σ' : L2.St} {e : Env} {v : V} {r : Rs} (S0 : ST T ⟨H, H0, pasOf 0 vs ls⟩ H0e H (vs.map some) ls []) (hk : pasKept ls e = true) (S : ST T ⟨H, H0, pasOf 0 vs ls⟩ H0' H' σ' e [(v, r)]) (nb : ∀ i, r ≠ .bo i)
    (kinds : ∀ s ∈ ls, (∃ d, s = .sh d) ∨ ∃ o, s = .pa o) (he : Same H0e H0') : ST T ⟨H, H0, pasOf 0 vs ls⟩ H0' H' (vs.map some) (backP ls e) [(v, r)] := by
  have l0 : vs.length = ls.length := by have := S0.len; rw [List.length_map] at this; exact this
  -- a slot of the caller's, at the end
  have paS : ∀ {j o'} {o : Ob}, ls[j]? = some (.pa o) → e[j]? = some (.pa o') → ∃ p, (vs.map some)[j]? = some (some (.ref p)) ∧ σ'[j]? = some (some (.ref p)) ∧ (j, p) ∈ pasOf 0 vs ls ∧ H0' p = none ∧ ObR T H0' H' p o' := fun {j o' o} h1 h2 => by
    obtain ⟨x, hx, p, ep, m, h0, r⟩ := S.slot j _ h2
    subst ep
    obtain ⟨_, hv, _⟩ := pasOf_mem m
    have hv : vs[j]? = some (.ref p) := hv
    exact ⟨p, by rw [List.getElem?_map, hv]; rfl, hx, m, h0, r⟩
  have back : ∀ {j p}, OwnAt (vs.map some) (backP ls e) j p → OwnAt σ' e j p := fun {j p} ⟨a, s, b, c⟩ => by
    obtain ⟨s0, h1, h2⟩ := backP_get hk b
    rcases h2 with ⟨h2, rfl⟩ | ⟨o, o', rfl, h3, rfl⟩
    · rcases kinds s (List.mem_of_getElem? h1) with ⟨d, rfl⟩ | ⟨o, rfl⟩
      · cases c
      · exact (h2 o rfl).elim
    · obtain ⟨q, h4, h5, _⟩ := paS h1 h3
      rw [a] at h4
      cases h4
      exact ⟨h5, _, h3, rfl⟩
  exact {
    sub := S.sub
    s0 := S.s0
    len := by rw [List.length_map, backP_len]; exact l0
    slot := fun j s hj => by
      obtain ⟨s0, h1, h2⟩ := backP_get hk hj
      rcases h2 with ⟨h2, rfl⟩ | ⟨o, o', rfl, h3, rfl⟩
      · rcases kinds s (List.mem_of_getElem? h1) with ⟨d, rfl⟩ | ⟨o, rfl⟩
        · obtain ⟨x, hx, w, ew, rw_⟩ := S0.slot j _ h1
          exact ⟨x, hx, w, ew, rw_.mono he⟩
        · exact (h2 o rfl).elim
      · obtain ⟨p, h4, h5, m, h0, r⟩ := paS h1 h3
        exact ⟨_, h4, p, rfl, m, h0, r⟩
    temp := fun t ht => by
      have q := S.temp t ht
      rw [List.mem_singleton.mp ht] at q ⊢
      cases r with
      | d x => exact q
      | fr o => exact q
      | bo i => exact (nb i rfl).elim
    dist := fun i j p h1 h2 => S.dist i j p (back h1) (back h2)
    dtt := S.dtt
    dts := fun p hp i h => S.dts p hp i (back h)
    pak := fun q hq => by
      obtain ⟨a, o', b⟩ := S.pak q hq
      obtain ⟨j, p⟩ := q
      obtain ⟨_, hv, o, ho⟩ := pasOf_mem hq
      have hv : vs[j]? = some (.ref p) := hv
      have ho : ls[j]? = some (.pa o) := ho
      refine ⟨by show (vs.map some)[j]? = _; rw [List.getElem?_map, hv]; rfl, o', ?_⟩
      show (backP ls e)[j]? = _
      have hjl : j < (backP ls e).length := by rw [backP_len]; exact lt_of_get ho
      obtain ⟨s0, h1, h2⟩ := backP_get hk (List.getElem?_eq_getElem hjl)
      rw [ho] at h1
      cases h1
      rcases h2 with ⟨h2, _⟩ | ⟨o1, o2, _, h3, h4⟩
      · exact (h2 o rfl).elim
      · rw [show e[j]? = _ from b] at h3
        cases h3
        rw [List.getElem?_eq_getElem hjl, h4]
    keep := S.keep
    dom := S.dom
    new := S.new }
end
end Mi
end
section
set_option maxHeartbeats 4000000
namespace Mi
open PySem PySem.Spec PyProof.Rows L2
section
variable {T : Tb} {W : WX} {X : Cx} {G : Gs} {n : En} {σ : L2.St} {H0 H : Hp} {ρ : Env} {ts us : List Tmp} {Q : VK} {A B : List Nat}
/-! ### several targets of any kind -/
def rdTgs (T : Tb) (W : WX) (A : List Nat) (d : List D → Env → SOut) : TGs := fun vs σ H Q => ∃ n H0 ρ ts xs, ST T n H0 H σ ρ (vs.zip (xs.map Rs.d) ++ ts) ∧ vs.length = xs.length ∧ (∀ u ∈ ts, ∀ i, u.2 = .bo i → i ∉ A) ∧ PostS T W n ts (d xs ρ) { nx := Q, rt := fun _ _ => False }
def NoRt (d : D → Env → SOut) : Prop := ∀ x e r e', d x e ≠ .rt r e'
theorem data_nb {vs : List V} {xs : List D} {u : Tmp} (h : u ∈ vs.zip (xs.map Rs.d)) (i : Nat) : u.2 ≠ .bo i := fun z => by
  obtain ⟨v, r⟩ := u
  have h2 := (List.of_mem_zip h).2
  obtain ⟨x, _, e⟩ := List.mem_map.mp h2
  have z : r = .bo i := z
  rw [← e] at z
  cases z
theorem tgs_nil : PGs X [] (rdTgs T W [] (putTgs G [])) := by
  refine pgs_imp pgs_nil fun vs σ H Q h => ?_
  obtain ⟨n, H0, ρ, ts, xs, S, hl, k, P⟩ := h
  cases xs with
  | cons x xs => exact P.elim
  | nil =>
    cases vs with
    | cons _ _ => cases hl
    | nil => exact ⟨rfl, P σ H0 H S⟩
theorem tgs_cons {t : Tg} {l : List Tg} {e : Expr} {es : List Expr} (h1 : PG X e (rdTg T W A (fun x e => putTg G x t e))) (h2 : PGs X es (rdTgs T W B (putTgs G l))) (hr : NoRt (fun x e => putTg G x t e)) (hs : (assignEach (e :: es) X.env).map (·.2) = assign e X.env :: (assignEach es X.env).map (·.2)) :
    PGs X (e :: es) (rdTgs T W (A ++ B) (putTgs G (t :: l))) := by
  refine pgs_imp (pgs_cons h1 h2 hs) fun vs σ H Q h => ?_
  obtain ⟨n, H0, ρ, ts, xs, S, hl, k, P⟩ := h
  cases xs with
  | nil => exact P.elim
  | cons x xs =>
    cases vs with
    | nil => cases hl
    | cons v vs =>
      have hl : vs.length = xs.length := by simpa using hl
      have kB : ∀ u ∈ ts, ∀ i, u.2 = .bo i → i ∉ B := fun u hu i e z => k u hu i e (List.mem_append_right _ z)
      refine ⟨v, vs, rfl, n, H0, ρ, vs.zip (xs.map Rs.d) ++ ts, x, S, fun u hu i e z => ?_, ?_⟩
      · rcases List.mem_append.mp hu with hu | hu
        · exact data_nb hu i e
        · exact k u hu i e (List.mem_append_left _ z)
      · have P : PostS T W n ts ((putTg G x t ρ).seq fun e1 => putTgs G l xs e1) _ := P
        show PostS T W n (vs.zip (xs.map Rs.d) ++ ts) (putTg G x t ρ) _
        cases ep : putTg G x t ρ with
        | no => rw [ep] at P; exact P.elim
        | ex y e => rw [ep] at P; exact P
        | rt r e => exact (hr _ _ _ _ ep).elim
        | nx ρ1 => rw [ep] at P; exact fun σ' H0' H' S' => ⟨n, H0', ρ1, ts, xs, S', hl, kB, P⟩
theorem ST.addDs : ∀ {vs : List V} {xs : List D}, ST T n H0 H σ ρ ts → Rps T H0 vs xs → ST T n H0 H σ ρ (vs.zip (xs.map Rs.d) ++ ts)
  | _, _, S, .nil => S
  | _, _, S, .cons r rr => (ST.addDs S rr).addD r
theorem q_nm {i : Nat} {x : Str} {pos : Pos} (nd : X.N.Nodup) (hi : X.N[i]? = some x := by rfl) (hx : Loc X.env.scope x := by first | exact Or.inl rfl | exact Or.inr rfl) (hf : X.fn x = true ∨ X.env.scope.names.lookup x = some .local := by first | exact .inl rfl | exact .inr rfl) :
    PG X (.Name x pos) (rdTg T W [i] (fun x e => putTg G x (.nm i) e)) := tg_nm nd hi hx hf
theorem q_sub (ok : Cok T X) {o i : Expr} {mo mi : MExp} {pos : Pos} (ho : PE X o (rd T W (ev G mo))) (hi : PE X i (rd T W (ev G mi)))
    (ha : ∀ v, assign (.Subscript o i pos) X.env v = (do
      let ov ← holding [v] (eval o X.env)
      let iv ← holding [v, ov] (eval i X.env)
      standAt pos
      holding [v, ov, iv] (setItem ov iv v)
      release [v, ov, iv] []) := by intro _; rfl) : PG X (.Subscript o i pos) (rdTg T W [] (fun x e => putTg G x (.sub mo mi) e)) := tg_sub ok ho hi ha
theorem nr_nm {i : Nat} : NoRt (fun x e => putTg G x (.nm i) e) := fun x e r e' => of_nort
theorem nr_sub {mo mi : MExp} : NoRt (fun x e => putTg G x (.sub mo mi) e) := fun x e r e' => thn_nort fun ro e1 => thn_nort fun ri e2 => by
  split
  · exact of_nort
  · exact fun z => nomatch z
theorem qs_nil : PGs X [] (rdTgs T W (tgS []) (putTgs G [])) := tgs_nil
theorem qs_nm {i : Nat} {l : List Tg} {e : Expr} {es : List Expr} (h1 : PG X e (rdTg T W [i] (fun x e => putTg G x (.nm i) e))) (h2 : PGs X es (rdTgs T W (tgS l) (putTgs G l))) (hs : (assignEach (e :: es) X.env).map (·.2) = assign e X.env :: (assignEach es X.env).map (·.2) := by rfl) :
    PGs X (e :: es) (rdTgs T W (tgS (.nm i :: l)) (putTgs G (.nm i :: l))) := tgs_cons h1 h2 nr_nm hs
theorem qs_sub {mo mi : MExp} {l : List Tg} {e : Expr} {es : List Expr} (h1 : PG X e (rdTg T W [] (fun x e => putTg G x (.sub mo mi) e))) (h2 : PGs X es (rdTgs T W (tgS l) (putTgs G l))) (hs : (assignEach (e :: es) X.env).map (·.2) = assign e X.env :: (assignEach es X.env).map (·.2) := by rfl) :
    PGs X (e :: es) (rdTgs T W (tgS (.sub mo mi :: l)) (putTgs G (.sub mo mi :: l))) := tgs_cons h1 h2 nr_sub hs
theorem putTg_nort {t : Tg} : NoRt (fun x e => putTg G x t e) := by
  cases t with
  | nm i => exact nr_nm
  | sub o i => exact nr_sub
  | fld o f => exact fun x e r e' => thn_nort fun ro e1 => of_nort
theorem putTgs_nort : ∀ {l : List Tg} {xs : List D} {e e' : Env} {r : Rs}, putTgs G l xs e = .rt r e' → False
  | [], [], _, _, _, h => nomatch h
  | [], _ :: _, _, _, _, h => nomatch h
  | _ :: _, [], _, _, _, h => nomatch h
  | t :: l, x :: xs, e, e', r, h => by
    have h : ((putTg G x t e).seq fun e1 => putTgs G l xs e1) = .rt r e' := h
    cases ep : putTg G x t e with
    | no => rw [ep] at h; cases h
    | ex y e1 => rw [ep] at h; cases h
    | rt r1 e1 => exact putTg_nort _ _ _ _ ep
    | nx e1 => rw [ep] at h; exact putTgs_nort h
/-- a, o[i], .. = a tuple -/
theorem s_unp (ok : Cok T X) {l : List Tg} {es : List Expr} {kk : Nat} {tpos pos : Pos} {e : Expr} {m : MExp} (he : PE X e (rd T W (ev G m))) (hg : PGs X es (rdTgs T W (tgS l) (putTgs G l)))
    (hn : (assignEach es X.env).length = l.length := by rfl) (hst : (assignEach es X.env).findIdx? (·.1) = none := by rfl) (hs : swapsWithSole [.Tuple es kk tpos] e pos.line X.env = pure false := by rfl) (hw : swappedStores [.Tuple es kk tpos] e X.env = pure none := by rfl)
    (h1 : (assignEach [.Tuple es kk tpos] X.env).map (·.2) = [assign (.Tuple es kk tpos) X.env] := by rfl) : PS X (.Assign [.Tuple es kk tpos] e pos) (rdS T W (MStmt.st (.unp l m)) (exec G (.unp l m))) := by
  refine ps_imp (ps_asg he (pg_tup ok.calm hg hn hst) hs hw h1) fun D σ H h => ?_
  obtain ⟨n, H0, ρ, ts, S, k, P⟩ := h
  have P : PostS T W n ts ((ev G m ρ).thn fun r e1 => match (r.see e1).bind tupD with
    | some xs => if xs.length == l.length then putTgs G l xs e1 else .no
    | none => .no) D := P
  refine rd_mono (thn_one S P) fun v H1 h => ?_
  obtain ⟨H01, ρ1, r, S1, P1⟩ := h
  cases es : (r.see ρ1).bind tupD with
  | none => rw [es] at P1; exact P1.elim
  | some xs =>
    rw [es] at P1
    have P1 : PostS T W n ts (if xs.length == l.length then putTgs G l xs ρ1 else .no) D := P1
    split at P1
    · rename_i hl
      have hl := eq_of_beq hl
      have hx : r.see ρ1 = some (.tup xs) := by
        cases ex : r.see ρ1 with
        | none => rw [ex] at es; cases es
        | some x =>
          rw [ex] at es
          cases x <;> first | (cases es; rfl) | (cases es)
      obtain ⟨p, vs, ev, h2, h3⟩ := (S1.see hx).tup
      subst ev
      rw [ok.hK]
      refine ⟨p, vs, rfl, Same.sqT S1.sub h2, by rw [h3.length, hl], n, H01, ρ1, ts, xs, S1.drop.addDs h3, h3.length, k, ?_⟩
      revert P1
      cases ep : putTgs G l xs ρ1 with
      | no => exact fun z => z
      | nx e => exact fun z => z
      | ex y e => exact fun z => z
      | rt r e => exact (putTgs_nort ep).elim
    · exact P1.elim
/-! ### calls with names -/
def permR {α : Type} (km : List Nat) (l : List α) : List α := km.filterMap fun k => l[k]?
theorem permR_vals {km : List Nat} {vs : List V} {us : List Value} (r : Vals vs us) : Vals (permR km vs) (permR km us) := by
  induction km with
  | nil => exact .nil
  | cons k km ih =>
    unfold permR
    cases e : vs[k]? with
    | none =>
      have e2 : us[k]? = none := by
        rw [List.getElem?_eq_none_iff] at e ⊢
        rw [← r.length]
        exact e
      rw [List.filterMap_cons_none e, List.filterMap_cons_none e2]
      exact ih
    | some v =>
      obtain ⟨u, e2, q⟩ := r.get e
      rw [List.filterMap_cons_some e, List.filterMap_cons_some e2]
      exact .cons q ih
theorem permR_zip {km : List Nat} {vs : List V} {rs : List Rs} (hl : vs.length = rs.length) : (permR km vs).length = (permR km rs).length ∧ ∀ t ∈ (permR km vs).zip (permR km rs), t ∈ vs.zip rs := by
  induction km with
  | nil => exact ⟨rfl, fun t h => by simp [permR] at h⟩
  | cons k km ih =>
    unfold permR at ih ⊢
    cases e : vs[k]? with
    | none =>
      have e2 : rs[k]? = none := by
        rw [List.getElem?_eq_none_iff] at e ⊢
        omega
      rw [List.filterMap_cons_none e, List.filterMap_cons_none e2]
      exact ih
    | some v =>
      have hk : k < rs.length := by rw [← hl]; exact lt_of_get e
      have e2 : rs[k]? = some rs[k] := List.getElem?_eq_getElem hk
      rw [List.filterMap_cons_some e, List.filterMap_cons_some e2]
      refine ⟨by simp [ih.1], fun t h => ?_⟩
      rcases List.mem_cons.mp (show t ∈ (v, rs[k]) :: _ from h) with rfl | h
      · apply List.mem_of_getElem? (i := k)
        rw [List.getElem?_zip_eq_some]
        exact ⟨e, e2⟩
      · exact ih.2 t h
/-- temporaries that are no new objects may be told again -/
theorem ST.pick {ws : List Tmp} (S : ST T n H0 H σ ρ ts) (h : ∀ t ∈ ws, t ∈ ts ∧ ∀ o, t.2 ≠ .fr o) : ST T n H0 H σ ρ (ws ++ ts) := by
  have e : tmpL (ws ++ ts) = tmpL ts := by
    rw [tmpL_append]
    have z : ∀ {l : List Tmp}, (∀ t ∈ l, ∀ o, t.2 ≠ .fr o) → tmpL l = [] := fun {l} => by
      induction l with
      | nil => exact fun _ => rfl
      | cons a l ih =>
        intro h
        obtain ⟨v, r⟩ := a
        have ih := ih fun t ht => h t (List.mem_cons_of_mem _ ht)
        cases r with
        | d x => rw [tmpL_cons_d]; exact ih
        | bo i => rw [tmpL_cons_bo]; exact ih
        | fr o => exact (h _ (List.mem_cons_self ..) o rfl).elim
    rw [z fun t ht => (h t ht).2, List.nil_append]
  exact {
    S with
    temp := fun t ht => by
      rcases List.mem_append.mp ht with ht | ht
      · exact S.temp t (h t ht).1
      · exact S.temp t ht
    dtt := by rw [e]; exact S.dtt
    dts := fun p hp => S.dts p (by rw [← e]; exact hp) }
theorem permR_map {α β : Type} (f : α → β) (km : List Nat) (l : List α) : permR km (l.map f) = (permR km l).map f := by
  induction km with
  | nil => rfl
  | cons k km ih =>
    unfold permR at ih ⊢
    cases e : l[k]? with
    | none =>
      rw [List.filterMap_cons_none e, List.filterMap_cons_none (by rw [List.getElem?_map, e]; rfl)]
      exact ih
    | some v =>
      rw [List.filterMap_cons_some e, List.filterMap_cons_some (by rw [List.getElem?_map, e]; rfl), ih]
      rfl
theorem frz_nofr (r : Rs) (o : Ob) : frz r ≠ .fr o := by
  cases r <;> exact fun z => nomatch z
theorem lent_frz : ∀ rs : List Rs, lent (rs.map frz) = lent rs
  | [] => rfl
  | r :: rs => by cases r <;> simp [lent, frz, lent_frz rs]
theorem passAll_frz (e : Env) : ∀ rs : List Rs, passAll e (rs.map frz) = passAll e rs
  | [] => rfl
  | r :: rs => by
    show (match passS e (frz r) with
      | some s => match passAll e (rs.map frz) with
        | some l => some (s :: l)
        | none => none
      | none => none) = _
    rw [passS_frz, passAll_frz e rs]
    rfl
theorem backAll_frz : ∀ (rs : List Rs) (ls : List Sl) (e : Env), backAll e (rs.map frz) ls = backAll e rs ls
  | [], _, _ => rfl
  | _ :: _, [], _ => rfl
  | r :: rs, s :: ls, e => by
    show backAll (backS e (frz r) s) (rs.map frz) ls = backAll (backS e r s) rs ls
    rw [backAll_frz rs ls]
    cases r <;> rfl
theorem callS_frz (f : Nat) (rs : List Rs) (e : Env) : callS G f (rs.map frz) e = callS G f rs e := by
  unfold callS
  rw [lent_frz, passAll_frz]
  simp only [backAll_frz]
theorem call_spK {f np : Nat} {rs : List Rs} {vs : List V} {km : List Nat} (hn : ∀ l : List Sl, l.length ≠ np → G.fn f l = .no) (hl : vs.length = rs.length) (S : ST T n H0 H σ ρ (vs.zip rs ++ ts))
    (h : Post T W n σ ts (callS G f (permR km rs) ρ) (Wants T n σ ts Q)) : SpF T np (G.fn f) (permR km vs) H Q (WE W σ) := by
  obtain ⟨H0a, S1⟩ := S.holdFr hl
  have hl2 : vs.length = (rs.map frz).length := by rw [List.length_map]; exact hl
  obtain ⟨z1, z2⟩ := permR_zip (km := km) hl2
  have S2 : ST T n H0a H σ ρ ((permR km vs).zip (permR km (rs.map frz)) ++ ts) := by
    have S3 := S1.pick (ws := (permR km vs).zip (permR km (rs.map frz))) fun t ht => ⟨List.mem_append_left _ (z2 t ht), fun o e => by
      have h2 := (List.of_mem_zip (show (t.1, t.2) ∈ (permR km vs).zip (permR km (rs.map frz)) from ht)).2
      rw [permR_map] at h2
      obtain ⟨r, _, er⟩ := List.mem_map.mp h2
      rw [← er] at e
      exact frz_nofr r o e⟩
    exact ST.dropA (us := vs.zip (rs.map frz)) (S3.perm (by
      rw [← List.append_assoc, ← List.append_assoc]
      exact List.Perm.append_right ts List.perm_append_comm))
  have e : callS G f (permR km (rs.map frz)) ρ = callS G f (permR km rs) ρ := by
    rw [permR_map, callS_frz]
  exact call_sp hn z1 S2 (by rw [e]; exact h)
/-- keywords' values -/
theorem k_nil : PK X [] (rdA T W (evs G [])) := ⟨fun pos pins s σ H Q I h => by
  obtain ⟨n, H0, ρ, ts, S, P⟩ := h
  exact pk_nil.run pos pins s σ H Q I (P H0 H [] rfl S)⟩
theorem rdA_cons {m : MExp} {ms : List MExp} {Q : List V → Hp → Prop} (h : rdA T W (evs G (m :: ms)) σ H Q) : rd T W (ev G m) σ H fun v H1 => rdA T W (evs G ms) σ H1 fun vs H2 => Q (v :: vs) H2 := by
  obtain ⟨n, H0, ρ, ts, S, P⟩ := h
  have P : Post T W n σ ts ((ev G m ρ).bind fun r e1 => (evs G ms e1).bind fun rs e2 => .ok (r :: rs) e2) fun rs ρ' H0' H' => ∀ vs, vs.length = rs.length → ST T n H0' H' σ ρ' (vs.zip rs ++ ts) → Q vs H' := P
  refine rd_mono (rd_one S P) fun v H1 h => ?_
  obtain ⟨H01, ρ1, r, S1, P1⟩ := h
  refine ⟨n, H01, ρ1, (v, r) :: ts, S1, ?_⟩
  cases es : evs G ms ρ1 with
  | no => rw [es] at P1; exact P1.elim
  | ex x e => rw [es] at P1; exact fun dd H0' H' S' xr => P1 dd H0' H' S'.drop xr
  | ok rs e2 =>
    rw [es] at P1
    exact fun H0' H' vs hl S' => P1 H0' H' (v :: vs) (by simp [hl]) (S'.perm List.perm_middle)
theorem k_cons {nm : Option Str} {a : Expr} {kpos : Pos} {as : List Keyword} {m : MExp} {ms : List MExp} (ha : PE X a (rd T W (ev G m))) (hs : PK X as (rdA T W (evs G ms))) : PK X (⟨nm, a, kpos⟩ :: as) (rdA T W (evs G (m :: ms))) :=
  ⟨fun pos pins s σ H Q I h => (pk_cons ha hs).run pos pins s σ H Q I (rdA_cons h)⟩
theorem evs_app : ∀ (ms ks : List MExp) (e : Env), evs G (ms ++ ks) e = (evs G ms e).bind fun rs e1 => (evs G ks e1).bind fun ws e2 => .ok (rs ++ ws) e2
  | [], ks, e => by
    show evs G ks e = (evs G ks e).bind fun ws e2 => .ok ws e2
    cases evs G ks e <;> rfl
  | m :: ms, ks, e => by
    show ((ev G m e).bind fun r e1 => (evs G (ms ++ ks) e1).bind fun rs e2 => .ok (r :: rs) e2) = (((ev G m e).bind fun r e1 => (evs G ms e1).bind fun rs e2 => .ok (r :: rs) e2).bind fun rs e1 => (evs G ks e1).bind fun ws e2 => .ok (rs ++ ws) e2)
    cases ev G m e with
    | no => rfl
    | ex x e1 => rfl
    | ok r e1 =>
      show ((evs G (ms ++ ks) e1).bind fun rs e2 => .ok (r :: rs) e2) = _
      rw [evs_app ms ks e1]
      show _ = (((evs G ms e1).bind fun rs e2 => .ok (r :: rs) e2).bind fun rs e1 => (evs G ks e1).bind fun ws e2 => .ok (rs ++ ws) e2)
      cases evs G ms e1 with
      | no => rfl
      | ex x e2 => rfl
      | ok rs e2 =>
        show (((evs G ks e2).bind fun ws e2 => .ok (rs ++ ws) e2).bind fun rs e2 => .ok (r :: rs) e2) = ((evs G ks e2).bind fun ws e2 => .ok ((r :: rs) ++ ws) e2)
        cases evs G ks e2 <;> rfl
/-- positional values, then keywords' -/
theorem rdA_app {ms ks : List MExp} {Q : List V → Hp → Prop} (h : rdA T W (evs G (ms ++ ks)) σ H Q) : rdA T W (evs G ms) σ H fun vs H1 => rdA T W (evs G ks) σ H1 fun ws H2 => vs.length = ms.length ∧ ws.length = ks.length ∧ Q (vs ++ ws) H2 := by
  obtain ⟨n, H0, ρ, ts, S, P⟩ := h
  rw [evs_app] at P
  refine ⟨n, H0, ρ, ts, S, ?_⟩
  cases ea : evs G ms ρ with
  | no => rw [ea] at P; exact P.elim
  | ex x e => rw [ea] at P; exact P
  | ok rs e1 =>
    rw [ea] at P
    have P : Post T W n σ ts ((evs G ks e1).bind fun ws e2 => .ok (rs ++ ws) e2) _ := P
    intro H01 H1 vs hl S1
    refine ⟨n, H01, e1, vs.zip rs ++ ts, S1, ?_⟩
    cases eb : evs G ks e1 with
    | no => rw [eb] at P; exact P.elim
    | ex x e => rw [eb] at P; exact fun dd H0' H' S' xr => P dd H0' H' S'.dropA xr
    | ok ws e2 =>
      rw [eb] at P
      refine fun H02 H2 zs hz S2 => ⟨by rw [hl, evs_len ea], by rw [hz, evs_len eb], P H02 H2 (vs ++ zs) (by simp [hl, hz]) ?_⟩
      rw [List.zip_append hl]
      refine S2.perm ?_
      rw [← List.append_assoc]
      exact List.Perm.append_right ts List.perm_append_comm
/-- a def that may be called with names -/
structure CalK (P : Program) (w : World) (K : PySem.W.Frag) (mg : Str → Option Value) (base : Heap) (CX : CXT) (T : Tb) (F : Env → Out Rs) (k np : Nat) (x : Str) (m : Nat) (ks : List Str) (km : List Nat) : Prop where
  ex : ∃ fa fd ps, FnOk P w K mg base CX k fa fd ps (SpF T np F) ∧ mg x = some (.ref fa) ∧ PySem.W.keepIn K (.ref fa) = true ∧ KBn K fd ps m ks (fun us ws => permR km (us ++ ws)) (fun vs zs => permR km (vs ++ zs))
  no : ∀ l : List Sl, l.length ≠ np → F l = .no
theorem kb_of {K : PySem.W.Frag} {x qual : Str} {params : Arguments} {body : List Stmt} {scope : Scope} {f : Addr} {fd : FuncData} {ps : List Str} {m : Nat} {ks : List Str} {km : List Nat} (F : FunD K x qual params body scope [] [] f fd)
    (h : ∀ (kV doc pm : Value) (an : Option Addr) (cdv ct : Value) (us ws : List Value), us.length = m → ws.length = ks.length → bindArgs (PySem.W.fnOf x qual params body scope .none kV doc pm an cdv ct) ⟨us, ks.zip ws⟩ = pure (ps.zip (permR km (us ++ ws)))) :
    KBn K fd ps m ks (fun us ws => permR km (us ++ ws)) (fun vs zs => permR km (vs ++ zs)) := by
  obtain ⟨oc, od, dV, kV, doc, pm, an, cdv, ct, osl, rfl, lk, hcd, hD, hK⟩ := F.ex
  rcases hD with ⟨_, rfl⟩ | ⟨e, _⟩
  · exact ⟨fun s us ws X l1 l2 => .of_eq (h kV doc pm an cdv ct us ws l1 l2), fun r1 r2 => permR_vals (r1.append r2)⟩
  · exact absurd rfl e
section
variable {CX : CXT} {f k np m : Nat} {x : Str} {ks : List Str} {km : List Nat} {p pos : Pos} {e : Expr} {es : List Expr} {kws : List Keyword} {ms mk : List MExp}
theorem callk_rd (no : ∀ l : List Sl, l.length ≠ np → G.fn f l = .no) (hm : ms.length = m) (hk : mk.length = ks.length) (h : rd T W0 (ev G (.callk f (ms ++ mk) km)) σ H Q) :
    tCallN m ks.length (SpF T np (G.fn f)) (fun vs zs => permR km (vs ++ zs)) (fun _ _ _ => False) (rdA T W0 (evs G ms)) (rdA T W0 (evs G mk)) σ H Q := by
  obtain ⟨n, H0, ρ, ts, S, P⟩ := h
  have h := rdA_app (rd_args (f := fun rs e1 => callS G f (permR km rs) e1) S P)
  refine rdA_mono h fun vs H1 h => rdA_mono h fun zs H2 h => ?_
  obtain ⟨l1, l2, H0', ρ', rs, hl, S', P'⟩ := h
  exact ⟨by rw [l1, hm], by rw [l2, hk], call_spK no hl S' P'⟩
theorem pass0P {X : Cx} {E : XK} : Passes CX0 X E := fun _ _ _ _ _ _ _ h => h.elim
theorem r_callk (c : CalK X.prog X.w X.K X.mg X.base CX0 T (G.fn f) k np x m ks km) (hr : Room k X.A) (hm : ms.length = m) (hk : mk.length = ks.length) (ha : PA X (e :: es) (rdA T W0 (evs G ms))) (hkw : PK X kws (rdA T W0 (evs G mk)))
    (hg : Gl X x := by rfl) (hall : (backToKw pos (keywordEach kws X.env)).all (·.1.isSome) = true := by rfl) (hks : (backToKw pos (keywordEach kws X.env)).filterMap (·.1) = ks := by rfl)
    (hdb : (x == ("__debug__" : Str)) = false := by decide) (he : starEach (e :: es) X.env = (false, eval e X.env) :: starEach es X.env := by rfl)
    (hpl : ((backTo pos (starEach (e :: es) X.env)).any (·.1) || (backToKw pos (keywordEach kws X.env)).any (·.1.isNone)) = false := by rfl) :
    PE X (.Call (.Name x p) (e :: es) kws pos) (rd T W0 (ev G (.callk f (ms ++ mk) km))) := by
  obtain ⟨fa, fd, ps, F, hm2, hk2, hb⟩ := c.ex
  exact pe_imp (pe_callN F hr hg hm2 hk2 hb pass0P ha hkw hall hks hdb he hpl) fun σ H Q h => callk_rd c.no hm hk h
theorem r_callk0 (c : CalK X.prog X.w X.K X.mg X.base CX0 T (G.fn f) k np x 0 ks km) (hr : Room k X.A) (hk : mk.length = ks.length) (hkw : PK X kws (rdA T W0 (evs G mk)))
    (hg : Gl X x := by rfl) (hall : (backToKw pos (keywordEach kws X.env)).all (·.1.isSome) = true := by rfl) (hks : (backToKw pos (keywordEach kws X.env)).filterMap (·.1) = ks := by rfl)
    (hdb : (x == ("__debug__" : Str)) = false := by decide) (hpl : ((backTo pos (starEach [] X.env)).any (·.1) || (backToKw pos (keywordEach kws X.env)).any (·.1.isNone)) = false := by rfl) :
    PE X (.Call (.Name x p) [] kws pos) (rd T W0 (ev G (.callk f mk km))) := by
  obtain ⟨fa, fd, ps, F, hm2, hk2, hb⟩ := c.ex
  refine ⟨fun pins s σ H Q I h => ?_⟩
  have h := callk_rd (ms := []) c.no rfl hk h
  obtain ⟨n, H0, ρ, ts, S, P⟩ := h
  have h2 := P H0 H [] rfl S
  refine wpAny_Call_Name_kw (ld_glob I hg hm2 ?_ hdb)
  refine PySem.W.callWith_KW0 (h₀ := X.base) I.ok.mod.kin hk2 hall ?_ hpl
  refine thn (hkw.run pos pins s σ H _ I h2) fun ws s2 ⟨zs, H2, I2, rz, l1, l2, q2⟩ => ⟨I2.kIn, ?_⟩
  rw [hks]
  exact run_fnN (us := []) (vs := []) F hr hb pass0P I2 .nil rz l1 l2 q2
end
end
end Mi
end
section
set_option maxHeartbeats 4000000
namespace Mi
open PySem PySem.Spec PyProof.Rows L2
section
variable {T : Tb} {W : WX} {X : Cx} {G : Gs} {n : En} {σ : L2.St} {H0 H : Hp} {ρ : Env} {ts us : List Tmp} {Q : VK} {A B : List Nat}
/-- a list of one's own, ahead of its method -/
theorem own_list {v : V} {j : Nat} {xs : List D} (S : ST T n H0 H σ ρ ts) (m : (v, Rs.bo j) ∈ ts) (h : obAt ρ j = some (.lst xs)) : ∃ p vs, v = .ref p ∧ H p = some (.lst vs) ∧ Rps T H0 vs xs := by
  obtain ⟨p, e, ⟨vs, h1, h2⟩, _⟩ := ob_at S m h
  exact ⟨p, vs, e, h1, h2⟩
theorem metOk_list {m : Met} (hm : isMut m = true) {ro : Rs} (h : metOk m ro ρ = true) : ∃ j xs, ro = .bo j ∧ obAt ρ j = some (.lst xs) := by
  unfold metOk at h
  rw [hm] at h
  have h : (match (generalizing := false) ro with
    | .bo i => match obAt ρ i with
      | some (.lst _) => true
      | _ => false
    | _ => false) = true := h
  cases ro with
  | d _ => cases h
  | fr _ => cases h
  | bo j =>
    have h : (match obAt ρ j with
      | some (.lst _) => true
      | _ => false) = true := h
    cases eo : obAt ρ j with
    | none => rw [eo] at h; cases h
    | some o =>
      rw [eo] at h
      cases o with
      | lst xs => exact ⟨j, xs, rfl, eo⟩
      | dic _ => cases h
      | ins _ _ => cases h
/-- a method that changes a list -/
theorem mut_rd {m : Met} {o : MExp} {es : List MExp} {R : V → List V → Hp → VK → Prop} (hm : isMut m = true)
    (hr : ∀ {p : Addr} {vs zs : List V} {xs ys : List D} {x : D} {xs' : List D} {Q : VK} {H H0 : Hp}, H p = some (.lst vs) → Rps T H0 vs xs → Rps T H0 zs ys → metO m xs ys = some (x, xs') → (∀ v vs', Rp T H0 v x → Rps T H0 vs' xs' → Q v (upd H p (.lst vs'))) → R (.ref p) zs H Q)
    (h : rd T W (ev G (.met m o es)) σ H Q) : tBM T.K "list" R (rd T W (ev G o)) (rdA T W (evs G es)) σ H Q := by
  obtain ⟨n, H0, ρ, ts, S, P⟩ := h
  have P : Post T W n σ ts ((ev G o ρ).bind fun ro e1 => if metOk m ro e1 then (evs G es e1).bind fun rs e2 => metS m ro rs e2 else .no) (Wants T n σ ts Q) := P
  refine rd_mono (rd_one S P) fun v H1 h => ?_
  obtain ⟨H01, ρ1, ro, S1, P1⟩ := h
  split at P1
  · rename_i hok
    obtain ⟨j, xs0, rfl, eo0⟩ := metOk_list hm hok
    obtain ⟨p, vs0, ev0, h1, _⟩ := own_list S1 (List.mem_cons_self ..) eo0
    subst ev0
    refine ⟨.inl ⟨rfl, vs0, .of h1⟩, n, H01, ρ1, _, S1, ?_⟩
    cases es2 : evs G es ρ1 with
    | no => rw [es2] at P1; exact P1.elim
    | ex x e => rw [es2] at P1; exact fun dd H0' H' S' xr => P1 dd H0' H' S'.drop xr
    | ok rs e2 =>
      rw [es2] at P1
      intro H02 H2 zs hl S2
      have P2 : Post T W n σ ts (metS m (.bo j) rs e2) (Wants T n σ ts Q) := P1
      unfold metS at P2
      rw [if_pos hm] at P2
      have P2 : Post T W n σ ts (match holds rs e2 with
        | some (xs, e1) => match obAt e1 j with
          | some (.lst l) => match metO m l xs with
            | some (x, l') => match putOb e1 j (.lst l') with
              | some e2 => .ok (.d x) e2
              | none => .no
            | none => .no
          | _ => .no
        | none => .no) (Wants T n σ ts Q) := P2
      cases eh : holds rs e2 with
      | none => rw [eh] at P2; exact P2.elim
      | some q =>
        obtain ⟨ys, e3⟩ := q
        rw [eh] at P2
        obtain ⟨H03, S3, ry⟩ := S2.holdsR hl eh
        have P2 : Post T W n σ ts (match obAt e3 j with
          | some (.lst l) => match metO m l ys with
            | some (x, l') => match putOb e3 j (.lst l') with
              | some e2 => .ok (.d x) e2
              | none => .no
            | none => .no
          | _ => .no) (Wants T n σ ts Q) := P2
        cases eo : obAt e3 j with
        | none => rw [eo] at P2; exact P2.elim
        | some ob =>
          rw [eo] at P2
          cases ob with
          | dic _ => exact P2.elim
          | ins _ _ => exact P2.elim
          | lst l =>
            have P2 : Post T W n σ ts (match metO m l ys with
              | some (x, l') => match putOb e3 j (.lst l') with
                | some e2 => .ok (.d x) e2
                | none => .no
              | none => .no) (Wants T n σ ts Q) := P2
            cases em : metO m l ys with
            | none => rw [em] at P2; exact P2.elim
            | some q =>
              obtain ⟨x, l'⟩ := q
              rw [em] at P2
              have P2 : Post T W n σ ts (match putOb e3 j (.lst l') with
                | some e2 => .ok (.d x) e2
                | none => .no) (Wants T n σ ts Q) := P2
              cases ep : putOb e3 j (.lst l') with
              | none => rw [ep] at P2; exact P2.elim
              | some e4 =>
                rw [ep] at P2
                obtain ⟨p', e', ⟨vs, h2, h3⟩, w⟩ := putOb_st (v := V.ref p) (j := j) S3 (List.mem_cons_self ..) eo ep
                cases e'
                exact hr h2 h3 ry em fun v vs' rv rvs => P2 _ _ _ ((w _ ⟨vs', upd_same, rvs⟩).drop.addD rv)
  · exact P1.elim
theorem bm0_of {T' : String} {R : V → List V → Hp → VK → Prop} {to : TE} (h : tBM T.K T' R to (rdA T W (evs G [])) σ H Q) (mono : ∀ {Q Q' : VK}, to σ H Q → (∀ v H', Q v H' → Q' v H') → to σ H Q') : tBM0 T.K T' R to σ H Q :=
  mono h fun v H' ⟨a, b⟩ => ⟨a, by
    obtain ⟨n, H0, ρ, ts, S, P⟩ := b
    exact P H0 H' [] rfl S⟩
theorem r_m_append (ok : Cok T X) {o e : Expr} {mo me : MExp} {apos cpos : Pos} (ho : PE X o (rd T W (ev G mo))) (ha : PA X [e] (rdA T W (evs G [me]))) (hbase : attributeBase o "append" X.env (eval o X.env) = eval o X.env := by rfl)
    (hfew : ((backTo cpos (starEach [e] X.env)).all (fun x => !x.1) && (backToKw cpos (keywordEach [] X.env)).all (fun x => x.1.isSome)
      && decide (([e] : List Expr).length + ([] : List Keyword).length + (if ([] : List Keyword).isEmpty then 0 else 1) < 30)) = true := by rfl)
    (hline : (apos.endLine == cpos.line) = true := by rfl) (hs : starEach [e] X.env = (false, eval e X.env) :: starEach [] X.env := by rfl) (hplain : (backTo cpos (starEach [] X.env)).any (·.1) = false := by rfl) :
    PE X (.Call (.Attribute o "append" apos) [e] [] cpos) (rd T W (ev G (.met .append mo [me]))) := by
  refine pe_imp (pe_bm PySem.F.plainAttrs_list PySem.F.slot_list_append PySem.F.type_list_append mt_append ho ha hbase hfew hline hs hplain) fun σ H Q h => ?_
  rw [ok.hK]
  refine mut_rd rfl (fun {p vs zs xs ys x xs' Q H H0} hp hx hy em q => ?_) h
  cases ys with
  | nil => cases em
  | cons y ys =>
    cases ys with
    | cons _ _ => cases em
    | nil =>
      have em : (if szOk xs.length then some (D.non, xs ++ [y]) else none) = some (x, xs') := em
      split at em
      · rename_i hz
        cases em
        cases hy with
        | cons r rr =>
          cases rr
          exact ⟨p, vs, _, rfl, rfl, hp, by rw [hx.length]; exact sz_lt hz, q _ _ .non (hx.append (.cons r .nil))⟩
      · cases em
theorem r_m_pop (ok : Cok T X) {o : Expr} {mo : MExp} {apos cpos : Pos} (ho : PE X o (rd T W (ev G mo))) (hbase : attributeBase o "pop" X.env (eval o X.env) = eval o X.env := by rfl) (hline : (apos.endLine == cpos.line) = true := by rfl) :
    PE X (.Call (.Attribute o "pop" apos) [] [] cpos) (rd T W (ev G (.met .pop mo []))) := by
  refine pe_imp (pe_bm0 PySem.F.plainAttrs_list PySem.F.slot_list_pop PySem.F.type_list_pop mt_pop ho hbase hline) fun σ H Q h => ?_
  rw [ok.hK]
  refine bm0_of (W := W) (G := G) (mut_rd rfl (fun {p vs zs xs ys x xs' Q H H0} hp hx hy em q => ?_) h) rd_mono
  cases ys with
  | cons _ _ => cases em
  | nil =>
    cases hy
    have em : (match xs[xs.length - 1]? with
      | some x => some (x, xs.dropLast)
      | none => none) = some (x, xs') := em
    cases ex : xs[xs.length - 1]? with
    | none => rw [ex] at em; cases em
    | some y =>
      rw [ex] at em
      cases em
      obtain ⟨v, hv, rv⟩ := hx.get ex
      exact ⟨p, vs, v, rfl, rfl, hp, by rw [hx.length]; exact hv, q _ _ rv hx.dropLast⟩
end
end Mi
end
/-! rules of the small language for runs: comprehensions, loops. Plain Lean. -/
namespace Mi
def mpO : Option Sl → Bool
  | some (.pa _) => false
  | some _ => true
  | none => false
theorem mayPut_eq (e : Env) (i : Nat) : mayPut e i = mpO e[i]? := by
  unfold mayPut mpO
  rfl
theorem mpO_un : mpO (some .un) = true := rfl
theorem mpO_sh (d : D) : mpO (some (.sh d)) = true := rfl
theorem mpO_ow (o : Ob) : mpO (some (.ow o)) = true := rfl
theorem szOk_of {n : Nat} (h : n ≤ 16000000) : szOk n = true := decide_eq_true h
theorem lrngS_eq {i j : Int} {e : Env} (h1 : rngOk i j = true) (h2 : (j - i).toNat ≤ 16000000) : lrngS i j e = .ok (.fr (.lst ((List.range (j - i).toNat).map fun k => .int (i + (k : Nat))))) e := by
  have h : (rngOk i j && szOk (j - i).toNat) = true := by
    rw [Bool.and_eq_true]
    exact ⟨h1, szOk_of h2⟩
  unfold lrngS
  exact if_pos h
theorem comp_rule {it : It} {t : Tgt} {test : Env → Out Bool} {elt : Env → Out Rs} (n : Nat) (I : Nat → List D → Env → Prop)
    (hs : ∀ k acc e, k < n → I k acc e → acc.length ≤ k → ∃ x e1, it.at_ k e = some x ∧ t.put x e = some e1 ∧
      ((∃ e2 r e3 y e4, test e1 = .ok true e2 ∧ elt e2 = .ok r e3 ∧ r.hold e3 = some (y, e4) ∧ I (k + 1) (acc ++ [y]) (wipeE e4 t.is)) ∨ (∃ e2, test e1 = .ok false e2 ∧ I (k + 1) acc (wipeE e2 t.is))))
    (hf : ∀ acc e, I n acc e → it.fine e = true) (hn : n ≤ 16000000) :
    ∀ (left k : Nat) (acc : List D) (e : Env), k + left = n → acc.length ≤ k → I k acc e → ∃ acc' e', compLoop it t test elt left k acc e = .ok acc' e' ∧ I n acc' e'
  | 0, k, acc, e, hk, hl, h => by
    have z : k = n := by omega
    subst z
    refine ⟨acc, e, ?_, h⟩
    unfold compLoop
    rw [if_pos (hf acc e h)]
  | left + 1, k, acc, e, hk, hl, h => by
    obtain ⟨x, e1, h1, h2, h3⟩ := hs k acc e (by omega) h hl
    rcases h3 with ⟨e2, r, e3, y, e4, a1, a2, a3, a4⟩ | ⟨e2, a1, a2⟩
    · obtain ⟨acc', e', b1, b2⟩ := comp_rule n I hs hf hn left (k + 1) (acc ++ [y]) (wipeE e4 t.is) (by omega) (by simp; omega) a4
      refine ⟨acc', e', ?_, b2⟩
      have hz : szOk acc.length = true := szOk_of (by omega)
      unfold compLoop
      simp only [h1, h2, a1, a2, a3, hz, if_true]
      exact b1
    · obtain ⟨acc', e', b1, b2⟩ := comp_rule n I hs hf hn left (k + 1) acc (wipeE e2 t.is) (by omega) (by omega) a2
      refine ⟨acc', e', ?_, b2⟩
      unfold compLoop
      simp only [h1, h2, a1]
      exact b1
theorem ev_comp {G : Gs} {a : MExp} {t : Tgt} {it : MIt} {c : Option MExp} {e e1 e2 : Env} {w : It} {xs : List D}
    (h1 : evIt G it e = .ok w e1) (h2 : (wipeOk e1 t.is && w.slots.all (fun i => !t.is.contains i)) = true)
    (h3 : compLoop w t (evc G c) (ev G a) w.len 0 [] (wipeE e1 t.is) = .ok xs e2) :
    ev G (.comp a t it c) e = .ok (.fr (.lst xs)) (unwipe e1 e2 t.is) := by
  have e0 : ev G (.comp a t it c) e = (evIt G it e).bind fun w e1 =>
      if wipeOk e1 t.is && w.slots.all (fun i => !t.is.contains i) then
        match compLoop w t (evc G c) (ev G a) w.len 0 [] (wipeE e1 t.is) with
        | .ok xs e2 => .ok (.fr (.lst xs)) (unwipe e1 e2 t.is)
        | _ => .no
      else .no := by
    conv => lhs; unfold ev
    try rfl
  rw [e0, h1]
  show (if _ then _ else _) = _
  rw [if_pos h2, h3]
/-- a comprehension, its invariant told -/
theorem ev_comp_by {G : Gs} {a : MExp} {t : Tgt} {it : MIt} {c : Option MExp} {e e1 : Env} {w : It} (n : Nat) (I : Nat → List D → Env → Prop)
    (h1 : evIt G it e = .ok w e1) (hw : w.len = n) (h2 : (wipeOk e1 t.is && w.slots.all (fun i => !t.is.contains i)) = true)
    (h0 : I 0 [] (wipeE e1 t.is))
    (hs : ∀ k acc e, k < n → I k acc e → acc.length ≤ k → ∃ x e1, w.at_ k e = some x ∧ t.put x e = some e1 ∧
      ((∃ e2 r e3 y e4, evc G c e1 = .ok true e2 ∧ ev G a e2 = .ok r e3 ∧ r.hold e3 = some (y, e4) ∧ I (k + 1) (acc ++ [y]) (wipeE e4 t.is)) ∨ (∃ e2, evc G c e1 = .ok false e2 ∧ I (k + 1) acc (wipeE e2 t.is))))
    (hf : ∀ acc e, I n acc e → w.fine e = true) (hn : n ≤ 16000000) :
    ∃ xs e2, ev G (.comp a t it c) e = .ok (.fr (.lst xs)) (unwipe e1 e2 t.is) ∧ I n xs e2 := by
  obtain ⟨xs, e2, a1, a2⟩ := comp_rule n I hs hf hn n 0 [] (wipeE e1 t.is) (by omega) (by simp) h0
  exact ⟨xs, e2, ev_comp h1 h2 (by rw [hw]; exact a1), a2⟩
theorem for_rule {it : It} {t : Tgt} {body : Env → SOut} (n : Nat) (I : Nat → Env → Prop) (R : Rs → Env → Prop)
    (hs : ∀ k e, k < n → I k e → ∃ x e1, it.at_ k e = some x ∧ t.put x e = some e1 ∧ ((∃ e2, body e1 = .nx e2 ∧ I (k + 1) e2) ∨ (∃ r e2, body e1 = .rt r e2 ∧ R r e2)))
    (hf : ∀ e, I n e → it.fine e = true) :
    ∀ (left k : Nat) (e : Env), k + left = n → I k e → (∃ e', forLoop it t body left k e = .nx e' ∧ I n e') ∨ (∃ r e', forLoop it t body left k e = .rt r e' ∧ R r e')
  | 0, k, e, hk, h => by
    have z : k = n := by omega
    subst z
    refine .inl ⟨e, ?_, h⟩
    unfold forLoop
    rw [if_pos (hf e h)]
  | left + 1, k, e, hk, h => by
    obtain ⟨x, e1, h1, h2, h3⟩ := hs k e (by omega) h
    rcases h3 with ⟨e2, a1, a2⟩ | ⟨r, e2, a1, a2⟩
    · have ih := for_rule n I R hs hf left (k + 1) e2 (by omega) a2
      unfold forLoop
      simp only [h1, h2, a1, SOut.seq]
      exact ih
    · refine .inr ⟨r, e2, ?_, a2⟩
      unfold forLoop
      simp only [h1, h2, a1, SOut.seq]
/-- .. out of which nothing is handed back -/
theorem for_nx {it : It} {t : Tgt} {body : Env → SOut} (n : Nat) (I : Nat → Env → Prop) {e : Env}
    (h0 : I 0 e) (hs : ∀ k e, k < n → I k e → ∃ x e1 e2, it.at_ k e = some x ∧ t.put x e = some e1 ∧ body e1 = .nx e2 ∧ I (k + 1) e2)
    (hf : ∀ e, I n e → it.fine e = true) : ∃ e', forLoop it t body n 0 e = .nx e' ∧ I n e' := by
  rcases for_rule (it := it) (t := t) (body := body) n I (fun _ _ => False) (fun k e hk hi => by
    obtain ⟨x, e1, e2, a, b, c, d⟩ := hs k e hk hi
    exact ⟨x, e1, a, b, .inl ⟨e2, c, d⟩⟩) hf n 0 e (by omega) h0 with h | ⟨_, _, _, h⟩
  · exact h
  · exact h.elim
theorem exec_for {G : Gs} {t : Tgt} {it : MIt} {b : List MStmt} {e e1 : Env} {w : It} (h1 : evIt G it e = .ok w e1) (h2 : w.slots.all (fun i => !(t.is ++ MStmt.sts b).contains i) = true) :
    exec G (.for_ t it b) e = forLoop w t (execs G b) w.len 0 e1 := by
  have e0 : exec G (.for_ t it b) e = (evIt G it e).thn fun w e1 => if w.slots.all (fun i => !(t.is ++ MStmt.sts b).contains i) then forLoop w t (execs G b) w.len 0 e1 else .no := by
    conv => lhs; unfold exec
    try rfl
  rw [e0, h1]
  show (if _ then _ else _) = _
  rw [if_pos h2]
/-- a for loop, its invariant told -/
theorem exec_for_by {G : Gs} {t : Tgt} {it : MIt} {b : List MStmt} {e e1 : Env} {w : It} (n : Nat) (I : Nat → Env → Prop) (h1 : evIt G it e = .ok w e1) (hw : w.len = n) (h2 : w.slots.all (fun i => !(t.is ++ MStmt.sts b).contains i) = true)
    (h0 : I 0 e1) (hs : ∀ k e, k < n → I k e → ∃ x e1 e2, w.at_ k e = some x ∧ t.put x e = some e1 ∧ execs G b e1 = .nx e2 ∧ I (k + 1) e2)
    (hf : ∀ e, I n e → w.fine e = true) : ∃ e', exec G (.for_ t it b) e = .nx e' ∧ I n e' := by
  obtain ⟨e', a, b⟩ := for_nx n I h0 hs hf
  exact ⟨e', by rw [exec_for h1 h2, hw]; exact a, b⟩
/-- a while loop whose measure falls -/
theorem whl_by {test : Env → Out Bool} {body : Env → SOut} (I : Nat → Env → Prop) (Z : Env → Prop)
    (hs : ∀ m e, I m e → (∃ e1, test e = .ok false e1 ∧ Z e1) ∨ (∃ e1 e2 m', test e = .ok true e1 ∧ body e1 = .nx e2 ∧ m' < m ∧ I m' e2)) :
    ∀ (fuel m : Nat) (e : Env), m < fuel → I m e → ∃ e', whlLoop test body fuel e = .nx e' ∧ Z e'
  | 0, m, e, h, _ => by omega
  | fuel + 1, m, e, h, hi => by
    unfold whlLoop
    rcases hs m e hi with ⟨e1, a1, a2⟩ | ⟨e1, e2, m', a1, a2, a3, a4⟩
    · refine ⟨e1, ?_, a2⟩
      rw [a1]
      rfl
    · obtain ⟨e', b1, b2⟩ := whl_by I Z hs fuel m' e2 (by omega) a4
      refine ⟨e', ?_, b2⟩
      rw [a1]
      simp only [Out.thn, if_true, a2, SOut.seq]
      exact b1
theorem exec_whl {G : Gs} {c : MExp} {b : List MStmt} {e : Env} : exec G (.whl c b) e = whlLoop (tst G c) (execs G b) G.fuel e := by
  conv => lhs; unfold exec
end Mi
section
set_option maxHeartbeats 4000000
namespace Mi
open PySem PySem.Spec PyProof.Rows L2
/-! ### what a def keeps where no repr is under way; it may raise -/
structure FnG (P : Program) (w : World) (K : PySem.W.Frag) (mg : Str → Option Value) (base : Heap) (k : Nat) (f : Addr) (fd : FuncData) (ps : List Str) (sp : Sp) : Prop where
  len : ∀ vs H Q E, sp vs H Q E → vs.length = ps.length
  run : ∀ {A : Around} {outer : List PySem.Env} {s : Shared} {H : Hp} {args : Args} {us : List Value} {vs : List V} {Q : VK} {E : XK}, Room k A → A.guards = some [] → Env0 P w K mg base A outer s H →
    BindsTo s fd args (ps.zip us) → Vals vs us → sp vs H Q E → codeAny (model P w) A (.call (.ref f) args) (CR (L2.CX P w) outer P w H s Q E) s
theorem FnG.mono {P : Program} {w : World} {K : PySem.W.Frag} {mg : Str → Option Value} {base : Heap} {j k : Nat} {f : Addr} {fd : FuncData} {ps : List Str} {sp : Sp} (F : FnG P w K mg base j f fd ps sp) (h : j ≤ k) : FnG P w K mg base k f fd ps sp :=
  ⟨F.len, fun r g e b v q => F.run (r.mono h) g e b v q⟩
theorem deeper_guards (A : Around) (env : PySem.Env) : (A.deeper env).guards = A.guards := rfl
/-- a body that keeps its promise -/
theorem FunD.okG {P : Program} {w : World} {K : PySem.W.Frag} {mg : Str → Option Value} {base : Heap} {x qual : Str} {params : Arguments} {body : List Stmt} {scope : Scope} {dvs : List V} {kws : List (Str × V)} {f : Addr} {fd : FuncData}
    {N ps : List Str} {k : Nat} {sp : Sp} (F : FunD K x qual params body scope dvs kws f fd) (S : FnScope N ps scope) (len : ∀ vs H Q E, sp vs H Q E → vs.length = ps.length)
    (hbody : ∀ (cdv : Value) (A : Around) (outer : List PySem.Env) (s : Shared) (H : Hp) (vs : List V) (Q : VK) (E : XK), Room k (A.deeper (envOfC qual scope s.heap.objs.size f cdv)) → A.guards = some [] → sp vs H Q E →
      ∃ t, PSs (cxOf (L2.CX P w) P w K mg base N qual scope f cdv A outer s H E) body t ∧ t { nx := fun _ H' => Q .non H', rt := Q } (L2.start N vs) H) : FnG P w K mg base (k + 1) f fd ps sp := by
  obtain ⟨oc, od, dV, kV, doc, pm, an, cdv, ct, osl, efd, lk, hcd, _, _⟩ := F.ex
  subst efd
  constructor
  · exact len
  · intro A outer s H args us vs Q E hr gd e0 hb rv hsp
    have stays : ∀ b o, base.get? b = some o → s.heap.get? b = some o := fun b o z => (e0.bs b o z).1
    have inK : K.In s.heap := e0.mod.kin.keeps stays
    have small : s.heap.NoLimit := e0.mod.nolimit.keeps stays
    have kinds : ∀ q ∈ ps.zip us, scope.names.lookup q.1 = some .local ∨ (scope.names.lookup q.1 = some .cell ∧ ((cellsFrom (s.heap.objs.size + 1) scope.names []).lookup q.1).isSome = true) := by
      intro q hq
      cases S.par q.1 (List.of_mem_zip (show (q.1, q.2) ∈ ps.zip us from hq)).1 with
      | inl z => exact Or.inl z
      | inr z => exact Or.inr ⟨z, PySem.W.cellsFrom_some _ _ _ (Or.inl z)⟩
    apply codeAny_call_function hr.depth (inK _ _ lk) rfl S.co S.gen rfl (PySem.W.codeRec_of inK hcd)
    apply hb
    apply wpAny_newFunctionEnv_cells S.kind kinds
    intro env he s1 x
    subst he
    constructor
    · exact small.keeps x.toInCall.keep
    · apply codeAny_func
      obtain ⟨t, ht, hq⟩ := hbody cdv A outer s H vs Q E (hr.deeper _) gd hsp
      have J := inv_start (CX := L2.CX P w) (E := E) S hr.hd e0 (len _ _ _ _ hsp) rv x
      apply wpAny_mono (ht.run [] s1 (L2.start N vs) H _ J hq)
      · intro fl s' hs
        match fl, hs with
        | .ret u, ⟨v, σ', H', J', rv', q'⟩ => exact ⟨v, H', J'.os, J'.bare, J'.base, J'.hok, rv', q'⟩
        | .next, ⟨σ', H', J', q'⟩ => exact ⟨V.non, H', J'.os, J'.bare, J'.base, J'.hok, rfl, q'⟩
        | .brk, ⟨_, _, _, q'⟩ => exact q'.elim
        | .cont, ⟨_, _, _, q'⟩ => exact q'.elim
      · exact fun e s' hs => hs
section
variable {X : Cx} {k : Nat} {f C : Addr} {fd : FuncData} {ps : List Str} {sp : Sp} {E : XK} {σ : L2.St} {H : Hp} {Q : VK} {s : Shared} {pins : List (Addr × Obj)}
/-- it is called -/
theorem run_g {us zs : List Value} {kw : List (Str × Value)} {vs : List V} (F : FnG X.prog X.w X.K X.mg X.base k f fd ps sp) (hr : Room k X.A) (gd : X.A.guards = some []) (b : BindsTo s fd ⟨us, kw⟩ (ps.zip zs)) (hx : PassesAt (L2.CX X.prog X.w) X σ E)
    (I : Inv X pins σ H s) (r : Vals vs zs) (h : sp vs H Q E) : wpAny (model X.prog X.w) X.A (call (.ref f) us kw) (EP X pins σ Q) X.xe s := by
  apply wpAny_call
  apply codeAny_mono (F.run hr gd I.env0 b r h)
  intro res st q
  match res, q with
  | .error _, q => exact hx pins H s _ _ I q
  | .ok (.ret _), q => exact I.after q
  | .ok .next, q => exact q.elim
  | .ok .brk, q => exact q.elim
  | .ok .cont, q => exact q.elim
theorem under_make_guards {A : Around} {us : List Value} {kw : List (Str × Value)} : (A.under (.builtin "type.__call__" ⟨.ref C :: us, kw⟩)).guards = A.guards := by
  have hg : (Code.builtin "type.__call__" ⟨.ref C :: us, kw⟩).isGuard = false := by
    show guardIds.contains "type.__call__" = false
    decide +kernel
  simp [Around.under, Code.guards, hg, pushGuards]
/-- an instance is made -/
theorem make_g {us zs : List Value} {kw : List (Str × Value)} {vs : List V} (M : Mk X.K C f) (F : FnG X.prog X.w X.K X.mg X.base k f fd ps sp) (hr : Room (k + 1) X.A) (gd : X.A.guards = some [])
    (b : ∀ (s' : Shared) (x : Addr), X.K.In s'.heap → BindsTo s' fd ⟨.ref x :: us, kw⟩ (ps.zip (.ref x :: zs))) (hx : PassesAt (L2.CX X.prog X.w) X σ E) (I : Inv X pins σ H s) (r : Vals vs zs)
    (h : ∀ x dx, H x = none → H dx = none → dx ≠ x → sp (.ref x :: vs) (upd (upd H dx (.own x)) x (.ins C dx [])) (fun v H2 => v = .non ∧ Q (.ref x) H2) E) :
    wpAny (model X.prog X.w) X.A (call (.ref C) us kw) (EP X pins σ Q) X.xe s := by
  have f1 : H (s.heap.objs.size + 1) = none := I.hok.fresh (Nat.le_succ _)
  have f2 : H s.heap.objs.size = none := I.hok.fresh (Nat.le_refl _)
  have J := Inv.made (C := C) I
  have q0 := h _ _ f1 f2 (Nat.ne_of_lt (Nat.lt_succ_self _))
  have rr : Vals (V.ref (s.heap.objs.size + 1) :: vs) (Value.ref (s.heap.objs.size + 1) :: zs) := .cons rfl r
  have run := F.run (args := ⟨.ref (s.heap.objs.size + 1) :: us, kw⟩) (hr.make C us kw) (under_make_guards.trans gd) (J.env0.make C us kw) (b _ _ J.kIn) rr q0
  apply wpAny_call
  apply make_map I.kIn M.makes M.init (beq_iff_eq.mp M.fn)
  apply codeAny_mono run
  intro res st q
  match res, q with
  | .error _, q => exact hx pins _ _ _ _ J q
  | .ok (.ret u), q =>
    obtain ⟨v, H', J', rv, ev, q'⟩ := J.after q
    subst ev
    exact ⟨rv, V.ref (s.heap.objs.size + 1), H', J', rfl, q'⟩
  | .ok .next, q => exact q.elim
  | .ok .brk, q => exact q.elim
  | .ok .cont, q => exact q.elim
end
end Mi
end
section
set_option maxHeartbeats 4000000
namespace Mi
open PySem PySem.Spec PyProof.Rows L2
/-! ### calls, all of one kind: m values, then the keywords' -/
def ClG (X : Cx) (fv : Value) (m : Nat) (ks : List Str) (t : L2.St → List V → Hp → VK → Prop) : Prop :=
  ∀ {pins : List (Addr × Obj)} {s : Shared} {σ : L2.St} {H : Hp} {Q : VK} {us ws : List Value} {vs zs : List V}, Inv X pins σ H s → Vals vs us → Vals zs ws → vs.length = m → zs.length = ks.length → t σ (vs ++ zs) H Q →
    wpAny (model X.prog X.w) X.A (call fv us (ks.zip ws)) (EP X pins σ Q) X.xe s
/-- what it is asked for is what the small language has -/
def Brd (T : Tb) (W : WX) (t : L2.St → List V → Hp → VK → Prop) (g : List Rs → Env → Out Rs) : Prop :=
  ∀ {σ : L2.St} {n : En} {H0 H : Hp} {ρ : Env} {ts : List Tmp} {rs : List Rs} {vs : List V} {Q : VK}, vs.length = rs.length → ST T n H0 H σ ρ (vs.zip rs ++ ts) → Post T W n σ ts (g rs ρ) (Wants T n σ ts Q) → t σ vs H Q
/-- a name that may be called so -/
structure Nm (X : Cx) (T : Tb) (W : WX) (x : Str) (m : Nat) (ks : List Str) (g : List Rs → Env → Out Rs) : Prop where
  ex : ∃ fv t, X.mg x = some fv ∧ PySem.W.keepIn X.K fv = true ∧ ClG X fv m ks t ∧ Brd T W t g
section
variable {T : Tb} {W : WX} {X : Cx} {G : Gs} {g : List Rs → Env → Out Rs} {x : Str} {p pos : Pos} {e : Expr} {es : List Expr} {ms mk : List MExp} {kws : List Keyword} {ks : List Str} {m : Nat}
theorem nm_pos (c : Nm X T W x m [] g) (hm : ms.length = m) (ha : PA X (e :: es) (rdA T W (evs G ms))) (hg : Gl X x) (hdb : (x == ("__debug__" : Str)) = false) (he : starEach (e :: es) X.env = (false, eval e X.env) :: starEach es X.env)
    (hpl : (backTo pos (starEach es X.env)).any (·.1) = false) : PE X (.Call (.Name x p) (e :: es) [] pos) (rd T W fun e => (evs G ms e).bind g) := by
  obtain ⟨fv, t, hx, hk, c, b⟩ := c.ex
  constructor
  intro pins s σ H Q I h
  obtain ⟨n, H0, ρ, ts, S, P⟩ := h
  apply wpAny_Call_Name_kw
  apply ld_glob I hg hx _ hdb
  apply PySem.W.callWith_K (h₀ := X.base) I.ok.mod.kin hk _ he hpl
  apply thn (ha.run pos pins s σ H _ I (rd_args_len S P))
  intro us s1 ⟨vs, H1, I1, r, H0', ρ', rs, l1, l2, S1, P1⟩
  exact ⟨I1.kIn, c (zs := []) I1 r .nil (by rw [l1, l2, hm]) rfl (by rw [List.append_nil]; exact b l1 S1 P1)⟩
theorem nm_0 (c : Nm X T W x 0 [] g) (hg : Gl X x) (hdb : (x == ("__debug__" : Str)) = false) : PE X (.Call (.Name x p) [] [] pos) (rd T W fun e => g [] e) := by
  obtain ⟨fv, t, hx, hk, c, b⟩ := c.ex
  constructor
  intro pins s σ H Q I h
  obtain ⟨n, H0, ρ, ts, S, P⟩ := h
  apply wpAny_Call_Name_kw
  apply ld_glob I hg hx _ hdb
  apply PySem.W.callWith_K0 I.kIn hk
  exact c (vs := []) (zs := []) I .nil .nil rfl rfl (b (rs := []) (vs := []) rfl S P)
theorem nm_kw (c : Nm X T W x m ks g) (hm : ms.length = m) (hmk : mk.length = ks.length) (ha : PA X (e :: es) (rdA T W (evs G ms))) (hkw : PK X kws (rdA T W (evs G mk))) (hg : Gl X x) (hall : (backToKw pos (keywordEach kws X.env)).all (·.1.isSome) = true)
    (hks : (backToKw pos (keywordEach kws X.env)).filterMap (·.1) = ks) (hdb : (x == ("__debug__" : Str)) = false) (he : starEach (e :: es) X.env = (false, eval e X.env) :: starEach es X.env)
    (hpl : ((backTo pos (starEach (e :: es) X.env)).any (·.1) || (backToKw pos (keywordEach kws X.env)).any (·.1.isNone)) = false) : PE X (.Call (.Name x p) (e :: es) kws pos) (rd T W fun e => (evs G (ms ++ mk) e).bind g) := by
  obtain ⟨fv, t, hx, hk, c, b⟩ := c.ex
  constructor
  intro pins s σ H Q I h
  obtain ⟨n, H0, ρ, ts, S, P⟩ := h
  apply wpAny_Call_Name_kw
  apply ld_glob I hg hx _ hdb
  apply PySem.W.callWith_KW (h₀ := X.base) I.ok.mod.kin hk hall _ hpl he
  apply thn (ha.run pos pins s σ H _ I (rdA_app (rd_args S P)))
  intro us s1 ⟨vs, H1, I1, r, q1⟩
  apply thn (hkw.run pos pins s1 σ H1 _ I1 q1)
  intro ws s2 ⟨zs, H2, I2, rz, l1, l2, H0', ρ', rs, l3, S1, P1⟩
  rw [hks]
  exact ⟨I2.kIn, c I2 r rz (by rw [l1, hm]) (by rw [l2, hmk]) (b l3 S1 P1)⟩
theorem nm_kw0 (c : Nm X T W x 0 ks g) (hmk : mk.length = ks.length) (hkw : PK X kws (rdA T W (evs G mk))) (hg : Gl X x) (hall : (backToKw pos (keywordEach kws X.env)).all (·.1.isSome) = true)
    (hks : (backToKw pos (keywordEach kws X.env)).filterMap (·.1) = ks) (hdb : (x == ("__debug__" : Str)) = false) (hpl : ((backTo pos (starEach [] X.env)).any (·.1) || (backToKw pos (keywordEach kws X.env)).any (·.1.isNone)) = false) :
    PE X (.Call (.Name x p) [] kws pos) (rd T W fun e => (evs G mk e).bind g) := by
  obtain ⟨fv, t, hx, hk, c, b⟩ := c.ex
  constructor
  intro pins s σ H Q I h
  obtain ⟨n, H0, ρ, ts, S, P⟩ := h
  apply wpAny_Call_Name_kw
  apply ld_glob I hg hx _ hdb
  apply PySem.W.callWith_KW0 (h₀ := X.base) I.ok.mod.kin hk hall _ hpl
  apply thn (hkw.run pos pins s σ H _ I (rd_args_len S P))
  intro ws s2 ⟨zs, H2, I2, rz, H0', ρ', rs, l1, l2, S1, P1⟩
  rw [hks]
  exact ⟨I2.kIn, c (vs := []) I2 .nil rz rfl (by rw [l1, l2, hmk]) (b l1 S1 P1)⟩
end
/-! ### how arguments are bound: km picks the parameters' values out of those written, the defaults behind them -/
structure Bn (K : PySem.W.Frag) (T : Tb) (fd : FuncData) (ps : List Str) (m : Nat) (ks : List Str) (km : List Nat) (dv : List V) (dD : List D) : Prop where
  to : ∃ du, Vals dv du ∧ ∀ (s : Shared) (us ws : List Value), K.In s.heap → us.length = m → ws.length = ks.length → BindsTo s fd ⟨us, ks.zip ws⟩ (ps.zip (permR km (us ++ ws ++ du)))
  rel : ∀ H, Rps T H dv dD
def callP (G : Gs) (f : Nat) (km : List Nat) (dD : List D) (rs : List Rs) (e : Env) : Out Rs := callS G f (permR km (rs ++ dD.map .d)) e
section
variable {T : Tb} {W : WX} {X : Cx} {G : Gs}
/-- data that stand still are more temporaries -/
theorem ST.addDs2 {n : En} {H0 H : Hp} {σ : L2.St} {ρ : Env} {ts : List Tmp} : ∀ {vs : List V} {xs : List D}, ST T n H0 H σ ρ ts → Rps T H0 vs xs → ST T n H0 H σ ρ (vs.zip (xs.map Rs.d) ++ ts)
  | _, _, S, .nil => S
  | _, _, S, .cons a r => (S.addDs2 r).addD a
theorem callP_sp {f np : Nat} {km : List Nat} {dv : List V} {dD : List D} (hn : ∀ l : List Sl, l.length ≠ np → G.fn f l = .no) (hd : ∀ H, Rps T H dv dD) : Brd T W (fun σ vs H Q => SpF T np (G.fn f) (permR km (vs ++ dv)) H Q (WE W σ)) (callP G f km dD) := by
  intro σ n H0 H ρ ts rs vs Q hl S P
  have S2 := S.addDs2 (hd H0)
  have S3 : ST T n H0 H σ ρ ((vs ++ dv).zip (rs ++ dD.map Rs.d) ++ ts) := by
    rw [List.zip_append hl, List.append_assoc]
    exact S2.perm (by
      rw [← List.append_assoc, ← List.append_assoc]
      exact List.Perm.append_right ts List.perm_append_comm)
  exact call_spK hn (by simp [hl, (hd H0).length]) S3 P
/-- a def that is called so -/
theorem clg_fn {k f np m : Nat} {fa : Addr} {fd : FuncData} {ps ks : List Str} {km : List Nat} {dv : List V} {dD : List D} (F : FnG X.prog X.w X.K X.mg X.base k fa fd ps (SpF T np (G.fn f))) (hr : Room k X.A) (gd : X.A.guards = some []) (tk : Takes X W)
    (b : Bn X.K T fd ps m ks km dv dD) : ClG X (.ref fa) m ks (fun σ vs H Q => SpF T np (G.fn f) (permR km (vs ++ dv)) H Q (WE W σ)) := by
  intro pins s σ H Q us ws vs zs I r rz l1 l2 h
  obtain ⟨du, hd, to⟩ := b.to
  have rr : Vals (permR km (vs ++ zs ++ dv)) (permR km (us ++ ws ++ du)) := permR_vals ((r.append rz).append hd)
  exact run_g F hr gd (to s us ws I.kIn (by rw [← r.length]; exact l1) (by rw [← rz.length]; exact l2)) (passAt tk σ) I rr h
/-- a def of the text, called by its name -/
structure CalG (P : Program) (w : World) (K : PySem.W.Frag) (mg : Str → Option Value) (base : Heap) (T : Tb) (F : Env → Out Rs) (k np : Nat) (x : Str) (m : Nat) (ks : List Str) (km : List Nat) (dD : List D) : Prop where
  ex : ∃ fa fd ps dv, FnG P w K mg base k fa fd ps (SpF T np F) ∧ mg x = some (.ref fa) ∧ PySem.W.keepIn K (.ref fa) = true ∧ Bn K T fd ps m ks km dv dD
  no : ∀ l : List Sl, l.length ≠ np → F l = .no
theorem CalG.nm {k f np m : Nat} {x : Str} {ks : List Str} {km : List Nat} {dD : List D} (c : CalG X.prog X.w X.K X.mg X.base T (G.fn f) k np x m ks km dD) (hr : Room k X.A) (gd : X.A.guards = some []) (tk : Takes X W) : Nm X T W x m ks (callP G f km dD) := by
  obtain ⟨fa, fd, ps, dv, F, hm, hk, b⟩ := c.ex
  exact ⟨_, _, hm, hk, clg_fn F hr gd tk b, callP_sp c.no b.rel⟩
theorem callP_id {f : Nat} {rs : List Rs} {e : Env} {k : Nat} (h : rs.length = k) : callP G f (List.range k) [] rs e = callS G f rs e := by
  unfold callP
  have z : permR (List.range k) (rs ++ [].map Rs.d) = rs := by
    subst h
    rw [List.map_nil, List.append_nil]
    unfold permR
    apply List.ext_getElem?
    intro i
    have go : ∀ (n : Nat), n ≤ rs.length → (List.range n).filterMap (fun k => rs[k]?) = rs.take n := fun n => by
      induction n with
      | zero => intro _; simp
      | succ n ih =>
        intro hn
        rw [List.range_succ, List.filterMap_append, ih (by omega), List.take_add_one]
        have e : rs[n]? = some rs[n] := List.getElem?_eq_getElem (by omega)
        simp [e]
    rw [go rs.length (Nat.le_refl _), List.take_length]
  rw [z]
end
end Mi
end
/-! the text's defs by how deep calls may go; what they raise is kept. Plain Lean -/
namespace Mi
def Gx (defs : Nat → Option Def) (meth : Nat → Nat → Option Nat) (init : Nat → Option Nat) (isa : Nat → Nat → Option Bool) (free : Nat → Nat → Bool) (fuel : Nat) : Nat → Gs
  | 0 => ⟨fun _ _ => .no, meth, init, isa, free, fuel⟩
  | n + 1 => ⟨fun f l => match defs f with
    | some d => runDef (Gx defs meth init isa free fuel n) d l
    | none => .no, meth, init, isa, free, fuel⟩
end Mi
section
set_option maxHeartbeats 4000000
namespace Mi
open PySem PySem.Spec PyProof.Rows L2
/-! ### a body's context, of defs that may raise -/
structure CkG (T : Tb) (X : Cx) (W : WX) : Prop where
  ok : Cok T X
  gd : X.A.guards = some []
  tk : Takes X W
  po : PassesOwn (model X.prog X.w) X.A X.env X.xe
/-- within a comprehension -/
theorem CkG.blk {T : Tb} {X : Cx} {W : WX} (c : CkG T X W) (s : Shared) (H : Hp) (sc : Scope) (e : PySem.Env) (fp : List Addr) : CkG T (X.blk s H sc e fp) W0 :=
  ⟨c.ok.blk s H sc e fp, c.gd, takes_none5, PassesOwn.never⟩
/-- what a def's caller wishes of what it raises -/
abbrev WD (E : XK) : WX := fun cls d _ H => E cls d H
/-- THE RULE for a def -/
theorem fn_okG {T : Tb} {G : Gs} {P : Program} {w : World} {K : PySem.W.Frag} {mg : Str → Option Value} {base : Heap} {x qual : Str} {params : Arguments} {body : List Stmt} {scope : Scope} {dvs : List V} {kws : List (Str × V)} {f : Addr} {fd : FuncData} {N ps : List Str} {k : Nat} {d : Def}
    (F : FunD K x qual params body scope dvs kws f fd) (S : FnScope N ps scope) (hK : K = T.K) (hp : d.pars = ps.length) (hs : d.size = N.length)
    (hb : ∀ (cdv : Value) (A : Around) (outer : List PySem.Env) (s : Shared) (H : Hp) (E : XK), CkG T (cxOf (L2.CX P w) P w K mg base N qual scope f cdv A outer s H E) (WD E) → Room k (A.deeper (envOfC qual scope s.heap.objs.size f cdv)) →
      PSs (cxOf (L2.CX P w) P w K mg base N qual scope f cdv A outer s H E) body (rdS T (WD E) (MStmt.sts d.body) (execs G d.body))) :
    FnG P w K mg base (k + 1) f fd ps (SpF T d.pars (runDef G d)) := by
  refine Mi.FunD.okG F S (fun vs H Q E h => by rw [← hp]; exact h.1) fun cdv A outer s H vs Q E hr gd h => ⟨_, hb cdv A outer s H E ⟨⟨hK, rfl, S.nd, ?_, gd⟩, gd, takes_of rfl rfl rfl rfl, passes_of rfl⟩ hr, ?_⟩
  · have := hr.un
    show (A.deeper _).units + 64 < cLine
    omega
  · obtain ⟨lv, H0, ls, ll, kinds, S0, P⟩ := h
    have lN : ls.length ≤ N.length := by
      rw [ll, hp]
      have := congrArg List.length S.pre
      rw [List.length_take] at this
      omega
    have e1 : d.size - d.pars = N.length - ls.length := by rw [hs, ll]
    refine ⟨_, H0, _, [], S0.entry lN, fun t ht => by simp at ht, ?_⟩
    unfold runDef at P
    rw [if_pos (by rw [ll]; exact beq_self_eq_true _), e1] at P
    have fin : ∀ {e v r σ' H0' H'}, pasKept ls e = true → ST T ⟨H, H0, pasOf 0 vs ls⟩ H0' H' σ' e [(v, r)] → (∀ i, r ≠ .bo i) → ST T ⟨H, H0, pasOf 0 vs ls⟩ H0' H' (vs.map some) (backP ls e) [(v, r)] := fun {e v r σ' H0' H'} hk S' nb => S0.exit hk S' nb kinds S'.s0
    cases ee : execs G d.body (ls ++ List.replicate (N.length - ls.length) .un) with
    | no => rw [ee] at P; exact P.elim
    | ex x e =>
      rw [ee] at P
      have P : Post T (fun c dd _ H' => E c dd H') ⟨H, H0, pasOf 0 vs ls⟩ (vs.map some) [] (if pasKept ls e then Out.ex x (backP ls e) else .no) _ := P
      split at P
      · rename_i hk
        exact fun dd σ' H0' H' S' xr => P dd H0' H' (fin hk (S'.addD .non) fun i z => nomatch z).drop xr
      · exact P.elim
    | nx e =>
      rw [ee] at P
      have P : Post T (fun c dd _ H' => E c dd H') ⟨H, H0, pasOf 0 vs ls⟩ (vs.map some) [] (if pasKept ls e then Out.ok (Rs.d .non) (backP ls e) else .no) _ := P
      split at P
      · rename_i hk
        exact fun σ' H0' H' S' => P H0' H' .non (fun i z => nomatch z) (fin hk (S'.addD .non) fun i z => nomatch z)
      · exact P.elim
    | rt r e =>
      rw [ee] at P
      have P : Post T (fun c dd _ H' => E c dd H') ⟨H, H0, pasOf 0 vs ls⟩ (vs.map some) [] (if pasKept ls e then Out.ok r (backP ls e) else .no) _ := P
      split at P
      · rename_i hk
        exact fun v σ' H0' H' nb S' => P H0' H' v nb (fin hk S' nb)
      · exact P.elim
theorem fn_zeroG {T : Tb} {P : Program} {w : World} {K : PySem.W.Frag} {mg : Str → Option Value} {base : Heap} {f : Addr} {fd : FuncData} {ps : List Str} {np k : Nat} (hp : np = ps.length) : FnG P w K mg base k f fd ps (SpF T np fun _ => .no) :=
  ⟨fun vs H Q E h => by rw [← hp]; exact h.1, fun r g e b v h => by
    obtain ⟨_, H0, ls, _, _, _, P⟩ := h
    exact P.elim⟩
end Mi
end
section
set_option maxHeartbeats 4000000
namespace Mi
open PySem PySem.Spec PyProof.Rows L2 PySem.W
/-! ### names, and the rest as a list: a, *b = xs -/
section
variable {prog : Program} {w : World} {A : Around} {E : Value → Shared → Prop} {s : Shared}
/-- what stands in place of a starred name: a new list -/
abbrev StarQ (s : Shared) (its : List Value) (i : Nat) (Q : List Value → Shared → Prop) : Prop := ∀ D h' tk, (∀ b o, s.heap.get? b = some o → h'.get? b = some o) → s.heap.get? D = none →
    h'.get? D = some { cls := .type "list", data := .seq (its.drop i).toArray } → Q (its.take i ++ [.ref D]) { s with heap := h', toks := tk }
theorem star_end {its : List Value} {i n : Nat} {h2 : Heap} {tk : Nat} {Q : List Value → Shared → Prop} (kk : ∀ b o, s.heap.get? b = some o → h2.get? b = some o) (hn : n = (its.drop i).length) (hz : its.length ≤ 16000) (h : StarQ s its i Q) :
    wpAny (model prog w) A (newList ((its.drop i).take n) >>= fun d => pure (its.take i ++ [d] ++ (its.drop i).drop n)) Q E { s with heap := h2, toks := tk } := by
  subst hn
  rw [List.take_length, List.drop_length]
  apply wpAny_bind
  apply wpAny_newList _ (by rw [List.length_drop, sizeLine_eq]; omega)
  apply wpAny_pure
  rw [List.append_nil]
  refine h _ _ tk (fun b o e => Heap.get?_push_of_some _ (kk b o e)) ?_ (Heap.get?_push_size _ rfl)
  cases z : s.heap.get? h2.objs.size with
  | none => rfl
  | some o => exact absurd (Heap.lt_size (kk _ _ z)) (Nat.lt_irrefl _)
theorem star_list {l : Addr} {items : Array Value} {i : Nat} {Q : List Value → Shared → Prop} (hl : s.heap.IsList l items) (hh : A.handled = none) (hi : i ≤ items.size) (hz : items.size ≤ 16000) (h : StarQ s items.toList i Q) :
    wpAny (model prog w) A (unpackItems (.ref l) (i + 1) (some i)) Q E s := by
  have ne : l ≠ s.heap.objs.size := by
    obtain ⟨o, e, _⟩ := hl
    exact Nat.ne_of_lt (Heap.lt_size e)
  unfold unpackItems notIterableAtAll
  apply wpAny_bind
  apply wpAny_bind
  apply wpAny_specialOf hl.typeIs slot_list_iter.lookup
  apply wpAny_pure
  simp only [Bool.false_eq_true, if_false]
  apply wpAny_bind
  apply wpAny_holding
  apply wpAny_pyIter_list hl
  apply wpAny_bind
  apply wpAny_holding
  apply kun_draw ne i 0 _ _ ⟨_, Heap.get?_push_size _ rfl, rfl, rfl⟩ (hl.push _) (by omega)
  intro g1 it1 sb1
  rw [Nat.zero_add] at it1
  rw [List.drop_zero]
  have lg : (items.toList.take i).length = i := by rw [List.length_take, Array.length_toList]; omega
  rw [if_neg (show ¬ ((items.toList.take i).length < i) by rw [lg]; omega)]
  have hl1 : g1.IsList l items := (hl.push _).extBut sb1.extBut ne
  obtain ⟨o1, q1, _⟩ := id it1
  obtain ⟨o2, q2, _⟩ := id hl1
  apply wpAny_bind
  apply wpAny_holding
  apply kun_collect (s := { s with heap := g1 }) (T := "list_iterator") (.inr (.inr (.inl rfl))) (Walks.list (A := A.in1) hh s.heap.objs.size l ne items) (fun j u st => st.1.typeIs) (k := i) hi ⟨it1, hl1⟩ (Heap.lt_size q1) (Heap.lt_size q2) _ (by rw [sizeLine_eq]; omega)
  intro g2 tk kp
  show wpAny _ _ (if (items.toList.drop i).length < (i + 1) - 1 - i then _ else _) _ _ _
  rw [if_neg (by omega)]
  refine star_end (s := s) (fun b o e => ?_) (by omega) (by rw [Array.length_toList]; exact hz) h
  have nb : b ≠ s.heap.objs.size := Nat.ne_of_lt (Heap.lt_size e)
  exact kp b o nb (sb1.extBut b o nb (Heap.get?_push_of_some _ e))
theorem star_tuple {l : Addr} {items : Array Value} {i : Nat} {Q : List Value → Shared → Prop} (hl : IsTup s.heap l items) (hh : A.handled = none) (hi : i ≤ items.size) (hz : items.size ≤ 16000) (h : StarQ s items.toList i Q) :
    wpAny (model prog w) A (unpackItems (.ref l) (i + 1) (some i)) Q E s := by
  have ne : l ≠ s.heap.objs.size := by
    obtain ⟨o, e, _⟩ := hl
    exact Nat.ne_of_lt (Heap.lt_size e)
  unfold unpackItems notIterableAtAll
  apply wpAny_bind
  apply wpAny_bind
  apply wpAny_specialOf hl.typeIs slot_tuple_iter.lookup
  apply wpAny_pure
  simp only [Bool.false_eq_true, if_false]
  apply wpAny_bind
  apply wpAny_holding
  apply iter_tuple hl
  apply wpAny_bind
  apply wpAny_holding
  apply draw_tuple ne i 0 _ _ ⟨_, Heap.get?_push_size _ rfl, rfl, rfl⟩ (hl.push _) (by omega)
  intro g1 it1 sb1
  rw [Nat.zero_add] at it1
  rw [List.drop_zero]
  have lg : (items.toList.take i).length = i := by rw [List.length_take, Array.length_toList]; omega
  rw [if_neg (show ¬ ((items.toList.take i).length < i) by rw [lg]; omega)]
  have hl1 : IsTup g1 l items := (hl.push _).extBut sb1.extBut ne
  obtain ⟨o1, q1, _⟩ := id it1
  obtain ⟨o2, q2, _⟩ := id hl1
  apply wpAny_bind
  apply wpAny_holding
  apply kun_collect (s := { s with heap := g1 }) (T := "tuple_iterator") (.inr (.inr (.inr rfl))) (Walks.tuple (A := A.in1) hh s.heap.objs.size l ne items) (fun j u st => st.1.typeIs) (k := i) hi ⟨it1, hl1⟩ (Heap.lt_size q1) (Heap.lt_size q2) _ (by rw [sizeLine_eq]; omega)
  intro g2 tk kp
  show wpAny _ _ (if (items.toList.drop i).length < (i + 1) - 1 - i then _ else _) _ _ _
  rw [if_neg (by omega)]
  refine star_end (s := s) (fun b o e => ?_) (by omega) (by rw [Array.length_toList]; exact hz) h
  have nb : b ≠ s.heap.objs.size := Nat.ne_of_lt (Heap.lt_size e)
  exact kp b o nb (sb1.extBut b o nb (Heap.get?_push_of_some _ e))
end
theorem valsTake : ∀ {vs : List V} {us : List Value} (k : Nat), Vals vs us → Vals (vs.take k) (us.take k)
  | _, _, 0, _ => by simp only [List.take_zero]; exact .nil
  | _, _, k + 1, .nil => .nil
  | _, _, k + 1, .cons a r => .cons a (valsTake k r)
theorem valsDrop : ∀ {vs : List V} {us : List Value} (k : Nat), Vals vs us → Vals (vs.drop k) (us.drop k)
  | _, _, 0, h => h
  | _, _, k + 1, .nil => .nil
  | _, _, k + 1, .cons a r => valsDrop k r
section
variable {X : Cx}
def gStar (K : PySem.W.Frag) (i : Nat) (t : TGs) : TG := fun v σ H Q => ∃ a xs, v = .ref a ∧ (SqT K H a xs ∨ SqL K H a xs) ∧ i ≤ xs.length ∧ xs.length ≤ 16000 ∧ ∀ p, H p = none → t (xs.take i ++ [.ref p]) σ (upd H p (.lst (xs.drop i))) Q
theorem pg_star (hc : X.calm = true) {es : List Expr} {kk i : Nat} {pos : Pos} {t : TGs} (h : PGs X es t) (hn : (assignEach es X.env).length = i + 1) (hst : (assignEach es X.env).findIdx? (·.1) = some i) : PG X (.Tuple es kk pos) (gStar X.K i t) := by
  constructor
  intro pins s σ H v u Q I r q
  obtain ⟨a, xs, ev, hs, h1, h2, q⟩ := q
  subst ev
  have eu : u = Value.ref a := r
  subst eu
  rw [assign_Tuple]
  apply wpAny_bind
  apply wpAny_standAt
  unfold unpack
  rw [hn, hst]
  apply wpAny_bind
  apply wpAny_holding
  have fin : ∀ (its : List Value), Vals xs its → StarQ s its i fun us s' => wpAny (model X.prog X.w) X.A (assignInOrder ((assignEach es X.env).map (·.2)) us) (fun _ s' => ∃ σ' H', Inv X pins σ' H' s' ∧ Q σ' H') X.xe s' := by
    intro its rv D h' tk kp hD hd
    have hHD : H D = none := I.hok.gone hD
    have J : Inv X pins σ (upd H D (.lst (xs.drop i))) { s with heap := h', toks := tk } :=
      I.laidN kp hD hHD ⟨by rw [List.length_drop, sizeLine_eq]; omega, its.drop i, _, valsDrop i rv, hd⟩
    exact h.run pins _ σ _ _ _ Q J ((valsTake i rv).append (.cons (show RelV (V.ref D) (Value.ref D) from rfl) .nil)) (q D hHD)
  rcases hs with hs | hs
  · obtain ⟨its, rv, ht, hz⟩ := I.tuple hs
    have lz : its.length = xs.length := rv.length.symm
    exact star_tuple ht (I.ok.hd hc) (by rw [List.size_toArray]; omega) (by rw [List.size_toArray]; omega) (fin its rv)
  · obtain ⟨its, rv, ht, hz⟩ := I.list hs
    have lz : its.length = xs.length := rv.length.symm
    exact star_list ht.isList (I.ok.hd hc) (by rw [List.size_toArray]; omega) (by rw [List.size_toArray]; omega) (fin its rv)
end
section
variable {T : Tb} {W : WX} {X : Cx} {G : Gs}
theorem ST.dsR {n : En} {H0 H : Hp} {σ : L2.St} {ρ : Env} {ts : List Tmp} : ∀ {vs : List V} {xs : List D}, ST T n H0 H σ ρ (vs.zip (xs.map Rs.d) ++ ts) → vs.length = xs.length → Rps T H0 vs xs
  | [], [], _, _ => .nil
  | v :: vs, x :: xs, S, h => .cons (S.temp (v, .d x) (List.mem_cons_self ..)) (ST.dsR (vs := vs) (xs := xs) S.drop (by simpa using h))
  | [], _ :: _, _, h => by simp at h
  | _ :: _, [], _, h => by simp at h
/-- a starred target, the last one -/
theorem gs_star1 {e : Expr} {ps : Pos} {t : TGs} (h : PGs X [e] t) (hs : (assignEach [.Starred e ps] X.env).map (·.2) = (assignEach [e] X.env).map (·.2) := by rfl) : PGs X [.Starred e ps] t :=
  ⟨fun pins s σ H vs us Q I r q => by rw [hs]; exact h.run pins s σ H vs us Q I r q⟩
theorem putNs_app : ∀ {is : List Nat} {xs : List D} {ρ ρ1 ρ2 : Env} {j : Nat} {y : D}, putNs is xs ρ = some ρ1 → mayPut ρ1 j = true → ρ2 = ρ1.set j (.sh y) → putNs (is ++ [j]) (xs ++ [y]) ρ = some ρ2
  | [], [], ρ, ρ1, ρ2, j, y, h, hm, e => by
    cases h
    show (if mayPut ρ j then some (ρ.set j (.sh y)) else none) = _
    rw [if_pos hm, e]
  | i :: is, x :: xs, ρ, ρ1, ρ2, j, y, h, hm, e => by
    have h : (if mayPut ρ i then putNs is xs (ρ.set i (.sh x)) else none) = some ρ1 := h
    split at h
    · rename_i hi
      show (if mayPut ρ i then putNs (is ++ [j]) (xs ++ [y]) (ρ.set i (.sh x)) else none) = _
      rw [if_pos hi]
      exact putNs_app h hm e
    · cases h
  | [], _ :: _, _, _, _, _, _, h, _, _ => by cases h
  | _ :: _, [], _, _, _, _, _, h, _, _ => by cases h
/-- a, *b = xs -/
theorem s_star (ok : Cok T X) {is : List Nat} {j : Nat} {es : List Expr} {kk : Nat} {tpos pos : Pos} {e : Expr} {m : MExp} (he : PE X e (rd T W (ev G m))) (hg : PGs X es (rdGs T (is ++ [j])))
    (hn : (assignEach es X.env).length = is.length + 1 := by rfl) (hst : (assignEach es X.env).findIdx? (·.1) = some is.length := by rfl) (hs : swapsWithSole [.Tuple es kk tpos] e pos.line X.env = pure false := by rfl) (hw : swappedStores [.Tuple es kk tpos] e X.env = pure none := by rfl)
    (h1 : (assignEach [.Tuple es kk tpos] X.env).map (·.2) = [assign (.Tuple es kk tpos) X.env] := by rfl) : PS X (.Assign [.Tuple es kk tpos] e pos) (rdS T W (MStmt.st (.star is j m)) (exec G (.star is j m))) := by
  refine ps_imp (ps_asg he (pg_star ok.calm hg hn hst) hs hw h1) fun D σ H h => ?_
  obtain ⟨n, H0, ρ, ts, S, k, P⟩ := h
  have P : PostS T W n ts ((ev G m ρ).thn fun r e1 => match (r.see e1).bind seqD with
    | some xs => if decide (is.length ≤ xs.length) && decide (xs.length ≤ 16000) then match putNs is (xs.take is.length) e1 with
      | some e2 => if mayPut e2 j then .nx (e2.set j (.sh (.lst (xs.drop is.length)))) else .no
      | none => .no else .no
    | none => .no) D := P
  refine rd_mono (thn_one S P) fun v H1 h => ?_
  obtain ⟨H01, ρ1, r, S1, P1⟩ := h
  cases es : (r.see ρ1).bind seqD with
  | none => rw [es] at P1; exact P1.elim
  | some xs =>
    rw [es] at P1
    have P1 : PostS T W n ts (if decide (is.length ≤ xs.length) && decide (xs.length ≤ 16000) then match putNs is (xs.take is.length) ρ1 with
      | some e2 => if mayPut e2 j then .nx (e2.set j (.sh (.lst (xs.drop is.length)))) else .no
      | none => .no else .no) D := P1
    split at P1
    · rename_i hl
      rw [Bool.and_eq_true] at hl
      have l1 := of_decide_eq_true hl.1
      have l2 := of_decide_eq_true hl.2
      have hx : ∃ p vs, v = .ref p ∧ (SqT T.K H1 p vs ∨ SqL T.K H1 p vs) ∧ Rps T H01 vs xs := by
        cases ex : r.see ρ1 with
        | none => rw [ex] at es; cases es
        | some x =>
          rw [ex] at es
          cases x with
          | tup ys =>
            cases es
            obtain ⟨p, vs, ev, h2, h3⟩ := (S1.see ex).tup
            exact ⟨p, vs, ev, .inl (Same.sqT S1.sub h2), h3⟩
          | lst ys =>
            cases es
            obtain ⟨p, vs, ev, h2, h3⟩ := (S1.see ex).lst S1.sub
            exact ⟨p, vs, ev, .inr (.inl (.inl h2)), h3⟩
          | non => cases es
          | bl _ => cases es
          | int _ => cases es
          | str _ => cases es
          | dic _ => cases es
          | ins _ _ => cases es
          | scr _ => cases es
      obtain ⟨p, vs, ev, hsq, rr⟩ := hx
      subst ev
      rw [ok.hK]
      refine ⟨p, vs, rfl, hsq, by rw [rr.length]; exact l1, by rw [rr.length]; exact l2, fun q hq => ?_⟩
      have S2 := (S1.drop.addDs rr).alloc (o := .lst (xs.drop is.length)) (p := q) (Same.new hq) hq ⟨vs.drop is.length, upd_same, rr.drop _⟩
      obtain ⟨H02, S3⟩ := S2.hold
      have r3 : Rps T H02 vs xs := S3.drop.dsR rr.length
      have r4 : Rp T H02 (.ref q) (.lst (xs.drop is.length)) := S3.temp _ (List.mem_cons_self ..)
      have P2 : PostS T W n ts (match putNs is (xs.take is.length) ρ1 with
        | some e2 => if mayPut e2 j then .nx (e2.set j (.sh (.lst (xs.drop is.length)))) else .no
        | none => .no) D := P1
      cases ep : putNs is (xs.take is.length) ρ1 with
      | none => rw [ep] at P2; exact P2.elim
      | some e2 =>
        rw [ep] at P2
        have P2 : PostS T W n ts (if mayPut e2 j then .nx (e2.set j (.sh (.lst (xs.drop is.length)))) else .no) D := P2
        split at P2
        · rename_i hm
          refine ⟨n, H02, ρ1, ts, xs.take is.length ++ [.lst (xs.drop is.length)], _, S3.drop.dropA, (r3.take _).append (.cons r4 .nil), putNs_app ep hm rfl, fun u hu i e z => ?_, fun σ' w S' => P2 σ' _ _ S'⟩
          refine k u hu i e ?_
          show i ∈ j :: is
          rcases List.mem_append.mp z with z | z
          · exact List.mem_cons_of_mem _ z
          · rw [List.mem_singleton.mp z]
            exact List.mem_cons_self ..
        · exact P2.elim
    · exact P1.elim
end
end Mi
end
section
set_option maxHeartbeats 4000000
namespace Mi
open PySem PySem.Spec PyProof.Rows L2
section
variable {T : Tb} {W : WX} {X : Cx} {G : Gs} {x : Str} {p pos : Pos} {e : Expr} {es : List Expr} {ms mk : List MExp} {kws : List Keyword} {ks : List Str} {f k np m : Nat}
/-! ### calls of the text's defs -/
theorem rd_ext {d d' : Env → Out Rs} (h : ∀ e, d e = d' e) {ex : Expr} (p : PE X ex (rd T W d)) : PE X ex (rd T W d') := by
  have e : d = d' := funext h
  rw [← e]
  exact p
theorem evs_bind {α : Type} {g g' : List Rs → Env → Out α} (h : ∀ rs e, rs.length = ms.length → g rs e = g' rs e) (e : Env) : (evs G ms e).bind g = (evs G ms e).bind g' := by
  cases ea : evs G ms e with
  | no => rfl
  | ex y e1 => rfl
  | ok rs e1 => exact h rs e1 (evs_len ea)
theorem r_callG (c : CkG T X W) (h : CalG X.prog X.w X.K X.mg X.base T (G.fn f) k np x m [] (List.range m) []) (hr : Room k X.A) (hm : ms.length = m) (ha : PA X (e :: es) (rdA T W (evs G ms)))
    (hg : Gl X x := by rfl) (hdb : (x == ("__debug__" : Str)) = false := by decide) (he : starEach (e :: es) X.env = (false, eval e X.env) :: starEach es X.env := by rfl) (hpl : (backTo pos (starEach es X.env)).any (·.1) = false := by rfl) :
    PE X (.Call (.Name x p) (e :: es) [] pos) (rd T W (ev G (.call f ms))) :=
  rd_ext (fun e => evs_bind (fun rs e1 l => callP_id (by rw [l, hm])) e) (nm_pos (h.nm hr c.gd c.tk) hm ha hg hdb he hpl)
theorem r_call0G (c : CkG T X W) (h : CalG X.prog X.w X.K X.mg X.base T (G.fn f) k np x 0 [] (List.range 0) []) (hr : Room k X.A) (hg : Gl X x := by rfl) (hdb : (x == ("__debug__" : Str)) = false := by decide) :
    PE X (.Call (.Name x p) [] [] pos) (rd T W (ev G (.call f []))) :=
  rd_ext (fun e => callP_id rfl) (nm_0 (h.nm hr c.gd c.tk) hg hdb)
theorem callP_nil {km : List Nat} {rs : List Rs} {e : Env} : callP G f km [] rs e = callS G f (km.filterMap fun k => rs[k]?) e := by
  unfold callP permR
  rw [List.map_nil, List.append_nil]
theorem r_callkG {km : List Nat} (c : CkG T X W) (h : CalG X.prog X.w X.K X.mg X.base T (G.fn f) k np x m ks km []) (hr : Room k X.A) (hm : ms.length = m) (hk : mk.length = ks.length) (ha : PA X (e :: es) (rdA T W (evs G ms))) (hkw : PK X kws (rdA T W (evs G mk)))
    (hg : Gl X x := by rfl) (hall : (backToKw pos (keywordEach kws X.env)).all (·.1.isSome) = true := by rfl) (hks : (backToKw pos (keywordEach kws X.env)).filterMap (·.1) = ks := by rfl)
    (hdb : (x == ("__debug__" : Str)) = false := by decide) (he : starEach (e :: es) X.env = (false, eval e X.env) :: starEach es X.env := by rfl)
    (hpl : ((backTo pos (starEach (e :: es) X.env)).any (·.1) || (backToKw pos (keywordEach kws X.env)).any (·.1.isNone)) = false := by rfl) :
    PE X (.Call (.Name x p) (e :: es) kws pos) (rd T W (ev G (.callk f (ms ++ mk) km))) :=
  rd_ext (fun e => evs_bind (fun rs e1 l => callP_nil) e) (nm_kw (h.nm hr c.gd c.tk) hm hk ha hkw hg hall hks hdb he hpl)
theorem r_callk0G {km : List Nat} (c : CkG T X W) (h : CalG X.prog X.w X.K X.mg X.base T (G.fn f) k np x 0 ks km []) (hr : Room k X.A) (hk : mk.length = ks.length) (hkw : PK X kws (rdA T W (evs G mk)))
    (hg : Gl X x := by rfl) (hall : (backToKw pos (keywordEach kws X.env)).all (·.1.isSome) = true := by rfl) (hks : (backToKw pos (keywordEach kws X.env)).filterMap (·.1) = ks := by rfl)
    (hdb : (x == ("__debug__" : Str)) = false := by decide) (hpl : ((backTo pos (starEach [] X.env)).any (·.1) || (backToKw pos (keywordEach kws X.env)).any (·.1.isNone)) = false := by rfl) :
    PE X (.Call (.Name x p) [] kws pos) (rd T W (ev G (.callk f mk km))) :=
  rd_ext (fun e => evs_bind (fun rs e1 l => callP_nil) e) (nm_kw0 (h.nm hr c.gd c.tk) hk hkw hg hall hks hdb hpl)
/-- defs with every parameter given, none of them with a default -/
theorem bn_of {K : PySem.W.Frag} {qual y : Str} {params : Arguments} {body : List Stmt} {scope : Scope} {fa : Addr} {fd : FuncData} {ps : List Str} {km : List Nat} (F : FunD K y qual params body scope [] [] fa fd)
    (h : ∀ (kV doc pm : Value) (an : Option Addr) (cdv ct : Value) (us ws : List Value), us.length = m → ws.length = ks.length → bindArgs (PySem.W.fnOf y qual params body scope .none kV doc pm an cdv ct) ⟨us, ks.zip ws⟩ = pure (ps.zip (permR km (us ++ ws)))) :
    Bn K T fd ps m ks km [] [] := by
  have b := kb_of F h
  exact ⟨⟨[], .nil, fun s us ws X l1 l2 => by rw [List.append_nil]; exact b.to s us ws X l1 l2⟩, fun _ => .nil⟩
/-! ### isinstance(a, (T, U)) -/
theorem r_isk2 (ok : Cok T X) {a : Expr} {ma : MExp} {p1 p2 pt : Pos} {kt : Nat} {k1 k2 : Kd} {n1 n2 : Str} (hm : X.mg "isinstance" = none) (hm1 : X.mg n1 = none) (hm2 : X.mg n2 = none) (hv1 : bootBuiltins n1 = some (.type (kdN k1))) (hv2 : bootBuiltins n2 = some (.type (kdN k2))) (ha : PE X a (rd T W (ev G ma)))
    (hg : Gl X "isinstance" := by rfl) (hg1 : Gl X n1 := by rfl) (hg2 : Gl X n2 := by rfl) (hn1 : n1 ≠ "__name__" := by decide) (hn2 : n2 ≠ "__name__" := by decide) (hd1 : (n1 == ("__debug__" : Str)) = false := by decide) (hd2 : (n2 == ("__debug__" : Str)) = false := by decide)
    (hs : starEach [a, .Tuple [.Name n1 p1, .Name n2 p2] kt pt] X.env = (false, eval a X.env) :: starEach [.Tuple [.Name n1 p1, .Name n2 p2] kt pt] X.env := by rfl)
    (hs2 : starEach [.Name n1 p1, .Name n2 p2] X.env = (false, eval (.Name n1 p1) X.env) :: starEach [.Name n2 p2] X.env := by rfl) :
    PE X (.Call (.Name "isinstance" p) [a, .Tuple [.Name n1 p1, .Name n2 p2] kt pt] [] pos) (rd T W (ev G (.isk ma [k1, k2]))) := by
  have htup : PE X (.Tuple [.Name n1 p1, .Name n2 p2] kt pt) _ := pe_tup (pa_cons (pe_bltn (v := .ty (kdN k1)) hg1 hm1 hv1 rfl hn1 hd1) (pa_cons (pe_bltn (v := .ty (kdN k2)) hg2 hm2 hv2 rfl hn2 hd2) pa_nil) hs2)
  refine pe_imp (pe_callB call_isiT hg hm (by decide +kernel) (pa_cons ha (pa_cons htup pa_nil) hs) (by decide) (by decide) hs) fun σ H Q h => ?_
  refine rd_mono (rd_seeOne h) fun y H1 q => ?_
  obtain ⟨σ', n, H0, ρ, ts, b, r, S, va, ef, P⟩ := q.sees
  obtain ⟨rfl, z1, z2⟩ := isk_ok ef
  refine ⟨by show 2 ≤ sizeLine; decide +kernel, fun tp hp => ?_⟩
  have vb : Rv T (upd H1 tp (.tup [.ty (kdN k1), .ty (kdN k2)])) (upd H1 tp (.tup [.ty (kdN k1), .ty (kdN k2)])) y b := .of ((va.rp S.sub).mono (Same.new hp))
  have ty := vb.ty (Same.refl _) z1 z2
  rw [← ok.hK] at ty
  exact ⟨y, tp, [.ty (kdN k1), .ty (kdN k2)], _, [.type (kdN k1), .type (kdN k2)], _, rfl, upd_same, .cons (.ty _) (.cons (.ty _) .nil), ty, kit_any b [k1, k2], Wants.data P (.bl _) (S.grow (Same.new hp))⟩
/-! ### list(range(..)) -/
theorem rg_rps {H : Hp} (a b : Int) : Rps T H (rgV a b) ((List.range (b - a).toNat).map fun k => D.int (a + (k : Nat))) := by
  unfold rgV
  generalize (b - a).toNat = n
  induction n with
  | zero => exact .nil
  | succ n ih =>
    rw [List.range_succ, List.map_append, List.map_append]
    exact ih.append (.cons (.int _) .nil)
theorem lrng_fin {n : En} {σ : L2.St} {H0 H : Hp} {ρ : Env} {ts : List Tmp} {Q : VK} {i j : Int} (S : ST T n H0 H σ ρ ts) (P : Post T W n σ ts (lrngS i j ρ) (Wants T n σ ts Q)) : RgOk i j ∧ ∀ q, H q = none → Q (.ref q) (upd H q (.lst (rgV i j))) := by
  unfold lrngS at P
  split at P
  · rename_i hz
    rw [Bool.and_eq_true] at hz
    have h1 := hz.1
    unfold rngOk at h1
    simp only [Bool.and_eq_true, decide_eq_true_eq] at h1
    have h2 : (j - i).toNat ≤ 16000000 := of_decide_eq_true hz.2
    exact ⟨⟨by omega, by omega, by omega, by omega, by omega⟩, fun q hq => Wants.fresh P S (Same.new hq) hq ⟨_, upd_same, rg_rps i j⟩⟩
  · exact P.elim
theorem r_lrng1 (ok : Cok T X) {a : Expr} {ma : MExp} {p2 pos2 : Pos} (hm : X.mg "list" = none) (hm2 : X.mg "range" = none) (ha : PE X a (rd T W (ev G ma))) (hg : Gl X "list" := by rfl) (hg2 : Gl X "range" := by rfl)
    (hs : starEach [a] X.env = (false, eval a X.env) :: starEach [] X.env := by rfl) (hs2 : starEach [.Call (.Name "range" p2) [a] [] pos2] X.env = (false, eval (.Call (.Name "range" p2) [a] [] pos2) X.env) :: starEach [] X.env := by rfl) :
    PE X (.Call (.Name "list" p) [.Call (.Name "range" p2) [a] [] pos2] [] pos) (rd T W (ev G (.lrng none ma))) := by
  refine pe_imp (pe_listRg ok.calm hg hm (prg_1 hg2 hm2 ha hs) hs2) fun σ H Q h => ?_
  obtain ⟨n, H0, ρ, ts, S, P⟩ := h
  have P : Post T W n σ ts ((ev G ma ρ).bind fun r e1 => (partO e1 r).bind fun j e2 => lrngS 0 j e2) (Wants T n σ ts Q) := P
  refine rd_mono (rd_one S P) fun v H1 h => ?_
  obtain ⟨H01, ρ1, r, S1, P1⟩ := h
  cases r with
  | d x =>
    cases x with
    | int j =>
      have e : v = .int j := (S1.see (x := .int j) rfl).int
      subst e
      exact ⟨j, rfl, lrng_fin S1.drop P1⟩
    | _ => exact P1.elim
  | _ => exact P1.elim
theorem r_lrng2 (ok : Cok T X) {a b : Expr} {ma mb : MExp} {p2 pos2 : Pos} (hm : X.mg "list" = none) (hm2 : X.mg "range" = none) (ha : PE X a (rd T W (ev G ma))) (hb : PE X b (rd T W (ev G mb))) (hg : Gl X "list" := by rfl) (hg2 : Gl X "range" := by rfl)
    (hs : starEach [a, b] X.env = (false, eval a X.env) :: starEach [b] X.env := by rfl) (hs1 : starEach [b] X.env = (false, eval b X.env) :: starEach [] X.env := by rfl) (hpl : (backTo pos2 (starEach [b] X.env)).any (·.1) = false := by rfl)
    (hs2 : starEach [.Call (.Name "range" p2) [a, b] [] pos2] X.env = (false, eval (.Call (.Name "range" p2) [a, b] [] pos2) X.env) :: starEach [] X.env := by rfl) :
    PE X (.Call (.Name "list" p) [.Call (.Name "range" p2) [a, b] [] pos2] [] pos) (rd T W (ev G (.lrng (some ma) mb))) := by
  refine pe_imp (pe_listRg ok.calm hg hm (prg_2 hg2 hm2 ha hb hs hs1 hpl) hs2) fun σ H Q h => ?_
  obtain ⟨n, H0, ρ, ts, S, P⟩ := h
  have P : Post T W n σ ts ((ev G ma ρ).bind fun q e1 => (partO e1 q).bind fun i e2 => (ev G mb e2).bind fun r e3 => (partO e3 r).bind fun j e4 => lrngS i j e4) (Wants T n σ ts Q) := P
  refine rd_mono (rd_one S P) fun v H1 h => ?_
  obtain ⟨H01, ρ1, r, S1, P1⟩ := h
  cases r with
  | d x =>
    cases x with
    | int i =>
      have e : v = .int i := (S1.see (x := .int i) rfl).int
      subst e
      refine rd_mono (rd_one S1.drop P1) fun v2 H2 h => ?_
      obtain ⟨H02, ρ2, r2, S2, P2⟩ := h
      cases r2 with
      | d x =>
        cases x with
        | int j =>
          have e : v2 = .int j := (S2.see (x := .int j) rfl).int
          subst e
          exact ⟨i, j, rfl, rfl, lrng_fin S2.drop P2⟩
        | _ => exact P2.elim
      | _ => exact P2.elim
    | _ => exact P1.elim
  | _ => exact P1.elim
end
end Mi
end
section
set_option maxHeartbeats 4000000
namespace Mi
open PySem PySem.Spec PyProof.Rows L2
/-! ### the end: the law's def is called, nothing is tracked but the script -/
theorem cx_none {P : Program} {w : World} {outer : List PySem.Env} {H : Hp} {s s' : Shared} {u : Value} (h : L2.CX P w outer H s (fun _ _ _ => False) u s') : False := by
  unfold L2.CX at h
  obtain ⟨_, _, _, _, _, h⟩ := h
  exact h.2.2.2.2.2.2.2
/-- the frozen script -/
abbrev frzO (vs : List Value) (ns : List Int) : HO := .frz { cls := .type "list", data := .seq vs.toArray } (.lst (ns.map V.int))
section
variable {P : Program} {w : World} {K : PySem.W.Frag} {mg mb : Str → Option Value} {k : Nat} {fa a : Addr} {fd : FuncData} {x : Str} {sp : Sp} {s₁ : Shared} {vs : List Value} {ns : List Int}
theorem law_core (KX : K.In s₁.heap) (hns : s₁.heap.Ns mainGlobals mg) (hb : s₁.heap.Ns builtinsNs mb) (hbb : ∀ x : Str, x ≠ "__name__" → mb x = bootBuiltins x) (hlim : s₁.heap.NoLimit) (hg : s₁.gens = #[])
    (ha : s₁.heap.get? a = some { cls := .type "list", data := .seq vs.toArray }) (hr : Room k callerA) (F : ∀ base : Heap, K.In base → base.Ns mainGlobals mg → FnG P w K mg base k fa fd [x] sp) (hbind : ∀ (s : Shared) (u : Value), BindsTo s fd ⟨[u], []⟩ [(x, u)])
    (H : Hp) (hO : Only H) (hsp : sp [.ref a] H (fun v _ => v = .bl true) fun _ _ _ => False) (hok : HOk P w H s₁.heap) (hA : ∀ b, H b ≠ none → b = a) (hK : H a ≠ none → K.lookup a = none) :
    codeAny (model P w) callerA (.call (.ref fa) ⟨[.ref a], []⟩) (fun r s' => r = .ok (.ret (.bool true)) ∧ OldK s₁.heap s'.heap ∧ s'.os = s₁.os ∧ AllBare s'.gens) s₁ := by
  have free : ∀ {b : Addr} {o : Obj}, s₁.heap.get? b = some o → (∀ es ep, o.data ≠ .dict es ep) ∨ H b = none := by
    intro b o e
    by_cases z : H b = none
    · exact Or.inr z
    · have e2 := hA b z
      rw [e2, ha] at e
      cases e
      exact Or.inl fun _ _ q => nomatch q
  have dictF : ∀ {b : Addr} {o : Obj} {es : Array DictEntry} {ep : Nat}, s₁.heap.get? b = some o → o.data = .dict es ep → (hidT s₁.heap H).get? b = some o := by
    intro b o es ep e d
    rcases free e with z | z
    · exact absurd d (z es ep)
    · exact hidT_get e z
  have nsF : ∀ {b : Addr} {m : Str → Option Value}, s₁.heap.Ns b m → (hidT s₁.heap H).Ns b m := by
    intro b m hm
    obtain ⟨o, es, ep, e, d, q⟩ := hm
    exact ⟨o, es, ep, dictF e d, d, q⟩
  have inF : K.In (hidT s₁.heap H) := by
    intro b o e
    apply hidT_get (KX b o e)
    by_cases z : H b = none
    · exact z
    · have e2 := hA b z
      subst e2
      rw [hK z] at e
      cases e
  have limF : (hidT s₁.heap H).NoLimit := by
    obtain ⟨mc, h1, h2⟩ := hlim
    exact ⟨mc, nsF h1, h2⟩
  have modF : Mod K mg (hidT s₁.heap H) := ⟨inF, nsF hns, ⟨mb, nsF hb, hbb⟩, limF⟩
  have e0 : Env0 P w K mg (hidT s₁.heap H) callerA [] s₁ H := {
    frames := rfl
    mod := modF
    bs := fun b o e => of_hidT e
    bsz := Nat.le_of_eq (hidT_size _ _)
    funs := trivial
    frf := fun b z => by cases z
    hok := hok
    bare := .of_eq hg }
  apply codeAny_mono ((F _ inF (nsF hns)).run (us := [.ref a]) (vs := [.ref a]) hr rfl e0 (hbind s₁ (.ref a)) (.cons rfl .nil) hsp)
  intro res st h
  match res, h with
  | .error e, h => exact (cx_none h).elim
  | .ok .next, h => exact h.elim
  | .ok .brk, h => exact h.elim
  | .ok .cont, h => exact h.elim
  | .ok (.ret u), ⟨v, H', os, bare, un, hok', rv, q⟩ =>
    have q : v = .bl true := q
    subst q
    have eu : u = Value.bool true := rv
    subst eu
    refine ⟨rfl, OldK.of_keep ?_, os, bare⟩
    intro b o e
    rcases hO b with z | ⟨ob, xs, z⟩
    · exact un.keep b o e z (by simp [frs]) (by simp)
    · have g1 := (hok b _ z).1
      have g2 := (hok' b _ (un.frzs b ob _ z)).1
      rw [e] at g1
      cases g1
      exact g2
theorem law_callG (KX : K.In s₁.heap) (hns : s₁.heap.Ns mainGlobals mg) (hb : s₁.heap.Ns builtinsNs mb) (hbb : ∀ x : Str, x ≠ "__name__" → mb x = bootBuiltins x) (hlim : s₁.heap.NoLimit) (hg : s₁.gens = #[])
    (ha : s₁.heap.get? a = some { cls := .type "list", data := .seq vs.toArray }) (hi : IntsAre vs ns) (hl : ns.length ≤ sizeLine) (hr : Room k callerA)
    (F : ∀ base : Heap, K.In base → base.Ns mainGlobals mg → FnG P w K mg base k fa fd [x] sp) (hbind : ∀ (s : Shared) (u : Value), BindsTo s fd ⟨[u], []⟩ [(x, u)])
    (hsp : ∀ H : Hp, Only H → SqL K H a (ns.map V.int) → sp [.ref a] H (fun v _ => v = .bl true) fun _ _ _ => False) :
    codeAny (model P w) callerA (.call (.ref fa) ⟨[.ref a], []⟩) (fun r s' => r = .ok (.ret (.bool true)) ∧ OldK s₁.heap s'.heap ∧ s'.os = s₁.os ∧ AllBare s'.gens) s₁ := by
  have rv : Vals (ns.map V.int) vs := vals_ints hi
  have lz : (ns.map V.int).length ≤ sizeLine := by rw [List.length_map]; exact hl
  have lv : vs.length ≤ sizeLine := by rw [← rv.length]; exact lz
  cases hk : K.lookup a with
  | some o =>
    have e := KX a o hk
    rw [ha] at e
    cases e
    have o0 : Only (fun _ => none) := fun _ => Or.inl rfl
    refine law_core KX hns hb hbb hlim hg ha hr F hbind (fun _ => none) o0 (hsp _ o0 ?_) ?_ (fun b z => absurd rfl z) fun z => absurd rfl z
    · exact Or.inr ⟨_, vs.toArray, _, hk, rfl, rfl, rfl, by rw [List.size_toArray]; exact lv, by simpa using rv⟩
    · intro b u z
      cases z
  | none =>
    have at_ : ∀ b, (fun b => if b = a then some (frzO vs ns) else none : Hp) b = if b = a then some (frzO vs ns) else none := fun _ => rfl
    have o1 : Only (fun b => if b = a then some (frzO vs ns) else none) := by
      intro b
      by_cases q : b = a
      · exact Or.inr ⟨_, _, by rw [at_, if_pos q]⟩
      · exact Or.inl (by rw [at_, if_neg q])
    refine law_core KX hns hb hbb hlim hg ha hr F hbind _ o1 (hsp _ o1 (Or.inl (Or.inr ⟨{ cls := .type "list", data := .seq vs.toArray }, by rw [at_, if_pos rfl]⟩))) ?_ ?_ fun _ => hk
    · intro b u z
      by_cases q : b = a
      · rw [at_, if_pos q] at z
        cases z
        subst q
        exact ⟨ha, lz, vs, _, rv, ha⟩
      · rw [at_, if_neg q] at z
        cases z
    · intro b z
      by_cases q : b = a
      · exact q
      · have z : (if b = a then some (frzO vs ns) else none) ≠ none := z
        rw [if_neg q] at z
        exact absurd rfl z
end
/-- the goal behind a head, of a law's def that keeps its promise where no repr is under way -/
theorem walk_ofG {l : PySem.W.OpenLaw} {n k : Nat} {q : Program} {loose : List Str} {XP : (Str → Option Value) → Heap → Prop} {YP : World → Heap → Prop} {d : DefRec} {x : Str}
    (hn : l.most = some n) (hn2 : n ≤ sizeLine) (hdf : d.params.defaults = []) (hr : Room k callerA)
    (F : ∀ (w : World) (mg : Str → Option Value) (fa : Addr) (h : Heap), YP w h → h.Ns mainGlobals mg → mg d.name = some (.ref fa) →
      ∃ (K : PySem.W.Frag) (fd : FuncData) (sp : Sp), K.In h ∧ (∀ (s : Shared) (u : Value), BindsTo s fd ⟨[u], []⟩ [(x, u)]) ∧
        (∀ (H : Hp) (a : Addr) (ns : List Int), ns.length ≤ n → Only H → SqL K H a (ns.map V.int) → sp [.ref a] H (fun v _ => v = .bl true) fun _ _ _ => False) ∧
        ∀ base : Heap, K.In base → base.Ns mainGlobals mg → FnG l.prog w K mg base k fa fd [x] sp) :
    PySem.W.WalkO q loose XP YP l.row.toRowW d [] (fun f vs => PySem.call f vs) := by
  apply Att.attach_call hn hdf
  intro w s₀ s₁ mg mb fa o pm cd doc a vs ns G Y ho hd hcd hmg hobj hints hlen hg
  obtain ⟨K, fd, sp, KX, hb, hsp, hF⟩ := F w mg fa _ Y G.T.g hmg
  exact law_callG KX G.T.g G.T.b G.T.builtins G.T.nolimit hg hobj hints (Nat.le_trans hlen hn2) hr hF hb fun H hO hS => hsp H a ns hlen hO hS
end Mi
end
section
set_option maxHeartbeats 4000000
namespace Mi
open PySem PySem.Spec PyProof.Rows L2
/-! ### methods of instances -/
section
variable {X : Cx} {k : Nat} {f : Addr} {fd : FuncData} {ps : List Str} {sp : Sp} {E : XK} {σ : L2.St} {H : Hp} {Q : VK} {s : Shared} {pins : List (Addr × Obj)}
/-- a def is called from within a built-in -/
theorem run_in1 {us zs : List Value} {kw : List (Str × Value)} {vs : List V} (F : FnG X.prog X.w X.K X.mg X.base k f fd ps sp) (hr : Room (k + 1) X.A) (gd : X.A.guards = some []) (b : BindsTo s fd ⟨us, kw⟩ (ps.zip zs)) (hx : PassesAt (L2.CX X.prog X.w) X σ E)
    (I : Inv X pins σ H s) (r : Vals vs zs) (h : sp vs H Q E) : wpAny (model X.prog X.w) X.A.in1 (call (.ref f) us kw) (EP X pins σ Q) X.xe s := by
  apply wpAny_call
  apply codeAny_mono (F.run hr.in1 gd I.env0.in1 b r h)
  intro res st q
  match res, q with
  | .error _, q => exact hx pins H s _ _ I q
  | .ok (.ret _), q => exact I.after q
  | .ok .next, q => exact q.elim
  | .ok .brk, q => exact q.elim
  | .ok .cont, q => exact q.elim
end
/-- a method that may be asked of the instances of the class at cA c -/
structure CalM (P : Program) (w : World) (K : PySem.W.Frag) (mg : Str → Option Value) (base : Heap) (T : Tb) (F : Env → Out Rs) (k c m : Nat) : Prop where
  ex : ∃ np fa fd ps, FnG P w K mg base k fa fd ps (SpF T np F) ∧ Cls K (T.cA c) ∧ Meth K (T.cA c) (T.an m) fa ∧ (∀ (s : Shared) (us : List Value), K.In s.heap → us.length = np → BindsTo s fd ⟨us, []⟩ (ps.zip us)) ∧ ∀ l : List Sl, l.length ≠ np → F l = .no
section
variable {T : Tb} {W : WX} {X : Cx} {G : Gs} {x : Str} {p apos pos : Pos} {o e : Expr} {es : List Expr} {mo : MExp} {ms : List MExp} {m k : Nat}
theorem own_aux {n : En} {H0 H : Hp} {σ : L2.St} {ρ : Env} {ts : List Tmp} {v : V} {ra : Rs} {f : Nat} {Q : VK} (S : ST T n H0 H σ ρ ((v, ra) :: ts)) (P : Post T W n σ ts ((evs G ms ρ).bind fun rs e2 => callS G f (ra :: rs) e2) (Wants T n σ ts Q)) :
    rdA T W (evs G ms) σ H fun vs H2 => ∃ H0' ρ' rs, vs.length = rs.length ∧ ST T n H0' H2 σ ρ' ((v :: vs).zip (ra :: rs) ++ ts) ∧ Post T W n σ ts (callS G f (ra :: rs) ρ') (Wants T n σ ts Q) := by
  refine ⟨n, H0, ρ, _, S, ?_⟩
  cases ea : evs G ms ρ with
  | no => rw [ea] at P; exact P.elim
  | ex x e => rw [ea] at P; exact fun dd h0 h1 s => P dd h0 h1 s.drop
  | ok rs e1 =>
    rw [ea] at P
    exact fun H0' H1 vs hl S1 => ⟨H0', e1, rs, hl, S1.perm (List.perm_middle), P⟩
theorem r_own {pl : Sem Bool} (hm : ∀ c f, G.meth c m = some f → CalM X.prog X.w X.K X.mg X.base T (G.fn f) k c m) (hr : Room k X.A) (gd : X.A.guards = some []) (tk : Takes X W) (ho : PE X o (rd T W (ev G mo))) (ha : PA X (e :: es) (rdA T W (evs G ms)))
    (hst : starEach (e :: es) X.env = (false, eval e X.env) :: starEach es X.env := by rfl) (hpl : (backTo pos (starEach es X.env)).any (·.1) = false := by rfl)
    (ht : eval (.Call (.Attribute o (T.an m) apos) (e :: es) [] pos) X.env = (do
      let ov ← eval o X.env
      standAt apos.atName
      let (f, first) ← holding [ov] (getMethod ov (T.an m) pl)
      callWith pos f first (backTo pos (starEach (e :: es) X.env)) (backToKw pos (keywordEach [] X.env))) := by rfl) :
    PE X (.Call (.Attribute o (T.an m) apos) (e :: es) [] pos) (rd T W (ev G (.own mo m ms))) := by
  constructor
  intro pins s σ H Q I h
  obtain ⟨n, H0, ρ, ts, S, P⟩ := h
  have h1 := rd_one (da := ev G mo) (f := fun ro e1 => match ro.see e1 with
    | some (.ins c fs) => match G.meth c m with
      | some f => if (lookF fs m).isNone then (evs G ms e1).bind fun rs e2 => callS G f (ro :: rs) e2 else .no
      | none => .no
    | _ => .no) S P
  refine PySem.W.methodCall_KW (pl := pl) (thn (ho.run pins s σ H _ I h1) fun u s1 ⟨v, H1, I1, rv, H0', ρ', ra, S1, P1⟩ => ?_) ht
  split at P1
  · rename_i c fs hsee
    split at P1
    · rename_i f0 hf0
      split at P1
      · rename_i hl
        obtain ⟨np, fa, fd, ps, F, cl, me, bd, no⟩ := (hm c f0 hf0).ex
        obtain ⟨a, dx, vs0, rfl, ea, rf⟩ := (S1.see hsee).ins S1.sub
        obtain rfl : u = Value.ref a := rv
        refine getmeth_ok I1 ea cl me (rf.none (by simpa using hl)) ?_
        refine PySem.W.callWith_K (first := [.ref a]) (h₀ := X.base) I.ok.mod.kin me.kp (thn (ha.run pos pins s1 σ H1 _ I1 (own_aux S1 P1)) fun us s2 ⟨vs, H2, I2, r, H0'', ρ'', rs, l1, S2, P2⟩ => ⟨I2.kIn, ?_⟩) hst hpl
        have hsp := call_sp (vs := V.ref a :: vs) no (by simp [l1]) S2 P2
        have hlen := SpF.len _ _ _ _ hsp
        exact run_g (us := .ref a :: us) (zs := .ref a :: us) (vs := .ref a :: vs) F hr gd (bd s2 _ I2.kIn (by have := r.length; simp at hlen ⊢; omega)) (passAt tk σ) I2 (.cons rfl r) hsp
      · exact P1.elim
    · exact P1.elim
  · exact P1.elim
theorem r_own0 {pl : Sem Bool} (hm : ∀ c f, G.meth c m = some f → CalM X.prog X.w X.K X.mg X.base T (G.fn f) k c m) (hr : Room k X.A) (gd : X.A.guards = some []) (tk : Takes X W) (ho : PE X o (rd T W (ev G mo)))
    (ht : eval (.Call (.Attribute o (T.an m) apos) [] [] pos) X.env = (do
      let ov ← eval o X.env
      standAt apos.atName
      let (f, first) ← holding [ov] (getMethod ov (T.an m) pl)
      callWith pos f first (backTo pos (starEach [] X.env)) (backToKw pos (keywordEach [] X.env))) := by rfl) :
    PE X (.Call (.Attribute o (T.an m) apos) [] [] pos) (rd T W (ev G (.own mo m []))) := by
  constructor
  intro pins s σ H Q I h
  obtain ⟨n, H0, ρ, ts, S, P⟩ := h
  have h1 := rd_one (da := ev G mo) (f := fun ro e1 => match ro.see e1 with
    | some (.ins c fs) => match G.meth c m with
      | some f => if (lookF fs m).isNone then (evs G [] e1).bind fun rs e2 => callS G f (ro :: rs) e2 else .no
      | none => .no
    | _ => .no) S P
  refine PySem.W.methodCall_KW (pl := pl) (thn (ho.run pins s σ H _ I h1) fun u s1 ⟨v, H1, I1, rv, H0', ρ', ra, S1, P1⟩ => ?_) ht
  split at P1
  · rename_i c fs hsee
    split at P1
    · rename_i f0 hf0
      split at P1
      · rename_i hl
        obtain ⟨np, fa, fd, ps, F, cl, me, bd, no⟩ := (hm c f0 hf0).ex
        obtain ⟨a, dx, vs0, rfl, ea, rf⟩ := (S1.see hsee).ins S1.sub
        obtain rfl : u = Value.ref a := rv
        refine getmeth_ok I1 ea cl me (rf.none (by simpa using hl)) ?_
        have P2 : Post T W n σ ts (callS G f0 [ra] ρ') (Wants T n σ ts Q) := P1
        have hsp := call_sp (vs := [V.ref a]) (rs := [ra]) no rfl S1 P2
        have hlen := SpF.len _ _ _ _ hsp
        exact PySem.W.callWith_K0 (first := [.ref a]) I1.kIn me.kp (run_g (us := [.ref a]) (zs := [.ref a]) (vs := [.ref a]) F hr gd (bd s1 _ I1.kIn (by simpa using hlen)) (passAt tk σ) I1 (.cons rfl .nil) hsp)
      · exact P1.elim
    · exact P1.elim
  · exact P1.elim
end
/-! ### len -/
/-- .. a method that built-ins call: one level deeper -/
structure CalS (P : Program) (w : World) (K : PySem.W.Frag) (mg : Str → Option Value) (base : Heap) (T : Tb) (F : Env → Out Rs) (k c : Nat) (m : Str) : Prop where
  ex : (∀ l, F l = .no) ∨ ∃ j np fa fd ps, k = j + 1 ∧ FnG P w K mg base j fa fd ps (SpF T np F) ∧ Meth K (T.cA c) m fa ∧ (∀ (s : Shared) (us : List Value), K.In s.heap → us.length = np → BindsTo s fd ⟨us, []⟩ (ps.zip us)) ∧ ∀ l : List Sl, l.length ≠ np → F l = .no
section
variable {T : Tb} {W : WX} {X : Cx} {G : Gs} {p pos : Pos} {o : Expr} {mo : MExp} {k : Nat}
theorem callS_no {f : Nat} {rs : List Rs} {e : Env} (h : ∀ l, G.fn f l = .no) : callS G f rs e = .no := by
  unfold callS
  split
  · split
    · rw [h]
    · rfl
  · rfl
theorem len_fin {n : En} {H0 H : Hp} {σ : L2.St} {ρ : Env} {ts : List Tmp} {r : Rs} {v : V} {Q : VK} (S : ST T n H0 H σ ρ ((v, r) :: ts)) (P : Post T W n σ ts (lenR r ρ) (Wants T n σ ts Q)) : ∃ i : Int, v = .int i ∧ 0 ≤ i ∧ i ≤ 16000000 ∧ Q v H := by
  cases r with
  | fr o => exact P.elim
  | bo i => exact P.elim
  | d x =>
    cases x with
    | int i =>
      have P : Post T W n σ ts (if decide (0 ≤ i) && decide (i ≤ 16000000) then Out.ok (Rs.d (.int i)) ρ else .no) (Wants T n σ ts Q) := P
      split at P
      · rename_i hb
        rw [Bool.and_eq_true] at hb
        have rv : Rp T H0 v (.int i) := S.temp _ (List.mem_cons_self ..)
        have hq : Q v H := P H0 H v S
        cases rv
        exact ⟨i, rfl, of_decide_eq_true hb.1, of_decide_eq_true hb.2, hq⟩
      · exact P.elim
    | _ => exact P.elim
theorem r_len1 (ok : Cok T X) (hM : ∀ c f, G.meth c 1 = some f → CalS X.prog X.w X.K X.mg X.base T (G.fn f) k c "__len__") (hr : Room k X.A) (tk : Takes X W) (hb : X.mg "len" = none) (ho : PE X o (rd T W (ev G mo))) (hg : Gl X "len" := by rfl)
    (hst : starEach [o] X.env = (false, eval o X.env) :: starEach [] X.env := by rfl) (hpl : (backTo pos (starEach [] X.env)).any (·.1) = false := by rfl) : PE X (.Call (.Name "len" p) [o] [] pos) (rd T W (ev G (.len1 mo))) := by
  constructor
  intro pins s σ H Q I h
  obtain ⟨n, H0, ρ, ts, S, P⟩ := h
  have h1 := rd_one (da := ev G mo) (f := fun ro e1 => len1S G ro e1) S P
  refine wpAny_Call_Name_kw (ld_blt I hg hb PySem.boot_len ?_ (by decide) (by decide))
  have ha : PA X [o] (tCons (rd T W (ev G mo)) tNil) := pa_cons ho pa_nil hst
  refine PyProof.Rows.callWith_builtin1 (thn (ha.run pos pins s σ H (fun vs H1 => ∃ v, vs = [v] ∧ ∃ H0' ρ' ra, ST T n H0' H1 σ ρ' ((v, ra) :: ts) ∧ Post T W n σ ts (len1S G ra ρ') (Wants T n σ ts Q)) I (rd_mono h1 fun v H1 q => ⟨v, rfl, q⟩)) fun us s1 ⟨vs, H1, I1, r1, v, ev_, H0', ρ', ra, S1, P1⟩ => ?_) hst hpl
  subst ev_
  obtain ⟨u, rfl, rv⟩ := vals1 r1
  unfold len1S at P1
  split at P1
  · rename_i c fs hsee
    split at P1
    · rename_i f0 hf0
      rcases (hM c f0 hf0).ex with no | ⟨j, np, fa, fd, ps, ek, F, me, bd, no⟩
      · rw [callS_no no] at P1
        exact P1.elim
      · subst ek
        obtain ⟨a, dx, vs0, rfl, ea, rf⟩ := (S1.see hsee).ins S1.sub
        obtain rfl : u = Value.ref a := rv
        obtain ⟨mA, O, _⟩ := ins_get I1.hok ea
        obtain ⟨od, J, _⟩ := O.look
        have P2 : Post T W n σ ts (callS G f0 [ra] ρ') (Wants T n σ ts fun v H2 => ∃ i : Int, v = .int i ∧ 0 ≤ i ∧ i ≤ 16000000 ∧ Q v H2) := by
          cases ec : callS G f0 [ra] ρ' with
          | no => rw [ec] at P1; exact P1.elim
          | ex x e => rw [ec] at P1; exact P1
          | ok r e =>
            rw [ec] at P1
            exact fun H0'' H2 v S2 => len_fin S2 P1
        have hsp := call_sp (vs := [V.ref a]) (rs := [ra]) no rfl S1 P2
        have hlen := SpF.len _ _ _ _ hsp
        have run := run_in1 (us := [.ref a]) (zs := [.ref a]) (kw := []) (vs := [.ref a]) F hr ok.gd (bd s1 _ I1.kIn (by simpa using hlen)) (passAt tk σ) I1 (.cons rfl .nil) hsp
        refine PySem.Calls.call_function_entry kind_len plain_len entry_len (args_len1 _) ?_
        unfold Builtin.«len»
        refine wpAny_bind (m := oneArg "len" _) (wpAny_pure ?_)
        have ty : PySem.W.typeIn X.K (.ref fa) = some (.type "function") := by
          have := me.fn
          unfold PySem.W.isFn at this
          simpa using this
        have hc : ∀ {Q' : Option Value → Shared → Prop}, wpAny (model X.prog X.w) X.A.in1 (call (.ref fa) [.ref a]) (fun v s' => Q' (some v) s') X.xe s1 → wpAny (model X.prog X.w) X.A.in1 (callSpecial? (.ref a) (Str.ofString "__len__")) Q' X.xe s1 := fun q => by
          unfold callSpecial? specialOf
          refine wpAny_bind (wpAny_bind (J.type.here ((PySem.W.looks_findIn I1.kIn me.at_).here ?_)))
          refine wpAny_holding ?_
          refine wpAny_bind ((PySem.W.bind_fn I1.kIn _ ty).here ?_)
          exact wpAny_bind (wpAny_mono q (fun v s' z => wpAny_pure z) fun _ _ z => z)
        refine wpAny_bind (hc (wpAny_mono run (fun u s2 ⟨v2, H2, I2, rv2, i, e1, i0, i1, q⟩ => ?_) fun _ _ z => z))
        subst e1
        obtain ⟨t, rfl⟩ := (show ∃ t, u = Value.int i t from rv2)
        refine wpAny_bind (wpAny_holding (wpAny_pure ?_))
        refine wpAny_bind (wpAny_letGo ?_)
        rw [if_neg (by omega)]
        rw [if_neg (by omega)]
        exact wpAny_bind (wpAny_mkInt (wpAny_pure ⟨_, rfl, .int i, H2, I2.tok _, ⟨_, rfl⟩, q⟩))
    · exact P1.elim
  · rename_i y hns hsee
    have P2 : Post T W n σ ts (bltS .len [ra] ρ') (Wants T n σ ts Q) := by
      unfold bltS sees
      rw [hsee]
      exact P1
    exact callR_blt (W := W) ok .len pins s1 σ H1 [v] [u] Q I1 r1 ⟨σ, n, H0', ρ', ts, [ra], rfl, S1, P2⟩
  · exact P1.elim
end
end Mi
end
section
set_option maxHeartbeats 4000000
namespace Mi
open PySem PySem.Spec PyProof.Rows L2
/-! ### a slot more, for a new instance -/
section
variable {T : Tb} {W : WX} {n : En} {σ : L2.St} {H0 H : Hp} {ρ : Env} {ts us : List Tmp} {Q : VK}
theorem snoc_lt {α : Type} {l : List α} {a : α} {i : Nat} (h : i < l.length) : (l ++ [a])[i]? = l[i]? := List.getElem?_append_left h
theorem snoc_at {α : Type} {l : List α} {a : α} : (l ++ [a])[l.length]? = some a := by simp
theorem snoc_get {α : Type} {l : List α} {a b : α} {i : Nat} (h : (l ++ [a])[i]? = some b) : (i < l.length ∧ l[i]? = some b) ∨ (i = l.length ∧ a = b) := by
  by_cases c : i < l.length
  · rw [snoc_lt c] at h
    exact .inl ⟨c, h⟩
  · have hl := lt_of_get h
    simp at hl
    have e : i = l.length := by omega
    subst e
    rw [snoc_at] at h
    cases h
    exact .inr ⟨rfl, rfl⟩
theorem ST.push {p : Addr} {o : Ob} (S : ST T n H0 H σ ρ ((.ref p, .fr o) :: ts)) : ST T n H0 H (σ ++ [some (.ref p)]) (ρ ++ [.ow o]) ((.ref p, .bo ρ.length) :: ts) := by
  obtain ⟨q, eq, hn, h0, r⟩ := S.temp _ (List.mem_cons_self ..)
  have eq : V.ref p = .ref q := eq
  cases eq
  have sl := S.len
  have nd := S.dtt
  rw [tmpL_cons_fr] at nd
  have own : ∀ {i q}, OwnAt (σ ++ [some (.ref p)]) (ρ ++ [.ow o]) i q → (i < ρ.length ∧ OwnAt σ ρ i q) ∨ (i = ρ.length ∧ q = p) := fun {i q} ⟨a, s, b, c⟩ => by
    rcases snoc_get b with ⟨h1, h2⟩ | ⟨h1, h2⟩
    · rw [snoc_lt (by omega)] at a
      exact .inl ⟨h1, a, s, h2, c⟩
    · subst h1
      rw [← sl, snoc_at] at a
      cases a
      exact .inr ⟨rfl, rfl⟩
  exact {
    sub := S.sub
    s0 := S.s0
    len := by simp [sl]
    slot := fun i s hi => by
      rcases snoc_get hi with ⟨h1, h2⟩ | ⟨h1, h2⟩
      · obtain ⟨x, hx, rx⟩ := S.slot i s h2
        exact ⟨x, by rw [snoc_lt (by omega)]; exact hx, rx⟩
      · subst h1
        subst h2
        exact ⟨_, by rw [← sl, snoc_at], p, rfl, hn, h0, r⟩
    temp := fun t ht => by
      rcases List.mem_cons.mp ht with rfl | ht
      · exact ⟨by rw [← sl, snoc_at], _, snoc_at, fun z => nomatch z⟩
      · have h := S.temp t (List.mem_cons_of_mem _ ht)
        obtain ⟨v, r⟩ := t
        cases r with
        | d x => exact h
        | fr o => exact h
        | bo i =>
          obtain ⟨a, s, b, c⟩ := h
          have il := lt_of_get b
          exact ⟨by rw [snoc_lt (by omega)]; exact a, s, by rw [snoc_lt il]; exact b, c⟩
    dist := fun i j q hi hj => by
      rcases own hi with ⟨i1, i2⟩ | ⟨i1, i2⟩ <;> rcases own hj with ⟨j1, j2⟩ | ⟨j1, j2⟩
      · exact S.dist i j q i2 j2
      · subst j2
        exact (S.dts q (by rw [tmpL_cons_fr]; exact List.mem_cons_self ..) i i2).elim
      · subst i2
        exact (S.dts q (by rw [tmpL_cons_fr]; exact List.mem_cons_self ..) j j2).elim
      · omega
    dtt := by rw [tmpL_cons_bo]; exact (List.nodup_cons.mp nd).2
    dts := fun q hq i hi => by
      rw [tmpL_cons_bo] at hq
      rcases own hi with ⟨i1, i2⟩ | ⟨i1, i2⟩
      · exact S.dts q (by rw [tmpL_cons_fr]; exact List.mem_cons_of_mem _ hq) i i2
      · subst i2
        exact (List.nodup_cons.mp nd).1 hq
    pak := fun q hq => by
      obtain ⟨a, o', b⟩ := S.pak q hq
      have il := lt_of_get b
      exact ⟨by rw [snoc_lt (by omega)]; exact a, o', by rw [snoc_lt il]; exact b⟩
    keep := S.keep
    dom := S.dom
    new := S.new }
theorem ST.pop {v : V} {o : Ob} (S : ST T n H0 H (σ ++ [some v]) (ρ ++ [.ow o]) ts) (nb : ∀ t ∈ ts, t.2 ≠ .bo ρ.length) : ST T n H0 H σ ρ ((v, .fr o) :: ts) := by
  have sl : σ.length = ρ.length := by have := S.len; simpa using this
  obtain ⟨y, hy, p, ep, hn, h0, r⟩ := S.slot ρ.length (.ow o) snoc_at
  rw [← sl, snoc_at] at hy
  cases hy
  cases ep
  have up : ∀ {i q}, OwnAt σ ρ i q → i < ρ.length ∧ OwnAt (σ ++ [some (.ref p)]) (ρ ++ [.ow o]) i q := fun {i q} ⟨a, s, b, c⟩ => by
    have il := lt_of_get b
    exact ⟨il, by rw [snoc_lt (by omega)]; exact a, s, by rw [snoc_lt il]; exact b, c⟩
  have top : OwnAt (σ ++ [some (.ref p)]) (ρ ++ [.ow o]) ρ.length p := ⟨by rw [← sl, snoc_at], _, snoc_at, rfl⟩
  exact {
    sub := S.sub
    s0 := S.s0
    len := sl
    slot := fun i s hi => by
      have il := lt_of_get hi
      obtain ⟨x, hx, rx⟩ := S.slot i s (by rw [snoc_lt il]; exact hi)
      rw [snoc_lt (by omega)] at hx
      exact ⟨x, hx, rx⟩
    temp := fun t ht => by
      rcases List.mem_cons.mp ht with rfl | ht
      · exact ⟨p, rfl, hn, h0, r⟩
      · have h := S.temp t ht
        have nb := nb t ht
        obtain ⟨v, r⟩ := t
        cases r with
        | d x => exact h
        | fr o => exact h
        | bo i =>
          obtain ⟨a, s, b, c⟩ := h
          rcases snoc_get b with ⟨h1, h2⟩ | ⟨h1, h2⟩
          · rw [snoc_lt (by omega)] at a
            exact ⟨a, s, h2, c⟩
          · subst h1
            exact (nb rfl).elim
    dist := fun i j q hi hj => S.dist i j q (up hi).2 (up hj).2
    dtt := by
      rw [tmpL_cons_fr]
      exact List.nodup_cons.mpr ⟨fun h => S.dts p h _ top, S.dtt⟩
    dts := fun q hq i hi => by
      rw [tmpL_cons_fr] at hq
      obtain ⟨il, ho⟩ := up hi
      rcases List.mem_cons.mp hq with rfl | hq
      · have := S.dist i _ q ho top
        omega
      · exact S.dts q hq i ho
    pak := fun q hq => by
      obtain ⟨a, o', b⟩ := S.pak q hq
      rcases snoc_get b with ⟨h1, h2⟩ | ⟨h1, h2⟩
      · rw [snoc_lt (by omega)] at a
        exact ⟨a, o', h2⟩
      · cases h2
    keep := S.keep
    dom := S.dom
    new := S.new }
/-- the slots that results name are there -/
theorem bo_there {rs : List Rs} {vs : List V} (hl : vs.length = rs.length) (S : ST T n H0 H σ ρ (vs.zip rs ++ ts)) : ∀ i, .bo i ∈ rs → i < ρ.length := fun i h => by
  obtain ⟨j, hj⟩ := List.getElem?_of_mem h
  have jl := lt_of_get hj
  have hv : vs[j]? = some (vs[j]'(by omega)) := List.getElem?_eq_getElem _
  have hz : (vs.zip rs)[j]? = some (vs[j]'(by omega), .bo i) := by
    rw [List.getElem?_zip_eq_some]
    exact ⟨hv, hj⟩
  obtain ⟨_, s, b, _⟩ := S.temp _ (List.mem_append_left _ (List.mem_of_getElem? hz))
  exact lt_of_get b
theorem passS_bo {e : Env} {i : Nat} : passS e (.bo i) = (match e[i]? with
    | some (.sh x) => some (.sh x)
    | some (.ow o) => some (.pa o)
    | some (.pa o) => some (.pa o)
    | _ => none) := rfl
theorem passS_snoc {s : Sl} : ∀ {r : Rs}, (∀ i, r = .bo i → i < ρ.length) → passS (ρ ++ [s]) r = passS ρ r
  | .d _, _ => rfl
  | .fr _, _ => rfl
  | .bo i, h => by
    rw [passS_bo, passS_bo, snoc_lt (h i rfl)]
theorem passAll_snoc {s : Sl} : ∀ {rs : List Rs}, (∀ i, Rs.bo i ∈ rs → i < ρ.length) → passAll (ρ ++ [s]) rs = passAll ρ rs
  | [], _ => rfl
  | r :: rs, h => by
    unfold passAll
    rw [passS_snoc fun i e => h i (by rw [e]; exact List.mem_cons_self ..), passAll_snoc fun i e => h i (List.mem_cons_of_mem _ e)]
theorem backS_snoc {s t : Sl} {r : Rs} (h : ∀ i, r = .bo i → i < ρ.length) : backS (ρ ++ [s]) r t = backS ρ r t ++ [s] := by
  cases r with
  | d _ => cases t <;> rfl
  | fr _ => cases t <;> rfl
  | bo i =>
    have hi := h i rfl
    cases t with
    | pa o =>
      show (match (ρ ++ [s])[i]? with
        | some (.ow _) => (ρ ++ [s]).set i (.ow o)
        | some (.pa _) => (ρ ++ [s]).set i (.pa o)
        | _ => ρ ++ [s]) = (match ρ[i]? with
        | some (.ow _) => ρ.set i (.ow o)
        | some (.pa _) => ρ.set i (.pa o)
        | _ => ρ) ++ [s]
      rw [snoc_lt hi]
      cases hh : ρ[i]? with
      | none => rfl
      | some s0 => cases s0 <;> simp [List.set_append_left _ _ hi]
    | _ => rfl
theorem backAll_snoc {s : Sl} : ∀ {rs : List Rs} {l : List Sl} {ρ : Env}, (∀ i, Rs.bo i ∈ rs → i < ρ.length) → backAll (ρ ++ [s]) rs l = backAll ρ rs l ++ [s]
  | [], l, ρ, _ => by cases l <;> rfl
  | r :: rs, [], ρ, _ => rfl
  | r :: rs, t :: l, ρ, h => by
    show backAll (backS (ρ ++ [s]) r t) rs l = backAll (backS ρ r t) rs l ++ [s]
    rw [backS_snoc fun i e => h i (by rw [e]; exact List.mem_cons_self ..)]
    exact backAll_snoc fun i e => by rw [backS_len]; exact h i (List.mem_cons_of_mem _ e)
theorem lent_lt {L : Nat} : ∀ {rs : List Rs}, (∀ i, Rs.bo i ∈ rs → i < L) → ∀ i ∈ lent rs, i < L
  | [], _, i, h => by cases h
  | .d _ :: rs, hh, i, h => lent_lt (rs := rs) (fun j e => hh j (List.mem_cons_of_mem _ e)) i h
  | .fr _ :: rs, hh, i, h => lent_lt (rs := rs) (fun j e => hh j (List.mem_cons_of_mem _ e)) i h
  | .bo k :: rs, hh, i, h => by
    rcases List.mem_cons.mp h with rfl | h
    · exact hh i (List.mem_cons_self ..)
    · exact lent_lt (rs := rs) (fun j e => hh j (List.mem_cons_of_mem _ e)) i h
theorem back_top {o : Ob} {s : Sl} : ∃ o', backS (ρ ++ [.ow o]) (.bo ρ.length) s = ρ ++ [.ow o'] ∧ (∀ o2, s = .pa o2 → o' = o2) := by
  cases s with
  | pa o2 =>
    refine ⟨o2, ?_, fun o3 e => by cases e; rfl⟩
    show (match (ρ ++ [Sl.ow o])[ρ.length]? with
        | some (.ow _) => (ρ ++ [Sl.ow o]).set ρ.length (.ow o2)
        | some (.pa _) => (ρ ++ [Sl.ow o]).set ρ.length (.pa o2)
        | _ => ρ ++ [Sl.ow o]) = _
    rw [snoc_at]
    simp
  | un => exact ⟨o, rfl, fun _ e => nomatch e⟩
  | sh _ => exact ⟨o, rfl, fun _ e => nomatch e⟩
  | ow _ => exact ⟨o, rfl, fun _ e => nomatch e⟩
/-- what the making of an instance asks of __init__ -/
theorem make_sp {G : Gs} {c f np : Nat} {rs : List Rs} {vs : List V} (hn : ∀ l : List Sl, l.length ≠ np → G.fn f l = .no) (hi : G.init c = some f) (hl : vs.length = rs.length) (S : ST T n H0 H σ ρ (vs.zip rs ++ ts)) (nbt : ∀ t ∈ ts, ∀ i, t.2 = .bo i → i < ρ.length)
    (P : Post T W n σ ts (makeS G c rs ρ) (Wants T n σ ts Q)) (x dx : Addr) (hx : H x = none) (hdx : H dx = none) (ne : dx ≠ x) :
    SpF T np (G.fn f) (.ref x :: vs) (upd (upd H dx (.own x)) x (.ins (T.cA c) dx [])) (fun v H2 => v = .non ∧ Q (.ref x) H2) (WE W σ) := by
  have same : Same H (upd (upd H dx (.own x)) x (.ins (T.cA c) dx [])) := fun b o hb => by
    have b1 : b ≠ x := fun e => by rw [e, hx] at hb; cases hb
    have b2 : b ≠ dx := fun e => by rw [e, hdx] at hb; cases hb
    rw [upd_ne b1, upd_ne b2]
    exact hb
  have S1 := (S.alloc (o := .ins c []) same hx ⟨dx, [], upd_same, .nil⟩).push
  have bl := bo_there hl S
  have nbt' : ∀ t ∈ ts, t.2 ≠ .bo ρ.length := fun t ht e => by
    have := nbt t ht _ e
    omega
  have sl := S.len
  have P1 : Post T (fun c d _ H => W c d σ H) n (σ ++ [some (.ref x)]) ts (callS G f (.bo ρ.length :: rs) (ρ ++ [.ow (.ins c [])])) (Wants T n (σ ++ [some (.ref x)]) ts fun v H2 => v = .non ∧ Q (.ref x) H2) := by
    unfold makeS at P
    rw [hi] at P
    have P : Post T W n σ ts (if noTwice (lent rs) then
      match passAll ρ rs with
      | some l => match G.fn f (.pa (.ins c []) :: l) with
        | .ok (.d .non) (.pa (.ins c' fs) :: l') => if c' == c then .ok (.fr (.ins c fs)) (backAll ρ rs l') else .no
        | .ex x (_ :: l') => .ex x (backAll ρ rs l')
        | _ => .no
      | none => .no
    else .no) (Wants T n σ ts Q) := P
    split at P
    · rename_i ht
      have ht2 : noTwice (lent (Rs.bo ρ.length :: rs)) = true := by
        show (!(lent rs).contains ρ.length && noTwice (lent rs)) = true
        rw [ht, Bool.and_true]
        have : ρ.length ∉ lent rs := fun h => Nat.lt_irrefl _ (lent_lt bl _ h)
        simpa using this
      have pt : passS (ρ ++ [Sl.ow (.ins c [])]) (.bo ρ.length) = some (.pa (.ins c [])) := by
        rw [passS_bo, snoc_at]
      unfold callS
      rw [if_pos ht2]
      cases ep : passAll ρ rs with
      | none => rw [ep] at P; exact P.elim
      | some l =>
        rw [ep] at P
        have e1 : passAll (ρ ++ [Sl.ow (.ins c [])]) (Rs.bo ρ.length :: rs) = some (.pa (.ins c []) :: l) := by
          unfold passAll
          rw [pt, passAll_snoc bl, ep]
        rw [e1]
        have P : Post T W n σ ts (match G.fn f (.pa (.ins c []) :: l) with
        | .ok (.d .non) (.pa (.ins c' fs) :: l') => if c' == c then .ok (.fr (.ins c fs)) (backAll ρ rs l') else .no
        | .ex x (_ :: l') => .ex x (backAll ρ rs l')
        | _ => .no) (Wants T n σ ts Q) := P
        show Post T (fun c d _ H => W c d σ H) n (σ ++ [some (.ref x)]) ts (match G.fn f (.pa (.ins c []) :: l) with
          | .ok (.d x) l' => Out.ok (Rs.d x) (backAll (ρ ++ [Sl.ow (.ins c [])]) (Rs.bo ρ.length :: rs) l')
          | .ok (.fr o) l' => .ok (.fr o) (backAll (ρ ++ [Sl.ow (.ins c [])]) (Rs.bo ρ.length :: rs) l')
          | .ok (.bo _) _ => .no
          | .ex x l' => .ex x (backAll (ρ ++ [Sl.ow (.ins c [])]) (Rs.bo ρ.length :: rs) l')
          | .no => .no) _
        split at P
        · rename_i c' fs l' ef
          rw [ef]
          split at P
          · rename_i hc
            have hc : c' = c := by simpa using hc
            subst hc
            show Post T (fun c d _ H => W c d σ H) n (σ ++ [some (.ref x)]) ts (Out.ok (Rs.d .non) (backAll (backS (ρ ++ [Sl.ow (.ins c' [])]) (Rs.bo ρ.length) (.pa (.ins c' fs))) rs l')) _
            obtain ⟨o', eb, eo⟩ := back_top (ρ := ρ) (o := .ins c' []) (s := .pa (.ins c' fs))
            rw [eo _ rfl] at eb
            rw [eb, backAll_snoc bl]
            intro H0' H' v S2
            have rv : Rp T H0' v .non := S2.temp _ (List.mem_cons_self ..)
            cases rv
            exact ⟨rfl, P H0' H' _ (ST.pop S2.drop (by rw [backAll_len]; exact nbt'))⟩
          · exact P.elim
        · rename_i y s0 l' ef
          rw [ef]
          show Post T (fun c d _ H => W c d σ H) n (σ ++ [some (.ref x)]) ts (Out.ex y (backAll (backS (ρ ++ [Sl.ow (.ins c [])]) (Rs.bo ρ.length) s0) rs l')) _
          obtain ⟨o', eb, eo⟩ := back_top (ρ := ρ) (o := .ins c []) (s := s0)
          rw [eb, backAll_snoc bl]
          exact fun dd H0' H' S2 xr => P dd H0' H' (ST.pop S2 (by rw [backAll_len]; exact nbt')).drop xr
        · exact P.elim
    · exact P.elim
  exact call_sp (W := fun c d _ H => W c d σ H) (rs := .bo ρ.length :: rs) (vs := .ref x :: vs) hn (by simp [hl]) (S1.perm (by simp)) P1
end
end Mi
end
section
set_option maxHeartbeats 4000000
/-! the elements of a tuple backwards -/
namespace HT
open PySem PySem.Spec PyProof.Rows L2
section
variable {prog : Program} {w : World} {A : Around} {E : Value → Shared → Prop} {s : Shared}
theorem adjust_rev (n : Nat) : Builtin.Slice.sliceAdjust none none (-1) (n : Int) = ((n : Int) - 1, -1) := rfl
theorem places_rev (n : Nat) : Builtin.Slice.slicePlaces ((n : Int) - 1) (-1) (-1) = n := by
  unfold Builtin.Slice.slicePlaces
  rw [if_neg (by decide)]
  by_cases h : 0 < n
  · rw [if_pos (by omega)]
    have : ((n : Int) - 1 - -1 - 1) / (- -1) = (n : Int) - 1 := by
      rw [show (- -1 : Int) = 1 from rfl, Int.ediv_one]
      omega
    rw [this]
    omega
  · rw [if_neg (by omega)]
    omega
theorem sliceApplied_rev {sl : Addr} {vs : Value} {n : Nat} {Q : Int × Int × Nat → Shared → Prop} (hs : s.heap.IsSliceOf sl .none .none vs) (ps : IsPart vs (some (-1)))
    (h : Q ((n : Int) - 1, -1, n) s) : wpAny (model prog w) A (Builtin.Slice.sliceApplied (.ref sl) (pure (n : Int))) Q E s := by
  obtain ⟨os, hos, hcs, hds⟩ := id hs
  unfold Builtin.Slice.sliceApplied Builtin.Slice.sliceFields
  refine wpAny_bind (wpAny_bind (wpAny_field hos hds (x := .none) rfl (wpAny_bind (wpAny_field hos hds (x := .none) rfl (wpAny_bind (wpAny_field hos hds (x := vs) rfl (wpAny_pure ?_)))))))
  refine wpAny_bind (slicePart_ ps ?_)
  show wpAny _ _ (if ((-1 : Int) == 0) = true then _ else _) _ _ s
  rw [if_neg (by decide)]
  refine wpAny_bind (slicePart_none (wpAny_bind (slicePart_none (wpAny_bind (wpAny_pure ?_)))))
  show wpAny _ _ (match Builtin.Slice.sliceAdjust none none (-1) (n : Int) with | (lo, hi) => pure (lo, (-1 : Int), Builtin.Slice.slicePlaces lo hi (-1))) _ _ s
  rw [adjust_rev n]
  show wpAny _ _ (pure ((n : Int) - 1, (-1 : Int), Builtin.Slice.slicePlaces ((n : Int) - 1) (-1) (-1))) _ _ s
  rw [places_rev]
  exact wpAny_pure h
theorem filterMap_same {α β : Type} {f g : α → Option β} : ∀ {l : List α}, (∀ x ∈ l, f x = g x) → l.filterMap f = l.filterMap g
  | [], _ => rfl
  | x :: l, h => by
    have h1 := h x (List.mem_cons_self ..)
    have h2 := filterMap_same (f := f) (g := g) fun y hy => h y (List.mem_cons_of_mem _ hy)
    rw [List.filterMap_cons, List.filterMap_cons, h1, h2]
theorem pick_rev (xs : Array Value) : ((List.range xs.size).filterMap fun (m : Nat) => xs[(((xs.size : Nat) : Int) - 1 + (m : Int) * (-1)).toNat]?).toArray = xs.toList.reverse.toArray := by
  have e : ∀ m ∈ List.range xs.size, xs[(((xs.size : Nat) : Int) - 1 + (m : Int) * (-1)).toNat]? = xs.toList.reverse.toArray[((0 : Nat) : Int).toNat + m]? := by
    intro m hm
    have hm := List.mem_range.mp hm
    have : (((xs.size : Nat) : Int) - 1 + (m : Int) * (-1)).toNat = xs.size - 1 - m := by omega
    rw [this]
    rw [show ((0 : Nat) : Int).toNat + m = m by omega]
    have e1 : xs.toList.reverse.toArray[m]? = xs.toList.reverse[m]? := by simp
    rw [e1, List.getElem?_reverse (by simpa using hm)]
    simp
  have e2 := pick_gen xs.toList.reverse.toArray 0 xs.size
  have e3 : (List.range xs.size).filterMap (fun (m : Nat) => xs[(((xs.size : Nat) : Int) - 1 + (m : Int) * (-1)).toNat]?) = (List.range xs.size).filterMap (fun (m : Nat) => xs.toList.reverse.toArray[(((0 : Nat) : Int) + (m : Int) * 1).toNat]?) := by
    refine filterMap_same fun m hm => ?_
    rw [e m hm]
    rw [show ((0 : Nat) : Int).toNat + m = (((0 : Nat) : Int) + (m : Int) * 1).toNat by omega]
  rw [e3, e2, List.drop_zero]
  rw [List.take_of_length_le (by simp)]
theorem getItem_tuple_rev {t sl : Addr} {items : Array Value} {vs : Value} {Q : Value → Shared → Prop} (ht : IsTup s.heap t items) (hs : s.heap.IsSliceOf sl .none .none vs) (ps : IsPart vs (some (-1)))
    (h : Q (.ref s.heap.objs.size) { s with heap := s.heap.push { cls := .type "tuple", data := .seq items.toList.reverse.toArray } })
    (hsz : items.size ≤ sizeLine) : wpAny (model prog w) A (getItem (.ref t) (.ref sl)) Q E s := by
  have htake : sizeOk (.seq items.toList.reverse.toArray) := by
    show items.toList.reverse.toArray.size ≤ sizeLine
    simpa using hsz
  obtain ⟨os, hos, hcs, hds⟩ := id hs
  have hTs : s.TypeIs (.ref sl) "slice" := ⟨os, hos, hcs⟩
  unfold getItem
  try with_reducible refine wpAny_holding ?_
  first | refine wpAny_bind (wpAny_pure ?_) | skip
  refine wpAny_bind (wpAny_sequenceKey ht.typeIs (by decide) ?_)
  refine wpAny_bind (wpAny_callSpecial?_slot (name := Str.ofString "__getitem__") ht.typeIs PyProof.Rows.slot_tuple_getitem
    (wpAny_call_entry PyProof.Rows.slot_tuple_getitem ht.typeIs entry_tuple_getitem ?_ (args_tuple_getitem _ _)))
  show wpAny _ _ (Builtin.Tuple.tupleItemsOf (.ref t) >>= _) _ _ s
  refine wpAny_bind (tupleItemsOf_ ht ?_)
  refine wpAny_bind (wpAny_typeOf hTs ?_)
  rw [if_pos (by decide)]
  refine wpAny_bind (sliceApplied_rev hs ps ?_)
  have hno : ¬ ((((items.size : Nat) : Int) - 1 == 0 && (-1 : Int) == 1 && items.size == items.size) = true) := by
    intro q
    rw [Bool.and_eq_true, Bool.and_eq_true] at q
    exact absurd q.1.2 (by decide)
  show wpAny _ _ (if (((items.size : Nat) : Int) - 1 == 0 && (-1 : Int) == 1 && items.size == items.size) = true then _ else _) _ _ s
  rw [if_neg hno, pick_rev]
  first
    | exact wpAny_bind (m := Builtin.Tuple.tupleExact _) (wpAny_newObj_type (wpAny_pure ⟨_, rfl, wpAny_pure h⟩) htake)
    | exact wpAny_bind (m := Builtin.Tuple.tupleExact _) (wpAny_newObj_type (wpAny_bind (wpAny_pure (wpAny_pure ⟨_, rfl, wpAny_pure h⟩))) htake)
    | exact wpAny_bind (wpAny_bind (m := Builtin.Tuple.tupleExact _) (wpAny_newObj_type (wpAny_pure (wpAny_pure ⟨_, rfl, wpAny_pure h⟩)) htake))
    | exact wpAny_bind (wpAny_bind (m := Builtin.Tuple.tupleExact _) (wpAny_newObj_type (wpAny_pure ⟨_, rfl, wpAny_pure h⟩) htake))
end
end HT
namespace L2
open PySem PySem.Spec PyProof.Rows
section
variable {X : Cx}
def tRevA (K : PySem.W.Frag) (te : TE) : TE := fun σ H Q => te σ H fun x H1 => (∃ a xs, x = .ref a ∧ SqL K H1 a xs ∧ ∀ p, H1 p = none → Q (.ref p) (upd H1 p (.lst xs.reverse))) ∨ (∃ a xs, x = .ref a ∧ SqT K H1 a xs ∧ ∀ p, H1 p = none → Q (.ref p) (upd H1 p (.tup xs.reverse)))
theorem pe_revA {e : Expr} {te : TE} {k : Nat} {p1 p2 p3 pos : Pos} (he : PE X e te) : PE X (.Subscript e (.Slice none none (some (.UnaryOp .USub (.Constant (.int 1) k p1) p2)) p3) pos) (tRevA X.K te) := by
  refine ⟨fun pins s σ H Q I h => ?_⟩
  refine Subscript_ (thn (he.run pins s σ H _ I h) fun v s1 ⟨x, H1, I1, r1, q1⟩ => ?_)
  have hst : PO X (some (.UnaryOp .USub (.Constant (.int 1) k p1) p2)) (tPart (tUn (rU fun i => .int (-i)) (tC (.int 1)))) := po_some (pe_un un_neg pe_int)
  refine wpAny_Slice (thn (po_none.run pins s1 σ H1 (fun o H2 => o = none ∧ H2 = H1) I1 ⟨rfl, rfl⟩) fun vl s2 ⟨l, H2, I2, pl, el, e2⟩ => ?_)
  subst el e2
  refine thn (po_none.run pins s2 σ H2 (fun o H3 => o = none ∧ H3 = H2) I2 ⟨rfl, rfl⟩) fun vu s3 ⟨u, H3, I3, pu, eu, e3⟩ => ?_
  subst eu e3
  refine thn (hst.run pins s3 σ H3 (fun o H4 => o = some (-1) ∧ H4 = H3) I3 ⟨1, rfl, -1, rfl, rfl, rfl⟩) fun vs s4 ⟨o, H4, I4, ps, eo, e4⟩ => ?_
  subst eo e4
  have I5 : Inv X pins σ H4 { s4 with heap := s4.heap.push { cls := .type "slice", data := .fields #[vl, vu, vs] } } := I4.kept (t' := s4.toks) fun b ob q => Heap.get?_push_of_some _ q
  rcases q1 with ⟨a, xs, ex, hx, q⟩ | ⟨a, xs, ex, hx, q⟩
  · subst ex
    cases r1
    obtain ⟨its, r, ht, hz⟩ := I5.list hx
    have hlen := r.length
    show wpAny (model X.prog X.w) X.A (subscriptTail e (.Slice none none (some (.UnaryOp .USub (.Constant (.int 1) k p1) p2)) p3) (.ref a) (.ref s4.heap.objs.size)) (EP X pins σ Q) X.xe { s4 with heap := s4.heap.push { cls := .type "slice", data := .fields #[vl, vu, vs] } }
    refine tail_any (ops := [.ref a, .ref s4.heap.objs.size]) ht.isList.typeIs (PySem.slot_list_getitem.lookup) ?_ (by with_unfolding_all rfl)
    refine wpAny_getItem_list_slice ht.isList (Heap.IsSliceOf.new _ vl vu vs) pl pu ps (by decide) ?_ (by rw [List.size_toArray]; omega)
    rw [PySem.W.krv_pick]
    refine ⟨.ref _, _, I5.laid (t' := s4.toks) (o := .lst xs.reverse) (fun b ob q => Heap.get?_push_of_some _ q) (Nat.le_refl _) ?_, rfl, q _ (I5.hok.fresh (Nat.le_refl _))⟩
    exact ⟨by rw [List.length_reverse]; exact hz, _, 0, r.reverse, Heap.get?_push_size _ rfl⟩
  · subst ex
    cases r1
    cases pl
    cases pu
    obtain ⟨its, r, ht, hz⟩ := I5.tuple hx
    have hlen := r.length
    show wpAny (model X.prog X.w) X.A (subscriptTail e (.Slice none none (some (.UnaryOp .USub (.Constant (.int 1) k p1) p2)) p3) (.ref a) (.ref s4.heap.objs.size)) (EP X pins σ Q) X.xe { s4 with heap := s4.heap.push { cls := .type "slice", data := .fields #[.none, .none, vs] } }
    refine tail_any (ops := [.ref a, .ref s4.heap.objs.size]) ht.typeIs (PyProof.Rows.slot_tuple_getitem.lookup) ?_ (by with_unfolding_all rfl)
    refine HT.getItem_tuple_rev ht (Heap.IsSliceOf.new _ .none .none vs) ps ?_ (by rw [List.size_toArray]; omega)
    refine ⟨.ref _, _, I5.laid (t' := s4.toks) (o := .tup xs.reverse) (fun b ob q => Heap.get?_push_of_some _ q) (Nat.le_refl _) ?_, rfl, q _ (I5.hok.fresh (Nat.le_refl _))⟩
    exact ⟨by rw [List.length_reverse]; exact hz, _, r.reverse, IsTup.new _ _⟩
end
end L2
end
section
set_option maxHeartbeats 4000000
namespace Mi
open PySem PySem.Spec PyProof.Rows L2
/-! ### a class that is called -/
structure ClsK (P : Program) (w : World) (K : PySem.W.Frag) (mg : Str → Option Value) (base : Heap) (T : Tb) (F : Env → Out Rs) (k c np : Nat) (x : Str) : Prop where
  at_ : mg x = some (.ref (T.cA c))
  ex : ∃ fa, Mk K (T.cA c) fa ∧ ((∀ l, F l = .no) ∨ ∃ j fd ps, k = j + 1 ∧ FnG P w K mg base j fa fd ps (SpF T np F) ∧ ∀ (s : Shared) (us : List Value), K.In s.heap → us.length = np → BindsTo s fd ⟨us, []⟩ (ps.zip us))
  no : ∀ l : List Sl, l.length ≠ np → F l = .no
section
variable {T : Tb} {W : WX} {X : Cx} {G : Gs} {n : En} {σ : L2.St} {H0 H : Hp} {ρ : Env} {ts us : List Tmp} {Q : VK}
theorem ClsK.nm {k c f m : Nat} {x : Str} (h : ClsK X.prog X.w X.K X.mg X.base T (G.fn f) k c (m + 1) x) (hi : G.init c = some f) (hr : Room k X.A) (gd : X.A.guards = some []) (tk : Takes X W) : Nm X T W x m [] (makeS G c) := by
  obtain ⟨fa, M, q⟩ := h.ex
  refine ⟨.ref (T.cA c), fun σ vs H Q => ∀ x dx, H x = none → H dx = none → dx ≠ x → SpF T (m + 1) (G.fn f) (.ref x :: vs) (upd (upd H dx (.own x)) x (.ins (T.cA c) dx [])) (fun v H2 => v = .non ∧ Q (.ref x) H2) (WE W σ), h.at_, M.kp, ?_, ?_⟩
  · intro pins s σ H Q us ws vs zs I r rz l1 l2 t
    cases zs with
    | cons _ _ => cases l2
    | nil =>
      cases rz
      rw [List.append_nil] at t
      rcases q with no | ⟨j, fd, ps, ek, F, bd⟩
      · have f1 : H (s.heap.objs.size + 1) = none := I.hok.fresh (Nat.le_succ _)
        have f2 : H s.heap.objs.size = none := I.hok.fresh (Nat.le_refl _)
        obtain ⟨_, H0, ls, _, _, _, P⟩ := t _ _ f1 f2 (Nat.ne_of_lt (Nat.lt_succ_self _))
        rw [no] at P
        exact P.elim
      · subst ek
        exact make_g M F hr gd (fun s' x kk => bd s' (.ref x :: us) kk (by have := r.length; simp; omega)) (passAt tk σ) I r t
  · intro σ n H0 H ρ ts rs vs Q hl S P x dx hx hdx ne
    refine make_sp h.no hi hl S (fun t ht i e => ?_) P x dx hx hdx ne
    have q := S.temp t (List.mem_append_right _ ht)
    obtain ⟨v, r⟩ := t
    have e : r = .bo i := e
    subst e
    obtain ⟨_, s, b, _⟩ := q
    exact lt_of_get b
/-! ### the module's constants -/
theorem r_gint {x : Str} {i : Int} {pos : Pos} (hm : ∃ t, X.mg x = some (.int i t)) (hg : Gl X x := by rfl) (hd : (x == ("__debug__" : Str)) = false := by decide) : PE X (.Name x pos) (rd T W (ev G (.cst (.int i)))) := by
  obtain ⟨t, hm⟩ := hm
  exact r_c (pe_glob (v := .int i) hg hm ⟨t, rfl⟩ hd) fun _ => .int i
theorem r_gref {x : Str} {a : Addr} {d : D} {pos : Pos} (hm : X.mg x = some (.ref a)) (r : ∀ H0, Rp T H0 (.ref a) d) (hg : Gl X x := by rfl) (hd : (x == ("__debug__" : Str)) = false := by decide) : PE X (.Name x pos) (rd T W (ev G (.cst d))) :=
  r_c (pe_glob (v := .ref a) hg hm rfl hd) r
/-! ### xs[::-1] -/
theorem r_rev (ok : Cok T X) {e : Expr} {m : MExp} {k : Nat} {p1 p2 p3 pos : Pos} (he : PE X e (rd T W (ev G m))) : PE X (.Subscript e (.Slice none none (some (.UnaryOp .USub (.Constant (.int 1) k p1) p2)) p3) pos) (rd T W (ev G (.rev m))) := by
  refine pe_imp (pe_revA he) fun σ H Q ⟨n, H0, ρ, ts, S, P⟩ => ?_
  have P : Post T W n σ ts ((ev G m ρ).bind fun ra e1 => sees1 revD ra e1) (Wants T n σ ts Q) := P
  refine rd_mono (rd_one S P) fun v H1 ⟨H0', ρ', ra, S1, P1⟩ => ?_
  obtain ⟨σ', n', H0'', ρ'', ts', a, r, S2, va, ef, P2⟩ := One.sees (W := W) (T := T) ⟨σ, n, H0', ρ', ts, ra, S1, P1⟩
  unfold revD at ef
  split at ef
  · rename_i xs
    cases ef
    obtain ⟨p, vs, rfl, h1, r1⟩ := va.lst S2.sub
    exact .inl ⟨p, vs, rfl, .of h1, fun q hq => Wants.fresh P2 S2 (Same.new hq) hq ⟨_, upd_same, r1.reverse⟩⟩
  · rename_i xs
    cases ef
    obtain ⟨p, vs, rfl, h1, r1⟩ := va.tup
    have hK := ok.hK
    rw [← hK] at h1
    refine .inr ⟨p, vs, rfl, Same.sqT S2.sub h1, fun q hq => ?_⟩
    refine P2 (upd H0'' q (.tup vs.reverse)) _ _ (ST.addD ((S2.grow (Same.new hq)).still upd_same (S2.still_free hq) (S2.entry_free hq) (fun i ho => ?_) (fun ht => ?_)) ?_)
    · obtain ⟨w, hw, _⟩ := S2.own_there ho
      rw [hq] at hw
      cases hw
    · obtain ⟨w, hw, _⟩ := S2.tmp_there ht
      rw [hq] at hw
      cases hw
    · exact .tup (.inl (.inl upd_same)) (r1.reverse.mono (Same.new (S2.still_free hq)))
  · cases ef
/-! ### the first place of a text -/
theorem findT_is {x : Tx} : ∀ {l : List Tx} {k j : Nat}, findT x l k = some j → ∃ m, j = k + m ∧ l[m]? = some x ∧ ∀ i, i < m → l[i]? ≠ some x
  | [], k, j, h => by cases h
  | y :: l, k, j, h => by
    unfold findT at h
    split at h
    · rename_i hy
      cases h
      have hy : y = x := by simpa using hy
      subst hy
      exact ⟨0, rfl, rfl, fun i hi => absurd hi (Nat.not_lt_zero _)⟩
    · rename_i hy
      obtain ⟨m, e, a, b⟩ := findT_is h
      refine ⟨m + 1, by omega, by simpa using a, fun i hi => ?_⟩
      cases i with
      | zero => intro z; have z : y = x := by simpa using z
                exact hy (by simpa using z)
      | succ i => simpa using b i (by omega)
theorem tx_inj {a b : Tx} (h : (⟨a.toArray⟩ : Str) = ⟨b.toArray⟩) : a = b := by
  have := congrArg (fun s : Str => s.cps.toList) h
  simpa using this
/-- a method that changes nothing -/
theorem met_args {m : Met} {ms : List MExp} {x : V} {ro : Rs} (hm : isMut m = false) (S : ST T n H0 H σ ρ ((x, ro) :: ts)) (P : Post T W n σ ts ((evs G ms ρ).bind fun rs e2 => metS m ro rs e2) (Wants T n σ ts Q)) :
    rdA T W (evs G ms) σ H fun vs H2 => ∃ H0' ρ' o xs r, (∃ e, ro.see e = some o) ∧ Rv T H0' H2 x o ∧ Rps T H0' vs xs ∧ ST T n H0' H2 σ ρ' ts ∧ metD m o xs = some r ∧ ∀ H0' H', Wants T n σ ts Q r ρ' H0' H' := by
  refine ⟨n, H0, ρ, _, S, ?_⟩
  cases ea : evs G ms ρ with
  | no => rw [ea] at P; exact P.elim
  | ex x e => rw [ea] at P; exact fun dd h0 h1 s => P dd h0 h1 s.drop
  | ok rs e1 =>
    rw [ea] at P
    intro H0' H1 vs hl S1
    have P : Post T W n σ ts (metS m ro rs e1) (Wants T n σ ts Q) := P
    unfold metS at P
    rw [hm, if_neg Bool.false_ne_true] at P
    cases eh : holds rs e1 with
    | none => rw [eh] at P; exact P.elim
    | some q =>
      obtain ⟨xs, e2⟩ := q
      rw [eh] at P
      obtain ⟨H0'', S2, r2⟩ := ST.holdsR hl S1 eh
      have P : Post T W n σ ts (match ro.see e2 with
        | some o => Out.of e2 (metD m o xs)
        | none => .no) (Wants T n σ ts Q) := P
      cases es : ro.see e2 with
      | none => rw [es] at P; exact P.elim
      | some o =>
        rw [es] at P
        have P : Post T W n σ ts (Out.of e2 (metD m o xs)) (Wants T n σ ts Q) := P
        cases em : metD m o xs with
        | none => rw [em] at P; exact P.elim
        | some r =>
          rw [em] at P
          exact ⟨H0'', e2, o, xs, r, ⟨e2, es⟩, S2.see es, r2, S2.drop, em, P⟩
theorem strs_map : ∀ (l : List Tx), strsOf (l.map .str) = some l
  | [] => rfl
  | s :: l => by
    show (match strsOf (l.map .str) with
      | some l => some (s :: l)
      | none => none) = _
    rw [strs_map l]
theorem rps_strs {H : Hp} : ∀ {l : List Tx} {vs : List V}, vs = l.map (fun s => V.str ⟨s.toArray⟩) → Rps T H vs (l.map .str)
  | [], _, rfl => .nil
  | s :: l, _, rfl => .cons (.str s) (rps_strs rfl)
theorem metD_tidx {ys xs : List D} {r : Rs} (h : metD .index (.tup ys) xs = some r) : ∃ z, xs = [.str z] ∧ ((strsOf ys).bind fun l => (findT z l 0).map fun k => Rs.d (.int k)) = some r := by
  cases xs with
  | nil => cases h
  | cons x l => cases l with
    | cons _ _ => cases x <;> cases h
    | nil => cases x with
      | str z => exact ⟨z, rfl, h⟩
      | _ => cases h
theorem metD_sidx {t : Tx} {xs : List D} {r : Rs} (h : metD .index (.str t) xs = some r) : ∃ c, xs = [.str [c]] ∧ ((findC c t 0).map fun k => Rs.d (.int k)) = some r := by
  cases xs with
  | nil => cases h
  | cons x l => cases l with
    | cons _ _ => cases x with
      | str z => cases z with
        | nil => cases h
        | cons c z => cases z <;> cases h
      | _ => cases h
    | nil => cases x with
      | str z => cases z with
        | nil => cases h
        | cons c z => cases z with
          | nil => exact ⟨c, rfl, h⟩
          | cons _ _ => cases h
      | _ => cases h
theorem metD_get2 {o : D} {y z : V} {H : Hp} {xs : List D} {r : Rs} (rx : Rps T H [y, z] xs) (h : metD .dget o xs = some r) : ∃ ks a b, o = .dic ks ∧ xs = [a, b] ∧ keyD a = true ∧ r = .d ((lookD ks a).getD b) := by
  cases rx with
  | cons ra rr => cases rr with
    | cons rb rr => cases rr with
      | nil => cases o with
        | dic ks =>
          rename_i a b
          have h : (if keyD a then some (Rs.d ((lookD ks a).getD b)) else none) = some r := h
          split at h
          · rename_i hk
            cases h
            exact ⟨ks, a, b, rfl, rfl, hk, rfl⟩
          · cases h
        | _ => cases h
/-- t.index(x), t a tuple of texts that stands in the written part -/
theorem r_tidx (ok : Cok T X) {o e : Expr} {p : Addr} {ob : Obj} {l : List Tx} {me : MExp} {apos cpos : Pos} (ho : PE X o (tC (.ref p))) (hk : X.K.lookup p = some ob) (hc : ob.cls = .type "tuple") (hd : ob.dict = none) (hq : ∀ H, SqT X.K H p (l.map fun s => V.str ⟨s.toArray⟩)) (ha : PA X [e] (rdA T W (evs G [me])))
    (hbase : attributeBase o "index" X.env (eval o X.env) = eval o X.env := by rfl)
    (hfew : ((backTo cpos (starEach [e] X.env)).all (fun x => !x.1) && (backToKw cpos (keywordEach [] X.env)).all (fun x => x.1.isSome)
      && decide (([e] : List Expr).length + ([] : List Keyword).length + (if ([] : List Keyword).isEmpty then 0 else 1) < 30)) = true := by rfl)
    (hline : (apos.endLine == cpos.line) = true := by rfl) (hs : starEach [e] X.env = (false, eval e X.env) :: starEach [] X.env := by rfl) (hplain : (backTo cpos (starEach [] X.env)).any (·.1) = false := by rfl) :
    PE X (.Call (.Attribute o "index" apos) [e] [] cpos) (rd T W (ev G (.met .index (.cst (.tup (l.map .str))) [me]))) := by
  refine pe_imp (pe_bm PySem.F.plainAttrs_tuple PySem.F.slot_tuple_index PySem.F.type_tuple_index mt_tup_index ho ha hbase hfew hline hs hplain) fun σ H Q h => ?_
  obtain ⟨n, H0, ρ, ts, S, P⟩ := h
  refine ⟨.inr (.inl ⟨rfl, ob, hk, hc, hd⟩), ?_⟩
  have P : Post T W n σ ts ((evs G [me] ρ).bind fun rs e2 => metS .index (.d (.tup (l.map .str))) rs e2) (Wants T n σ ts Q) := P
  have hq' := hq H0
  rw [ok.hK] at hq'
  have S1 : ST T n H0 H σ ρ ((.ref p, .d (.tup (l.map .str))) :: ts) := S.addD (.tup hq' (rps_strs rfl))
  refine rdA_mono (met_args rfl S1 P) fun vs H2 ⟨H0', ρ', o, xs, r, ⟨_, eo⟩, rv, rx, S2, em, w⟩ => ?_
  have eo : some (D.tup (l.map .str)) = some o := eo
  cases eo
  obtain ⟨z, rfl, em2⟩ := metD_tidx em
  rw [strs_map] at em2
  have em2 : ((findT z l 0).map fun k => Rs.d (.int k)) = some r := em2
  cases rx with
  | cons ra rr => cases rr with
    | nil => cases ra with
      | str z =>
        cases ef : findT z l 0 with
        | none => rw [ef] at em2; cases em2
        | some j =>
          rw [ef] at em2
          cases em2
          obtain ⟨m, e, a, b⟩ := findT_is ef
          rw [Nat.zero_add] at e
          subst e
          refine ⟨p, l.map (fun s => ⟨s.toArray⟩), ⟨z.toArray⟩, j, rfl, rfl, ?_, ?_, fun i hi hh => ?_, Wants.data w (.int _) S2⟩
          · have := hq H2
            rwa [show (l.map (fun s => (⟨s.toArray⟩ : Str))).map V.str = l.map fun s => V.str ⟨s.toArray⟩ by rw [List.map_map]; rfl]
          · rw [List.getElem?_map, a]
            rfl
          · rw [List.getElem?_map] at hh
            cases hl : l[i]? with
            | none => rw [hl] at hh; cases hh
            | some y =>
              rw [hl] at hh
              have hh : some (⟨y.toArray⟩ : Str) = some ⟨z.toArray⟩ := hh
              exact b i hi (by rw [hl, tx_inj (Option.some.inj hh)])
/-- 'abcde'.index(x): the text is written there, its signs are looked up one by one -/
theorem r_sidx (ok : Cok T X) {e : Expr} {t : Str} {j0 : Nat} {p0 : Pos} {l : Tx} {me : MExp} {apos cpos : Pos} (hl : t = ⟨l.toArray⟩) (hk : ∀ c k, findC c l 0 = some k → ∃ rest, Builtin.Str.occurrences ⟨l.toArray⟩ ⟨#[c]⟩ 0 (⟨l.toArray⟩ : Str).length 1 = k :: rest) (ha : PA X [e] (rdA T W (evs G [me])))
    (hbase : attributeBase (.Constant (.str t) j0 p0) "index" X.env (eval (.Constant (.str t) j0 p0) X.env) = eval (.Constant (.str t) j0 p0) X.env := by rfl)
    (hfew : ((backTo cpos (starEach [e] X.env)).all (fun x => !x.1) && (backToKw cpos (keywordEach [] X.env)).all (fun x => x.1.isSome)
      && decide (([e] : List Expr).length + ([] : List Keyword).length + (if ([] : List Keyword).isEmpty then 0 else 1) < 30)) = true := by rfl)
    (hline : (apos.endLine == cpos.line) = true := by rfl) (hs : starEach [e] X.env = (false, eval e X.env) :: starEach [] X.env := by rfl) (hplain : (backTo cpos (starEach [] X.env)).any (·.1) = false := by rfl) :
    PE X (.Call (.Attribute (.Constant (.str t) j0 p0) "index" apos) [e] [] cpos) (rd T W (ev G (.met .index (.cst (.str l)) [me]))) := by
  subst hl
  refine pe_imp (pe_bm PySem.F.plainAttrs_str PySem.F.slot_str_index PySem.F.type_str_index mt_sindex pe_str ha hbase hfew hline hs hplain) fun σ H Q h => ?_
  obtain ⟨n, H0, ρ, ts, S, P⟩ := h
  refine ⟨rfl, ?_⟩
  have P : Post T W n σ ts ((evs G [me] ρ).bind fun rs e2 => metS .index (.d (.str l)) rs e2) (Wants T n σ ts Q) := P
  have S1 : ST T n H0 H σ ρ ((.str ⟨l.toArray⟩, .d (.str l)) :: ts) := S.addD (.str l)
  refine rdA_mono (met_args rfl S1 P) fun vs H2 ⟨H0', ρ', o, xs, r, ⟨_, eo⟩, rv, rx, S2, em, w⟩ => ?_
  have eo : some (D.str l) = some o := eo
  cases eo
  obtain ⟨c, rfl, em2⟩ := metD_sidx em
  cases rx with
  | cons ra rr => cases rr with
    | nil => cases ra with
      | str z =>
        cases ef : findC c l 0 with
        | none => rw [ef] at em2; cases em2
        | some k =>
          rw [ef] at em2
          cases em2
          obtain ⟨rest, hr⟩ := hk c k ef
          exact ⟨_, _, k, rest, rfl, rfl, hr, Wants.data w (.int _) S2⟩
theorem findC_is {c : Nat} : ∀ {t : Tx} {k j : Nat}, findC c t k = some j → ∃ m, j = k + m ∧ t[m]? = some c
  | [], k, j, h => by cases h
  | b :: t, k, j, h => by
    unfold findC at h
    split at h
    · rename_i hb
      cases h
      have hb : b = c := by simpa using hb
      subst hb
      exact ⟨0, rfl, rfl⟩
    · obtain ⟨m, e, a⟩ := findC_is h
      exact ⟨m + 1, by omega, by simpa using a⟩
/-! ### dicts -/
theorem rdA_two {m1 m2 : MExp} {R : List V → Hp → Prop} (h : rdA T W (evs G [m1, m2]) σ H R) : rd T W (ev G m1) σ H fun y H2 => rd T W (ev G m2) σ H2 fun z H3 => R [y, z] H3 := by
  obtain ⟨n, H0, ρ, ts, S, P⟩ := h
  refine ⟨n, H0, ρ, ts, S, ?_⟩
  have P : Post T W n σ ts ((ev G m1 ρ).bind fun r e1 => ((ev G m2 e1).bind fun r2 e2 => (Out.ok [] e2).bind fun rs e3 => .ok (r2 :: rs) e3).bind fun rs e2 => .ok (r :: rs) e2) _ := P
  cases ea : ev G m1 ρ with
  | no => rw [ea] at P; exact P.elim
  | ex x e => rw [ea] at P; exact P
  | ok r e1 =>
    rw [ea] at P
    intro H0' H1 v S1
    have P : Post T W n σ ts (((ev G m2 e1).bind fun r2 e2 => Out.ok [r2] e2).bind fun rs e2 => .ok (r :: rs) e2) _ := P
    refine ⟨n, H0', e1, _, S1, ?_⟩
    cases eb : ev G m2 e1 with
    | no => rw [eb] at P; exact P.elim
    | ex x e => rw [eb] at P; exact fun dd h0 h1 s => P dd h0 h1 s.drop
    | ok r2 e2 =>
      rw [eb] at P
      intro H0'' H2 v2 S2
      exact P H0'' H2 [v, v2] rfl (S2.perm (List.Perm.swap ..))
theorem r_dget2 (ok : Cok T X) {o e f : Expr} {mo me mf : MExp} {apos cpos : Pos} (ho : PE X o (rd T W (ev G mo))) (he : PE X e (rd T W (ev G me))) (hf : PE X f (rd T W (ev G mf))) (m2 : M2 X o "get" apos e f cpos := by exact ⟨by rfl, by rfl, by rfl, by rfl⟩) :
    PE X (.Call (.Attribute o "get" apos) [e, f] [] cpos) (rd T W (ev G (.met .dget mo [me, mf]))) := by
  refine pe_imp (pe_dget2 (Nat.lt_of_le_of_lt (Nat.add_le_add_left (by decide) _) ok.un) ho he hf m2) fun σ H Q ⟨n, H0, ρ, ts, S, P⟩ => ?_
  have P : Post T W n σ ts ((ev G mo ρ).bind fun ro e1 => if metOk .dget ro e1 then (evs G [me, mf] e1).bind fun rs e2 => metS .dget ro rs e2 else .no) (Wants T n σ ts Q) := P
  refine rd_mono (rd_one S P) fun v H1 ⟨H0', ρ', ra, S1, P1⟩ => ?_
  split at P1
  · rename_i hok
    have hok : (match ra.see ρ' with
      | some x => kindOk .dget x
      | none => false) = true := hok
    cases es : ra.see ρ' with
    | none => rw [es] at hok; cases hok
    | some x =>
      rw [es] at hok
      cases x with
      | dic ks =>
        obtain ⟨a, kvs, rfl, h1, r1⟩ := (S1.see es).dic S1.sub
        refine ⟨a, rfl, .inl ⟨kvs, .inl h1⟩, rd_mono (rdA_two (rdA_mono (Q' := fun vs H3 => ∀ y z, vs = [y, z] → ∃ o, DGet H3 a y o ∧ Q (o.getD z) H3) (met_args rfl S1 P1) fun vs H2 ⟨H0'', ρ'', o2, xs, r, _, rv, rx, S2, em, w⟩ y z ev_ => ?_)) fun y H2 q => rd_mono q fun z H3 q => q y z rfl⟩
        subst ev_
        obtain ⟨ks2, xa, xb, rfl, rfl, hkey, rfl⟩ := metD_get2 rx em
        obtain ⟨p2, vs2, e2, h2, r2⟩ := rv.dic S2.sub
        cases e2
        cases rx with
        | cons ry rr => cases rr with
          | cons rz rr =>
            obtain ⟨k, rfl, kr⟩ := ky_of ry hkey
            obtain ⟨l1, l2⟩ := look_rp r2 kr
            refine ⟨valV vs2 k, DGet.k h2, ?_⟩
            cases el : lookD ks2 xa with
            | none =>
              rw [l1 el]
              rw [el] at w
              exact Wants.data w rz S2
            | some yy =>
              obtain ⟨v2, hv, rv2⟩ := l2 yy el
              rw [hv]
              rw [el] at w
              exact Wants.data w rv2 S2
      | _ => cases hok
  · exact P1.elim
/-- {} -/
theorem r_dic0 {pos : Pos} : PE X (.Dict [] [] pos) (rd T W (ev G (.dic [] []))) := pe_imp pe_dnewK fun σ H Q ⟨n, H0, ρ, ts, S, P⟩ p hp => by
  have P : Post T W n σ ts (Out.ok (Rs.fr (.dic [])) ρ) (Wants T n σ ts Q) := P
  exact Wants.fresh P S (Same.new hp) hp ⟨[], upd_same, .nil⟩
/-- {k: v, ..} of constants -/
theorem r_dicc {keys : List (Option Expr)} {values : List Expr} {trs : List (TE × TE)} {pos : Pos} (kvs : List (Key × V)) (kds : List (D × D)) (h : PPs X pos keys values trs) (ht : ∀ σ H Q, Q (kvs.map fun kv => (kV kv.1, kv.2)) H → tPairs trs σ H Q) (hr : ∀ H, RpK T H (mergeK [] kvs) kds)
    (hall : keys.all (·.isSome) = true := by rfl) (hl : keys.length = values.length := by rfl) (h0 : keys ≠ [] := by simp) (h15 : keys.length ≤ 15 := by decide) (hlen : kvs.length ≤ 15 := by decide) : PE X (.Dict keys values pos) (rd T W (ev G (.cst (.dic kds)))) :=
  pe_imp (pe_disp h hall hl h0 h15) fun σ H Q ⟨n, H0, ρ, ts, S, P⟩ p hp => ht σ _ _ ⟨upd_same, kvs, rfl, hlen, by
    have e : upd (upd H p (.dK [])) p (.dK (mergeK [] kvs)) = upd H p (.dK (mergeK [] kvs)) := by
      funext b
      by_cases z : b = p
      · subst z; rw [upd_same, upd_same]
      · rw [upd_ne z, upd_ne z, upd_ne z]
    rw [e]
    have S1 := S.alloc (o := .dic kds) (Same.new hp) hp ⟨_, upd_same, hr H0⟩
    obtain ⟨H0', S2⟩ := ST.holdR (x := .dic kds) S1 rfl
    exact P H0' _ _ S2⟩
theorem pe_negc {i : Int} {j : Nat} {p1 p2 : Pos} : PE X (.UnaryOp .USub (.Constant (.int i) j p1) p2) (tC (.int (-i))) := pe_imp (pe_un un_neg pe_int) fun σ H Q q => ⟨i, rfl, q⟩
end
end Mi
end
section
set_option maxHeartbeats 4000000
namespace Mi
open PySem PySem.Spec PyProof.Rows L2
/-- a class's own statements -/
def clsB : Stmt → List Stmt
  | .ClassDef (body := b) .. => b
  | _ => []
/-! ### names of attributes -/
def anT (l : List Str) (i : Nat) : Str := (l[i]?).getD ⟨#[0, i]⟩
theorem an_inj (l : List Str) (h1 : l.Nodup) (h2 : ∀ s ∈ l, s.cps[0]? ≠ some 0) (i j : Nat) (h : anT l i = anT l j) : i = j := by
  unfold anT at h
  have far : ∀ {k q : Nat} {s : Str}, l[k]? = some s → s ≠ ⟨#[0, q]⟩ := fun {k q s} hk e => h2 s (List.mem_of_getElem? hk) (by rw [e]; rfl)
  cases hi : l[i]? with
  | none =>
    rw [hi] at h
    cases hj : l[j]? with
    | none =>
      rw [hj] at h
      have h : (⟨#[0, i]⟩ : Str) = ⟨#[0, j]⟩ := h
      have h3 := congrArg (fun s : Str => s.cps.toList) h
      simpa using h3
    | some s =>
      rw [hj] at h
      exact (far hj h.symm).elim
  | some s =>
    rw [hi] at h
    cases hj : l[j]? with
    | none =>
      rw [hj] at h
      exact (far hi h).elim
    | some s2 =>
      rw [hj] at h
      have h : s = s2 := h
      subst h
      have il := lt_of_get hi
      have jl := lt_of_get hj
      rw [List.getElem?_eq_getElem il] at hi
      rw [List.getElem?_eq_getElem jl] at hj
      exact (List.getElem_inj h1).mp ((Option.some.inj hi).trans (Option.some.inj hj).symm)
/-! ### the head: facts and one truth more -/
def hookE (n : Nat) (fa : List He.Fa) (fn : List He.DefD) (ex : PySem.W.Frag → Bool) : PySem.W.Hook where
  α := He.AlD × Bool
  obs := fun s => (He.obsDG n fa fn s.heap.get?, ex (He.frG s.heap.get? (He.asD s.heap.get? n)))
  val := fun _ => (He.valD fn, true)
  says := fun _ h => ∃ K : PySem.W.Frag, K.In h ∧ He.SaysD fa fn K ∧ ex K = true
  of := fun _ _ e => ⟨_, He.frG_in, congrArg Prod.fst e, congrArg Prod.snd e⟩
  keeps := fun _ _ _ ⟨K, hK, c, d⟩ k => ⟨K, PySem.W.Frag.In.keeps hK k, c, d⟩
def obsE (n : Nat) (fa : List He.Fa) (fn : List He.DefD) (ex : PySem.W.Frag → Bool) (g : Addr → Option Obj) : He.AlD × Bool := (He.obsDG n fa fn g, ex (He.frG g (He.asD g n)))
theorem obsE_eq {n : Nat} {fa : List He.Fa} {fn : List He.DefD} {ex : PySem.W.Frag → Bool} {g : Addr → Option Obj} {s : Shared} (h : ∀ a, g a = s.heap.get? a) : obsE n fa fn ex g = (hookE n fa fn ex).obs s := by
  have e : g = s.heap.get? := funext h
  rw [e] <;> rfl
/-! ### a tuple of texts of the module -/
def tupN (K : PySem.W.Frag) (x : Str) (l : List Tx) : Bool := He.tupB K x (l.map fun s => .str ⟨s.toArray⟩) && (match K.lookup (He.ga K x) with
  | some ⟨.type c, none, _, _⟩ => decide (c = "tuple")
  | _ => false)
structure GTup (K : PySem.W.Frag) (mg : Str → Option Value) (x : Str) (l : List Tx) : Prop where
  ex : ∃ p ob, mg x = some (.ref p) ∧ K.lookup p = some ob ∧ ob.cls = .type "tuple" ∧ ob.dict = none ∧ ∀ H, SqT K H p (l.map fun s => V.str ⟨s.toArray⟩)
theorem gtup_ok {K : PySem.W.Frag} {mg : Str → Option Value} {x : Str} {l : List Tx} (hm : mg x = some (.ref (He.ga K x))) (h : tupN K x l = true) : GTup K mg x l := by
  unfold tupN at h
  rw [Bool.and_eq_true] at h
  obtain ⟨h1, h2⟩ := h
  cases q : K.lookup (He.ga K x) with
  | none => rw [q] at h2; cases h2
  | some o =>
    obtain ⟨oc, od, dt, osl⟩ := o
    rw [q] at h2
    cases oc with
    | type c =>
      cases od with
      | some _ => cases h2
      | none =>
        have e : c = "tuple" := of_decide_eq_true h2
        refine ⟨_, _, hm, q, by rw [e], rfl, fun H => ?_⟩
        have := He.tupB_ok h1 H
        rw [List.map_map] at this
        exact this
    | _ => cases h2
theorem sidx_abcde (c k : Nat) (h : findC c [97, 98, 99, 100, 101] 0 = some k) : ∃ rest, Builtin.Str.occurrences ⟨([97, 98, 99, 100, 101] : Tx).toArray⟩ ⟨#[c]⟩ 0 (⟨([97, 98, 99, 100, 101] : Tx).toArray⟩ : Str).length 1 = k :: rest := by
  obtain ⟨m, e, a⟩ := findC_is h
  have hc := List.mem_of_getElem? a
  simp at hc
  rcases hc with rfl | rfl | rfl | rfl | rfl <;> (cases h; exact ⟨[], by decide +kernel⟩)
section
variable {T : Tb} {W : WX} {X : Cx} {G : Gs} {x : Str} {p pos : Pos} {e : Expr} {es : List Expr} {ms : List MExp} {m k cc f : Nat} {l : List Tx}
theorem r_gtup (ok : Cok T X) (g : GTup X.K X.mg x l) (hg : Gl X x := by rfl) (hd : (x == ("__debug__" : Str)) = false := by decide) : PE X (.Name x pos) (rd T W (ev G (.cst (.tup (l.map .str))))) := by
  obtain ⟨p, ob, hm, hk, hc, hn, hq⟩ := g.ex
  exact r_gref hm (fun H0 => .tup (by have := hq H0; rwa [ok.hK] at this) (rps_strs rfl)) hg hd
theorem r_gtidx (ok : Cok T X) (g : GTup X.K X.mg x l) {me : MExp} {apos cpos : Pos} (ha : PA X [e] (rdA T W (evs G [me])))
    (hg : Gl X x := by rfl) (hd : (x == ("__debug__" : Str)) = false := by decide) (hbase : attributeBase (.Name x p) "index" X.env (eval (.Name x p) X.env) = eval (.Name x p) X.env := by rfl)
    (hfew : ((backTo cpos (starEach [e] X.env)).all (fun x => !x.1) && (backToKw cpos (keywordEach [] X.env)).all (fun x => x.1.isSome)
      && decide (([e] : List Expr).length + ([] : List Keyword).length + (if ([] : List Keyword).isEmpty then 0 else 1) < 30)) = true := by rfl)
    (hline : (apos.endLine == cpos.line) = true := by rfl) (hs : starEach [e] X.env = (false, eval e X.env) :: starEach [] X.env := by rfl) (hplain : (backTo cpos (starEach [] X.env)).any (·.1) = false := by rfl) :
    PE X (.Call (.Attribute (.Name x p) "index" apos) [e] [] cpos) (rd T W (ev G (.met .index (.cst (.tup (l.map .str))) [me]))) := by
  obtain ⟨p0, ob, hm, hk, hc, hn, hq⟩ := g.ex
  exact r_tidx ok (pe_glob (v := .ref p0) hg hm rfl hd) hk hc hn hq ha hbase hfew hline hs hplain
theorem r_mk (c : CkG T X W) (h : ClsK X.prog X.w X.K X.mg X.base T (G.fn f) k cc (m + 1) x) (hr : Room k X.A) (ha : PA X (e :: es) (rdA T W (evs G ms))) (hi : G.init cc = some f := by rfl) (hm : ms.length = m := by rfl) (hg : Gl X x := by rfl) (hdb : (x == ("__debug__" : Str)) = false := by decide)
    (he : starEach (e :: es) X.env = (false, eval e X.env) :: starEach es X.env := by rfl) (hpl : (backTo pos (starEach es X.env)).any (·.1) = false := by rfl) : PE X (.Call (.Name x p) (e :: es) [] pos) (rd T W (ev G (.mk cc ms))) :=
  nm_pos (h.nm hi hr c.gd c.tk) hm ha hg hdb he hpl
end
end Mi
end
/-! the text's defs by how deep calls may go; dn: what built-ins call for us, one level deeper. Plain Lean -/
namespace Mi
def Gy (defs : Nat → Option Def) (dn : Nat → Option Nat) (meth : Nat → Nat → Option Nat) (init : Nat → Option Nat) (isa : Nat → Nat → Option Bool) (free : Nat → Nat → Bool) (fuel : Nat) : Nat → Gs
  | 0 => ⟨fun _ _ => .no, meth, init, isa, free, fuel⟩
  | n + 1 => ⟨fun f l => match dn f with
    | some g => (Gy defs dn meth init isa free fuel n).fn g l
    | none => match defs f with
      | some d => runDef (Gy defs dn meth init isa free fuel n) d l
      | none => .no, meth, init, isa, free, fuel⟩
end Mi
/-! ### the text in the small language -/
namespace Lw
open Mi
abbrev i_is_whole : Nat := 0
abbrev i_is_count : Nat := 1
abbrev i_is_register : Nat := 2
abbrev i_rank : Nat := 3
abbrev i_is_values : Nat := 4
abbrev i_may_be_added : Nat := 5
abbrev i_is_row : Nat := 6
abbrev i_is_moment : Nat := 7
abbrev i_want_moment : Nat := 8
abbrev i_is_over : Nat := 9
abbrev i_first_moment : Nat := 10
abbrev i_may_stand : Nat := 11
abbrev i_first_wrong : Nat := 12
abbrev i_repeats_around : Nat := 13
abbrev i_partners_of : Nat := 14
abbrev i_law_pot : Nat := 15
abbrev i_law_take : Nat := 16
abbrev i_law_one : Nat := 17
abbrev i_law_count : Nat := 18
abbrev i_law_line : Nat := 19
abbrev i_law_lines : Nat := 20
abbrev i_law_deep : Nat := 21
abbrev i_law_is_count : Nat := 22
abbrev i_law_are_counts : Nat := 23
abbrev i_law_is_moment : Nat := 24
abbrev i_law_drawn : Nat := 25
abbrev i_law_odd_number : Nat := 26
abbrev i_law_odd_row : Nat := 27
abbrev i_law_odd : Nat := 28
abbrev i_law_truth : Nat := 29
abbrev i_law_right : Nat := 30
abbrev i_law : Nat := 31
abbrev i_m_Program_init : Nat := 32
abbrev i_m_Program_want_place : Nat := 33
abbrev i_m_Program_around : Nat := 34
abbrev i_m_Program_len : Nat := 35
abbrev i_dn_Program_init : Nat := 36
abbrev i_dn_Program_len : Nat := 37
abbrev fl_partners : Nat := 4
abbrev fl_lines : Nat := 5
abbrev fl_arounds : Nat := 6
abbrev mt_around : Nat := 7
abbrev mt_want_place : Nat := 8
abbrev c_Program : Nat := 0
def b_is_whole : List MStmt := [.ret (.and_ (.isk (.var 0) [.int]) (.not_ (.isk (.var 0) [.bool])))]
def d_is_whole : Def := ⟨1, 1, b_is_whole⟩
def b_is_count : List MStmt := [.ret (.and_ (.call i_is_whole [.var 0]) (.cmp .ge (.var 0) (.cst (.int 0))))]
def d_is_count : Def := ⟨1, 1, b_is_count⟩
def b_is_register : List MStmt := [.ret (.and_ (.isk (.var 0) [.str]) (.cmp .isIn (.var 0) (.cst (.tup [(.str [97]), (.str [98]), (.str [99]), (.str [100]), (.str [101])]))))]
def d_is_register : Def := ⟨1, 1, b_is_register⟩
def b_rank : List MStmt := [.ret (.met .index (.cst (.tup [(.str [97]), (.str [98]), (.str [99]), (.str [100]), (.str [101])])) [.var 0])]
def d_rank : Def := ⟨1, 1, b_rank⟩
def b_is_values : List MStmt := [.ret (.and_ (.isk (.var 0) [.tuple]) (.and_ (.cmp .eq (.len1 (.var 0)) (.len1 (.cst (.tup [(.str [97]), (.str [98]), (.str [99]), (.str [100]), (.str [101])])))) (.blt .all [.comp (.call i_is_count [.var 1]) (.nm 1) (.seq (.var 0)) none])))]
def d_is_values : Def := ⟨1, 2, b_is_values⟩
def b_may_be_added : List MStmt := [.ret (.or_ (.call i_is_count [.var 1]) (.and_ (.call i_is_register [.var 1]) (.cmp .lt (.call i_rank [.var 1]) (.call i_rank [.var 0]))))]
def d_may_be_added : Def := ⟨2, 2, b_may_be_added⟩
def b_is_row : List MStmt := [.ite (.or_ (.not_ (.isk (.var 0) [.tuple])) (.or_ (.cmp .eq (.len1 (.var 0)) (.cst (.int 0))) (.not_ (.isk (.idx (.var 0) (.cst (.int 0))) [.str])))) [.ret (.cst (.bl false))] [], .star [1] 2 (.var 0), .ite (.cmp .eq (.var 1) (.cst (.str [101, 110, 100]))) [.ret (.cmp .eq (.len1 (.var 2)) (.cst (.int 0)))] [], .ite (.cmp .eq (.var 1) (.cst (.str [97, 100, 100]))) [.ret (.and_ (.cmp .eq (.len1 (.var 2)) (.cst (.int 2))) (.and_ (.call i_is_register [.idx (.var 2) (.cst (.int 0))]) (.call i_may_be_added [.idx (.var 2) (.cst (.int 0)), .idx (.var 2) (.cst (.int 1))])))] [], .ret (.and_ (.cmp .isIn (.var 1) (.tup [.cst (.str [116, 101, 108, 108]), .cst (.str [114, 101, 112, 101, 97, 116])])) (.and_ (.cmp .eq (.len1 (.var 2)) (.cst (.int 1))) (.call i_is_register [.idx (.var 2) (.cst (.int 0))])))]
def d_is_row : Def := ⟨1, 3, b_is_row⟩
def b_is_moment : List MStmt := [.ite (.or_ (.not_ (.isk (.var 1) [.tuple])) (.cmp .ne (.len1 (.var 1)) (.cst (.int 3)))) [.ret (.cst (.bl false))] [], .unp [.nm 2, .nm 3, .nm 4] (.var 1), .ite (.or_ (.not_ (.call i_is_values [.var 2])) (.or_ (.not_ (.call i_is_count [.var 3])) (.or_ (.cmp .gt (.var 3) (.len1 (.var 0))) (.not_ (.isk (.var 4) [.tuple]))))) [.ret (.cst (.bl false))] [], .ret (.and_ (.cmp .eq (.len1 (.var 4)) (.len1 (.own (.var 0) mt_around [.var 3]))) (.blt .all [.comp (.call i_is_count [.var 5]) (.nm 5) (.seq (.var 4)) none]))]
def d_is_moment : Def := ⟨2, 6, b_is_moment⟩
def b_want_moment : List MStmt := [.ite (.not_ (.call i_is_moment [.var 0, .var 1])) [.never] []]
def d_want_moment : Def := ⟨2, 2, b_want_moment⟩
def b_is_over : List MStmt := [.exp (.call i_want_moment [.var 0, .var 1]), .ret (.cmp .eq (.idx (.var 1) (.cst (.int 1))) (.len1 (.var 0)))]
def d_is_over : Def := ⟨2, 2, b_is_over⟩
def b_first_moment : List MStmt := [.ite (.not_ (.call i_is_values [.var 1])) [.never] [], .ret (.tup [.var 1, .cst (.int 0), .tup []])]
def d_first_moment : Def := ⟨2, 2, b_first_moment⟩
def b_may_stand : List MStmt := [.ite (.cmp .eq (.idx (.var 0) (.cst (.int 0))) (.cst (.str [101, 110, 100]))) [.ret (.cmp .ne (.var 1) (.lst []))] [], .ite (.cmp .eq (.idx (.var 0) (.cst (.int 0))) (.cst (.str [114, 101, 112, 101, 97, 116]))) [.ret (.cmp .lt (.len1 (.var 1)) (.cst (.int 3)))] [], .ret (.or_ (.cmp .eq (.idx (.var 0) (.cst (.int 0))) (.cst (.str [116, 101, 108, 108]))) (.blt .all [.comp (.cmp .lt (.call i_rank [.var 2]) (.call i_rank [.idx (.var 0) (.cst (.int 1))])) (.nm 2) (.seq (.var 1)) none]))]
def d_may_stand : Def := ⟨2, 3, b_may_stand⟩
def b_first_wrong : List MStmt := [.set 1 true (.lst []), .for_ (.tp [2, 3]) (.enum (.var 0)) [.ite (.or_ (.cmp .ge (.var 2) (.cst (.int 40))) (.or_ (.not_ (.call i_is_row [.var 3])) (.not_ (.call i_may_stand [.var 3, .var 1])))) [.ret (.var 2)] [], .ite (.cmp .eq (.idx (.var 3) (.cst (.int 0))) (.cst (.str [114, 101, 112, 101, 97, 116]))) [.exp (.met .append (.var 1) [.idx (.var 3) (.cst (.int 1))])] [.ite (.cmp .eq (.idx (.var 3) (.cst (.int 0))) (.cst (.str [101, 110, 100]))) [.exp (.met .pop (.var 1) [])] []]], .ret (.ite (.var 1) (.len1 (.var 0)) (.cst .non))]
def d_first_wrong : Def := ⟨1, 4, b_first_wrong⟩
def b_repeats_around : List MStmt := [.par 1 2 true true (.lst []) (.lst []), .for_ (.tp [3, 4]) (.enum (.var 0)) [.exp (.met .append (.var 2) [.blt .list [.var 1]]), .ite (.cmp .eq (.idx (.var 4) (.cst (.int 0))) (.cst (.str [114, 101, 112, 101, 97, 116]))) [.exp (.met .append (.var 1) [.var 3])] [.ite (.cmp .eq (.idx (.var 4) (.cst (.int 0))) (.cst (.str [101, 110, 100]))) [.exp (.met .pop (.var 1) [])] []]], .ret (.bin .add (.var 2) (.lst [.lst []]))]
def d_repeats_around : Def := ⟨1, 5, b_repeats_around⟩
def b_partners_of : List MStmt := [.set 2 true (.dic [] []), .for_ (.tp [3, 4]) (.enum (.var 1)) [.ite (.cmp .eq (.idx (.var 4) (.cst (.int 0))) (.cst (.str [101, 110, 100]))) [.setSub (.var 2) (.var 3) (.idx (.idx (.var 0) (.var 3)) (.neg (.cst (.int 1)))), .setSub (.var 2) (.idx (.var 2) (.var 3)) (.var 3)] []], .ret (.var 2)]
def d_partners_of : Def := ⟨2, 5, b_partners_of⟩
def b_law_pot : List MStmt := [.set 2 false (.ite (.cmp .lt (.var 1) (.len1 (.var 0))) (.idx (.var 0) (.var 1)) (.cst (.int 0))), .ret (.lst [.blt .max2 [.cst (.int 0), .bin .sub (.blt .abs [.var 2]) (.bin .pow (.cst (.int 10)) (.cst (.int 18)))], .bin .mod (.bin .add (.bin .add (.bin .mul (.bin .mod (.blt .abs [.var 2]) (.cst (.int 2147483587))) (.cst (.int 39119))) (.bin .mul (.cst (.int 7919)) (.var 1))) (.cst (.int 41))) (.cst (.int 2147483629))])]
def d_law_pot : Def := ⟨2, 3, b_law_pot⟩
def b_law_take : List MStmt := [.ite (.cmp .gt (.idx (.var 0) (.cst (.int 0))) (.cst (.int 0))) [.unp [.sub (.var 0) (.cst (.int 0)), .nm 2] (.blt .divmod [.idx (.var 0) (.cst (.int 0)), .var 1]), .ret (.var 2)] [], .setSub (.var 0) (.cst (.int 1)) (.bin .mod (.bin .add (.bin .mul (.idx (.var 0) (.cst (.int 1))) (.cst (.int 40487))) (.cst (.int 12289))) (.cst (.int 2147483629))), .ret (.bin .mod (.bin .fdiv (.bin .mod (.bin .mul (.idx (.var 0) (.cst (.int 1))) (.idx (.var 0) (.cst (.int 1)))) (.cst (.int 2147483563))) (.cst (.int 13))) (.var 1))]
def d_law_take : Def := ⟨2, 3, b_law_take⟩
def b_law_one : List MStmt := [.ret (.idx (.var 1) (.call i_law_take [.var 0, .len1 (.var 1)]))]
def d_law_one : Def := ⟨2, 2, b_law_one⟩
def b_law_count : List MStmt := [.ret (.idx (.lst [.call i_law_take [.var 0, .cst (.int 4)], .call i_law_take [.var 0, .cst (.int 10)], .call i_law_take [.var 0, .var 1]]) (.call i_law_take [.var 0, .cst (.int 3)]))]
def d_law_count : Def := ⟨2, 2, b_law_count⟩
def b_law_line : List MStmt := [.set 3 false (.cst (.str [97, 98, 99, 100, 101])), .set 4 false (.bin .add (.blt .maxl [.bin .add (.var 1) (.lst [.neg (.cst (.int 1))])]) (.cst (.int 1))), .set 5 false (.call i_law_take [.var 0, .cst (.int 8)]), .ite (.and_ (.cmp .lt (.var 5) (.cst (.int 4))) (.cmp .lt (.var 4) (.cst (.int 5)))) [.set 6 false (.bin .add (.var 4) (.call i_law_take [.var 0, .bin .sub (.cst (.int 5)) (.var 4)])), .set 7 false (.call i_law_count [.var 0, .var 2]), .ite (.and_ (.cmp .gt (.var 6) (.cst (.int 0))) (.cmp .eq (.call i_law_take [.var 0, .cst (.int 2)]) (.cst (.int 0)))) [.ret (.tup [.cst (.str [97, 100, 100]), .idx (.var 3) (.var 6), .idx (.var 3) (.call i_law_take [.var 0, .var 6])])] [], .ret (.tup [.cst (.str [97, 100, 100]), .idx (.var 3) (.var 6), .var 7])] [], .ite (.and_ (.cmp .lt (.var 5) (.cst (.int 6))) (.cmp .lt (.len1 (.var 1)) (.cst (.int 3)))) [.ret (.tup [.cst (.str [114, 101, 112, 101, 97, 116]), .idx (.var 3) (.blt .min2 [.call i_law_take [.var 0, .cst (.int 5)], .call i_law_take [.var 0, .cst (.int 5)]])])] [], .ite (.and_ (.cmp .gt (.var 5) (.cst (.int 6))) (.cmp .ne (.var 1) (.lst []))) [.ret (.tup [.cst (.str [101, 110, 100])])] [], .ret (.tup [.cst (.str [116, 101, 108, 108]), .idx (.var 3) (.call i_law_take [.var 0, .cst (.int 5)])])]
def d_law_line : Def := ⟨3, 8, b_law_line⟩
def b_law_lines : List MStmt := [.par 4 5 true true (.lst []) (.lst []), .for_ (.nm 3) (.rng none (.call i_law_take [.var 0, .bin .add (.var 1) (.cst (.int 1))])) [.set 6 false (.call i_law_line [.var 0, .var 5, .var 2]), .ite (.cmp .lt (.bin .add (.len1 (.var 4)) (.len1 (.var 5))) (.cst (.int 39))) [.exp (.met .append (.var 4) [.var 6]), .ite (.cmp .eq (.idx (.var 6) (.cst (.int 0))) (.cst (.str [114, 101, 112, 101, 97, 116]))) [.exp (.met .append (.var 5) [.met .index (.cst (.str [97, 98, 99, 100, 101])) [.idx (.var 6) (.cst (.int 1))]])] [.ite (.cmp .eq (.idx (.var 6) (.cst (.int 0))) (.cst (.str [101, 110, 100]))) [.exp (.met .pop (.var 5) [])] []]] []], .ret (.bin .add (.var 4) (.bin .mul (.lst [.tup [.cst (.str [101, 110, 100])]]) (.len1 (.var 5))))]
def d_law_lines : Def := ⟨3, 7, b_law_lines⟩
def b_law_deep : List MStmt := [.set 2 false (.cst (.int 0)), .for_ (.nm 3) (.seq (.slc (.var 0) none (some (.var 1)))) [.set 2 false (.bin .sub (.bin .add (.var 2) (.blt .int [.cmp .eq (.idx (.var 3) (.cst (.int 0))) (.cst (.str [114, 101, 112, 101, 97, 116]))])) (.blt .int [.cmp .eq (.idx (.var 3) (.cst (.int 0))) (.cst (.str [101, 110, 100]))]))], .ret (.var 2)]
def d_law_deep : Def := ⟨2, 4, b_law_deep⟩
def b_law_is_count : List MStmt := [.ret (.and_ (.isk (.var 0) [.int]) (.and_ (.not_ (.isk (.var 0) [.bool])) (.cmp .ge (.var 0) (.cst (.int 0)))))]
def d_law_is_count : Def := ⟨1, 1, b_law_is_count⟩
def b_law_are_counts : List MStmt := [.ret (.and_ (.isk (.var 0) [.tuple]) (.and_ (.cmp .eq (.len1 (.var 0)) (.var 1)) (.blt .all [.comp (.call i_law_is_count [.var 2]) (.nm 2) (.seq (.var 0)) none])))]
def d_law_are_counts : Def := ⟨2, 3, b_law_are_counts⟩
def b_law_is_moment : List MStmt := [.ite (.or_ (.not_ (.isk (.var 1) [.tuple])) (.or_ (.cmp .ne (.len1 (.var 1)) (.cst (.int 3))) (.not_ (.call i_law_are_counts [.idx (.var 1) (.cst (.int 0)), .cst (.int 5)])))) [.ret (.cst (.bl false))] [], .ite (.or_ (.not_ (.call i_law_is_count [.idx (.var 1) (.cst (.int 1))])) (.cmp .gt (.idx (.var 1) (.cst (.int 1))) (.len1 (.var 0)))) [.ret (.cst (.bl false))] [], .ret (.call i_law_are_counts [.idx (.var 1) (.cst (.int 2)), .call i_law_deep [.var 0, .idx (.var 1) (.cst (.int 1))]])]
def d_law_is_moment : Def := ⟨2, 2, b_law_is_moment⟩
def b_law_drawn : List MStmt := [.set 2 false (.blt .tuple [.comp (.call i_law_count [.var 0, .bin .pow (.cst (.int 10)) (.cst (.int 40))]) (.nm 4) (.seq (.cst (.str [97, 98, 99, 100, 101]))) none]), .set 3 false (.call i_law_take [.var 0, .bin .add (.len1 (.var 1)) (.cst (.int 1))]), .ret (.tup [.var 2, .var 3, .blt .tuple [.comp (.call i_law_count [.var 0, .bin .pow (.cst (.int 10)) (.cst (.int 40))]) (.nm 5) (.rng none (.call i_law_deep [.var 1, .var 3])) none]])]
def d_law_drawn : Def := ⟨2, 6, b_law_drawn⟩
def b_law_odd_number : List MStmt := [.ret (.idx (.lst [.neg (.cst (.int 1)), .cst (.bl true), .cst (.bl false), .cst .non, .cst (.str [51]), .tup [.var 1], .lst [.var 1], .cst (.str []), .neg (.bin .pow (.cst (.int 10)) (.cst (.int 30))), .dic [] []]) (.call i_law_take [.var 0, .cst (.int 10)]))]
def d_law_odd_number : Def := ⟨2, 2, b_law_odd_number⟩
def b_law_odd_row : List MStmt := [.set 2 false (.call i_law_take [.var 0, .bin .add (.len1 (.var 1)) (.cst (.int 1))]), .set 3 false (.lst [.blt .list [.var 1], .cst .non, .bin .add (.var 1) (.tup [.cst (.int 0)]), .slc (.var 1) none (some (.neg (.cst (.int 1)))), .cst (.str []), .cst (.int 5), .dic [] [], .tup [.var 1]]), .ite (.or_ (.cmp .eq (.var 1) (.tup [])) (.cmp .eq (.call i_law_take [.var 0, .cst (.int 2)]) (.cst (.int 0)))) [.ret (.idx (.var 3) (.call i_law_take [.var 0, .cst (.int 8)]))] [], .ret (.bin .add (.bin .add (.slc (.var 1) none (some (.var 2))) (.tup [.call i_law_odd_number [.var 0, .cst (.int 1)]])) (.slc (.var 1) (some (.bin .add (.var 2) (.call i_law_take [.var 0, .cst (.int 2)]))) none))]
def d_law_odd_row : Def := ⟨2, 4, b_law_odd_row⟩
def b_law_odd : List MStmt := [.unp [.nm 4, .nm 5, .nm 6] (.var 2), .set 3 false (.call i_law_take [.var 0, .cst (.int 8)]), .ite (.cmp .eq (.var 3) (.cst (.int 0))) [.set 7 false (.lst [.cst .non, .cst (.bl true), .cst (.int 7), .cst (.str []), .tup [], .lst [], .dic [] [], .blt .list [.var 2], .bin .add (.var 2) (.tup [.tup []]), .slc (.var 2) none (some (.cst (.int 2))), .tup [.var 2], .rev (.var 2)]), .ret (.idx (.var 7) (.call i_law_take [.var 0, .cst (.int 12)]))] [], .ite (.cmp .eq (.var 3) (.cst (.int 1))) [.ret (.tup [.call i_law_odd_row [.var 0, .var 4], .var 5, .var 6])] [], .ite (.cmp .eq (.var 3) (.cst (.int 2))) [.ret (.tup [.var 4, .var 5, .call i_law_odd_row [.var 0, .var 6]])] [], .ite (.cmp .eq (.var 3) (.cst (.int 3))) [.ret (.tup [.var 4, .call i_law_odd_number [.var 0, .var 5], .var 6])] [], .ite (.cmp .eq (.var 3) (.cst (.int 4))) [.ret (.tup [.var 4, .call i_law_one [.var 0, .lst [.len1 (.var 1), .bin .add (.len1 (.var 1)) (.cst (.int 1)), .bin .add (.var 5) (.cst (.int 1)), .bin .pow (.cst (.int 10)) (.cst (.int 39))]], .var 6])] [], .ite (.cmp .eq (.var 3) (.cst (.int 5))) [.ret (.tup [.var 4, .call i_law_take [.var 0, .bin .add (.len1 (.var 1)) (.cst (.int 1))], .var 6])] [], .ite (.cmp .eq (.var 3) (.cst (.int 6))) [.ret (.tup [.var 4, .var 5, .idx (.lst [.bin .add (.var 6) (.tup [.call i_law_count [.var 0, .bin .pow (.cst (.int 10)) (.cst (.int 40))]]), .slc (.var 6) (some (.cst (.int 1))) none]) (.call i_law_take [.var 0, .cst (.int 2)])])] [], .ret (.var 2)]
def d_law_odd : Def := ⟨3, 8, b_law_odd⟩
def b_law_truth : List MStmt := [.ret (.and_ (.isk (.var 0) [.bool]) (.cmp .eq (.var 0) (.var 1)))]
def d_law_truth : Def := ⟨2, 2, b_law_truth⟩
def b_law_right : List MStmt := [.set 3 false (.blt .repr [.var 2]), .set 4 false (.call i_law_is_moment [.var 1, .var 2]), .ite (.or_ (.not_ (.call i_law_truth [.call i_is_moment [.var 0, .var 2], .var 4])) (.cmp .ne (.blt .repr [.var 2]) (.var 3))) [.ret (.cst (.bl false))] [], .ret (.or_ (.not_ (.var 4)) (.call i_law_truth [.call i_is_over [.var 0, .var 2], .cmp .eq (.idx (.var 2) (.cst (.int 1))) (.len1 (.var 1))]))]
def d_law_right : Def := ⟨3, 5, b_law_right⟩
def b_law : List MStmt := [.for_ (.nm 1) (.rng none (.blt .max2 [.cst (.int 1), .blt .min2 [.cst (.int 8), .len1 (.var 0)]])) [.set 2 true (.call i_law_pot [.var 0, .var 1]), .set 3 false (.call i_law_lines [.var 2, .cst (.int 40), .bin .pow (.cst (.int 10)) (.cst (.int 40))]), .set 4 false (.mk c_Program [.blt .list [.var 3]]), .for_ (.nm 5) (.rng none (.cst (.int 12))) [.set 6 false (.call i_law_drawn [.var 2, .var 3]), .set 7 false (.call i_law_odd [.var 2, .var 3, .var 6]), .ite (.or_ (.not_ (.call i_law_right [.var 4, .var 3, .var 6])) (.not_ (.call i_law_right [.var 4, .var 3, .var 7]))) [.ret (.cst (.bl false))] [], .set 8 false (.call i_first_moment [.var 4, .idx (.var 6) (.cst (.int 0))]), .ite (.or_ (.cmp .ne (.var 8) (.tup [.idx (.var 6) (.cst (.int 0)), .cst (.int 0), .tup []])) (.not_ (.call i_law_right [.var 4, .var 3, .var 8]))) [.ret (.cst (.bl false))] []], .ite (.not_ (.call i_law_right [.var 4, .var 3, .tup [.bin .mul (.tup [.cst (.int 0)]) (.cst (.int 5)), .len1 (.var 3), .tup []]])) [.ret (.cst (.bl false))] []], .ret (.cst (.bl true))]
def d_law : Def := ⟨1, 9, b_law⟩
def b_m_Program_init : List MStmt := [.set 2 false (.ite (.isk (.var 1) [.list, .tuple]) (.call i_first_wrong [.var 1]) (.neg (.cst (.int 1)))), .ite (.cmp .notN (.var 2) (.cst .non)) [.never] [], .setFld (.var 0) fl_lines (.blt .list [.var 1]), .setFld (.var 0) fl_arounds (.call i_repeats_around [.fld (.var 0) fl_lines]), .setFld (.var 0) fl_partners (.call i_partners_of [.fld (.var 0) fl_arounds, .fld (.var 0) fl_lines])]
def d_m_Program_init : Def := ⟨2, 3, b_m_Program_init⟩
def b_m_Program_want_place : List MStmt := [.ite (.or_ (.not_ (.call i_is_count [.var 1])) (.cmp .ge (.var 1) (.var 2))) [.never] []]
def d_m_Program_want_place : Def := ⟨3, 3, b_m_Program_want_place⟩
def b_m_Program_around : List MStmt := [.exp (.own (.var 0) mt_want_place [.var 1, .len1 (.fld (.var 0) fl_arounds)]), .ret (.blt .list [.idx (.fld (.var 0) fl_arounds) (.var 1)])]
def d_m_Program_around : Def := ⟨2, 2, b_m_Program_around⟩
def b_m_Program_len : List MStmt := [.ret (.len1 (.fld (.var 0) fl_lines))]
def d_m_Program_len : Def := ⟨1, 1, b_m_Program_len⟩
def defs : Nat → Option Def
  | 0 => some d_is_whole
  | 1 => some d_is_count
  | 2 => some d_is_register
  | 3 => some d_rank
  | 4 => some d_is_values
  | 5 => some d_may_be_added
  | 6 => some d_is_row
  | 7 => some d_is_moment
  | 8 => some d_want_moment
  | 9 => some d_is_over
  | 10 => some d_first_moment
  | 11 => some d_may_stand
  | 12 => some d_first_wrong
  | 13 => some d_repeats_around
  | 14 => some d_partners_of
  | 15 => some d_law_pot
  | 16 => some d_law_take
  | 17 => some d_law_one
  | 18 => some d_law_count
  | 19 => some d_law_line
  | 20 => some d_law_lines
  | 21 => some d_law_deep
  | 22 => some d_law_is_count
  | 23 => some d_law_are_counts
  | 24 => some d_law_is_moment
  | 25 => some d_law_drawn
  | 26 => some d_law_odd_number
  | 27 => some d_law_odd_row
  | 28 => some d_law_odd
  | 29 => some d_law_truth
  | 30 => some d_law_right
  | 31 => some d_law
  | 32 => some d_m_Program_init
  | 33 => some d_m_Program_want_place
  | 34 => some d_m_Program_around
  | 35 => some d_m_Program_len
  | _ => none
def dnF : Nat → Option Nat
  | 36 => some 32
  | 37 => some 35
  | _ => none
def methF : Nat → Nat → Option Nat
  | 0, 1 => some 37
  | 0, 7 => some 34
  | 0, 8 => some 33
  | _, _ => none
def initF : Nat → Option Nat
  | 0 => some 36
  | _ => none
def freeF (c f : Nat) : Bool := decide (c < 1) && [4, 5, 6].contains f
def fuel : Nat := 4000
abbrev G (n : Nat) : Gs := Gy defs dnF methF initF (fun _ _ => none) freeF fuel n
end Lw
section
set_option exponentiation.threshold 300
namespace Lw
open Mi
theorem log2_le {n k : Nat} (h : n < 2 ^ k) : n.log2 ≤ k := by
  by_cases z : n = 0
  · subst z; simp
  · exact Nat.le_of_lt ((Nat.log2_lt z).mpr h)
theorem mul_ok {i j : Int} (a b : Nat) (hi : i.natAbs < 2 ^ a) (hj : j.natAbs < 2 ^ b) (h : a + b < 1000000) : mulOk i j = true := by
  unfold mulOk
  have h1 := log2_le hi
  have h2 := log2_le hj
  exact decide_eq_true (by omega)
theorem div_ok {j : Int} (a : Nat) (h0 : 0 < j) (hj : j.natAbs < 2 ^ a) (h : a < 9000) : divOk j = true := by
  unfold divOk
  have h1 := log2_le hj
  rw [Bool.and_eq_true]
  exact ⟨decide_eq_true h0, decide_eq_true (by omega)⟩
theorem fn_succ (n f : Nat) (l : List Sl) (d : Def) (h : defs f = some d) (h2 : dnF f = none := by rfl) : (G (n + 1)).fn f l = runDef (G n) d l := by
  show (match dnF f with
    | some g => (G n).fn g l
    | none => match defs f with
      | some d => runDef (G n) d l
      | none => Out.no) = _
  rw [h2, h]
theorem fn_dn (n f g : Nat) (l : List Sl) (h : dnF f = some g) : (G (n + 1)).fn f l = (G n).fn g l := by
  show (match dnF f with
    | some g => (G n).fn g l
    | none => match defs f with
      | some d => runDef (G n) d l
      | none => Out.no) = _
  rw [h]
/-- what a pot gives: the digit, the pot behind it -/
def takeD (a b w : Int) : Int := if 0 < a then a % w else (((b * 40487 + 12289) % 2147483629) * ((b * 40487 + 12289) % 2147483629) % 2147483563 / 13) % w
def takeA (a w : Int) : Int := if 0 < a then a / w else a
def takeB (a b : Int) : Int := if 0 < a then b else (b * 40487 + 12289) % 2147483629
theorem take_eq (n : Nat) (a b w : Int) (hw : 0 < w) (hw2 : w.natAbs < 2 ^ 4000) (hb : 0 ≤ b) (hb2 : b < 2147483629) :
    (G (n + 1)).fn i_law_take [.pa (.lst [.int a, .int b]), .sh (.int w)] = .ok (.d (.int (takeD a b w))) [.pa (.lst [.int (takeA a w), .int (takeB a b)]), .sh (.int w)] := by
  rw [fn_succ n _ _ d_law_take rfl]
  have hd : divOk w = true := div_ok 4000 hw hw2 (by decide)
  unfold takeD takeA takeB
  by_cases ha : 0 < a
  · rw [if_pos ha, if_pos ha, if_pos ha]
    simp [Ob.d, binD, Rs.hold, holds, runDef, d_law_take, b_law_take, execs, exec, tst, ev, evs, Out.bind, Out.thn, tstR, Rs.see, Out.of, sees2, cmpS, cmpD, blR, truD, idxD, plc, SOut.seq, bltS, sees, bltD, len1S, hd, tupD, putTgs, putTg, setSubS, obAt, putOb, SOut.of, mayPut, retR, pasKept, backP, ha]
  · rw [if_neg ha, if_neg ha, if_neg ha]
    have c0 : 0 ≤ (b * 40487 + 12289) % 2147483629 := Int.emod_nonneg _ (by decide)
    have c1 : (b * 40487 + 12289) % 2147483629 < 2147483629 := Int.emod_lt_of_pos _ (by decide)
    generalize hc : (b * 40487 + 12289) % 2147483629 = c at c0 c1 ⊢
    have m1 : mulOk b 40487 = true := mul_ok 32 32 (by omega) (by decide) (by decide)
    have m2 : mulOk c c = true := mul_ok 32 32 (by omega) (by omega) (by decide)
    have d1 : divOk 13 = true := by decide
    simp [Ob.d, binD, Rs.hold, holds, runDef, d_law_take, b_law_take, execs, exec, tst, ev, evs, Out.bind, Out.thn, tstR, Rs.see, Out.of, sees2, cmpS, cmpD, blR, truD, idxD, plc, SOut.seq, bltS, sees, bltD, len1S, hd, hw, d1, tupD, putTgs, putTg, setSubS, obAt, putOb, SOut.of, mayPut, retR, pasKept, backP, ha, m1, m2, hc]
theorem takeD_lt (a b w : Int) (hw : 0 < w) : 0 ≤ takeD a b w ∧ takeD a b w < w := by
  unfold takeD
  split
  · exact ⟨Int.emod_nonneg _ (by omega), Int.emod_lt_of_pos _ hw⟩
  · exact ⟨Int.emod_nonneg _ (by omega), Int.emod_lt_of_pos _ hw⟩
theorem takeB_ok (a b : Int) (hb : 0 ≤ b) (hb2 : b < 2147483629) : 0 ≤ takeB a b ∧ takeB a b < 2147483629 := by
  unfold takeB
  split
  · exact ⟨hb, hb2⟩
  · exact ⟨Int.emod_nonneg _ (by decide), Int.emod_lt_of_pos _ (by decide)⟩
theorem take_ex (n : Nat) (a b w : Int) (hw : 0 < w) (hw2 : w.natAbs < 2 ^ 4000) (hb : 0 ≤ b ∧ b < 2147483629) :
    ∃ d a' b' : Int, (0 ≤ d ∧ d < w) ∧ (0 ≤ b' ∧ b' < 2147483629) ∧ (G (n + 1)).fn i_law_take [.pa (.lst [.int a, .int b]), .sh (.int w)] = .ok (.d (.int d)) [.pa (.lst [.int a', .int b']), .sh (.int w)] :=
  ⟨takeD a b w, takeA a w, takeB a b, takeD_lt a b w hw, takeB_ok a b hb.1 hb.2, take_eq n a b w hw hw2 hb.1 hb.2⟩
theorem lt4000 {k : Nat} (h : k < 2 ^ 64) : k < 2 ^ 4000 := Nat.lt_of_lt_of_le h (Nat.pow_le_pow_right (by decide) (by decide))
theorem idx3 (x y z d : Int) (h : 0 ≤ d ∧ d < 3) : ∃ v, (v = x ∨ v = y ∨ v = z) ∧ idxD (.lst [.int x, .int y, .int z]) (.int d) = some (.int v) := by
  have : d = 0 ∨ d = 1 ∨ d = 2 := by omega
  rcases this with rfl | rfl | rfl
  · exact ⟨x, .inl rfl, rfl⟩
  · exact ⟨y, .inr (.inl rfl), rfl⟩
  · exact ⟨z, .inr (.inr rfl), rfl⟩
theorem idx2 (x y d : Int) (h : 0 ≤ d ∧ d < 2) : ∃ v, (v = x ∨ v = y) ∧ idxD (.lst [.int x, .int y]) (.int d) = some (.int v) := by
  have : d = 0 ∨ d = 1 := by omega
  rcases this with rfl | rfl
  · exact ⟨x, .inl rfl, rfl⟩
  · exact ⟨y, .inr rfl, rfl⟩
theorem pot_of (n : Nat) (ns : List Int) (k : Nat) (hk : k < 64) :
    ∃ a b : Int, 0 ≤ b ∧ b < 2147483629 ∧ (G (n + 1)).fn i_law_pot [.sh (.scr ns), .sh (.int (k : Int))] = .ok (.fr (.lst [.int a, .int b])) [.sh (.scr ns), .sh (.int (k : Int))] := by
  have go : ∀ cell : Int, tst (G n) (.cmp .lt (.var 1) (.len1 (.var 0))) [.sh (.scr ns), .sh (.int (k : Int)), .un] = .ok (decide ((k : Int) < ns.length)) [.sh (.scr ns), .sh (.int (k : Int)), .un] := fun cell => by
    simp [tst, ev, evs, bltS, sees, bltD, len1S, Out.bind, Rs.see, Out.of, sees2, cmpS, cmpD, blR, tstR, truD]
  obtain ⟨cell, hc⟩ : ∃ cell : Int, ev (G n) (.ite (.cmp .lt (.var 1) (.len1 (.var 0))) (.idx (.var 0) (.var 1)) (.cst (.int 0))) [.sh (.scr ns), .sh (.int (k : Int)), .un] = .ok (.d (.int cell)) [.sh (.scr ns), .sh (.int (k : Int)), .un] := by
    by_cases h : k < ns.length
    · refine ⟨ns[k], ?_⟩
      have hix : idxD (.scr ns) (.int (k : Int)) = some (.int ns[k]) := by
        show ((plc ns.length (k : Int)).bind fun k => ns[k]?).map D.int = _
        have e : plc ns.length (k : Int) = some k := by
          unfold plc
          rw [if_pos (by omega), if_pos (by omega)]
          simp
        rw [e]
        simp [List.getElem?_eq_getElem h]
      simp [ev, evs, bltS, sees, bltD, len1S, Out.bind, Rs.see, Out.of, sees2, cmpS, cmpD, blR, tstR, truD, hix, h]
    · refine ⟨0, ?_⟩
      simp [ev, evs, bltS, sees, bltD, len1S, Out.bind, Rs.see, Out.of, sees2, cmpS, cmpD, blR, tstR, truD, h]
  rw [fn_succ n _ _ d_law_pot rfl]
  generalize hm : MExp.ite (.cmp .lt (.var 1) (.len1 (.var 0))) (.idx (.var 0) (.var 1)) (.cst (.int 0)) = m at hc
  have e : d_law_pot = ⟨2, 3, [.set 2 false m, .ret (.lst [.blt .max2 [.cst (.int 0), .bin .sub (.blt .abs [.var 2]) (.bin .pow (.cst (.int 10)) (.cst (.int 18)))], .bin .mod (.bin .add (.bin .add (.bin .mul (.bin .mod (.blt .abs [.var 2]) (.cst (.int 2147483587))) (.cst (.int 39119))) (.bin .mul (.cst (.int 7919)) (.var 1))) (.cst (.int 41))) (.cst (.int 2147483629))])]⟩ := by
    rw [← hm]
    rfl
  rw [e]
  generalize habs : (if cell < 0 then -cell else cell) = z
  have z0 : 0 ≤ z := by rw [← habs]; split <;> omega
  have m1 : mulOk (z % 2147483587) 39119 = true := mul_ok 32 32 (by have := Int.emod_lt_of_pos z (show (0 : Int) < 2147483587 by decide); have := Int.emod_nonneg z (show (2147483587 : Int) ≠ 0 by decide); omega) (by decide) (by decide)
  have m2 : mulOk 7919 (k : Int) = true := mul_ok 32 32 (by decide) (by omega) (by decide)
  refine ⟨if z - 10 ^ 18 > 0 then z - 10 ^ 18 else 0, ((z % 2147483587) * 39119 + 7919 * (k : Int) + 41) % 2147483629, Int.emod_nonneg _ (by decide), Int.emod_lt_of_pos _ (by decide), ?_⟩
  simp [runDef, execs, exec, ev, evs, hc, bltS, sees, bltD, len1S, habs, binD, m1, m2, holds, Rs.hold, Out.bind, Out.thn, Rs.see, Out.of, sees2, SOut.seq, SOut.of, putR, mayPut, retR, pasKept, backP]
theorem szOk_len {n : Nat} (h : n ≤ 16000000) : szOk n = true := szOk_of h
theorem idx4 (x y z u d : Int) (h : 0 ≤ d ∧ d < 4) : ∃ v, (v = x ∨ v = y ∨ v = z ∨ v = u) ∧ idxD (.lst [.int x, .int y, .int z, .int u]) (.int d) = some (.int v) := by
  have : d = 0 ∨ d = 1 ∨ d = 2 ∨ d = 3 := by omega
  rcases this with rfl | rfl | rfl | rfl
  · exact ⟨x, .inl rfl, rfl⟩
  · exact ⟨y, .inr (.inl rfl), rfl⟩
  · exact ⟨z, .inr (.inr (.inl rfl)), rfl⟩
  · exact ⟨u, .inr (.inr (.inr rfl)), rfl⟩
abbrev potS (a b : Int) : Sl := .pa (.lst [.int a, .int b])
abbrev PB (b : Int) : Prop := 0 ≤ b ∧ b < 2147483629
theorem rng_ok {j : Int} (h0 : 0 ≤ j) (h1 : j ≤ 4000000000000000000) : rngOk 0 j = true := by
  unfold rngOk
  simp
  omega
theorem plc_nat {n k : Nat} (h : k < n) : plc n (k : Int) = some k := by
  unfold plc
  rw [if_pos (by omega), if_pos (by omega)]
  simp
end Lw
end
section
set_option exponentiation.threshold 300
namespace Lw
open Mi
/-! ### rows -/
abbrev tAdd : Tx := [97, 100, 100]
abbrev tRep : Tx := [114, 101, 112, 101, 97, 116]
abbrev tTell : Tx := [116, 101, 108, 108]
abbrev tEnd : Tx := [101, 110, 100]
def lt (r : Nat) : D := .str [97 + r]
inductive Rw where
  | addn (g n : Nat) | addr (g s : Nat) | rep (r : Nat) | tell (r : Nat) | fin
def Rw.d : Rw → D
  | .addn g n => .tup [.str tAdd, lt g, .int (n : Int)]
  | .addr g s => .tup [.str tAdd, lt g, lt s]
  | .rep r => .tup [.str tRep, lt r]
  | .tell r => .tup [.str tTell, lt r]
  | .fin => .tup [.str tEnd]
def Rw.ok : Rw → Prop
  | .addn g _ => g < 5
  | .addr g s => g < 5 ∧ s < g
  | .rep r => r < 5
  | .tell r => r < 5
  | .fin => True
theorem whole_eq (n : Nat) (x : Int) : (G (n + 1)).fn i_is_whole [.sh (.int x)] = .ok (.d (.bl true)) [.sh (.int x)] := by
  rw [fn_succ n _ _ d_is_whole rfl]
  simp [Ob.d, binD, Rs.hold, holds, runDef, execs, exec, tst, ev, evs, callS, lent, noTwice, passAll, passS, backAll, backS, Out.bind, Out.thn, tstR, Rs.see, Out.of, sees1, sees2, negD, cmpS, cmpD, sameD, plainD, plainDs, eqD, blR, truD, SOut.seq, SOut.of, bltS, sees, bltD, tupD, putTgs, putTg, setSubS, obAt, putOb, mayPut_eq, mpO_un, mpO_sh, mpO_ow, putR, retR, pasKept, backP, noEx, len1S, d_is_whole, b_is_whole, iskD, isKd, kdOf, List.any, show (Kd.int == Kd.int) = true from rfl, show (Kd.int == Kd.bool) = false from rfl, show (Kd.bool == Kd.int) = false from rfl]
theorem count_eq (n : Nat) (x : Int) (hx : 0 ≤ x) : (G (n + 2)).fn i_is_count [.sh (.int x)] = .ok (.d (.bl true)) [.sh (.int x)] := by
  have h := whole_eq n x
  rw [fn_succ (n + 1) _ _ d_is_count rfl]
  simp [Ob.d, binD, Rs.hold, holds, runDef, execs, exec, tst, ev, evs, callS, lent, noTwice, passAll, passS, backAll, backS, Out.bind, Out.thn, tstR, Rs.see, Out.of, sees1, sees2, negD, cmpS, cmpD, sameD, plainD, plainDs, eqD, blR, truD, SOut.seq, SOut.of, bltS, sees, bltD, tupD, putTgs, putTg, setSubS, obAt, putOb, mayPut_eq, mpO_un, mpO_sh, mpO_ow, putR, retR, pasKept, backP, noEx, len1S, d_is_count, b_is_count, h, hx]
theorem count_str (n : Nat) (s : Tx) : (G (n + 2)).fn i_is_count [.sh (.str s)] = .ok (.d (.bl false)) [.sh (.str s)] := by
  have h : (G (n + 1)).fn i_is_whole [.sh (.str s)] = .ok (.d (.bl false)) [.sh (.str s)] := by
    rw [fn_succ n _ _ d_is_whole rfl]
    simp [Ob.d, binD, Rs.hold, holds, runDef, execs, exec, tst, ev, evs, callS, lent, noTwice, passAll, passS, backAll, backS, Out.bind, Out.thn, tstR, Rs.see, Out.of, sees1, sees2, negD, cmpS, cmpD, sameD, plainD, plainDs, eqD, blR, truD, SOut.seq, SOut.of, bltS, sees, bltD, tupD, putTgs, putTg, setSubS, obAt, putOb, mayPut_eq, mpO_un, mpO_sh, mpO_ow, putR, retR, pasKept, backP, noEx, len1S, d_is_whole, b_is_whole, iskD, isKd, kdOf, List.any, show (Kd.str == Kd.int) = false from rfl, show (Kd.str == Kd.bool) = false from rfl]
  rw [fn_succ (n + 1) _ _ d_is_count rfl]
  simp [Ob.d, binD, Rs.hold, holds, runDef, execs, exec, tst, ev, evs, callS, lent, noTwice, passAll, passS, backAll, backS, Out.bind, Out.thn, tstR, Rs.see, Out.of, sees1, sees2, negD, cmpS, cmpD, sameD, plainD, plainDs, eqD, blR, truD, SOut.seq, SOut.of, bltS, sees, bltD, tupD, putTgs, putTg, setSubS, obAt, putOb, mayPut_eq, mpO_un, mpO_sh, mpO_ow, putR, retR, pasKept, backP, noEx, len1S, d_is_count, b_is_count, h]
theorem five {P : Nat → Prop} (r : Nat) (h : r < 5) (h0 : P 0) (h1 : P 1) (h2 : P 2) (h3 : P 3) (h4 : P 4) : P r := by
  have : r = 0 ∨ r = 1 ∨ r = 2 ∨ r = 3 ∨ r = 4 := by omega
  rcases this with rfl | rfl | rfl | rfl | rfl <;> assumption
theorem reg_in (r : Nat) (h : r < 5) : inD (lt r) (.tup [.str [97], .str [98], .str [99], .str [100], .str [101]]) = some true := five (P := fun r => inD (lt r) (.tup [.str [97], .str [98], .str [99], .str [100], .str [101]]) = some true) r h (by simp [inD, lt, flatD, eqD]) (by simp [inD, lt, flatD, eqD]) (by simp [inD, lt, flatD, eqD]) (by simp [inD, lt, flatD, eqD]) (by simp [inD, lt, flatD, eqD])
theorem register_eq (n : Nat) (r : Nat) (h : r < 5) : (G (n + 1)).fn i_is_register [.sh (lt r)] = .ok (.d (.bl true)) [.sh (lt r)] := by
  have e := reg_in r h
  have k : kdOf (lt r) = some .str := rfl
  rw [fn_succ n _ _ d_is_register rfl]
  unfold lt at e ⊢
  simp [Ob.d, binD, Rs.hold, holds, runDef, execs, exec, tst, ev, evs, callS, lent, noTwice, passAll, passS, backAll, backS, Out.bind, Out.thn, tstR, Rs.see, Out.of, sees1, sees2, negD, cmpS, cmpD, sameD, plainD, plainDs, eqD, blR, truD, SOut.seq, SOut.of, bltS, sees, bltD, tupD, putTgs, putTg, setSubS, obAt, putOb, mayPut_eq, mpO_un, mpO_sh, mpO_ow, putR, retR, pasKept, backP, noEx, len1S, d_is_register, b_is_register, iskD, isKd, kdOf, List.any, show (Kd.str == Kd.str) = true from rfl, e]
theorem ix_is (r : Nat) (h : r < 5) : metD .index (.tup [.str [97], .str [98], .str [99], .str [100], .str [101]]) [lt r] = some (.d (.int (r : Int))) :=
  five (P := fun r => metD .index (.tup [.str [97], .str [98], .str [99], .str [100], .str [101]]) [lt r] = some (.d (.int (r : Int)))) r h rfl rfl rfl rfl rfl
theorem sx_is (r : Nat) (h : r < 5) : metD .index (.str [97, 98, 99, 100, 101]) [lt r] = some (.d (.int (r : Int))) :=
  five (P := fun r => metD .index (.str [97, 98, 99, 100, 101]) [lt r] = some (.d (.int (r : Int)))) r h rfl rfl rfl rfl rfl
theorem rank_eq (n : Nat) (r : Nat) (h : r < 5) : (G (n + 1)).fn i_rank [.sh (lt r)] = .ok (.d (.int (r : Int))) [.sh (lt r)] := by
  have e := ix_is r h
  rw [fn_succ n _ _ d_rank rfl]
  simp [Ob.d, binD, Rs.hold, holds, runDef, execs, exec, tst, ev, evs, callS, lent, noTwice, passAll, passS, backAll, backS, Out.bind, Out.thn, tstR, Rs.see, Out.of, sees1, sees2, negD, cmpS, cmpD, sameD, plainD, plainDs, eqD, blR, truD, SOut.seq, SOut.of, bltS, sees, bltD, tupD, putTgs, putTg, setSubS, obAt, putOb, mayPut_eq, mpO_un, mpO_sh, mpO_ow, putR, retR, pasKept, backP, noEx, len1S, d_rank, b_rank, metOk, isMut, metS, kindOk, e]
theorem added_n (n : Nat) (g x : Nat) : (G (n + 3)).fn i_may_be_added [.sh (lt g), .sh (.int (x : Int))] = .ok (.d (.bl true)) [.sh (lt g), .sh (.int (x : Int))] := by
  have h := count_eq n (x : Int) (by omega)
  rw [fn_succ (n + 2) _ _ d_may_be_added rfl]
  simp [Ob.d, binD, Rs.hold, holds, runDef, execs, exec, tst, ev, evs, callS, lent, noTwice, passAll, passS, backAll, backS, Out.bind, Out.thn, tstR, Rs.see, Out.of, sees1, sees2, negD, cmpS, cmpD, sameD, plainD, plainDs, eqD, blR, truD, SOut.seq, SOut.of, bltS, sees, bltD, tupD, putTgs, putTg, setSubS, obAt, putOb, mayPut_eq, mpO_un, mpO_sh, mpO_ow, putR, retR, pasKept, backP, noEx, len1S, d_may_be_added, b_may_be_added, h]
theorem added_r (n : Nat) (g s : Nat) (hg : g < 5) (hs : s < g) : (G (n + 3)).fn i_may_be_added [.sh (lt g), .sh (lt s)] = .ok (.d (.bl true)) [.sh (lt g), .sh (lt s)] := by
  have h := count_str n [97 + s]
  have h : (G (n + 2)).fn i_is_count [.sh (lt s)] = .ok (.d (.bl false)) [.sh (lt s)] := h
  have h1 := register_eq (n + 1) s (by omega)
  have h2 := rank_eq (n + 1) s (by omega)
  have h3 := rank_eq (n + 1) g hg
  rw [fn_succ (n + 2) _ _ d_may_be_added rfl]
  generalize lt g = lg at h3 ⊢
  generalize lt s = ls at h h1 h2 ⊢
  have c : (s : Int) < (g : Int) := by omega
  simp [Ob.d, binD, Rs.hold, holds, runDef, execs, exec, tst, ev, evs, callS, lent, noTwice, passAll, passS, backAll, backS, Out.bind, Out.thn, tstR, Rs.see, Out.of, sees1, sees2, negD, cmpS, cmpD, sameD, plainD, plainDs, eqD, blR, truD, SOut.seq, SOut.of, bltS, sees, bltD, tupD, putTgs, putTg, setSubS, obAt, putOb, mayPut_eq, mpO_un, mpO_sh, mpO_ow, putR, retR, pasKept, backP, noEx, len1S, d_may_be_added, b_may_be_added, h, h1, h2, h3, c, hs]
theorem row_eq (n : Nat) (r : Rw) (hr : r.ok) : (G (n + 4)).fn i_is_row [.sh r.d] = .ok (.d (.bl true)) [.sh r.d] := by
  rw [fn_succ (n + 3) _ _ d_is_row rfl]
  have k1 : (Kd.tuple == Kd.tuple) = true := rfl
  have k2 : (Kd.str == Kd.str) = true := rfl
  have x0 : ∀ (x : D) (l : List D), idxD (.tup (x :: l)) (.int 0) = some x := fun x l => by
    show (plc (l.length + 1) 0).bind (fun k => (x :: l)[k]?) = some x
    have : plc (l.length + 1) 0 = some 0 := plc_nat (n := l.length + 1) (k := 0) (by omega)
    rw [this]; rfl
  have y0 : ∀ (x : D) (l : List D), idxD (.lst (x :: l)) (.int 0) = some x := fun x l => by
    show (plc (l.length + 1) 0).bind (fun k => (x :: l)[k]?) = some x
    have : plc (l.length + 1) 0 = some 0 := plc_nat (n := l.length + 1) (k := 0) (by omega)
    rw [this]; rfl
  have y1 : ∀ (x y : D), idxD (.lst [x, y]) (.int 1) = some y := fun x y => rfl
  have i1 : inD (.str tTell) (.tup [.str [116, 101, 108, 108], .str [114, 101, 112, 101, 97, 116]]) = some true := by simp [inD, flatD, eqD]
  have i2 : inD (.str tRep) (.tup [.str [116, 101, 108, 108], .str [114, 101, 112, 101, 97, 116]]) = some true := by simp [inD, flatD, eqD]
  cases r with
  | addn g x =>
    have h1 := register_eq (n + 2) g hr
    have h2 := added_n n g x
    simp only [Rw.d]
    simp [Ob.d, binD, Rs.hold, holds, runDef, execs, exec, tst, ev, evs, callS, lent, noTwice, passAll, passS, backAll, backS, Out.bind, Out.thn, tstR, Rs.see, Out.of, sees1, sees2, negD, cmpS, cmpD, sameD, plainD, plainDs, eqD, blR, truD, SOut.seq, SOut.of, bltS, sees, bltD, tupD, putTgs, putTg, setSubS, obAt, putOb, mayPut_eq, mpO_un, mpO_sh, mpO_ow, putR, retR, pasKept, backP, noEx, len1S, d_is_row, b_is_row, iskD, isKd, kdOf, List.any, k1, k2, x0, y0, y1, seqD, putNs, h1, h2]
  | addr g s =>
    have h1 := register_eq (n + 2) g hr.1
    have h2 := added_r n g s hr.1 hr.2
    simp only [Rw.d]
    simp [Ob.d, binD, Rs.hold, holds, runDef, execs, exec, tst, ev, evs, callS, lent, noTwice, passAll, passS, backAll, backS, Out.bind, Out.thn, tstR, Rs.see, Out.of, sees1, sees2, negD, cmpS, cmpD, sameD, plainD, plainDs, eqD, blR, truD, SOut.seq, SOut.of, bltS, sees, bltD, tupD, putTgs, putTg, setSubS, obAt, putOb, mayPut_eq, mpO_un, mpO_sh, mpO_ow, putR, retR, pasKept, backP, noEx, len1S, d_is_row, b_is_row, iskD, isKd, kdOf, List.any, k1, k2, x0, y0, y1, seqD, putNs, h1, h2]
  | rep r =>
    have h1 := register_eq (n + 2) r hr
    simp only [Rw.d]
    simp [Ob.d, binD, Rs.hold, holds, runDef, execs, exec, tst, ev, evs, callS, lent, noTwice, passAll, passS, backAll, backS, Out.bind, Out.thn, tstR, Rs.see, Out.of, sees1, sees2, negD, cmpS, cmpD, sameD, plainD, plainDs, eqD, blR, truD, SOut.seq, SOut.of, bltS, sees, bltD, tupD, putTgs, putTg, setSubS, obAt, putOb, mayPut_eq, mpO_un, mpO_sh, mpO_ow, putR, retR, pasKept, backP, noEx, len1S, d_is_row, b_is_row, iskD, isKd, kdOf, List.any, k1, k2, x0, y0, y1, seqD, putNs, h1, i2]
  | tell r =>
    have h1 := register_eq (n + 2) r hr
    simp only [Rw.d]
    simp [Ob.d, binD, Rs.hold, holds, runDef, execs, exec, tst, ev, evs, callS, lent, noTwice, passAll, passS, backAll, backS, Out.bind, Out.thn, tstR, Rs.see, Out.of, sees1, sees2, negD, cmpS, cmpD, sameD, plainD, plainDs, eqD, blR, truD, SOut.seq, SOut.of, bltS, sees, bltD, tupD, putTgs, putTg, setSubS, obAt, putOb, mayPut_eq, mpO_un, mpO_sh, mpO_ow, putR, retR, pasKept, backP, noEx, len1S, d_is_row, b_is_row, iskD, isKd, kdOf, List.any, k1, k2, x0, y0, y1, seqD, putNs, h1, i1]
  | fin =>
    simp only [Rw.d]
    simp [Ob.d, binD, Rs.hold, holds, runDef, execs, exec, tst, ev, evs, callS, lent, noTwice, passAll, passS, backAll, backS, Out.bind, Out.thn, tstR, Rs.see, Out.of, sees1, sees2, negD, cmpS, cmpD, sameD, plainD, plainDs, eqD, blR, truD, SOut.seq, SOut.of, bltS, sees, bltD, tupD, putTgs, putTg, setSubS, obAt, putOb, mayPut_eq, mpO_un, mpO_sh, mpO_ow, putR, retR, pasKept, backP, noEx, len1S, d_is_row, b_is_row, iskD, isKd, kdOf, List.any, k1, k2, x0, y0, y1, seqD, putNs]
end Lw
end
section
set_option exponentiation.threshold 300
namespace Lw
open Mi
theorem x0 (x : D) (l : List D) : idxD (.tup (x :: l)) (.int 0) = some x := by
  show (plc (l.length + 1) 0).bind (fun k => (x :: l)[k]?) = some x
  have : plc (l.length + 1) 0 = some 0 := plc_nat (n := l.length + 1) (k := 0) (by omega)
  rw [this]; rfl
theorem x1 (x y : D) (l : List D) : idxD (.tup (x :: y :: l)) (.int 1) = some y := by
  show (plc (l.length + 2) 1).bind (fun k => (x :: y :: l)[k]?) = some y
  have : plc (l.length + 2) 1 = some 1 := plc_nat (n := l.length + 2) (k := 1) (by omega)
  rw [this]; rfl
/-! ### what is open -/
def fitsB : Rw → List Nat → Bool
  | .addn g _, st => st.all fun x => decide (x < g)
  | .addr g _, st => st.all fun x => decide (x < g)
  | .rep _, st => decide (st.length < 3)
  | .tell _, _ => true
  | .fin, st => !st.isEmpty
def stp : List Nat → Rw → List Nat
  | st, .rep r => st ++ [r]
  | st, .fin => st.dropLast
  | st, _ => st
def ltL (st : List Nat) : List D := st.map lt
theorem ltL_get (st : List Nat) (k : Nat) : (ltL st)[k]? = (st[k]?).map lt := by unfold ltL; rw [List.getElem?_map]
theorem ltL_len (st : List Nat) : (ltL st).length = st.length := by unfold ltL; simp
theorem ltL_app (a b : List Nat) : ltL (a ++ b) = ltL a ++ ltL b := by unfold ltL; simp
theorem lt_plain (n r : Nat) (h : r < 5) : plainD n (lt r) = true := five (P := fun r => plainD n (lt r) = true) r h (by simp [lt, plainD]) (by simp [lt, plainD]) (by simp [lt, plainD]) (by simp [lt, plainD]) (by simp [lt, plainD])
theorem ltL_plain (n : Nat) : ∀ st : List Nat, (∀ x ∈ st, x < 5) → plainDs n (ltL st) = true
  | [], _ => by simp [ltL, plainDs]
  | x :: st, h => by
    have h1 := lt_plain n x (h x (List.mem_cons_self ..))
    have h2 := ltL_plain n st fun y hy => h y (List.mem_cons_of_mem _ hy)
    unfold ltL at h2 ⊢
    simp only [List.map_cons, plainDs, h1, h2, Bool.and_self]
theorem bls_map : ∀ l : List Bool, blsOf (l.map .bl) = some l
  | [] => rfl
  | b :: l => by
    show (match blsOf (l.map .bl) with
      | some l => some (b :: l)
      | none => none) = _
    rw [bls_map l]
def rankComp : MExp := .comp (.cmp .lt (.call i_rank [.var 2]) (.call i_rank [.idx (.var 0) (.cst (.int 1))])) (.nm 2) (.seq (.var 1)) none
theorem rank_comp (n : Nat) (t : Tx) (g : Nat) (l : List D) (hg : g < 5) (st : List Nat) (h5 : ∀ x ∈ st, x < 5) (hl : st.length ≤ 3) :
    ev (G (n + 1)) (.blt .all [rankComp]) [.sh (.tup (.str t :: lt g :: l)), .pa (.lst (ltL st)), .un] = .ok (.d (.bl (st.all fun x => decide (x < g)))) [.sh (.tup (.str t :: lt g :: l)), .pa (.lst (ltL st)), .un] := by
  have hit : evIt (G (n + 1)) (.seq (.var 1)) [.sh (.tup (.str t :: lt g :: l)), .pa (.lst (ltL st)), .un] = .ok (.one (.slot 1 st.length)) [.sh (.tup (.str t :: lt g :: l)), .pa (.lst (ltL st)), .un] := by
    have := ltL_len st
    generalize ltL st = q at this ⊢
    simp [evIt, srcL, srcOf, It.slots, Src.slots, It.len, Src.len, partO, It.at_, Src.at_, It.fine, Src.fine, ev, evs, evp, callS, lent, noTwice, passAll, passS, backAll, backS, Out.bind, Out.thn, Rs.see, Rs.hold, holds, Out.of, sees1, sees2, binD, bltS, sees, bltD, Ob.d, obAt, len1S, this]
  obtain ⟨acc, e2, g1, g2, g3⟩ := ev_comp_by (G := G (n + 1)) (a := .cmp .lt (.call i_rank [.var 2]) (.call i_rank [.idx (.var 0) (.cst (.int 1))])) (t := .nm 2) (c := none) st.length
    (fun k acc e => acc = ((st.take k).map fun x => decide (x < g)).map .bl ∧ e = [.sh (.tup (.str t :: lt g :: l)), .pa (.lst (ltL st)), .un]) hit rfl rfl ⟨rfl, rfl⟩
    (fun k acc e hk ⟨q1, q2⟩ hlen => by
      subst q2
      have hx5 := h5 st[k] (List.getElem_mem hk)
      refine ⟨lt st[k], [.sh (.tup (.str t :: lt g :: l)), .pa (.lst (ltL st)), .sh (lt st[k])], ?_, rfl, .inl ⟨_, .d (.bl (decide (st[k] < g))), [.sh (.tup (.str t :: lt g :: l)), .pa (.lst (ltL st)), .sh (lt st[k])], .bl (decide (st[k] < g)), _, by simp [evc]; rfl, ?_, rfl, ?_, rfl⟩⟩
      · show (ltL st)[k]? = _
        rw [ltL_get, List.getElem?_eq_getElem hk]
        rfl
      · have h1 := rank_eq n st[k] hx5
        have h2 := rank_eq n g hg
        have h3 := x1 (.str t) (lt g) l
        generalize st[k] = y at h1 ⊢
        simp [Ob.d, binD, Rs.hold, holds, runDef, execs, exec, tst, ev, evs, callS, lent, noTwice, passAll, passS, backAll, backS, Out.bind, Out.thn, tstR, Rs.see, Out.of, sees1, sees2, negD, cmpS, cmpD, sameD, plainD, plainDs, eqD, blR, truD, SOut.seq, SOut.of, bltS, sees, bltD, tupD, putTgs, putTg, setSubS, obAt, putOb, mayPut_eq, mpO_un, mpO_sh, mpO_ow, putR, retR, pasKept, backP, noEx, len1S, h1, h2, h3]
      · have e : st[k]? = some st[k] := List.getElem?_eq_getElem hk
        rw [List.take_add_one, e, q1, List.map_append, List.map_append]
        rfl)
    (fun acc e ⟨_, q⟩ => by subst q; show ((ltL st).length == st.length) = true; rw [ltL_len]; simp) (by omega)
  subst g2
  subst g3
  have hb := bls_map (st.map fun x => decide (x < g))
  rw [List.take_of_length_le (Nat.le_refl _)] at g1
  have e : ev (G (n + 1)) (.blt .all [rankComp]) [.sh (.tup (.str t :: lt g :: l)), .pa (.lst (ltL st)), .un] = (evs (G (n + 1)) [rankComp] [.sh (.tup (.str t :: lt g :: l)), .pa (.lst (ltL st)), .un]).bind fun rs e1 => bltS .all rs e1 := rfl
  have e3 : evs (G (n + 1)) [rankComp] [.sh (.tup (.str t :: lt g :: l)), .pa (.lst (ltL st)), .un] = (ev (G (n + 1)) rankComp [.sh (.tup (.str t :: lt g :: l)), .pa (.lst (ltL st)), .un]).bind fun r e1 => (Out.ok [] e1).bind fun rs e2 => .ok (r :: rs) e2 := rfl
  have g1 : ev (G (n + 1)) rankComp [.sh (.tup (.str t :: lt g :: l)), .pa (.lst (ltL st)), .un] = _ := g1
  rw [e, e3, g1]
  simp [Out.bind, bltS, sees, Rs.see, Ob.d, bltD, hb, Out.of, unwipe, wipeE, Tgt.is]
  have hb : blsOf (List.map (D.bl ∘ fun x => decide (x < g)) st) = some (st.map fun x => decide (x < g)) := by rw [← List.map_map]; exact hb
  rw [hb]
  simp [Function.comp_def]
theorem stand_eq (n : Nat) (r : Rw) (hr : r.ok) (st : List Nat) (h5 : ∀ x ∈ st, x < 5) (hl : st.length ≤ 3) :
    (G (n + 2)).fn i_may_stand [.sh r.d, .pa (.lst (ltL st))] = .ok (.d (.bl (fitsB r st))) [.sh r.d, .pa (.lst (ltL st))] := by
  have hlen := ltL_len st
  have hp := ltL_plain 39 st h5
  have he : eqDs (ltL st) [] = st.isEmpty := by cases st <;> rfl
  have e : d_may_stand = ⟨2, 3, [.ite (.cmp .eq (.idx (.var 0) (.cst (.int 0))) (.cst (.str [101, 110, 100]))) [.ret (.cmp .ne (.var 1) (.lst []))] [], .ite (.cmp .eq (.idx (.var 0) (.cst (.int 0))) (.cst (.str [114, 101, 112, 101, 97, 116]))) [.ret (.cmp .lt (.len1 (.var 1)) (.cst (.int 3)))] [], .ret (.or_ (.cmp .eq (.idx (.var 0) (.cst (.int 0))) (.cst (.str [116, 101, 108, 108]))) (.blt .all [rankComp]))]⟩ := rfl
  rw [fn_succ (n + 1) _ _ d_may_stand rfl, e]
  cases r with
  | addn g x =>
    have h1 := rank_comp n tAdd g [.int (x : Int)] hr st h5 hl
    simp only [Rw.d, fitsB] at h1 ⊢
    generalize MExp.blt .all [rankComp] = m at h1 ⊢
    generalize ltL st = q at h1 hlen hp he ⊢
    simp [Ob.d, binD, Rs.hold, holds, runDef, execs, exec, tst, ev, evs, callS, lent, noTwice, passAll, passS, backAll, backS, Out.bind, Out.thn, tstR, Rs.see, Out.of, sees1, sees2, negD, cmpS, cmpD, sameD, plainD, plainDs, eqD, blR, truD, SOut.seq, SOut.of, bltS, sees, bltD, tupD, putTgs, putTg, setSubS, obAt, putOb, mayPut_eq, mpO_un, mpO_sh, mpO_ow, putR, retR, pasKept, backP, noEx, len1S, x0, h1]
  | addr g s =>
    have h1 := rank_comp n tAdd g [lt s] hr.1 st h5 hl
    simp only [Rw.d, fitsB] at h1 ⊢
    generalize MExp.blt .all [rankComp] = m at h1 ⊢
    generalize ltL st = q at h1 hlen hp he ⊢
    simp [Ob.d, binD, Rs.hold, holds, runDef, execs, exec, tst, ev, evs, callS, lent, noTwice, passAll, passS, backAll, backS, Out.bind, Out.thn, tstR, Rs.see, Out.of, sees1, sees2, negD, cmpS, cmpD, sameD, plainD, plainDs, eqD, blR, truD, SOut.seq, SOut.of, bltS, sees, bltD, tupD, putTgs, putTg, setSubS, obAt, putOb, mayPut_eq, mpO_un, mpO_sh, mpO_ow, putR, retR, pasKept, backP, noEx, len1S, x0, h1]
  | rep r =>
    simp only [Rw.d, fitsB]
    generalize MExp.blt .all [rankComp] = m
    generalize ltL st = q at hlen hp he ⊢
    have c : decide ((st.length : Int) < 3) = decide (st.length < 3) := by
      by_cases z : st.length < 3
      · simp [z]; omega
      · simp [z]; omega
    simp [Ob.d, binD, Rs.hold, holds, runDef, execs, exec, tst, ev, evs, callS, lent, noTwice, passAll, passS, backAll, backS, Out.bind, Out.thn, tstR, Rs.see, Out.of, sees1, sees2, negD, cmpS, cmpD, sameD, plainD, plainDs, eqD, blR, truD, SOut.seq, SOut.of, bltS, sees, bltD, tupD, putTgs, putTg, setSubS, obAt, putOb, mayPut_eq, mpO_un, mpO_sh, mpO_ow, putR, retR, pasKept, backP, noEx, len1S, x0, hlen, c]
  | tell r =>
    simp only [Rw.d, fitsB]
    generalize MExp.blt .all [rankComp] = m
    generalize ltL st = q at hlen hp he ⊢
    simp [Ob.d, binD, Rs.hold, holds, runDef, execs, exec, tst, ev, evs, callS, lent, noTwice, passAll, passS, backAll, backS, Out.bind, Out.thn, tstR, Rs.see, Out.of, sees1, sees2, negD, cmpS, cmpD, sameD, plainD, plainDs, eqD, blR, truD, SOut.seq, SOut.of, bltS, sees, bltD, tupD, putTgs, putTg, setSubS, obAt, putOb, mayPut_eq, mpO_un, mpO_sh, mpO_ow, putR, retR, pasKept, backP, noEx, len1S, x0]
  | fin =>
    simp only [Rw.d, fitsB]
    generalize MExp.blt .all [rankComp] = m
    generalize ltL st = q at hlen hp he ⊢
    simp [Ob.d, binD, Rs.hold, holds, runDef, execs, exec, tst, ev, evs, callS, lent, noTwice, passAll, passS, backAll, backS, Out.bind, Out.thn, tstR, Rs.see, Out.of, sees1, sees2, negD, cmpS, cmpD, sameD, plainD, plainDs, eqD, blR, truD, SOut.seq, SOut.of, bltS, sees, bltD, tupD, putTgs, putTg, setSubS, obAt, putOb, mayPut_eq, mpO_un, mpO_sh, mpO_ow, putR, retR, pasKept, backP, noEx, len1S, x0, hp, he]
end Lw
end
section
set_option exponentiation.threshold 300
namespace Lw
open Mi
def stk (rows : List Rw) (k : Nat) : List Nat := (rows.take k).foldl stp []
theorem stk_zero (rows : List Rw) : stk rows 0 = [] := rfl
theorem stk_succ {rows : List Rw} {k : Nat} {r : Rw} (h : rows[k]? = some r) : stk rows (k + 1) = stp (stk rows k) r := by
  unfold stk
  rw [List.take_add_one, h, List.foldl_append]
  rfl
structure VR (rows : List Rw) : Prop where
  len : rows.length ≤ 40
  ok : ∀ k r, rows[k]? = some r → r.ok ∧ fitsB r (stk rows k) = true
  st : ∀ k, (stk rows k).length ≤ 3 ∧ ∀ x ∈ stk rows k, x < 5
  fin : stk rows rows.length = []
def rowsL (rows : List Rw) : List D := rows.map Rw.d
theorem rowsL_len (rows : List Rw) : (rowsL rows).length = rows.length := by unfold rowsL; simp
theorem rowsL_get (rows : List Rw) (k : Nat) : (rowsL rows)[k]? = (rows[k]?).map Rw.d := by unfold rowsL; rw [List.getElem?_map]
def fwB : List MStmt := [.ite (.or_ (.cmp .ge (.var 2) (.cst (.int 40))) (.or_ (.not_ (.call i_is_row [.var 3])) (.not_ (.call i_may_stand [.var 3, .var 1])))) [.ret (.var 2)] [], .ite (.cmp .eq (.idx (.var 3) (.cst (.int 0))) (.cst (.str [114, 101, 112, 101, 97, 116]))) [.exp (.met .append (.var 1) [.idx (.var 3) (.cst (.int 1))])] [.ite (.cmp .eq (.idx (.var 3) (.cst (.int 0))) (.cst (.str [101, 110, 100]))) [.exp (.met .pop (.var 1) [])] []]]
theorem fw_body (n : Nat) (rows : D) (k : Nat) (hk : k < 40) (r : Rw) (hr : r.ok) (st : List Nat) (h5 : ∀ x ∈ st, x < 5) (hl : st.length ≤ 3) (hf : fitsB r st = true) :
    execs (G (n + 4)) fwB [.sh rows, .ow (.lst (ltL st)), .sh (.int (k : Int)), .sh r.d] = .nx [.sh rows, .ow (.lst (ltL (stp st r))), .sh (.int (k : Int)), .sh r.d] := by
  have h1 := row_eq n r hr
  have h2 := stand_eq (n + 2) r hr st h5 hl
  rw [hf] at h2
  have hk' : ¬ (40 : Int) ≤ (k : Int) := by omega
  have hk'' : ¬ 40 ≤ k := by omega
  have hz : szOk (ltL st).length = true := szOk_of (by rw [ltL_len]; omega)
  cases r with
  | addn g x =>
    simp only [Rw.d, stp] at h1 h2 ⊢
    generalize ltL st = q at h2 hz ⊢
    simp [Ob.d, binD, Rs.hold, holds, runDef, execs, exec, tst, ev, evs, callS, lent, noTwice, passAll, passS, backAll, backS, Out.bind, Out.thn, tstR, Rs.see, Out.of, sees1, sees2, negD, cmpS, cmpD, sameD, plainD, plainDs, eqD, blR, truD, SOut.seq, SOut.of, bltS, sees, bltD, tupD, putTgs, putTg, setSubS, obAt, putOb, mayPut_eq, mpO_un, mpO_sh, mpO_ow, putR, retR, pasKept, backP, noEx, len1S, fwB, h1, h2, hk', hk'', x0]
  | addr g s =>
    simp only [Rw.d, stp] at h1 h2 ⊢
    generalize ltL st = q at h2 hz ⊢
    simp [Ob.d, binD, Rs.hold, holds, runDef, execs, exec, tst, ev, evs, callS, lent, noTwice, passAll, passS, backAll, backS, Out.bind, Out.thn, tstR, Rs.see, Out.of, sees1, sees2, negD, cmpS, cmpD, sameD, plainD, plainDs, eqD, blR, truD, SOut.seq, SOut.of, bltS, sees, bltD, tupD, putTgs, putTg, setSubS, obAt, putOb, mayPut_eq, mpO_un, mpO_sh, mpO_ow, putR, retR, pasKept, backP, noEx, len1S, fwB, h1, h2, hk', hk'', x0]
  | tell r =>
    simp only [Rw.d, stp] at h1 h2 ⊢
    generalize ltL st = q at h2 hz ⊢
    simp [Ob.d, binD, Rs.hold, holds, runDef, execs, exec, tst, ev, evs, callS, lent, noTwice, passAll, passS, backAll, backS, Out.bind, Out.thn, tstR, Rs.see, Out.of, sees1, sees2, negD, cmpS, cmpD, sameD, plainD, plainDs, eqD, blR, truD, SOut.seq, SOut.of, bltS, sees, bltD, tupD, putTgs, putTg, setSubS, obAt, putOb, mayPut_eq, mpO_un, mpO_sh, mpO_ow, putR, retR, pasKept, backP, noEx, len1S, fwB, h1, h2, hk', hk'', x0]
  | rep r =>
    simp only [Rw.d, stp] at h1 h2 ⊢
    rw [ltL_app]
    have e : ltL [r] = [lt r] := rfl
    rw [e]
    generalize ltL st = q at h2 hz ⊢
    simp [Ob.d, binD, Rs.hold, holds, runDef, execs, exec, tst, ev, evs, callS, lent, noTwice, passAll, passS, backAll, backS, Out.bind, Out.thn, tstR, Rs.see, Out.of, sees1, sees2, negD, cmpS, cmpD, sameD, plainD, plainDs, eqD, blR, truD, SOut.seq, SOut.of, bltS, sees, bltD, tupD, putTgs, putTg, setSubS, obAt, putOb, mayPut_eq, mpO_un, mpO_sh, mpO_ow, putR, retR, pasKept, backP, noEx, len1S, fwB, h1, h2, hk', hk'', x0, x1, metOk, isMut, metS, metO, hz]
  | fin =>
    simp only [Rw.d, stp] at h1 h2 ⊢
    rcases List.eq_nil_or_concat st with rfl | ⟨xs, x, rfl⟩
    · cases hf
    · rw [List.concat_eq_append] at h2 hz ⊢
      rw [List.dropLast_concat]
      rw [ltL_app] at h2 hz ⊢
      have e : ltL [x] = [lt x] := rfl
      rw [e] at h2 hz ⊢
      generalize ltL xs = q at h2 hz ⊢
      simp [Ob.d, binD, Rs.hold, holds, runDef, execs, exec, tst, ev, evs, callS, lent, noTwice, passAll, passS, backAll, backS, Out.bind, Out.thn, tstR, Rs.see, Out.of, sees1, sees2, negD, cmpS, cmpD, sameD, plainD, plainDs, eqD, blR, truD, SOut.seq, SOut.of, bltS, sees, bltD, tupD, putTgs, putTg, setSubS, obAt, putOb, mayPut_eq, mpO_un, mpO_sh, mpO_ow, putR, retR, pasKept, backP, noEx, len1S, fwB, h1, h2, hk', hk'', x0, x1, metOk, isMut, metS, metO, hz]
theorem enum_at {rows : List Rw} {k : Nat} {r : Rw} (h : rows[k]? = some r) (e : Env) : (It.enum (.snap (rowsL rows))).at_ k e = some (.tup [.int (k : Nat), r.d]) := by
  show ((rowsL rows)[k]?).map _ = _
  rw [rowsL_get, h]
  rfl
theorem first_wrong_eq (n : Nat) (rows : List Rw) (v : VR rows) (w : D) (hw : w = .tup (rowsL rows) ∨ w = .lst (rowsL rows)) : (G (n + 5)).fn i_first_wrong [.sh w] = .ok (.d .non) [.sh w] := by
  have hit : evIt (G (n + 4)) (.enum (.var 0)) [.sh w, .ow (.lst (ltL [])), .un, .un] = .ok (.enum (.snap (rowsL rows))) [.sh w, .ow (.lst (ltL [])), .un, .un] := by
    rcases hw with rfl | rfl
    · generalize rowsL rows = q
      simp [evIt, srcL, srcOf, It.slots, Src.slots, It.len, Src.len, partO, It.at_, Src.at_, It.fine, Src.fine, ev, evs, evp, callS, lent, noTwice, passAll, passS, backAll, backS, Out.bind, Out.thn, Rs.see, Rs.hold, holds, Out.of, sees1, sees2, binD, bltS, sees, bltD, Ob.d, obAt, len1S]
    · generalize rowsL rows = q
      simp [evIt, srcL, srcOf, It.slots, Src.slots, It.len, Src.len, partO, It.at_, Src.at_, It.fine, Src.fine, ev, evs, evp, callS, lent, noTwice, passAll, passS, backAll, backS, Out.bind, Out.thn, Rs.see, Rs.hold, holds, Out.of, sees1, sees2, binD, bltS, sees, bltD, Ob.d, obAt, len1S]
  obtain ⟨e', hf, s2, s3, m2, m3, q⟩ := exec_for_by (G := G (n + 4)) (t := .tp [2, 3]) (it := .enum (.var 0)) (b := fwB) rows.length
    (fun k e => ∃ s2 s3 : Sl, mpO (some s2) = true ∧ mpO (some s3) = true ∧ e = [.sh w, .ow (.lst (ltL (stk rows k))), s2, s3])
    hit (rowsL_len rows) rfl ⟨.un, .un, rfl, rfl, rfl⟩
    (fun k e hk ⟨s2, s3, m2, m3, q⟩ => by
      subst q
      have hr : rows[k]? = some rows[k] := List.getElem?_eq_getElem hk
      obtain ⟨o1, o2⟩ := v.ok k _ hr
      obtain ⟨l3, l5⟩ := v.st k
      have hb := fw_body n w k (by have := v.len; omega) rows[k] o1 (stk rows k) l5 l3 o2
      rw [← stk_succ hr] at hb
      refine ⟨_, [.sh w, .ow (.lst (ltL (stk rows k))), .sh (.int (k : Int)), .sh rows[k].d], _, enum_at hr _, ?_, hb, _, _, rfl, rfl, rfl⟩
      simp [Tgt.put, tupD, putNs, mayPut_eq, m2, m3])
    (fun _ _ => rfl)
  subst q
  rw [v.fin] at hf
  have e0 : d_first_wrong = ⟨1, 4, [.set 1 true (.lst []), .for_ (.tp [2, 3]) (.enum (.var 0)) fwB, .ret (.ite (.var 1) (.len1 (.var 0)) (.cst .non))]⟩ := rfl
  rw [fn_succ (n + 4) _ _ d_first_wrong rfl, e0]
  have en : ltL [] = [] := rfl
  rw [en] at hf
  generalize MStmt.for_ (.tp [2, 3]) (.enum (.var 0)) fwB = l at hf
  simp [Ob.d, binD, Rs.hold, holds, runDef, execs, exec, tst, ev, evs, callS, lent, noTwice, passAll, passS, backAll, backS, Out.bind, Out.thn, tstR, Rs.see, Out.of, sees1, sees2, negD, cmpS, cmpD, sameD, plainD, plainDs, eqD, blR, truD, SOut.seq, SOut.of, bltS, sees, bltD, tupD, putTgs, putTg, setSubS, obAt, putOb, mayPut_eq, mpO_un, mpO_sh, mpO_ow, putR, retR, pasKept, backP, noEx, len1S, hf]
/-! ### the repeats around -/
def natL (l : List Nat) : List D := l.map fun (x : Nat) => D.int (x : Int)
theorem natL_len (l : List Nat) : (natL l).length = l.length := by unfold natL; simp
theorem natL_app (a b : List Nat) : natL (a ++ b) = natL a ++ natL b := by unfold natL; simp
def lstL (l : List (List Nat)) : List D := l.map fun x => .lst (natL x)
theorem lstL_len (l : List (List Nat)) : (lstL l).length = l.length := by unfold lstL; simp
theorem lstL_app (a b : List (List Nat)) : lstL (a ++ b) = lstL a ++ lstL b := by unfold lstL; simp
theorem lstL_get (l : List (List Nat)) (k : Nat) : (lstL l)[k]? = (l[k]?).map fun x => .lst (natL x) := by unfold lstL; rw [List.getElem?_map]
def dl (r : Rw) (n : Nat) : Nat := match r with
  | .rep _ => n + 1
  | .fin => n - 1
  | _ => n
def raB : List MStmt := [.exp (.met .append (.var 2) [.blt .list [.var 1]]), .ite (.cmp .eq (.idx (.var 4) (.cst (.int 0))) (.cst (.str [114, 101, 112, 101, 97, 116]))) [.exp (.met .append (.var 1) [.var 3])] [.ite (.cmp .eq (.idx (.var 4) (.cst (.int 0))) (.cst (.str [101, 110, 100]))) [.exp (.met .pop (.var 1) [])] []]]
/-- the repeats that are open ahead of a row, by their places -/
def opn (rows : List Rw) : Nat → List Nat
  | 0 => []
  | k + 1 => match rows[k]? with
    | some (.rep _) => opn rows k ++ [k]
    | some .fin => (opn rows k).dropLast
    | _ => opn rows k
def ops (op : List Nat) (k : Nat) : Rw → List Nat
  | .rep _ => op ++ [k]
  | .fin => op.dropLast
  | _ => op
theorem opn_succ {rows : List Rw} {k : Nat} {r : Rw} (h : rows[k]? = some r) : opn rows (k + 1) = ops (opn rows k) k r := by
  show (match rows[k]? with
    | some (.rep _) => opn rows k ++ [k]
    | some .fin => (opn rows k).dropLast
    | _ => opn rows k) = _
  rw [h]
  cases r <;> rfl
theorem opn_over {rows : List Rw} {k : Nat} (h : rows.length ≤ k) : opn rows (k + 1) = opn rows k := by
  show (match rows[k]? with
    | some (.rep _) => opn rows k ++ [k]
    | some .fin => (opn rows k).dropLast
    | _ => opn rows k) = _
  rw [List.getElem?_eq_none h]
theorem stp_len (st : List Nat) (r : Rw) : (stp st r).length = dl r st.length := by
  cases r <;> simp [stp, dl]
theorem ops_len (op : List Nat) (k : Nat) (r : Rw) : (ops op k r).length = dl r op.length := by
  cases r <;> simp [ops, dl]
theorem stk_past {rows : List Rw} {k : Nat} (h : rows.length ≤ k) : stk rows (k + 1) = stk rows k := by
  unfold stk
  rw [List.take_of_length_le (by omega), List.take_of_length_le (by omega)]
theorem opn_len (rows : List Rw) : ∀ k, (opn rows k).length = (stk rows k).length
  | 0 => rfl
  | k + 1 => by
    have ih := opn_len rows k
    by_cases h : k < rows.length
    · have hr : rows[k]? = some rows[k] := List.getElem?_eq_getElem h
      rw [opn_succ hr, stk_succ hr, ops_len, stp_len, ih]
    · rw [opn_over (by omega), stk_past (by omega), ih]
theorem ra_body (n : Nat) (rows : D) (k : Nat) (r : Rw) (op : List Nat) (fo : List (List Nat)) (hop : op.length ≤ 3) (hfo : fo.length ≤ 40) (hf : r = .fin → op ≠ []) :
      execs (G n) raB [.sh rows, .ow (.lst (natL op)), .ow (.lst (lstL fo)), .sh (.int (k : Int)), .sh r.d] = .nx [.sh rows, .ow (.lst (natL (ops op k r))), .ow (.lst (lstL (fo ++ [op]))), .sh (.int (k : Int)), .sh r.d] := by
  have hz1 : szOk (natL op).length = true := szOk_of (by rw [natL_len]; omega)
  have hz2 : szOk (lstL fo).length = true := szOk_of (by rw [lstL_len]; omega)
  rw [lstL_app]
  have e1 : lstL [op] = [.lst (natL op)] := rfl
  rw [e1]
  cases r with
  | addn g x =>
    simp only [Rw.d, ops]
    generalize natL op = q at hz1 ⊢
    generalize lstL fo = p at hz2 ⊢
    simp [Ob.d, binD, Rs.hold, holds, runDef, execs, exec, tst, ev, evs, callS, lent, noTwice, passAll, passS, backAll, backS, Out.bind, Out.thn, tstR, Rs.see, Out.of, sees1, sees2, negD, cmpS, cmpD, sameD, plainD, plainDs, eqD, blR, truD, SOut.seq, SOut.of, bltS, sees, bltD, tupD, putTgs, putTg, setSubS, obAt, putOb, mayPut_eq, mpO_un, mpO_sh, mpO_ow, putR, retR, pasKept, backP, noEx, len1S, raB, x0, metOk, isMut, metS, metO, hz1, hz2]
  | addr g x =>
    simp only [Rw.d, ops]
    generalize natL op = q at hz1 ⊢
    generalize lstL fo = p at hz2 ⊢
    simp [Ob.d, binD, Rs.hold, holds, runDef, execs, exec, tst, ev, evs, callS, lent, noTwice, passAll, passS, backAll, backS, Out.bind, Out.thn, tstR, Rs.see, Out.of, sees1, sees2, negD, cmpS, cmpD, sameD, plainD, plainDs, eqD, blR, truD, SOut.seq, SOut.of, bltS, sees, bltD, tupD, putTgs, putTg, setSubS, obAt, putOb, mayPut_eq, mpO_un, mpO_sh, mpO_ow, putR, retR, pasKept, backP, noEx, len1S, raB, x0, metOk, isMut, metS, metO, hz1, hz2]
  | tell x =>
    simp only [Rw.d, ops]
    generalize natL op = q at hz1 ⊢
    generalize lstL fo = p at hz2 ⊢
    simp [Ob.d, binD, Rs.hold, holds, runDef, execs, exec, tst, ev, evs, callS, lent, noTwice, passAll, passS, backAll, backS, Out.bind, Out.thn, tstR, Rs.see, Out.of, sees1, sees2, negD, cmpS, cmpD, sameD, plainD, plainDs, eqD, blR, truD, SOut.seq, SOut.of, bltS, sees, bltD, tupD, putTgs, putTg, setSubS, obAt, putOb, mayPut_eq, mpO_un, mpO_sh, mpO_ow, putR, retR, pasKept, backP, noEx, len1S, raB, x0, metOk, isMut, metS, metO, hz1, hz2]
  | rep x =>
    simp only [Rw.d, ops]
    rw [natL_app]
    have e2 : natL [k] = [.int (k : Int)] := rfl
    rw [e2]
    generalize natL op = q at hz1 ⊢
    generalize lstL fo = p at hz2 ⊢
    simp [Ob.d, binD, Rs.hold, holds, runDef, execs, exec, tst, ev, evs, callS, lent, noTwice, passAll, passS, backAll, backS, Out.bind, Out.thn, tstR, Rs.see, Out.of, sees1, sees2, negD, cmpS, cmpD, sameD, plainD, plainDs, eqD, blR, truD, SOut.seq, SOut.of, bltS, sees, bltD, tupD, putTgs, putTg, setSubS, obAt, putOb, mayPut_eq, mpO_un, mpO_sh, mpO_ow, putR, retR, pasKept, backP, noEx, len1S, raB, x0, metOk, isMut, metS, metO, hz1, hz2]
  | fin =>
    rcases List.eq_nil_or_concat op with rfl | ⟨xs, x, rfl⟩
    · exact (hf rfl rfl).elim
    · rw [List.concat_eq_append] at hz1 ⊢
      simp only [Rw.d, ops]
      rw [List.dropLast_concat]
      rw [natL_app] at hz1 ⊢
      have e2 : natL [x] = [.int (x : Int)] := rfl
      rw [e2] at hz1 ⊢
      generalize natL xs = q at hz1 ⊢
      generalize lstL fo = p at hz2 ⊢
      simp [Ob.d, binD, Rs.hold, holds, runDef, execs, exec, tst, ev, evs, callS, lent, noTwice, passAll, passS, backAll, backS, Out.bind, Out.thn, tstR, Rs.see, Out.of, sees1, sees2, negD, cmpS, cmpD, sameD, plainD, plainDs, eqD, blR, truD, SOut.seq, SOut.of, bltS, sees, bltD, tupD, putTgs, putTg, setSubS, obAt, putOb, mayPut_eq, mpO_un, mpO_sh, mpO_ow, putR, retR, pasKept, backP, noEx, len1S, raB, x0, metOk, isMut, metS, metO, hz1, hz2]
def arou (rows : List Rw) : List (List Nat) := (List.range (rows.length + 1)).map (opn rows)
theorem arou_len (rows : List Rw) : (arou rows).length = rows.length + 1 := by unfold arou; simp
theorem arou_get (rows : List Rw) (k : Nat) (h : k ≤ rows.length) : (arou rows)[k]? = some (opn rows k) := by
  unfold arou
  rw [List.getElem?_map, List.getElem?_range (by omega)]
  rfl
theorem around_eq (n : Nat) (rows : List Rw) (v : VR rows) : (G (n + 1)).fn i_repeats_around [.sh (.lst (rowsL rows))] = .ok (.fr (.lst (lstL (arou rows)))) [.sh (.lst (rowsL rows))] := by
  have hit : evIt (G n) (.enum (.var 0)) [.sh (.lst (rowsL rows)), .ow (.lst (natL [])), .ow (.lst (lstL [])), .un, .un] = .ok (.enum (.snap (rowsL rows))) [.sh (.lst (rowsL rows)), .ow (.lst (natL [])), .ow (.lst (lstL [])), .un, .un] := by
    generalize rowsL rows = q
    simp [evIt, srcL, srcOf, It.slots, Src.slots, It.len, Src.len, partO, It.at_, Src.at_, It.fine, Src.fine, ev, evs, evp, callS, lent, noTwice, passAll, passS, backAll, backS, Out.bind, Out.thn, Rs.see, Rs.hold, holds, Out.of, sees1, sees2, binD, bltS, sees, bltD, Ob.d, obAt, len1S]
  obtain ⟨e', hf, s3, s4, m3, m4, q⟩ := exec_for_by (G := G n) (t := .tp [3, 4]) (it := .enum (.var 0)) (b := raB) rows.length
    (fun k e => ∃ (s3 s4 : Sl), mpO (some s3) = true ∧ mpO (some s4) = true ∧ e = [.sh (.lst (rowsL rows)), .ow (.lst (natL (opn rows k))), .ow (.lst (lstL ((List.range k).map (opn rows)))), s3, s4])
    hit (rowsL_len rows) rfl ⟨.un, .un, rfl, rfl, rfl⟩
    (fun k e hk ⟨s3, s4, m3, m4, q⟩ => by
      subst q
      have hr : rows[k]? = some rows[k] := List.getElem?_eq_getElem hk
      obtain ⟨l3, l5⟩ := v.st k
      have hb := ra_body n (.lst (rowsL rows)) k rows[k] (opn rows k) ((List.range k).map (opn rows)) (by rw [opn_len]; omega) (by simp; have := v.len; omega) (fun e z => by
        have hf := (v.ok k _ hr).2
        rw [e] at hf
        have : stk rows k = [] := List.length_eq_zero_iff.mp (by rw [← opn_len, z]; rfl)
        rw [this] at hf
        cases hf)
      have e1 : (List.range k).map (opn rows) ++ [opn rows k] = (List.range (k + 1)).map (opn rows) := by rw [List.range_succ, List.map_append]; rfl
      rw [e1, ← opn_succ hr] at hb
      refine ⟨_, [.sh (.lst (rowsL rows)), .ow (.lst (natL (opn rows k))), .ow (.lst (lstL ((List.range k).map (opn rows)))), .sh (.int (k : Int)), .sh rows[k].d], _, enum_at hr _, ?_, hb, _, _, rfl, rfl, rfl⟩
      simp [Tgt.put, tupD, putNs, mayPut_eq, m3, m4])
    (fun _ _ => rfl)
  subst q
  have hl : ((List.range rows.length).map (opn rows)).length = rows.length := by simp
  have hz : szOk ((lstL ((List.range rows.length).map (opn rows))).length + 1) = true := szOk_of (by rw [lstL_len, hl]; have := v.len; omega)
  have e0 : d_repeats_around = ⟨1, 5, [.par 1 2 true true (.lst []) (.lst []), .for_ (.tp [3, 4]) (.enum (.var 0)) raB, .ret (.bin .add (.var 2) (.lst [.lst []]))]⟩ := rfl
  have e1 : arou rows = (List.range rows.length).map (opn rows) ++ [[]] := by
    unfold arou
    rw [List.range_succ, List.map_append]
    have : opn rows rows.length = [] := List.length_eq_zero_iff.mp (by rw [opn_len, v.fin]; rfl)
    simp [this]
  rw [fn_succ n _ _ d_repeats_around rfl, e0, e1, lstL_app]
  have en : natL [] = [] := rfl
  have en2 : lstL ((List.range 0).map (opn rows)) = [] := rfl
  have en4 : lstL [] = [] := rfl
  have en3 : lstL [[]] = [.lst []] := rfl
  rw [en, en4] at hf
  rw [en3]
  generalize hw : MStmt.for_ (.tp [3, 4]) (.enum (.var 0)) raB = w at hf
  generalize rowsL rows = q at hf ⊢
  generalize natL (opn rows rows.length) = qq at hf ⊢
  generalize lstL ((List.range rows.length).map (opn rows)) = p at hf hz ⊢
  simp [Ob.d, binD, Rs.hold, holds, runDef, execs, exec, tst, ev, evs, callS, lent, noTwice, passAll, passS, backAll, backS, Out.bind, Out.thn, tstR, Rs.see, Out.of, sees1, sees2, negD, cmpS, cmpD, sameD, plainD, plainDs, eqD, blR, truD, SOut.seq, SOut.of, bltS, sees, bltD, tupD, putTgs, putTg, setSubS, obAt, putOb, mayPut_eq, mpO_un, mpO_sh, mpO_ow, putR, retR, pasKept, backP, noEx, len1S, unbo, hf, hz]
end Lw
end
section
set_option exponentiation.threshold 300
namespace Lw
open Mi
theorem idx_at {l : List D} {k : Nat} {x : D} (h : l[k]? = some x) : idxD (.lst l) (.int (k : Int)) = some x := by
  have hk : k < l.length := (List.getElem?_eq_some_iff.mp h).1
  show ((plc l.length (k : Int)).bind fun k => l[k]?) = _
  rw [plc_nat hk]
  exact h
theorem idx_m1n (xs : List Nat) (x : Nat) : idxD (.lst (natL (xs ++ [x]))) (.int (-1)) = some (.int (x : Int)) := by
  show ((plc (natL (xs ++ [x])).length (-1)).bind fun k => (natL (xs ++ [x]))[k]?) = _
  have hplc : plc (xs.length + 1) (-1) = some xs.length := by
    unfold plc
    rw [if_neg (by decide), if_pos (by omega)]
    congr 1
    omega
  rw [natL_len, List.length_append, List.length_singleton, hplc]
  show (natL (xs ++ [x]))[xs.length]? = _
  unfold natL
  simp
theorem eq_int (a : Int) : eqD (.int a) (.int a) = true := by simp [eqD]
theorem look_map (k v : D) (hk : eqD k k = true) : ∀ ks : List (D × D), (ks.any fun p => eqD p.1 k) = true → lookD (ks.map fun p => if eqD p.1 k then (p.1, v) else p) k = some v
  | [], h => by cases h
  | (q, w) :: r, h => by
    by_cases c : eqD q k = true
    · simp [lookD, c]
    · have c' : eqD q k = false := by simpa using c
      have h2 : (r.any fun p => eqD p.1 k) = true := by simpa [c'] using h
      have ih := look_map k v hk r h2
      simp [lookD, c']
      simpa using ih
theorem look_app (k v : D) (hk : eqD k k = true) : ∀ ks : List (D × D), (ks.any fun p => eqD p.1 k) = false → lookD (ks ++ [(k, v)]) k = some v
  | [], _ => by simp [lookD, hk]
  | (q, w) :: r, h => by
    have c' : eqD q k = false := by
      cases z : eqD q k with
      | false => rfl
      | true => simp [z] at h
    have h2 : (r.any fun p => eqD p.1 k) = false := by simpa [c'] using h
    have ih := look_app k v hk r h2
    simp [lookD, c']
    exact ih
theorem look_put (k v : D) (hk : eqD k k = true) (ks : List (D × D)) : lookD (putD k v ks) k = some v := by
  unfold putD
  split
  · rename_i h
    exact look_map k v hk ks h
  · rename_i h
    exact look_app k v hk ks (by simpa using h)
theorem put_len (k v : D) (ks : List (D × D)) : (putD k v ks).length ≤ ks.length + 1 := by
  unfold putD
  split
  · simp
  · simp
theorem look_map2 (k v j : D) (hj : eqD k j = false) (hr : ∀ q, eqD q k = true → eqD q j = false) : ∀ ks : List (D × D), lookD (ks.map fun p => if eqD p.1 k then (p.1, v) else p) j = lookD ks j
  | [] => rfl
  | (q, w) :: r => by
    have ih := look_map2 k v j hj hr r
    by_cases c : eqD q k = true
    · have c2 := hr q c
      simp only [List.map_cons, c, if_true, lookD, c2, Bool.false_eq_true, if_false]
      exact ih
    · have c' : eqD q k = false := by simpa using c
      simp only [List.map_cons, c', Bool.false_eq_true, if_false, lookD, ih]
theorem look_app2 (k v j : D) (hj : eqD k j = false) : ∀ ks : List (D × D), lookD (ks ++ [(k, v)]) j = lookD ks j
  | [] => by simp [lookD, hj]
  | (q, w) :: r => by
    have ih := look_app2 k v j hj r
    simp only [List.cons_append, lookD, ih]
theorem look_put2 (k v j : D) (hj : eqD k j = false) (hr : ∀ q, eqD q k = true → eqD q j = false) (ks : List (D × D)) : lookD (putD k v ks) j = lookD ks j := by
  unfold putD
  split
  · exact look_map2 k v j hj hr ks
  · exact look_app2 k v j hj ks
theorem eq_int_iff {q : D} {a b : Int} (h : eqD q (.int a) = true) (hab : a ≠ b) : eqD q (.int b) = false := by
  cases q <;> simp_all [eqD]
theorem look_putI (a b : Nat) (h : a ≠ b) (v : D) (ks : List (D × D)) : lookD (putD (.int (a : Int)) v ks) (.int (b : Int)) = lookD ks (.int (b : Int)) := by
  have hab : (a : Int) ≠ (b : Int) := by omega
  exact look_put2 _ _ _ (by simpa [eqD] using hab) (fun q hq => eq_int_iff hq hab) ks
theorem opn_mem (rows : List Rw) : ∀ k y, y ∈ opn rows k → y < k ∧ ∃ r, rows[y]? = some (.rep r)
  | 0, y, h => by simp [opn] at h
  | k + 1, y, h => by
    have ih := opn_mem rows k y
    by_cases c : k < rows.length
    · have hr : rows[k]? = some rows[k] := List.getElem?_eq_getElem c
      rw [opn_succ hr] at h
      cases e : rows[k] with
      | rep r =>
        rw [e] at h
        rcases List.mem_append.mp h with h | h
        · exact ⟨by have := (ih h).1; omega, (ih h).2⟩
        · have := List.mem_singleton.mp h
          subst this
          exact ⟨by omega, r, by rw [hr, e]⟩
      | fin =>
        rw [e] at h
        have h := List.dropLast_subset _ h
        exact ⟨by have := (ih h).1; omega, (ih h).2⟩
      | addn a b => rw [e] at h; exact ⟨by have := (ih h).1; omega, (ih h).2⟩
      | addr a b => rw [e] at h; exact ⟨by have := (ih h).1; omega, (ih h).2⟩
      | tell a => rw [e] at h; exact ⟨by have := (ih h).1; omega, (ih h).2⟩
    · rw [opn_over (by omega)] at h
      exact ⟨by have := (ih h).1; omega, (ih h).2⟩
theorem opn_nodup (rows : List Rw) : ∀ k, (opn rows k).Nodup
  | 0 => List.nodup_nil
  | k + 1 => by
    have ih := opn_nodup rows k
    by_cases c : k < rows.length
    · have hr : rows[k]? = some rows[k] := List.getElem?_eq_getElem c
      rw [opn_succ hr]
      cases e : rows[k] with
      | rep r =>
        show (opn rows k ++ [k]).Nodup
        rw [List.nodup_append]
        exact ⟨ih, by simp, fun a ha b hb => by
          have := (opn_mem rows k a ha).1
          have := List.mem_singleton.mp hb
          omega⟩
      | fin => exact ih.sublist (List.dropLast_sublist _)
      | addn a b => exact ih
      | addr a b => exact ih
      | tell a => exact ih
    · rw [opn_over (by omega)]
      exact ih
theorem opn_back {rows : List Rw} {k y : Nat} (h : y ∈ opn rows (k + 1)) : y ∈ opn rows k ∨ y = k := by
  by_cases c : k < rows.length
  · have hr : rows[k]? = some rows[k] := List.getElem?_eq_getElem c
    rw [opn_succ hr] at h
    cases e : rows[k] with
    | rep r =>
      rw [e] at h
      rcases List.mem_append.mp h with h | h
      · exact .inl h
      · exact .inr (List.mem_singleton.mp h)
    | fin => rw [e] at h; exact .inl (List.dropLast_subset _ h)
    | addn a b => rw [e] at h; exact .inl h
    | addr a b => rw [e] at h; exact .inl h
    | tell a => rw [e] at h; exact .inl h
  · rw [opn_over (by omega)] at h
    exact .inl h
theorem opn_gone {rows : List Rw} {e x : Nat} {xs : List Nat} (hr : rows[e]? = some .fin) (h : opn rows e = xs ++ [x]) : ∀ k, e < k → x ∉ opn rows k
  | 0, hk => by omega
  | k + 1, hk => by
    intro hm
    by_cases c : e < k
    · rcases opn_back hm with hm | hm
      · exact opn_gone hr h k c hm
      · have := (opn_mem rows e x (by rw [h]; simp)).1
        omega
    · have : k = e := by omega
      subst this
      have hn := opn_nodup rows k
      rw [opn_succ hr] at hm
      have hm : x ∈ (opn rows k).dropLast := hm
      rw [h] at hm hn
      rw [List.dropLast_concat] at hm
      rw [List.nodup_append] at hn
      exact hn.2.2 x hm x (by simp) rfl
/-- each repeat has its end -/
theorem rep_end {rows : List Rw} (v : VR rows) {k r : Nat} (hr : rows[k]? = some (.rep r)) : ∃ e xs, k < e ∧ rows[e]? = some .fin ∧ opn rows e = xs ++ [k] := by
  have hk : k < rows.length := (List.getElem?_eq_some_iff.mp hr).1
  have h0 : k ∈ opn rows (k + 1) := by rw [opn_succ hr]; simp [ops]
  have h1 : k ∉ opn rows rows.length := by
    have : opn rows rows.length = [] := List.length_eq_zero_iff.mp (by rw [opn_len, v.fin]; rfl)
    rw [this]
    simp
  have go : ∀ d m, k < m → m + d = rows.length → k ∈ opn rows m → ∃ e xs, k < e ∧ rows[e]? = some .fin ∧ opn rows e = xs ++ [k] := by
    intro d
    induction d with
    | zero =>
      intro m hm hd hin
      have : m = rows.length := by omega
      subst this
      exact (h1 hin).elim
    | succ d ih =>
      intro m hm hd hin
      by_cases hin2 : k ∈ opn rows (m + 1)
      · exact ih (m + 1) (by omega) (by omega) hin2
      · have hr2 : rows[m]? = some (rows[m]'(by omega)) := List.getElem?_eq_getElem (by omega)
        rw [opn_succ hr2] at hin2
        cases e : rows[m]'(by omega) with
        | rep r => rw [e] at hin2; exact (hin2 (List.mem_append_left _ hin)).elim
        | fin =>
          rw [e] at hin2 hr2
          refine ⟨m, (opn rows m).dropLast, hm, hr2, ?_⟩
          rcases List.eq_nil_or_concat (opn rows m) with z | ⟨xs, x, z⟩
          · rw [z] at hin; simp at hin
          · rw [List.concat_eq_append] at z
            have hin2 : k ∉ (opn rows m).dropLast := hin2
            rw [z] at hin hin2 ⊢
            rw [List.dropLast_concat] at hin2 ⊢
            rcases List.mem_append.mp hin with hin | hin
            · exact (hin2 hin).elim
            · rw [List.mem_singleton.mp hin]
        | addn a b => rw [e] at hin2; exact (hin2 hin).elim
        | addr a b => rw [e] at hin2; exact (hin2 hin).elim
        | tell a => rw [e] at hin2; exact (hin2 hin).elim
  exact go (rows.length - (k + 1)) (k + 1) (by omega) (by omega) h0
theorem fin_open {rows : List Rw} (v : VR rows) {k : Nat} (hr : rows[k]? = some .fin) : ∃ xs x, opn rows k = xs ++ [x] := by
  have hf := (v.ok k _ hr).2
  rcases List.eq_nil_or_concat (opn rows k) with z | ⟨xs, x, z⟩
  · have : stk rows k = [] := List.length_eq_zero_iff.mp (by rw [← opn_len, z]; rfl)
    rw [this] at hf
    cases hf
  · exact ⟨xs, x, by rw [z, List.concat_eq_append]⟩
/-- what the partners are to be, of the first rows -/
def Pt (rows : List Rw) (j : Nat) (ks : List (D × D)) : Prop := ∀ (e x : Nat) (xs : List Nat), e < j → rows[e]? = some .fin → opn rows e = xs ++ [x] → lookD ks (.int (e : Int)) = some (.int (x : Int)) ∧ lookD ks (.int (x : Int)) = some (.int (e : Int))
theorem Pt.step {rows : List Rw} {j : Nat} {ks : List (D × D)} (h : Pt rows j ks) {x : Nat} {xs : List Nat} (hr : rows[j]? = some .fin) (ho : opn rows j = xs ++ [x]) : Pt rows (j + 1) (putD (.int (x : Int)) (.int (j : Int)) (putD (.int (j : Int)) (.int (x : Int)) ks)) := by
  intro e y ys he hre hoe
  obtain ⟨xj, rx, hx⟩ := opn_mem rows j x (by rw [ho]; simp)
  obtain ⟨ye, ry, hy⟩ := opn_mem rows e y (by rw [hoe]; simp)
  by_cases c : e = j
  · subst c
    rw [ho] at hoe
    obtain ⟨_, hxy⟩ := List.append_inj' hoe rfl
    have hxy : x = y := by simpa using hxy
    subst hxy
    refine ⟨?_, look_put _ _ (eq_int _) _⟩
    rw [look_putI x e (by omega)]
    exact look_put _ _ (eq_int _) _
  · have hlt : e < j := by omega
    obtain ⟨h1, h2⟩ := h e y ys hlt hre hoe
    have d1 : x ≠ e := fun z => by
      subst z
      rw [hx] at hre
      cases hre
    have d2 : x ≠ y := fun z => by
      subst z
      exact opn_gone hre hoe j hlt (by rw [ho]; simp)
    have d3 : j ≠ y := by omega
    exact ⟨by rw [look_putI x e d1, look_putI j e (by omega)]; exact h1, by rw [look_putI x y d2, look_putI j y d3]; exact h2⟩
theorem Pt.same {rows : List Rw} {j : Nat} {ks : List (D × D)} (h : Pt rows j ks) (hr : rows[j]? ≠ some .fin) : Pt rows (j + 1) ks := by
  intro e y ys he hre hoe
  by_cases c : e = j
  · subst c
    exact (hr hre).elim
  · exact h e y ys (by omega) hre hoe
def paB : List MStmt := [.ite (.cmp .eq (.idx (.var 4) (.cst (.int 0))) (.cst (.str [101, 110, 100]))) [.setSub (.var 2) (.var 3) (.idx (.idx (.var 0) (.var 3)) (.neg (.cst (.int 1)))), .setSub (.var 2) (.idx (.var 2) (.var 3)) (.var 3)] []]
theorem pa_body (n : Nat) (rs : D) (rows : List Rw) (ar : List (List Nat)) (k : Nat) (r : Rw) (hr : rows[k]? = some r) (ks : List (D × D)) (hks : ks.length ≤ 1000) (hp : Pt rows k ks) (hf : r = .fin → ∃ xs x, opn rows k = xs ++ [x] ∧ ar[k]? = some (xs ++ [x])) :
    ∃ ks', ks'.length ≤ ks.length + 2 ∧ Pt rows (k + 1) ks' ∧ execs (G n) paB [.sh (.lst (lstL ar)), .sh rs, .ow (.dic ks), .sh (.int (k : Int)), .sh r.d] = .nx [.sh (.lst (lstL ar)), .sh rs, .ow (.dic ks'), .sh (.int (k : Int)), .sh r.d] := by
  cases r with
  | addn g x =>
    refine ⟨ks, by omega, hp.same (by rw [hr]; simp), ?_⟩
    simp only [Rw.d]
    generalize lstL ar = q
    simp [Ob.d, binD, Rs.hold, holds, runDef, execs, exec, tst, ev, evs, callS, lent, noTwice, passAll, passS, backAll, backS, Out.bind, Out.thn, tstR, Rs.see, Out.of, sees1, sees2, negD, cmpS, cmpD, sameD, plainD, plainDs, eqD, blR, truD, SOut.seq, SOut.of, bltS, sees, bltD, tupD, putTgs, putTg, setSubS, obAt, putOb, mayPut_eq, mpO_un, mpO_sh, mpO_ow, putR, retR, pasKept, backP, noEx, len1S, paB, x0]
  | addr g x =>
    refine ⟨ks, by omega, hp.same (by rw [hr]; simp), ?_⟩
    simp only [Rw.d]
    generalize lstL ar = q
    simp [Ob.d, binD, Rs.hold, holds, runDef, execs, exec, tst, ev, evs, callS, lent, noTwice, passAll, passS, backAll, backS, Out.bind, Out.thn, tstR, Rs.see, Out.of, sees1, sees2, negD, cmpS, cmpD, sameD, plainD, plainDs, eqD, blR, truD, SOut.seq, SOut.of, bltS, sees, bltD, tupD, putTgs, putTg, setSubS, obAt, putOb, mayPut_eq, mpO_un, mpO_sh, mpO_ow, putR, retR, pasKept, backP, noEx, len1S, paB, x0]
  | rep x =>
    refine ⟨ks, by omega, hp.same (by rw [hr]; simp), ?_⟩
    simp only [Rw.d]
    generalize lstL ar = q
    simp [Ob.d, binD, Rs.hold, holds, runDef, execs, exec, tst, ev, evs, callS, lent, noTwice, passAll, passS, backAll, backS, Out.bind, Out.thn, tstR, Rs.see, Out.of, sees1, sees2, negD, cmpS, cmpD, sameD, plainD, plainDs, eqD, blR, truD, SOut.seq, SOut.of, bltS, sees, bltD, tupD, putTgs, putTg, setSubS, obAt, putOb, mayPut_eq, mpO_un, mpO_sh, mpO_ow, putR, retR, pasKept, backP, noEx, len1S, paB, x0]
  | tell x =>
    refine ⟨ks, by omega, hp.same (by rw [hr]; simp), ?_⟩
    simp only [Rw.d]
    generalize lstL ar = q
    simp [Ob.d, binD, Rs.hold, holds, runDef, execs, exec, tst, ev, evs, callS, lent, noTwice, passAll, passS, backAll, backS, Out.bind, Out.thn, tstR, Rs.see, Out.of, sees1, sees2, negD, cmpS, cmpD, sameD, plainD, plainDs, eqD, blR, truD, SOut.seq, SOut.of, bltS, sees, bltD, tupD, putTgs, putTg, setSubS, obAt, putOb, mayPut_eq, mpO_un, mpO_sh, mpO_ow, putR, retR, pasKept, backP, noEx, len1S, paB, x0]
  | fin =>
    obtain ⟨xs, x, ho, hx⟩ := hf rfl
    have h1 : idxD (.lst (lstL ar)) (.int (k : Int)) = some (.lst (natL (xs ++ [x]))) := idx_at (by rw [lstL_get, hx]; rfl)
    have h2 := idx_m1n xs x
    have z1 : szOk ks.length = true := szOk_of (by omega)
    have z2 : szOk (putD (.int (k : Int)) (.int (x : Int)) ks).length = true := szOk_of (by have := put_len (.int (k : Int)) (.int (x : Int)) ks; omega)
    have h3 : idxD (.dic (putD (.int (k : Int)) (.int (x : Int)) ks)) (.int (k : Int)) = some (.int (x : Int)) := look_put _ _ (eq_int _) ks
    refine ⟨putD (.int (x : Int)) (.int (k : Int)) (putD (.int (k : Int)) (.int (x : Int)) ks), ?_, hp.step hr ho, ?_⟩
    · have a1 := put_len (.int (k : Int)) (.int (x : Int)) ks
      have a2 := put_len (.int (x : Int)) (.int (k : Int)) (putD (.int (k : Int)) (.int (x : Int)) ks)
      omega
    · simp only [Rw.d]
      generalize natL (xs ++ [x]) = ll at h1 h2
      generalize lstL ar = q at h1 ⊢
      simp [Ob.d, binD, Rs.hold, holds, runDef, execs, exec, tst, ev, evs, callS, lent, noTwice, passAll, passS, backAll, backS, Out.bind, Out.thn, tstR, Rs.see, Out.of, sees1, sees2, negD, cmpS, cmpD, sameD, plainD, plainDs, eqD, blR, truD, SOut.seq, SOut.of, bltS, sees, bltD, tupD, putTgs, putTg, setSubS, obAt, putOb, mayPut_eq, mpO_un, mpO_sh, mpO_ow, putR, retR, pasKept, backP, noEx, len1S, paB, x0, h1, h2, z1, h3, z2, keyD]
theorem partners_ex (n : Nat) (rows : List Rw) (v : VR rows) :
    ∃ ks, Pt rows rows.length ks ∧ (G (n + 1)).fn i_partners_of [.sh (.lst (lstL (arou rows))), .sh (.lst (rowsL rows))] = .ok (.fr (.dic ks)) [.sh (.lst (lstL (arou rows))), .sh (.lst (rowsL rows))] := by
  have hget := arou_get rows
  generalize arou rows = ar at hget ⊢
  have hit : evIt (G n) (.enum (.var 1)) [.sh (.lst (lstL ar)), .sh (.lst (rowsL rows)), .ow (.dic []), .un, .un] = .ok (.enum (.snap (rowsL rows))) [.sh (.lst (lstL ar)), .sh (.lst (rowsL rows)), .ow (.dic []), .un, .un] := by
    generalize rowsL rows = q
    generalize lstL ar = p
    simp [evIt, srcL, srcOf, It.slots, Src.slots, It.len, Src.len, partO, It.at_, Src.at_, It.fine, Src.fine, ev, evs, evp, callS, lent, noTwice, passAll, passS, backAll, backS, Out.bind, Out.thn, Rs.see, Rs.hold, holds, Out.of, sees1, sees2, binD, bltS, sees, bltD, Ob.d, obAt, len1S]
  obtain ⟨e', hf, ks, s3, s4, k1, kp, m3, m4, q⟩ := exec_for_by (G := G n) (t := .tp [3, 4]) (it := .enum (.var 1)) (b := paB) rows.length
    (fun k e => ∃ (ks : List (D × D)) (s3 s4 : Sl), ks.length ≤ 2 * k ∧ Pt rows k ks ∧ mpO (some s3) = true ∧ mpO (some s4) = true ∧ e = [.sh (.lst (lstL ar)), .sh (.lst (rowsL rows)), .ow (.dic ks), s3, s4])
    hit (rowsL_len rows) rfl ⟨[], .un, .un, by simp, fun e x xs he => by omega, rfl, rfl, rfl⟩
    (fun k e hk ⟨ks, s3, s4, k1, kp, m3, m4, q⟩ => by
      subst q
      have hr : rows[k]? = some rows[k] := List.getElem?_eq_getElem hk
      have hl := v.len
      obtain ⟨ks', k2, kp', hb⟩ := pa_body n (.lst (rowsL rows)) rows ar k rows[k] hr ks (by omega) kp (fun e => by
        obtain ⟨xs, x, z⟩ := fin_open v (by rw [hr, e])
        exact ⟨xs, x, z, by rw [hget k (by omega), z]⟩)
      refine ⟨_, [.sh (.lst (lstL ar)), .sh (.lst (rowsL rows)), .ow (.dic ks), .sh (.int (k : Int)), .sh rows[k].d], _, enum_at hr _, ?_, hb, ks', _, _, by omega, kp', rfl, rfl, rfl⟩
      simp [Tgt.put, tupD, putNs, mayPut_eq, m3, m4])
    (fun _ _ => rfl)
  subst q
  refine ⟨ks, kp, ?_⟩
  have e0 : d_partners_of = ⟨2, 5, [.set 2 true (.dic [] []), .for_ (.tp [3, 4]) (.enum (.var 1)) paB, .ret (.var 2)]⟩ := rfl
  rw [fn_succ n _ _ d_partners_of rfl, e0]
  generalize hw : MStmt.for_ (.tp [3, 4]) (.enum (.var 1)) paB = w at hf
  generalize rowsL rows = q at hf ⊢
  generalize lstL ar = p at hf ⊢
  simp [Ob.d, binD, Rs.hold, holds, runDef, execs, exec, tst, ev, evs, callS, lent, noTwice, passAll, passS, backAll, backS, Out.bind, Out.thn, tstR, Rs.see, Out.of, sees1, sees2, negD, cmpS, cmpD, sameD, plainD, plainDs, eqD, blR, truD, SOut.seq, SOut.of, bltS, sees, bltD, tupD, putTgs, putTg, setSubS, obAt, putOb, mayPut_eq, mpO_un, mpO_sh, mpO_ow, putR, retR, pasKept, backP, noEx, len1S, hf]
/-! ### the program -/
def prog (rows : List Rw) (ks : List (D × D)) : D := .ins 0 [(fl_lines, .lst (rowsL rows)), (fl_arounds, .lst (lstL (arou rows))), (fl_partners, .dic ks)]
structure Pg (rows : List Rw) (p : D) : Prop where
  ex : ∃ ks, p = prog rows ks ∧ Pt rows rows.length ks
theorem init_ex (n : Nat) (rows : List Rw) (v : VR rows) (w : D) (hw : w = .tup (rowsL rows) ∨ w = .lst (rowsL rows)) : ∃ fs, Pg rows (.ins 0 fs) ∧ (G (n + 6)).fn i_m_Program_init [.pa (.ins 0 []), .sh w] = .ok (.d .non) [.pa (.ins 0 fs), .sh w] := by
  have h1 := first_wrong_eq n rows v w hw
  have h2 := around_eq (n + 4) rows v
  obtain ⟨ks, kp, h3⟩ := partners_ex (n + 4) rows v
  refine ⟨_, ⟨ks, rfl, kp⟩, ?_⟩
  have f4 : (G (n + 5)).free 0 fl_partners = true := rfl
  have f5 : (G (n + 5)).free 0 fl_lines = true := rfl
  have f6 : (G (n + 5)).free 0 fl_arounds = true := rfl
  rw [fn_succ (n + 5) _ _ d_m_Program_init rfl]
  have k1 : (Kd.tuple == Kd.tuple) = true := rfl
  have k2 : (Kd.tuple == Kd.list) = false := rfl
  have k3 : (Kd.list == Kd.list) = true := rfl
  rcases hw with rfl | rfl
  · generalize rowsL rows = q at h1 h2 h3 ⊢
    generalize lstL (arou rows) = p at h2 h3 ⊢
    simp [Ob.d, binD, Rs.hold, holds, runDef, execs, exec, tst, ev, evs, callS, lent, noTwice, passAll, passS, backAll, backS, Out.bind, Out.thn, tstR, Rs.see, Out.of, sees1, sees2, negD, cmpS, cmpD, sameD, plainD, plainDs, eqD, blR, truD, SOut.seq, SOut.of, bltS, sees, bltD, tupD, putTgs, putTg, setSubS, obAt, putOb, mayPut_eq, mpO_un, mpO_sh, mpO_ow, putR, retR, pasKept, backP, noEx, len1S, d_m_Program_init, b_m_Program_init, iskD, isKd, kdOf, List.any, k1, k2, k3, h1, h2, h3, f4, f5, f6, isNonD, setFldS, putFs, fldD, lookF, fl_lines, fl_arounds, fl_partners]
  · generalize rowsL rows = q at h1 h2 h3 ⊢
    generalize lstL (arou rows) = p at h2 h3 ⊢
    simp [Ob.d, binD, Rs.hold, holds, runDef, execs, exec, tst, ev, evs, callS, lent, noTwice, passAll, passS, backAll, backS, Out.bind, Out.thn, tstR, Rs.see, Out.of, sees1, sees2, negD, cmpS, cmpD, sameD, plainD, plainDs, eqD, blR, truD, SOut.seq, SOut.of, bltS, sees, bltD, tupD, putTgs, putTg, setSubS, obAt, putOb, mayPut_eq, mpO_un, mpO_sh, mpO_ow, putR, retR, pasKept, backP, noEx, len1S, d_m_Program_init, b_m_Program_init, iskD, isKd, kdOf, List.any, k1, k2, k3, h1, h2, h3, f4, f5, f6, isNonD, setFldS, putFs, fldD, lookF, fl_lines, fl_arounds, fl_partners]
theorem make_dn (n : Nat) (rows : List Rw) (v : VR rows) (w : D) (hw : w = .tup (rowsL rows) ∨ w = .lst (rowsL rows)) : ∃ fs, Pg rows (.ins 0 fs) ∧ (G (n + 7)).fn i_dn_Program_init [.pa (.ins 0 []), .sh w] = .ok (.d .non) [.pa (.ins 0 fs), .sh w] := by
  obtain ⟨fs, p, h⟩ := init_ex n rows v w hw
  exact ⟨fs, p, by rw [fn_dn (n + 6) i_dn_Program_init i_m_Program_init _ rfl]; exact h⟩
section
variable {rows : List Rw} {p : D}
theorem plen_eq (n : Nat) (g : Pg rows p) : (G (n + 2)).fn i_dn_Program_len [.sh p] = .ok (.d (.int (rows.length : Int))) [.sh p] := by
  obtain ⟨ks, rfl, a1⟩ := g.ex
  have hl := rowsL_len rows
  have f5 : (G n).free 0 fl_lines = true := by cases n <;> rfl
  rw [fn_dn (n + 1) i_dn_Program_len i_m_Program_len _ rfl, fn_succ n _ _ d_m_Program_len rfl]
  unfold prog
  generalize rowsL rows = q at hl ⊢
  generalize lstL (arou rows) = pp
  simp [Ob.d, binD, Rs.hold, holds, runDef, execs, exec, tst, ev, evs, callS, lent, noTwice, passAll, passS, backAll, backS, Out.bind, Out.thn, tstR, Rs.see, Out.of, sees1, sees2, negD, cmpS, cmpD, sameD, plainD, plainDs, eqD, blR, truD, SOut.seq, SOut.of, bltS, sees, bltD, tupD, putTgs, putTg, setSubS, obAt, putOb, mayPut_eq, mpO_un, mpO_sh, mpO_ow, putR, retR, pasKept, backP, noEx, len1S, d_m_Program_len, b_m_Program_len, fldD, f5, lookF, fl_lines, fl_arounds, fl_partners, hl]
theorem want_eq (n : Nat) (p : D) (k : Nat) (m : Int) (h : (k : Int) < m) : (G (n + 3)).fn i_m_Program_want_place [.sh p, .sh (.int (k : Int)), .sh (.int m)] = .ok (.d .non) [.sh p, .sh (.int (k : Int)), .sh (.int m)] := by
  have h1 := count_eq n (k : Int) (by omega)
  have c : ¬ m ≤ (k : Int) := by omega
  rw [fn_succ (n + 2) _ _ d_m_Program_want_place rfl]
  simp [Ob.d, binD, Rs.hold, holds, runDef, execs, exec, tst, ev, evs, callS, lent, noTwice, passAll, passS, backAll, backS, Out.bind, Out.thn, tstR, Rs.see, Out.of, sees1, sees2, negD, cmpS, cmpD, sameD, plainD, plainDs, eqD, blR, truD, SOut.seq, SOut.of, bltS, sees, bltD, tupD, putTgs, putTg, setSubS, obAt, putOb, mayPut_eq, mpO_un, mpO_sh, mpO_ow, putR, retR, pasKept, backP, noEx, len1S, d_m_Program_want_place, b_m_Program_want_place, h1, c]
theorem paround_eq (n : Nat) (g : Pg rows p) (k : Nat) (hk : k ≤ rows.length) : (G (n + 4)).fn i_m_Program_around [.sh p, .sh (.int (k : Int))] = .ok (.fr (.lst (natL (opn rows k)))) [.sh p, .sh (.int (k : Int))] := by
  obtain ⟨ks, rfl, a1⟩ := g.ex
  have hk2 := arou_get rows k hk
  have hl : (lstL (arou rows)).length = rows.length + 1 := by rw [lstL_len, arou_len]
  have h1 := want_eq n (prog rows ks) k ((rows.length : Int) + 1) (by omega)
  have hx : idxD (.lst (lstL (arou rows))) (.int (k : Int)) = some (.lst (natL (opn rows k))) := idx_at (by rw [lstL_get, hk2]; rfl)
  have f6 : (G (n + 3)).free 0 fl_arounds = true := rfl
  have mt : (G (n + 3)).meth 0 mt_want_place = some i_m_Program_want_place := rfl
  rw [fn_succ (n + 3) _ _ d_m_Program_around rfl]
  unfold prog at h1 ⊢
  generalize natL (opn rows k) = ll at hx ⊢
  generalize rowsL rows = q at h1 ⊢
  generalize lstL (arou rows) = pp at hl hx h1 ⊢
  simp [Ob.d, binD, Rs.hold, holds, runDef, execs, exec, tst, ev, evs, callS, lent, noTwice, passAll, passS, backAll, backS, Out.bind, Out.thn, tstR, Rs.see, Out.of, sees1, sees2, negD, cmpS, cmpD, sameD, plainD, plainDs, eqD, blR, truD, SOut.seq, SOut.of, bltS, sees, bltD, tupD, putTgs, putTg, setSubS, obAt, putOb, mayPut_eq, mpO_un, mpO_sh, mpO_ow, putR, retR, pasKept, backP, noEx, len1S, d_m_Program_around, b_m_Program_around, fldD, f6, lookF, fl_lines, fl_arounds, fl_partners, mt_want_place, mt_around, hl, mt, h1, hx]
end
end Lw
end
section
set_option exponentiation.threshold 300
namespace Lw
open Mi
/-! ### counts, values of anything -/
def intB : D → Bool
  | .int _ => true
  | _ => false
def cntB : D → Bool
  | .int i => decide (0 ≤ i)
  | _ => false
mutual
/-- no instances within -/
def tame : D → Bool
  | .ins _ _ => false
  | .scr _ => false
  | .tup xs => tames xs
  | _ => true
def tames : List D → Bool
  | [] => true
  | x :: xs => tame x && tames xs
end
theorem tames_mem : ∀ {l : List D}, tames l = true → ∀ x ∈ l, tame x = true
  | [], _, x, h => by simp at h
  | y :: l, h, x, hx => by
    simp only [tames, Bool.and_eq_true] at h
    rcases List.mem_cons.mp hx with rfl | hx
    · exact h.1
    · exact tames_mem h.2 x hx
theorem whole_any (n : Nat) (x : D) (hx : tame x = true) : (G (n + 1)).fn i_is_whole [.sh x] = .ok (.d (.bl (intB x))) [.sh x] := by
  have k1 : (Kd.int == Kd.int) = true := rfl
  have k2 : (Kd.int == Kd.bool) = false := rfl
  have k3 : (Kd.bool == Kd.int) = false := rfl
  have k4 : (Kd.bool == Kd.bool) = true := rfl
  have k5 : (Kd.str == Kd.int) = false := rfl
  have k6 : (Kd.str == Kd.bool) = false := rfl
  have k7 : (Kd.tuple == Kd.int) = false := rfl
  have k8 : (Kd.tuple == Kd.bool) = false := rfl
  have k9 : (Kd.list == Kd.int) = false := rfl
  have k10 : (Kd.list == Kd.bool) = false := rfl
  have k11 : (Kd.dict == Kd.int) = false := rfl
  have k12 : (Kd.dict == Kd.bool) = false := rfl
  rw [fn_succ n _ _ d_is_whole rfl]
  cases x <;> first | cases hx; done | simp [Ob.d, binD, Rs.hold, holds, runDef, execs, exec, tst, ev, evs, callS, lent, noTwice, passAll, passS, backAll, backS, Out.bind, Out.thn, tstR, Rs.see, Out.of, sees1, sees2, negD, cmpS, cmpD, sameD, plainD, plainDs, eqD, blR, truD, SOut.seq, SOut.of, bltS, sees, bltD, tupD, putTgs, putTg, setSubS, obAt, putOb, mayPut_eq, mpO_un, mpO_sh, mpO_ow, putR, retR, pasKept, backP, noEx, len1S, d_is_whole, b_is_whole, iskD, isKd, kdOf, List.any, intB, k1, k2, k3, k4, k5, k6, k7, k8, k9, k10, k11, k12]
theorem count_any (n : Nat) (x : D) (hx : tame x = true) : (G (n + 2)).fn i_is_count [.sh x] = .ok (.d (.bl (cntB x))) [.sh x] := by
  have h := whole_any n x hx
  rw [fn_succ (n + 1) _ _ d_is_count rfl]
  cases x <;> simp only [intB] at h <;> simp [Ob.d, binD, Rs.hold, holds, runDef, execs, exec, tst, ev, evs, callS, lent, noTwice, passAll, passS, backAll, backS, Out.bind, Out.thn, tstR, Rs.see, Out.of, sees1, sees2, negD, cmpS, cmpD, sameD, plainD, plainDs, eqD, blR, truD, SOut.seq, SOut.of, bltS, sees, bltD, tupD, putTgs, putTg, setSubS, obAt, putOb, mayPut_eq, mpO_un, mpO_sh, mpO_ow, putR, retR, pasKept, backP, noEx, len1S, d_is_count, b_is_count, h, cntB]
theorem natL_get (l : List Nat) (k : Nat) : (natL l)[k]? = (l[k]?).map fun (x : Nat) => D.int (x : Int) := by unfold natL; rw [List.getElem?_map]
theorem natL_cnt : ∀ l : List Nat, (natL l).all cntB = true
  | [] => rfl
  | x :: l => by
    have := natL_cnt l
    unfold natL at this ⊢
    simp [cntB, this]
def cntComp (f j i : Nat) : MExp := .comp (.call f [.var j]) (.nm j) (.seq (.var i)) none
/-- all counts: by the def f -/
theorem all_cnt (Gg : Gs) (f : Nat) (hf : ∀ x : D, tame x = true → Gg.fn f [.sh x] = .ok (.d (.bl (cntB x))) [.sh x]) (l : List D) (ht : tames l = true) (hl : l.length ≤ 1000) (i j : Nat) (e : Env) (hi : e[i]? = some (.sh (.tup l))) (hj : e[j]? = some .un) (hij : i ≠ j) :
    ev Gg (.blt .all [cntComp f j i]) e = .ok (.d (.bl (l.all cntB))) e := by
  have jl : j < e.length := (List.getElem?_eq_some_iff.mp hj).1
  have hset : e.set j .un = e := by
    apply List.ext_getElem?
    intro q
    by_cases c : j = q
    · subst c
      rw [List.getElem?_set_self jl, hj]
    · rw [List.getElem?_set_ne c]
  have hit : evIt Gg (.seq (.var i)) e = .ok (.one (.snap l)) e := by
    have : evIt Gg (.seq (.var i)) e = (ev Gg (.var i) e).bind fun r e1 => Out.of e1 ((srcOf e1 r).map .one) := rfl
    rw [this]
    have : ev Gg (.var i) e = .ok (.d (.tup l)) e := by
      show (match e[i]? with
        | some (.sh x) => Out.ok (Rs.d x) e
        | some (.ow _) => .ok (.bo i) e
        | some (.pa _) => .ok (.bo i) e
        | _ => .no) = _
      rw [hi]
    rw [this]
    rfl
  have hw : wipeE e [j] = e := hset
  have hwo : wipeOk e [j] = true := by simp [wipeOk, hj]
  obtain ⟨acc, e2, g1, g2, g3⟩ := ev_comp_by (G := Gg) (a := .call f [.var j]) (t := .nm j) (c := none) l.length
    (fun k acc e2 => acc = ((l.take k).map cntB).map .bl ∧ e2 = e) hit rfl (by show (wipeOk e [j] && _) = true; rw [hwo]; rfl) ⟨rfl, hw⟩
    (fun k acc e2 hk ⟨q1, q2⟩ hlen => by
      subst q2
      have hc := hf l[k] (tames_mem ht _ (List.getElem_mem hk))
      have hj2 : (e2.set j (.sh l[k]))[j]? = some (.sh l[k]) := List.getElem?_set_self jl
      refine ⟨l[k], e2.set j (.sh l[k]), List.getElem?_eq_getElem hk, ?_, .inl ⟨_, .d (.bl (cntB l[k])), e2.set j (.sh l[k]), .bl (cntB l[k]), _, by simp [evc]; rfl, ?_, rfl, ?_, ?_⟩⟩
      · simp [Tgt.put, mayPut_eq, hj, mpO]
      · simp [ev, evs, hj2, Out.bind, callS, lent, noTwice, passAll, passS, hc, backAll, backS]
      · rw [q1, List.take_add_one, List.getElem?_eq_getElem hk, List.map_append, List.map_append]
        rfl
      · show (e2.set j (.sh l[k])).set j .un = e2
        rw [List.set_set]
        exact hset)
    (fun _ _ _ => rfl) (by omega)
  subst g2
  subst g3
  have hb := bls_map (((l.take l.length).map cntB))
  have hun : unwipe e2 e2 [j] = e2 := by
    show e2.set j ((wipeE e2 [])[j]?.getD .un) = e2
    show e2.set j (e2[j]?.getD .un) = e2
    rw [hj]
    exact hset
  have ee : ev Gg (.blt .all [cntComp f j i]) e2 = (evs Gg [cntComp f j i] e2).bind fun rs e1 => bltS .all rs e1 := rfl
  have e3 : evs Gg [cntComp f j i] e2 = (ev Gg (cntComp f j i) e2).bind fun r e1 => (Out.ok [] e1).bind fun rs e2 => .ok (r :: rs) e2 := rfl
  have g1 : ev Gg (cntComp f j i) e2 = .ok (.fr (.lst (((l.take l.length).map cntB).map .bl))) (unwipe e2 e2 [j]) := g1
  rw [ee, e3, g1, hun]
  simp [Out.bind, bltS, sees, Rs.see, Ob.d, bltD, hb, Out.of]
  rw [List.take_length] at hb
  simp at hb
  rw [hb]
  simp [List.all_map]
/-- is it a tuple of so many counts -/
def cntsB (m : Nat) : D → Bool
  | .tup xs => xs.length == m && xs.all cntB
  | _ => false
theorem values_any (n : Nat) (x : D) (hx : tame x = true) : (G (n + 3)).fn i_is_values [.sh x] = .ok (.d (.bl (cntsB 5 x))) [.sh x] := by
  have e0 : d_is_values = ⟨1, 2, [.ret (.and_ (.isk (.var 0) [.tuple]) (.and_ (.cmp .eq (.len1 (.var 0)) (.len1 (.cst (.tup [(.str [97]), (.str [98]), (.str [99]), (.str [100]), (.str [101])])))) (.blt .all [cntComp i_is_count 1 0])))]⟩ := rfl
  have k1 : (Kd.tuple == Kd.tuple) = true := rfl
  have k2 : (Kd.int == Kd.tuple) = false := rfl
  have k3 : (Kd.bool == Kd.tuple) = false := rfl
  have k4 : (Kd.str == Kd.tuple) = false := rfl
  have k5 : (Kd.list == Kd.tuple) = false := rfl
  have k6 : (Kd.dict == Kd.tuple) = false := rfl
  have k7 : (Kd.tuple == Kd.int) = false := rfl
  rw [fn_succ (n + 2) _ _ d_is_values rfl, e0]
  cases x with
  | tup xs =>
    by_cases c : xs.length = 5
    · have h1 := all_cnt (G (n + 2)) i_is_count (count_any n) xs hx (by omega) 0 1 [.sh (.tup xs), .un] rfl rfl (by decide)
      generalize MExp.blt .all [cntComp i_is_count 1 0] = m at h1
      have hc : (xs.length == 5) = true := by simpa using c
      simp only [cntsB]
      rw [hc, Bool.true_and]
      generalize xs.all cntB = b at h1 ⊢
      simp [Ob.d, binD, Rs.hold, holds, runDef, execs, exec, tst, ev, evs, callS, lent, noTwice, passAll, passS, backAll, backS, Out.bind, Out.thn, tstR, Rs.see, Out.of, sees1, sees2, negD, cmpS, cmpD, sameD, plainD, plainDs, eqD, blR, truD, SOut.seq, SOut.of, bltS, sees, bltD, tupD, putTgs, putTg, setSubS, obAt, putOb, mayPut_eq, mpO_un, mpO_sh, mpO_ow, putR, retR, pasKept, backP, noEx, len1S, h1, c, iskD, isKd, kdOf, List.any, k1]
    · have ci : ¬ (xs.length : Int) = 5 := by omega
      have hc : (xs.length == 5) = false := by simpa using c
      have hci : ((xs.length : Int) == 5) = false := by simpa using ci
      simp only [cntsB]
      rw [hc, Bool.false_and]
      generalize MExp.blt .all [cntComp i_is_count 1 0] = m
      simp [Ob.d, binD, Rs.hold, holds, runDef, execs, exec, tst, ev, evs, callS, lent, noTwice, passAll, passS, backAll, backS, Out.bind, Out.thn, tstR, Rs.see, Out.of, sees1, sees2, negD, cmpS, cmpD, sameD, plainD, plainDs, eqD, blR, truD, SOut.seq, SOut.of, bltS, sees, bltD, tupD, putTgs, putTg, setSubS, obAt, putOb, mayPut_eq, mpO_un, mpO_sh, mpO_ow, putR, retR, pasKept, backP, noEx, len1S, hci, iskD, isKd, kdOf, List.any, k1]
  | non => simp [Ob.d, binD, Rs.hold, holds, runDef, execs, exec, tst, ev, evs, callS, lent, noTwice, passAll, passS, backAll, backS, Out.bind, Out.thn, tstR, Rs.see, Out.of, sees1, sees2, negD, cmpS, cmpD, sameD, plainD, plainDs, eqD, blR, truD, SOut.seq, SOut.of, bltS, sees, bltD, tupD, putTgs, putTg, setSubS, obAt, putOb, mayPut_eq, mpO_un, mpO_sh, mpO_ow, putR, retR, pasKept, backP, noEx, len1S, iskD, isKd, kdOf, List.any, k1, k2, k3, k4, k5, k6, k7, cntsB]
  | bl b => simp [Ob.d, binD, Rs.hold, holds, runDef, execs, exec, tst, ev, evs, callS, lent, noTwice, passAll, passS, backAll, backS, Out.bind, Out.thn, tstR, Rs.see, Out.of, sees1, sees2, negD, cmpS, cmpD, sameD, plainD, plainDs, eqD, blR, truD, SOut.seq, SOut.of, bltS, sees, bltD, tupD, putTgs, putTg, setSubS, obAt, putOb, mayPut_eq, mpO_un, mpO_sh, mpO_ow, putR, retR, pasKept, backP, noEx, len1S, iskD, isKd, kdOf, List.any, k1, k2, k3, k4, k5, k6, k7, cntsB]
  | int i => simp [Ob.d, binD, Rs.hold, holds, runDef, execs, exec, tst, ev, evs, callS, lent, noTwice, passAll, passS, backAll, backS, Out.bind, Out.thn, tstR, Rs.see, Out.of, sees1, sees2, negD, cmpS, cmpD, sameD, plainD, plainDs, eqD, blR, truD, SOut.seq, SOut.of, bltS, sees, bltD, tupD, putTgs, putTg, setSubS, obAt, putOb, mayPut_eq, mpO_un, mpO_sh, mpO_ow, putR, retR, pasKept, backP, noEx, len1S, iskD, isKd, kdOf, List.any, k1, k2, k3, k4, k5, k6, k7, cntsB]
  | str i => simp [Ob.d, binD, Rs.hold, holds, runDef, execs, exec, tst, ev, evs, callS, lent, noTwice, passAll, passS, backAll, backS, Out.bind, Out.thn, tstR, Rs.see, Out.of, sees1, sees2, negD, cmpS, cmpD, sameD, plainD, plainDs, eqD, blR, truD, SOut.seq, SOut.of, bltS, sees, bltD, tupD, putTgs, putTg, setSubS, obAt, putOb, mayPut_eq, mpO_un, mpO_sh, mpO_ow, putR, retR, pasKept, backP, noEx, len1S, iskD, isKd, kdOf, List.any, k1, k2, k3, k4, k5, k6, k7, cntsB]
  | lst i => simp [Ob.d, binD, Rs.hold, holds, runDef, execs, exec, tst, ev, evs, callS, lent, noTwice, passAll, passS, backAll, backS, Out.bind, Out.thn, tstR, Rs.see, Out.of, sees1, sees2, negD, cmpS, cmpD, sameD, plainD, plainDs, eqD, blR, truD, SOut.seq, SOut.of, bltS, sees, bltD, tupD, putTgs, putTg, setSubS, obAt, putOb, mayPut_eq, mpO_un, mpO_sh, mpO_ow, putR, retR, pasKept, backP, noEx, len1S, iskD, isKd, kdOf, List.any, k1, k2, k3, k4, k5, k6, k7, cntsB]
  | dic i => simp [Ob.d, binD, Rs.hold, holds, runDef, execs, exec, tst, ev, evs, callS, lent, noTwice, passAll, passS, backAll, backS, Out.bind, Out.thn, tstR, Rs.see, Out.of, sees1, sees2, negD, cmpS, cmpD, sameD, plainD, plainDs, eqD, blR, truD, SOut.seq, SOut.of, bltS, sees, bltD, tupD, putTgs, putTg, setSubS, obAt, putOb, mayPut_eq, mpO_un, mpO_sh, mpO_ow, putR, retR, pasKept, backP, noEx, len1S, iskD, isKd, kdOf, List.any, k1, k2, k3, k4, k5, k6, k7, cntsB]
  | ins c i => cases hx
  | scr i => cases hx
def spotD (vs : List Nat) (at_ : Nat) (lf : List Nat) : D := .tup [.tup (natL vs), .int (at_ : Int), .tup (natL lf)]
structure Sp (rows : List Rw) (vs : List Nat) (at_ : Nat) (lf : List Nat) : Prop where
  v : vs.length = 5
  a : at_ ≤ rows.length
  l : lf.length = (stk rows at_).length
/-- is it a moment -/
def momB (rows : List Rw) : D → Bool
  | .tup [v, .int a, l] => cntsB 5 v && decide (0 ≤ a) && decide (a ≤ rows.length) && cntsB (stk rows a.toNat).length l
  | _ => false
theorem Pg.form {rows : List Rw} {p : D} (g : Pg rows p) : ∃ fs, p = .ins 0 fs ∧ ∀ k, k ≠ fl_partners → k ≠ fl_lines → k ≠ fl_arounds → lookF fs k = none := by
  obtain ⟨ks, rfl, -⟩ := g.ex
  refine ⟨_, rfl, fun k h1 h2 h3 => ?_⟩
  have a1 : (fl_lines == k) = false := by simpa using Ne.symm h2
  have a2 : (fl_arounds == k) = false := by simpa using Ne.symm h3
  have a3 : (fl_partners == k) = false := by simpa using Ne.symm h1
  simp [lookF, a1, a2, a3]
theorem cntsB_natL (l : List Nat) (m : Nat) (h : l.length = m) : cntsB m (.tup (natL l)) = true := by
  simp [cntsB, natL_cnt, natL_len, h]
theorem Sp.mom {rows : List Rw} {vs : List Nat} {at_ : Nat} {lf : List Nat} (s : Sp rows vs at_ lf) : momB rows (spotD vs at_ lf) = true := by
  have h1 := cntsB_natL vs 5 s.v
  have h2 := cntsB_natL lf _ s.l
  have h3 := s.a
  simp [momB, spotD, h1, h2]
  omega
section
variable {rows : List Rw} {p : D}
set_option maxHeartbeats 2000000 in
theorem moment_any (n : Nat) (v : VR rows) (g : Pg rows p) (x : D) (hx : tame x = true) : (G (n + 5)).fn i_is_moment [.sh p, .sh x] = .ok (.d (.bl (momB rows x))) [.sh p, .sh x] := by
  have k1 : (Kd.tuple == Kd.tuple) = true := rfl
  have k2 : (Kd.int == Kd.tuple) = false := rfl
  have k3 : (Kd.bool == Kd.tuple) = false := rfl
  have k4 : (Kd.str == Kd.tuple) = false := rfl
  have k5 : (Kd.list == Kd.tuple) = false := rfl
  have k6 : (Kd.dict == Kd.tuple) = false := rfl
  have k7 : (Kd.tuple == Kd.int) = false := rfl
  have e0 : d_is_moment = ⟨2, 6, [.ite (.or_ (.not_ (.isk (.var 1) [.tuple])) (.cmp .ne (.len1 (.var 1)) (.cst (.int 3)))) [.ret (.cst (.bl false))] [], .unp [.nm 2, .nm 3, .nm 4] (.var 1), .ite (.or_ (.not_ (.call i_is_values [.var 2])) (.or_ (.not_ (.call i_is_count [.var 3])) (.or_ (.cmp .gt (.var 3) (.len1 (.var 0))) (.not_ (.isk (.var 4) [.tuple]))))) [.ret (.cst (.bl false))] [], .ret (.and_ (.cmp .eq (.len1 (.var 4)) (.len1 (.own (.var 0) mt_around [.var 3]))) (.blt .all [cntComp i_is_count 5 4]))]⟩ := rfl
  have mt : (G (n + 4)).meth 0 mt_around = some i_m_Program_around := rfl
  have ml : (G (n + 4)).meth 0 1 = some i_dn_Program_len := rfl
  have hz : (rows.length : Int) ≤ 16000000 := by have := v.len; omega
  have hz' : rows.length ≤ 16000000 := by have := v.len; omega
  have hp := plen_eq (n + 2) g
  obtain ⟨fs, ep, fl⟩ := g.form
  have f7 := fl mt_around (by decide) (by decide) (by decide)
  rw [fn_succ (n + 4) _ _ d_is_moment rfl, e0]
  have short : ∀ y : List D, y.length ≠ 3 → momB rows (.tup y) = false := by
    intro y hy
    match y with
    | [] => simp [momB]
    | [_] => simp [momB]
    | [_, _] => simp [momB]
    | [_, _, _] => exact (hy rfl).elim
    | _ :: _ :: _ :: _ :: _ => simp [momB]
  cases x with
  | tup y =>
    by_cases c : y.length = 3
    · match y, c with
      | [a, b, l], _ =>
        have hm : tames [a, b, l] = true := hx
        have ta := tames_mem hm a (by simp)
        have tb := tames_mem hm b (by simp)
        have tl := tames_mem hm l (by simp)
        have h1 := values_any (n + 1) a ta
        have h2 := count_any (n + 2) b tb
        cases ha : cntsB 5 a with
        | false =>
          rw [ha] at h1
          have e : momB rows (.tup [a, b, l]) = false := by
            cases b <;> simp [momB, ha]
          rw [e]
          generalize MExp.blt .all [cntComp i_is_count 5 4] = m
          simp [Ob.d, binD, Rs.hold, holds, runDef, execs, exec, tst, ev, evs, callS, lent, noTwice, passAll, passS, backAll, backS, Out.bind, Out.thn, tstR, Rs.see, Out.of, sees1, sees2, negD, cmpS, cmpD, sameD, plainD, plainDs, eqD, blR, truD, SOut.seq, SOut.of, bltS, sees, bltD, tupD, putTgs, putTg, setSubS, obAt, putOb, mayPut_eq, mpO_un, mpO_sh, mpO_ow, putR, retR, pasKept, backP, noEx, len1S, h1, iskD, isKd, kdOf, List.any, k1]
        | true =>
          rw [ha] at h1
          cases hb : cntB b with
          | false =>
            rw [hb] at h2
            have e : momB rows (.tup [a, b, l]) = false := by
              cases b with
              | int i =>
                have : ¬ 0 ≤ i := by simpa [cntB] using hb
                simp [momB, this]
              | _ => rfl
            rw [e]
            generalize MExp.blt .all [cntComp i_is_count 5 4] = m
            simp [Ob.d, binD, Rs.hold, holds, runDef, execs, exec, tst, ev, evs, callS, lent, noTwice, passAll, passS, backAll, backS, Out.bind, Out.thn, tstR, Rs.see, Out.of, sees1, sees2, negD, cmpS, cmpD, sameD, plainD, plainDs, eqD, blR, truD, SOut.seq, SOut.of, bltS, sees, bltD, tupD, putTgs, putTg, setSubS, obAt, putOb, mayPut_eq, mpO_un, mpO_sh, mpO_ow, putR, retR, pasKept, backP, noEx, len1S, h1, h2, iskD, isKd, kdOf, List.any, k1]
          | true =>
            rw [hb] at h2
            cases b with
            | int i =>
              have i0 : 0 ≤ i := by simpa [cntB] using hb
              obtain ⟨k, rfl⟩ := Int.eq_ofNat_of_zero_le i0
              by_cases ck : k ≤ rows.length
              · have c1 : ¬ (rows.length : Int) < (k : Int) := by omega
                have c2 : ¬ rows.length < k := by omega
                have h4 := paround_eq n g k ck
                have n1 := natL_len (opn rows k)
                rw [opn_len] at n1
                have em : momB rows (.tup [a, .int (k : Int), l]) = cntsB (stk rows k).length l := by
                  have : (k : Int) ≤ (rows.length : Int) := by omega
                  simp [momB, ha]
                  omega
                rw [em]
                cases l with
                | tup ls =>
                  by_cases cl : ls.length = (stk rows k).length
                  · have h3 := (v.st k).1
                    have h5 := all_cnt (G (n + 4)) i_is_count (count_any (n + 2)) ls tl (by omega) 4 5 [.sh p, .sh (.tup [a, .int (k : Int), .tup ls]), .sh a, .sh (.int (k : Int)), .sh (.tup ls), .un] rfl rfl (by decide)
                    have hc : (ls.length == (stk rows k).length) = true := by simpa using cl
                    have hci : ((ls.length : Int) == ((stk rows k).length : Int)) = true := by rw [cl]; simp
                    simp only [cntsB]
                    rw [hc, Bool.true_and]
                    subst ep
                    generalize MExp.blt .all [cntComp i_is_count 5 4] = m at h5
                    generalize ls.all cntB = bb at h5 ⊢
                    generalize natL (opn rows k) = q at h4 n1
                    simp [Ob.d, binD, Rs.hold, holds, runDef, execs, exec, tst, ev, evs, callS, lent, noTwice, passAll, passS, backAll, backS, Out.bind, Out.thn, tstR, Rs.see, Out.of, sees1, sees2, negD, cmpS, cmpD, sameD, plainD, plainDs, eqD, blR, truD, SOut.seq, SOut.of, bltS, sees, bltD, tupD, putTgs, putTg, setSubS, obAt, putOb, mayPut_eq, mpO_un, mpO_sh, mpO_ow, putR, retR, pasKept, backP, noEx, len1S, h1, h2, hp, c1, c2, ml, mt, lenR, hz, hz', f7, h4, n1, cl, hci, h5, iskD, isKd, kdOf, List.any, k1]
                  · have hc : (ls.length == (stk rows k).length) = false := by simpa using cl
                    have hci : ((ls.length : Int) == ((stk rows k).length : Int)) = false := by
                      have : ¬ (ls.length : Int) = ((stk rows k).length : Int) := by omega
                      simpa using this
                    simp only [cntsB]
                    rw [hc, Bool.false_and]
                    subst ep
                    generalize MExp.blt .all [cntComp i_is_count 5 4] = m
                    generalize natL (opn rows k) = q at h4 n1
                    simp [Ob.d, binD, Rs.hold, holds, runDef, execs, exec, tst, ev, evs, callS, lent, noTwice, passAll, passS, backAll, backS, Out.bind, Out.thn, tstR, Rs.see, Out.of, sees1, sees2, negD, cmpS, cmpD, sameD, plainD, plainDs, eqD, blR, truD, SOut.seq, SOut.of, bltS, sees, bltD, tupD, putTgs, putTg, setSubS, obAt, putOb, mayPut_eq, mpO_un, mpO_sh, mpO_ow, putR, retR, pasKept, backP, noEx, len1S, h1, h2, hp, c1, c2, ml, mt, lenR, hz, hz', f7, h4, n1, hc, cl, hci, iskD, isKd, kdOf, List.any, k1]
                | non => subst ep; generalize MExp.blt .all [cntComp i_is_count 5 4] = m; simp [Ob.d, binD, Rs.hold, holds, runDef, execs, exec, tst, ev, evs, callS, lent, noTwice, passAll, passS, backAll, backS, Out.bind, Out.thn, tstR, Rs.see, Out.of, sees1, sees2, negD, cmpS, cmpD, sameD, plainD, plainDs, eqD, blR, truD, SOut.seq, SOut.of, bltS, sees, bltD, tupD, putTgs, putTg, setSubS, obAt, putOb, mayPut_eq, mpO_un, mpO_sh, mpO_ow, putR, retR, pasKept, backP, noEx, len1S, h1, h2, hp, c1, c2, ml, lenR, hz, hz', iskD, isKd, kdOf, List.any, k1, k2, k3, k4, k5, k6, k7, cntsB]
                | bl _ => subst ep; generalize MExp.blt .all [cntComp i_is_count 5 4] = m; simp [Ob.d, binD, Rs.hold, holds, runDef, execs, exec, tst, ev, evs, callS, lent, noTwice, passAll, passS, backAll, backS, Out.bind, Out.thn, tstR, Rs.see, Out.of, sees1, sees2, negD, cmpS, cmpD, sameD, plainD, plainDs, eqD, blR, truD, SOut.seq, SOut.of, bltS, sees, bltD, tupD, putTgs, putTg, setSubS, obAt, putOb, mayPut_eq, mpO_un, mpO_sh, mpO_ow, putR, retR, pasKept, backP, noEx, len1S, h1, h2, hp, c1, c2, ml, lenR, hz, hz', iskD, isKd, kdOf, List.any, k1, k2, k3, k4, k5, k6, k7, cntsB]
                | int _ => subst ep; generalize MExp.blt .all [cntComp i_is_count 5 4] = m; simp [Ob.d, binD, Rs.hold, holds, runDef, execs, exec, tst, ev, evs, callS, lent, noTwice, passAll, passS, backAll, backS, Out.bind, Out.thn, tstR, Rs.see, Out.of, sees1, sees2, negD, cmpS, cmpD, sameD, plainD, plainDs, eqD, blR, truD, SOut.seq, SOut.of, bltS, sees, bltD, tupD, putTgs, putTg, setSubS, obAt, putOb, mayPut_eq, mpO_un, mpO_sh, mpO_ow, putR, retR, pasKept, backP, noEx, len1S, h1, h2, hp, c1, c2, ml, lenR, hz, hz', iskD, isKd, kdOf, List.any, k1, k2, k3, k4, k5, k6, k7, cntsB]
                | str _ => subst ep; generalize MExp.blt .all [cntComp i_is_count 5 4] = m; simp [Ob.d, binD, Rs.hold, holds, runDef, execs, exec, tst, ev, evs, callS, lent, noTwice, passAll, passS, backAll, backS, Out.bind, Out.thn, tstR, Rs.see, Out.of, sees1, sees2, negD, cmpS, cmpD, sameD, plainD, plainDs, eqD, blR, truD, SOut.seq, SOut.of, bltS, sees, bltD, tupD, putTgs, putTg, setSubS, obAt, putOb, mayPut_eq, mpO_un, mpO_sh, mpO_ow, putR, retR, pasKept, backP, noEx, len1S, h1, h2, hp, c1, c2, ml, lenR, hz, hz', iskD, isKd, kdOf, List.any, k1, k2, k3, k4, k5, k6, k7, cntsB]
                | lst _ => subst ep; generalize MExp.blt .all [cntComp i_is_count 5 4] = m; simp [Ob.d, binD, Rs.hold, holds, runDef, execs, exec, tst, ev, evs, callS, lent, noTwice, passAll, passS, backAll, backS, Out.bind, Out.thn, tstR, Rs.see, Out.of, sees1, sees2, negD, cmpS, cmpD, sameD, plainD, plainDs, eqD, blR, truD, SOut.seq, SOut.of, bltS, sees, bltD, tupD, putTgs, putTg, setSubS, obAt, putOb, mayPut_eq, mpO_un, mpO_sh, mpO_ow, putR, retR, pasKept, backP, noEx, len1S, h1, h2, hp, c1, c2, ml, lenR, hz, hz', iskD, isKd, kdOf, List.any, k1, k2, k3, k4, k5, k6, k7, cntsB]
                | dic _ => subst ep; generalize MExp.blt .all [cntComp i_is_count 5 4] = m; simp [Ob.d, binD, Rs.hold, holds, runDef, execs, exec, tst, ev, evs, callS, lent, noTwice, passAll, passS, backAll, backS, Out.bind, Out.thn, tstR, Rs.see, Out.of, sees1, sees2, negD, cmpS, cmpD, sameD, plainD, plainDs, eqD, blR, truD, SOut.seq, SOut.of, bltS, sees, bltD, tupD, putTgs, putTg, setSubS, obAt, putOb, mayPut_eq, mpO_un, mpO_sh, mpO_ow, putR, retR, pasKept, backP, noEx, len1S, h1, h2, hp, c1, c2, ml, lenR, hz, hz', iskD, isKd, kdOf, List.any, k1, k2, k3, k4, k5, k6, k7, cntsB]
                | ins _ _ => cases tl
                | scr _ => cases tl
              · have c1 : (rows.length : Int) < (k : Int) := by omega
                have c2 : rows.length < k := by omega
                have em : momB rows (.tup [a, .int (k : Int), l]) = false := by
                  have : ¬ (k : Int) ≤ (rows.length : Int) := by omega
                  simp [momB]
                  omega
                rw [em]
                subst ep
                generalize MExp.blt .all [cntComp i_is_count 5 4] = m
                simp [Ob.d, binD, Rs.hold, holds, runDef, execs, exec, tst, ev, evs, callS, lent, noTwice, passAll, passS, backAll, backS, Out.bind, Out.thn, tstR, Rs.see, Out.of, sees1, sees2, negD, cmpS, cmpD, sameD, plainD, plainDs, eqD, blR, truD, SOut.seq, SOut.of, bltS, sees, bltD, tupD, putTgs, putTg, setSubS, obAt, putOb, mayPut_eq, mpO_un, mpO_sh, mpO_ow, putR, retR, pasKept, backP, noEx, len1S, h1, h2, hp, c1, c2, ml, lenR, hz, hz', iskD, isKd, kdOf, List.any, k1]
            | non => simp [cntB] at hb
            | bl _ => simp [cntB] at hb
            | str _ => simp [cntB] at hb
            | tup _ => simp [cntB] at hb
            | lst _ => simp [cntB] at hb
            | dic _ => simp [cntB] at hb
            | ins _ _ => simp [cntB] at hb
            | scr _ => simp [cntB] at hb
    · have ci : ¬ (y.length : Int) = 3 := by omega
      rw [short y c]
      generalize MExp.blt .all [cntComp i_is_count 5 4] = m
      simp [Ob.d, binD, Rs.hold, holds, runDef, execs, exec, tst, ev, evs, callS, lent, noTwice, passAll, passS, backAll, backS, Out.bind, Out.thn, tstR, Rs.see, Out.of, sees1, sees2, negD, cmpS, cmpD, sameD, plainD, plainDs, eqD, blR, truD, SOut.seq, SOut.of, bltS, sees, bltD, tupD, putTgs, putTg, setSubS, obAt, putOb, mayPut_eq, mpO_un, mpO_sh, mpO_ow, putR, retR, pasKept, backP, noEx, len1S, ci, c, iskD, isKd, kdOf, List.any, k1]
  | non => generalize MExp.blt .all [cntComp i_is_count 5 4] = m; simp [Ob.d, binD, Rs.hold, holds, runDef, execs, exec, tst, ev, evs, callS, lent, noTwice, passAll, passS, backAll, backS, Out.bind, Out.thn, tstR, Rs.see, Out.of, sees1, sees2, negD, cmpS, cmpD, sameD, plainD, plainDs, eqD, blR, truD, SOut.seq, SOut.of, bltS, sees, bltD, tupD, putTgs, putTg, setSubS, obAt, putOb, mayPut_eq, mpO_un, mpO_sh, mpO_ow, putR, retR, pasKept, backP, noEx, len1S, iskD, isKd, kdOf, List.any, k1, k2, k3, k4, k5, k6, k7, momB]
  | bl _ => generalize MExp.blt .all [cntComp i_is_count 5 4] = m; simp [Ob.d, binD, Rs.hold, holds, runDef, execs, exec, tst, ev, evs, callS, lent, noTwice, passAll, passS, backAll, backS, Out.bind, Out.thn, tstR, Rs.see, Out.of, sees1, sees2, negD, cmpS, cmpD, sameD, plainD, plainDs, eqD, blR, truD, SOut.seq, SOut.of, bltS, sees, bltD, tupD, putTgs, putTg, setSubS, obAt, putOb, mayPut_eq, mpO_un, mpO_sh, mpO_ow, putR, retR, pasKept, backP, noEx, len1S, iskD, isKd, kdOf, List.any, k1, k2, k3, k4, k5, k6, k7, momB]
  | int _ => generalize MExp.blt .all [cntComp i_is_count 5 4] = m; simp [Ob.d, binD, Rs.hold, holds, runDef, execs, exec, tst, ev, evs, callS, lent, noTwice, passAll, passS, backAll, backS, Out.bind, Out.thn, tstR, Rs.see, Out.of, sees1, sees2, negD, cmpS, cmpD, sameD, plainD, plainDs, eqD, blR, truD, SOut.seq, SOut.of, bltS, sees, bltD, tupD, putTgs, putTg, setSubS, obAt, putOb, mayPut_eq, mpO_un, mpO_sh, mpO_ow, putR, retR, pasKept, backP, noEx, len1S, iskD, isKd, kdOf, List.any, k1, k2, k3, k4, k5, k6, k7, momB]
  | str _ => generalize MExp.blt .all [cntComp i_is_count 5 4] = m; simp [Ob.d, binD, Rs.hold, holds, runDef, execs, exec, tst, ev, evs, callS, lent, noTwice, passAll, passS, backAll, backS, Out.bind, Out.thn, tstR, Rs.see, Out.of, sees1, sees2, negD, cmpS, cmpD, sameD, plainD, plainDs, eqD, blR, truD, SOut.seq, SOut.of, bltS, sees, bltD, tupD, putTgs, putTg, setSubS, obAt, putOb, mayPut_eq, mpO_un, mpO_sh, mpO_ow, putR, retR, pasKept, backP, noEx, len1S, iskD, isKd, kdOf, List.any, k1, k2, k3, k4, k5, k6, k7, momB]
  | lst _ => generalize MExp.blt .all [cntComp i_is_count 5 4] = m; simp [Ob.d, binD, Rs.hold, holds, runDef, execs, exec, tst, ev, evs, callS, lent, noTwice, passAll, passS, backAll, backS, Out.bind, Out.thn, tstR, Rs.see, Out.of, sees1, sees2, negD, cmpS, cmpD, sameD, plainD, plainDs, eqD, blR, truD, SOut.seq, SOut.of, bltS, sees, bltD, tupD, putTgs, putTg, setSubS, obAt, putOb, mayPut_eq, mpO_un, mpO_sh, mpO_ow, putR, retR, pasKept, backP, noEx, len1S, iskD, isKd, kdOf, List.any, k1, k2, k3, k4, k5, k6, k7, momB]
  | dic _ => generalize MExp.blt .all [cntComp i_is_count 5 4] = m; simp [Ob.d, binD, Rs.hold, holds, runDef, execs, exec, tst, ev, evs, callS, lent, noTwice, passAll, passS, backAll, backS, Out.bind, Out.thn, tstR, Rs.see, Out.of, sees1, sees2, negD, cmpS, cmpD, sameD, plainD, plainDs, eqD, blR, truD, SOut.seq, SOut.of, bltS, sees, bltD, tupD, putTgs, putTg, setSubS, obAt, putOb, mayPut_eq, mpO_un, mpO_sh, mpO_ow, putR, retR, pasKept, backP, noEx, len1S, iskD, isKd, kdOf, List.any, k1, k2, k3, k4, k5, k6, k7, momB]
  | ins _ _ => cases hx
  | scr _ => cases hx
theorem want_mom (n : Nat) (v : VR rows) (g : Pg rows p) (x : D) (ht : tame x = true) (hx : momB rows x = true) : (G (n + 6)).fn i_want_moment [.sh p, .sh x] = .ok (.d .non) [.sh p, .sh x] := by
  have h1 := moment_any n v g x ht
  rw [hx] at h1
  rw [fn_succ (n + 5) _ _ d_want_moment rfl]
  simp [Ob.d, binD, Rs.hold, holds, runDef, execs, exec, tst, ev, evs, callS, lent, noTwice, passAll, passS, backAll, backS, Out.bind, Out.thn, tstR, Rs.see, Out.of, sees1, sees2, negD, cmpS, cmpD, sameD, plainD, plainDs, eqD, blR, truD, SOut.seq, SOut.of, bltS, sees, bltD, tupD, putTgs, putTg, setSubS, obAt, putOb, mayPut_eq, mpO_un, mpO_sh, mpO_ow, putR, retR, pasKept, backP, noEx, len1S, d_want_moment, b_want_moment, h1]
theorem mom_at {x : D} (h : momB rows x = true) : ∃ k : Nat, idxD x (.int 1) = some (.int (k : Int)) ∧ k ≤ rows.length := by
  cases x with
  | tup y =>
    match y with
    | [] => simp [momB] at h
    | [_] => simp [momB] at h
    | [_, _] => simp [momB] at h
    | [a, b, l] =>
      cases b with
      | int i =>
        simp [momB] at h
        obtain ⟨k, rfl⟩ := Int.eq_ofNat_of_zero_le h.1.1.2
        exact ⟨k, x1 _ _ _, by omega⟩
      | _ => simp [momB] at h
    | _ :: _ :: _ :: _ :: _ => simp [momB] at h
  | _ => cases h
theorem over_any (n : Nat) (v : VR rows) (g : Pg rows p) (x : D) (ht : tame x = true) (hx : momB rows x = true) (k : Nat) (hk : idxD x (.int 1) = some (.int (k : Int))) : (G (n + 7)).fn i_is_over [.sh p, .sh x] = .ok (.d (.bl (decide (k = rows.length)))) [.sh p, .sh x] := by
  have h2 := want_mom n v g x ht hx
  have h3 := plen_eq (n + 4) g
  have ml : (G (n + 6)).meth 0 1 = some i_dn_Program_len := rfl
  have hz : (rows.length : Int) ≤ 16000000 := by have := v.len; omega
  have hz' : rows.length ≤ 16000000 := by have := v.len; omega
  obtain ⟨fs, rfl, -⟩ := g.form
  have hc : ((k : Int) == (rows.length : Int)) = decide (k = rows.length) := by
    by_cases c : k = rows.length
    · subst c; simp
    · have : ¬ (k : Int) = (rows.length : Int) := by omega
      simp [c, this]
  rw [fn_succ (n + 6) _ _ d_is_over rfl]
  simp [Ob.d, binD, Rs.hold, holds, runDef, execs, exec, tst, ev, evs, callS, lent, noTwice, passAll, passS, backAll, backS, Out.bind, Out.thn, tstR, Rs.see, Out.of, sees1, sees2, negD, cmpS, cmpD, sameD, plainD, plainDs, eqD, blR, truD, SOut.seq, SOut.of, bltS, sees, bltD, tupD, putTgs, putTg, setSubS, obAt, putOb, mayPut_eq, mpO_un, mpO_sh, mpO_ow, putR, retR, pasKept, backP, noEx, len1S, d_is_over, b_is_over, h2, hk, h3, ml, lenR, hz, hz', hc]
end
end Lw
end
section
set_option exponentiation.threshold 300
namespace Lw
open Mi
/-! ### what the law draws -/
def T40 : Int := 10000000000000000000000000000000000000000
theorem t40 : T40.natAbs < 2 ^ 4000 := Nat.lt_of_lt_of_le (show T40.natAbs < 2 ^ 140 by unfold T40; decide) (Nat.pow_le_pow_right (by decide) (by decide))
theorem t40p : 0 < T40 := by unfold T40; decide
/-- a bound of what is drawn -/
structure Wd (T : Int) : Prop where
  p : 9 < T
  s : T.natAbs < 2 ^ 4000
theorem count_ex (n : Nat) (T : Int) (hT : Wd T) (a b : Int) (hb : PB b) : ∃ (x : Nat) (a' b' : Int), (x : Int) < T ∧ PB b' ∧ (G (n + 2)).fn i_law_count [potS a b, .sh (.int T)] = .ok (.d (.int (x : Int))) [potS a' b', .sh (.int T)] := by
  have hp := hT.p
  obtain ⟨d1, a1, b1, r1, p1, h1⟩ := take_ex n a b 4 (by decide) (lt4000 (by decide)) hb
  obtain ⟨d2, a2, b2, r2, p2, h2⟩ := take_ex n a1 b1 10 (by decide) (lt4000 (by decide)) p1
  obtain ⟨d3, a3, b3, r3, p3, h3⟩ := take_ex n a2 b2 T (by omega) hT.s p2
  obtain ⟨d4, a4, b4, r4, p4, h4⟩ := take_ex n a3 b3 3 (by decide) (lt4000 (by decide)) p3
  obtain ⟨x, hx, e4⟩ := idx3 d1 d2 d3 d4 r4
  obtain ⟨y, rfl⟩ : ∃ y : Nat, x = (y : Int) := Int.eq_ofNat_of_zero_le (by omega)
  refine ⟨y, a4, b4, by omega, p4, ?_⟩
  rw [fn_succ (n + 1) _ _ d_law_count rfl]
  simp [Ob.d, binD, Rs.hold, holds, runDef, execs, exec, tst, ev, evs, callS, lent, noTwice, passAll, passS, backAll, backS, Out.bind, Out.thn, tstR, Rs.see, Out.of, sees1, sees2, negD, cmpS, cmpD, sameD, plainD, plainDs, eqD, blR, truD, SOut.seq, SOut.of, bltS, sees, bltD, tupD, putTgs, putTg, setSubS, obAt, putOb, mayPut_eq, mpO_un, mpO_sh, mpO_ow, putR, retR, pasKept, backP, noEx, len1S, d_law_count, b_law_count, h1, h2, h3, h4, e4]
theorem wd40 : Wd T40 := ⟨by unfold T40; decide, t40⟩
theorem fold_max : ∀ (l : List Int) (a : Int), a ≤ l.foldl max a ∧ (∀ y ∈ l, y ≤ l.foldl max a) ∧ (l.foldl max a = a ∨ l.foldl max a ∈ l)
  | [], a => ⟨Int.le_refl _, fun y h => by simp at h, .inl rfl⟩
  | x :: l, a => by
    obtain ⟨h1, h2, h3⟩ := fold_max l (max a x)
    rw [List.foldl_cons]
    refine ⟨by omega, fun y hy => ?_, ?_⟩
    · rcases List.mem_cons.mp hy with rfl | hy
      · omega
      · exact h2 y hy
    · rcases h3 with h3 | h3
      · rw [h3]
        by_cases c : a ≤ x
        · exact .inr (by rw [show max a x = x by omega]; exact List.mem_cons_self ..)
        · exact .inl (by omega)
      · exact .inr (List.mem_cons_of_mem _ h3)
theorem ints_nat : ∀ (l : List Nat) (t : List D) (tl : List Int), intsOf t = some tl → intsOf (natL l ++ t) = some (l.map (fun (x : Nat) => (x : Int)) ++ tl)
  | [], t, tl, h => h
  | x :: l, t, tl, h => by
    have ih := ints_nat l t tl h
    show (match intsOf (natL l ++ t) with
      | some l => some ((x : Int) :: l)
      | none => none) = _
    rw [ih]
    rfl
theorem max_ex (st : List Nat) (h5 : ∀ x ∈ st, x < 5) : ∃ (m : Int) (L : List Int), intsOf (natL st ++ [.int (-1)]) = some L ∧ maxI L = some m ∧ -1 ≤ m ∧ m < 5 ∧ ∀ x ∈ st, (x : Int) ≤ m := by
  have hi := ints_nat st [.int (-1)] [-1] rfl
  cases st with
  | nil => exact ⟨-1, [-1], rfl, rfl, by omega, by omega, fun x h => by simp at h⟩
  | cons x st =>
    obtain ⟨h1, h2, h3⟩ := fold_max (st.map (fun (x : Nat) => (x : Int)) ++ [-1]) (x : Int)
    have hx := h5 x (List.mem_cons_self ..)
    refine ⟨(st.map (fun (x : Nat) => (x : Int)) ++ [-1]).foldl max (x : Int), _, hi, rfl, by omega, ?_, fun y hy => ?_⟩
    · rcases h3 with h3 | h3
      · rw [h3]; omega
      · rcases List.mem_append.mp h3 with h3 | h3
        · obtain ⟨z, hz, e⟩ := List.mem_map.mp h3
          have := h5 z (List.mem_cons_of_mem _ hz)
          omega
        · have := List.mem_singleton.mp h3
          omega
    · rcases List.mem_cons.mp hy with rfl | hy
      · exact h1
      · exact h2 _ (List.mem_append_left _ (List.mem_map.mpr ⟨y, hy, rfl⟩))
theorem abc_at (r : Nat) (h : r < 5) : idxD (.str [97, 98, 99, 100, 101]) (.int (r : Int)) = some (lt r) :=
  five (P := fun r => idxD (.str [97, 98, 99, 100, 101]) (.int (r : Int)) = some (lt r)) r h rfl rfl rfl rfl rfl
theorem nat_of {d w : Int} (h : 0 ≤ d ∧ d < w) : ∃ k : Nat, d = (k : Int) ∧ (k : Int) < w := by
  obtain ⟨k, e⟩ := Int.eq_ofNat_of_zero_le h.1
  exact ⟨k, e, by omega⟩
end Lw
end
section
set_option exponentiation.threshold 300
namespace Lw
open Mi
theorem natL_plain (n : Nat) : ∀ l : List Nat, plainDs n (natL l) = true
  | [] => by simp [natL, plainDs]
  | x :: l => by
    have h := natL_plain n l
    unfold natL at h ⊢
    simp only [List.map_cons, plainDs, plainD, h, Bool.and_self]
/-- the numbers of a row are less than so much -/
def Rw.lim (T : Int) : Rw → Prop
  | .addn _ x => (x : Int) < T
  | _ => True
set_option maxHeartbeats 2000000 in
theorem line_ex (n : Nat) (T : Int) (hT : Wd T) (st : List Nat) (h5 : ∀ x ∈ st, x < 5) (h3 : st.length ≤ 3) (a b : Int) (hb : PB b) :
    ∃ (r : Rw) (a' b' : Int), r.ok ∧ fitsB r st = true ∧ r.lim T ∧ PB b' ∧ (G (n + 3)).fn i_law_line [potS a b, .pa (.lst (natL st)), .sh (.int T)] = .ok (.d r.d) [potS a' b', .pa (.lst (natL st)), .sh (.int T)] := by
  obtain ⟨m, L, hi, hm, m0, m5, mx⟩ := max_ex st h5
  have hz2 : szOk (st.length + 1) = true := szOk_of (by omega)
  obtain ⟨w, a1, b1, r1, p1, h1⟩ := take_ex (n + 1) a b 8 (by decide) (lt4000 (by decide)) hb
  have hz : szOk ((natL st).length + 1) = true := szOk_of (by rw [natL_len]; omega)
  have hln := natL_len st
  have hpl := natL_plain 39 st
  have hem : eqDs (natL st) [] = st.isEmpty := by cases st <;> rfl
  rw [fn_succ (n + 2) _ _ d_law_line rfl]
  by_cases c1 : w < 4 ∧ m + 1 < 5
  · obtain ⟨d2, a2, b2, r2, p2, h2⟩ := take_ex (n + 1) a1 b1 (5 - (m + 1)) (by omega) (lt4000 (by omega)) p1
    obtain ⟨g, hg, hg5⟩ := nat_of (d := m + 1 + d2) (w := 5) (by omega)
    have g5 : g < 5 := by omega
    have hx := abc_at g g5
    obtain ⟨x, a3, b3, xT, p3, h3'⟩ := count_ex n T hT a2 b2 p2
    have fits : st.all (fun y => decide (y < g)) = true := List.all_eq_true.mpr fun y hy => by
      have := mx y hy
      exact decide_eq_true (by omega)
    have cw : w < 4 := c1.1
    have cm : m + 1 < 5 := c1.2
    by_cases c2 : 0 < g
    · have c2i : (0 : Int) < (g : Int) := by omega
      obtain ⟨d4, a4, b4, r4, p4, h4⟩ := take_ex (n + 1) a3 b3 2 (by decide) (lt4000 (by decide)) p3
      by_cases c3 : d4 = 0
      · have c3b : (d4 == 0) = true := by simpa using c3
        obtain ⟨d6, a6, b6, r6, p6, h6⟩ := take_ex (n + 1) a4 b4 (g : Int) (by omega) (lt4000 (by omega)) p4
        obtain ⟨s, hs, hsg⟩ := nat_of r6
        have hy := abc_at s (by omega)
        rw [← hs] at hy
        refine ⟨.addr g s, a6, b6, ⟨g5, by omega⟩, fits, trivial, p6, ?_⟩
        simp only [Rw.d]
        generalize natL st = q at hi hz hln hpl hem ⊢
        simp [Ob.d, binD, Rs.hold, holds, runDef, execs, exec, tst, ev, evs, callS, lent, noTwice, passAll, passS, backAll, backS, Out.bind, Out.thn, tstR, Rs.see, Out.of, sees1, sees2, negD, cmpS, cmpD, sameD, plainD, plainDs, eqD, blR, truD, SOut.seq, SOut.of, bltS, sees, bltD, tupD, putTgs, putTg, setSubS, obAt, putOb, mayPut_eq, mpO_un, mpO_sh, mpO_ow, putR, retR, pasKept, backP, noEx, len1S, d_law_line, b_law_line, hi, hm, hz, hz2, h1, cw, cm, h2, hg, h3', c2, c2i, h4, c3b, hx, h6, hy]
      · have c3b : (d4 == 0) = false := by simpa using c3
        refine ⟨.addn g x, a4, b4, g5, fits, xT, p4, ?_⟩
        simp only [Rw.d]
        generalize natL st = q at hi hz hln hpl hem ⊢
        simp [Ob.d, binD, Rs.hold, holds, runDef, execs, exec, tst, ev, evs, callS, lent, noTwice, passAll, passS, backAll, backS, Out.bind, Out.thn, tstR, Rs.see, Out.of, sees1, sees2, negD, cmpS, cmpD, sameD, plainD, plainDs, eqD, blR, truD, SOut.seq, SOut.of, bltS, sees, bltD, tupD, putTgs, putTg, setSubS, obAt, putOb, mayPut_eq, mpO_un, mpO_sh, mpO_ow, putR, retR, pasKept, backP, noEx, len1S, d_law_line, b_law_line, hi, hm, hz, hz2, h1, cw, cm, h2, hg, h3', c2, c2i, h4, c3b, hx]
    · have c2i : ¬ (0 : Int) < (g : Int) := by omega
      refine ⟨.addn g x, a3, b3, g5, fits, xT, p3, ?_⟩
      simp only [Rw.d]
      generalize natL st = q at hi hz hln hpl hem ⊢
      simp [Ob.d, binD, Rs.hold, holds, runDef, execs, exec, tst, ev, evs, callS, lent, noTwice, passAll, passS, backAll, backS, Out.bind, Out.thn, tstR, Rs.see, Out.of, sees1, sees2, negD, cmpS, cmpD, sameD, plainD, plainDs, eqD, blR, truD, SOut.seq, SOut.of, bltS, sees, bltD, tupD, putTgs, putTg, setSubS, obAt, putOb, mayPut_eq, mpO_un, mpO_sh, mpO_ow, putR, retR, pasKept, backP, noEx, len1S, d_law_line, b_law_line, hi, hm, hz, hz2, h1, cw, cm, h2, hg, h3', c2, c2i, hx]
  · have rest : ∀ (blk : Bool), (decide (w < 4) && decide (m + 1 < 5)) = false := fun _ => by
      cases z : (decide (w < 4) && decide (m + 1 < 5)) with
      | false => rfl
      | true => exact (c1 (by simpa using z)).elim
    by_cases c4 : w < 6 ∧ st.length < 3
    · obtain ⟨d2, a2, b2, r2, p2, h2⟩ := take_ex (n + 1) a1 b1 5 (by decide) (lt4000 (by decide)) p1
      obtain ⟨d3, a3, b3, r3, p3, h3'⟩ := take_ex (n + 1) a2 b2 5 (by decide) (lt4000 (by decide)) p2
      obtain ⟨r, hr, hr5⟩ := nat_of (d := if d3 < d2 then d3 else d2) (w := 5) (by split <;> omega)
      have hx := abc_at r (by omega)
      rw [← hr] at hx
      have c4i : (st.length : Int) < 3 := by omega
      refine ⟨.rep r, a3, b3, by show r < 5; omega, by show decide (st.length < 3) = true; exact decide_eq_true c4.2, trivial, p3, ?_⟩
      have w6 := c4.1
      have s3 := c4.2
      simp only [Rw.d]
      generalize natL st = q at hi hz hln hpl hem ⊢
      by_cases e1 : w < 4
      · have e2 : ¬ m + 1 < 5 := fun z => c1 ⟨e1, z⟩
        by_cases e3 : d3 < d2
        · rw [if_pos e3] at hx
          simp [Ob.d, binD, Rs.hold, holds, runDef, execs, exec, tst, ev, evs, callS, lent, noTwice, passAll, passS, backAll, backS, Out.bind, Out.thn, tstR, Rs.see, Out.of, sees1, sees2, negD, cmpS, cmpD, sameD, plainD, plainDs, eqD, blR, truD, SOut.seq, SOut.of, bltS, sees, bltD, tupD, putTgs, putTg, setSubS, obAt, putOb, mayPut_eq, mpO_un, mpO_sh, mpO_ow, putR, retR, pasKept, backP, noEx, len1S, d_law_line, b_law_line, hi, hm, hz, hz2, h1, e1, e2, hln, w6, c4i, s3, h2, h3', hx, e3]
        · rw [if_neg e3] at hx
          simp [Ob.d, binD, Rs.hold, holds, runDef, execs, exec, tst, ev, evs, callS, lent, noTwice, passAll, passS, backAll, backS, Out.bind, Out.thn, tstR, Rs.see, Out.of, sees1, sees2, negD, cmpS, cmpD, sameD, plainD, plainDs, eqD, blR, truD, SOut.seq, SOut.of, bltS, sees, bltD, tupD, putTgs, putTg, setSubS, obAt, putOb, mayPut_eq, mpO_un, mpO_sh, mpO_ow, putR, retR, pasKept, backP, noEx, len1S, d_law_line, b_law_line, hi, hm, hz, hz2, h1, e1, e2, hln, w6, c4i, s3, h2, h3', hx, e3]
      · by_cases e3 : d3 < d2
        · rw [if_pos e3] at hx
          simp [Ob.d, binD, Rs.hold, holds, runDef, execs, exec, tst, ev, evs, callS, lent, noTwice, passAll, passS, backAll, backS, Out.bind, Out.thn, tstR, Rs.see, Out.of, sees1, sees2, negD, cmpS, cmpD, sameD, plainD, plainDs, eqD, blR, truD, SOut.seq, SOut.of, bltS, sees, bltD, tupD, putTgs, putTg, setSubS, obAt, putOb, mayPut_eq, mpO_un, mpO_sh, mpO_ow, putR, retR, pasKept, backP, noEx, len1S, d_law_line, b_law_line, hi, hm, hz, hz2, h1, e1, hln, w6, c4i, s3, h2, h3', hx, e3]
        · rw [if_neg e3] at hx
          simp [Ob.d, binD, Rs.hold, holds, runDef, execs, exec, tst, ev, evs, callS, lent, noTwice, passAll, passS, backAll, backS, Out.bind, Out.thn, tstR, Rs.see, Out.of, sees1, sees2, negD, cmpS, cmpD, sameD, plainD, plainDs, eqD, blR, truD, SOut.seq, SOut.of, bltS, sees, bltD, tupD, putTgs, putTg, setSubS, obAt, putOb, mayPut_eq, mpO_un, mpO_sh, mpO_ow, putR, retR, pasKept, backP, noEx, len1S, d_law_line, b_law_line, hi, hm, hz, hz2, h1, e1, hln, w6, c4i, s3, h2, h3', hx, e3]
    · by_cases c5 : 6 < w ∧ st ≠ []
      · refine ⟨.fin, a1, b1, trivial, by show (!st.isEmpty) = true; cases st with | nil => exact (c5.2 rfl).elim | cons _ _ => rfl, trivial, p1, ?_⟩
        have hem2 : eqDs (natL st) [] = false := by rw [hem]; cases st with | nil => exact (c5.2 rfl).elim | cons _ _ => rfl
        have w1 : ¬ w < 4 := by omega
        have w2 : ¬ w < 6 := by omega
        have w3 := c5.1
        simp only [Rw.d]
        generalize natL st = q at hi hz hln hpl hem2 ⊢
        simp [Ob.d, binD, Rs.hold, holds, runDef, execs, exec, tst, ev, evs, callS, lent, noTwice, passAll, passS, backAll, backS, Out.bind, Out.thn, tstR, Rs.see, Out.of, sees1, sees2, negD, cmpS, cmpD, sameD, plainD, plainDs, eqD, blR, truD, SOut.seq, SOut.of, bltS, sees, bltD, tupD, putTgs, putTg, setSubS, obAt, putOb, mayPut_eq, mpO_un, mpO_sh, mpO_ow, putR, retR, pasKept, backP, noEx, len1S, d_law_line, b_law_line, hi, hm, hz, hz2, h1, w1, w2, w3, hpl, hem2]
      · obtain ⟨d2, a2, b2, r2, p2, h2⟩ := take_ex (n + 1) a1 b1 5 (by decide) (lt4000 (by decide)) p1
        obtain ⟨r, hr, hr5⟩ := nat_of r2
        have hx := abc_at r (by omega)
        rw [← hr] at hx
        refine ⟨.tell r, a2, b2, by show r < 5; omega, rfl, trivial, p2, ?_⟩
        simp only [Rw.d]
        have em3 : 6 < w → eqDs (natL st) [] = true := fun z => by
          rw [hem]
          cases st with
          | nil => rfl
          | cons _ _ => exact (c5 ⟨z, by simp⟩).elim
        have n3 : w < 6 → ¬ (st.length : Int) < 3 := fun z y => c4 ⟨z, by omega⟩
        have n3' : w < 6 → ¬ st.length < 3 := fun z y => c4 ⟨z, y⟩
        generalize natL st = q at hi hz hln hpl em3 ⊢
        by_cases e1 : w < 4
        · have e2 : ¬ m + 1 < 5 := fun z => c1 ⟨e1, z⟩
          have e3 := n3 (by omega)
          have e3' := n3' (by omega)
          have e4 : w < 6 := by omega
          have e5 : ¬ 6 < w := by omega
          simp [Ob.d, binD, Rs.hold, holds, runDef, execs, exec, tst, ev, evs, callS, lent, noTwice, passAll, passS, backAll, backS, Out.bind, Out.thn, tstR, Rs.see, Out.of, sees1, sees2, negD, cmpS, cmpD, sameD, plainD, plainDs, eqD, blR, truD, SOut.seq, SOut.of, bltS, sees, bltD, tupD, putTgs, putTg, setSubS, obAt, putOb, mayPut_eq, mpO_un, mpO_sh, mpO_ow, putR, retR, pasKept, backP, noEx, len1S, d_law_line, b_law_line, hi, hm, hz, hz2, h1, e1, e2, hln, e3, e3', e4, e5, h2, hx]
        · by_cases e4 : w < 6
          · have e3 := n3 e4
            have e3' := n3' e4
            have e5 : ¬ 6 < w := by omega
            simp [Ob.d, binD, Rs.hold, holds, runDef, execs, exec, tst, ev, evs, callS, lent, noTwice, passAll, passS, backAll, backS, Out.bind, Out.thn, tstR, Rs.see, Out.of, sees1, sees2, negD, cmpS, cmpD, sameD, plainD, plainDs, eqD, blR, truD, SOut.seq, SOut.of, bltS, sees, bltD, tupD, putTgs, putTg, setSubS, obAt, putOb, mayPut_eq, mpO_un, mpO_sh, mpO_ow, putR, retR, pasKept, backP, noEx, len1S, d_law_line, b_law_line, hi, hm, hz, hz2, h1, e1, hln, e3, e3', e4, e5, h2, hx]
          · by_cases e5 : 6 < w
            · have e6 := em3 e5
              simp [Ob.d, binD, Rs.hold, holds, runDef, execs, exec, tst, ev, evs, callS, lent, noTwice, passAll, passS, backAll, backS, Out.bind, Out.thn, tstR, Rs.see, Out.of, sees1, sees2, negD, cmpS, cmpD, sameD, plainD, plainDs, eqD, blR, truD, SOut.seq, SOut.of, bltS, sees, bltD, tupD, putTgs, putTg, setSubS, obAt, putOb, mayPut_eq, mpO_un, mpO_sh, mpO_ow, putR, retR, pasKept, backP, noEx, len1S, d_law_line, b_law_line, hi, hm, hz, hz2, h1, e1, hln, e4, e5, hpl, e6, h2, hx]
            · simp [Ob.d, binD, Rs.hold, holds, runDef, execs, exec, tst, ev, evs, callS, lent, noTwice, passAll, passS, backAll, backS, Out.bind, Out.thn, tstR, Rs.see, Out.of, sees1, sees2, negD, cmpS, cmpD, sameD, plainD, plainDs, eqD, blR, truD, SOut.seq, SOut.of, bltS, sees, bltD, tupD, putTgs, putTg, setSubS, obAt, putOb, mayPut_eq, mpO_un, mpO_sh, mpO_ow, putR, retR, pasKept, backP, noEx, len1S, d_law_line, b_law_line, hi, hm, hz, hz2, h1, e1, hln, e4, e5, h2, hx]
/-! ### rows, one more -/
structure RR (rows : List Rw) : Prop where
  ok : ∀ k r, rows[k]? = some r → r.ok ∧ fitsB r (stk rows k) = true
  st : ∀ k, (stk rows k).length ≤ 3 ∧ ∀ x ∈ stk rows k, x < 5
theorem stk_over {rows : List Rw} {k : Nat} (h : rows.length ≤ k) : stk rows k = stk rows rows.length := by
  unfold stk
  rw [List.take_of_length_le h, List.take_of_length_le (Nat.le_refl _)]
theorem stk_app {rows : List Rw} {r : Rw} {k : Nat} (h : k ≤ rows.length) : stk (rows ++ [r]) k = stk rows k := by
  unfold stk
  rw [List.take_append_of_le_length h]
theorem stk_end {rows : List Rw} {r : Rw} : stk (rows ++ [r]) (rows.length + 1) = stp (stk rows rows.length) r := by
  have h : (rows ++ [r])[rows.length]? = some r := by simp
  rw [stk_succ h, stk_app (Nat.le_refl _)]
theorem RR.nil : RR [] := ⟨fun k r h => by simp at h, fun k => by
  have : stk [] k = [] := by unfold stk; simp
  rw [this]
  exact ⟨by simp, fun x h => by simp at h⟩⟩
theorem stp_ok {st : List Nat} {r : Rw} (h3 : st.length ≤ 3) (h5 : ∀ x ∈ st, x < 5) (ho : r.ok) (hf : fitsB r st = true) : (stp st r).length ≤ 3 ∧ ∀ x ∈ stp st r, x < 5 := by
  cases r with
  | addn _ _ => exact ⟨h3, h5⟩
  | addr _ _ => exact ⟨h3, h5⟩
  | tell _ => exact ⟨h3, h5⟩
  | rep r =>
    have hf : st.length < 3 := of_decide_eq_true hf
    refine ⟨by simp [stp]; omega, fun x hx => ?_⟩
    rcases List.mem_append.mp hx with hx | hx
    · exact h5 x hx
    · rw [List.mem_singleton.mp hx]; exact ho
  | fin => exact ⟨by simp [stp]; omega, fun x hx => h5 x ((List.dropLast_sublist st).subset hx)⟩
theorem RR.snoc {rows : List Rw} {r : Rw} (h : RR rows) (ho : r.ok) (hf : fitsB r (stk rows rows.length) = true) : RR (rows ++ [r]) := by
  refine ⟨fun k s hs => ?_, fun k => ?_⟩
  · by_cases c : k < rows.length
    · rw [List.getElem?_append_left c] at hs
      rw [stk_app (by omega)]
      exact h.ok k s hs
    · by_cases c2 : k = rows.length
      · subst c2
        simp at hs
        subst hs
        rw [stk_app (Nat.le_refl _)]
        exact ⟨ho, hf⟩
      · rw [List.getElem?_eq_none (by simp; omega)] at hs
        cases hs
  · by_cases c : k ≤ rows.length
    · rw [stk_app c]
      exact h.st k
    · obtain ⟨a, b⟩ := h.st rows.length
      have := stp_ok a b ho hf
      rw [← stk_end] at this
      rw [stk_over (by simp; omega), List.length_append, List.length_singleton]
      exact this
theorem close_ok : ∀ (m : Nat) (rows : List Rw), RR rows → (stk rows rows.length).length = m → RR (rows ++ List.replicate m .fin) ∧ stk (rows ++ List.replicate m .fin) (rows.length + m) = []
  | 0, rows, h, e => by
    rw [List.replicate_zero, List.append_nil]
    exact ⟨h, List.length_eq_zero_iff.mp e⟩
  | m + 1, rows, h, e => by
    have hf : fitsB .fin (stk rows rows.length) = true := by
      show (!(stk rows rows.length).isEmpty) = true
      cases z : stk rows rows.length with
      | nil => rw [z] at e; cases e
      | cons _ _ => rfl
    have h2 := h.snoc (r := .fin) trivial hf
    have e2 : (stk (rows ++ [.fin]) (rows ++ [Rw.fin]).length).length = m := by
      rw [List.length_append, List.length_singleton, stk_end]
      show (stk rows rows.length).dropLast.length = m
      simp [e]
    obtain ⟨a, b⟩ := close_ok m (rows ++ [.fin]) h2 e2
    rw [List.replicate_succ]
    have e3 : rows ++ (Rw.fin :: List.replicate m .fin) = rows ++ [.fin] ++ List.replicate m .fin := by simp
    rw [e3]
    refine ⟨a, ?_⟩
    rw [List.length_append, List.length_singleton] at b
    rw [← b]
    congr 1
    omega
end Lw
end
section
set_option exponentiation.threshold 300
namespace Lw
open Mi
theorem rowsL_app (a b : List Rw) : rowsL (a ++ b) = rowsL a ++ rowsL b := by unfold rowsL; simp
def lnB : List MStmt := [.set 6 false (.call i_law_line [.var 0, .var 5, .var 2]), .ite (.cmp .lt (.bin .add (.len1 (.var 4)) (.len1 (.var 5))) (.cst (.int 39))) [.exp (.met .append (.var 4) [.var 6]), .ite (.cmp .eq (.idx (.var 6) (.cst (.int 0))) (.cst (.str [114, 101, 112, 101, 97, 116]))) [.exp (.met .append (.var 5) [.met .index (.cst (.str [97, 98, 99, 100, 101])) [.idx (.var 6) (.cst (.int 1))]])] [.ite (.cmp .eq (.idx (.var 6) (.cst (.int 0))) (.cst (.str [101, 110, 100]))) [.exp (.met .pop (.var 5) [])] []]] []]
theorem ln_body (n : Nat) (w : Int) (T : Int) (hT : Wd T) (rows : List Rw) (h : RR rows) (hlm : ∀ r ∈ rows, r.lim T) (hl : rows.length + (stk rows rows.length).length ≤ 40) (a b : Int) (hb : PB b) (s3 s6 : Sl) (m6 : mpO (some s6) = true) :
    ∃ (rows' : List Rw) (a' b' : Int) (t6 : Sl), RR rows' ∧ rows'.length + (stk rows' rows'.length).length ≤ 40 ∧ (rows'.length ≤ rows.length + 1) ∧ (∀ r ∈ rows', r.lim T) ∧ PB b' ∧ mpO (some t6) = true ∧
      execs (G (n + 3)) lnB [potS a b, .sh (.int w), .sh (.int T), s3, .ow (.lst (rowsL rows)), .ow (.lst (natL (stk rows rows.length))), s6] =
        .nx [potS a' b', .sh (.int w), .sh (.int T), s3, .ow (.lst (rowsL rows')), .ow (.lst (natL (stk rows' rows'.length))), t6] := by
  obtain ⟨l3, l5⟩ := h.st rows.length
  obtain ⟨r, a1, b1, ho, hf, hlim, p1, h1⟩ := line_ex n T hT (stk rows rows.length) l5 l3 a b hb
  have n1 := rowsL_len rows
  have n2 := natL_len (stk rows rows.length)
  by_cases c : rows.length + (stk rows rows.length).length < 39
  · have h2 := h.snoc ho hf
    have e1 : (rows ++ [r]).length = rows.length + 1 := by simp
    have e2 : stk (rows ++ [r]) (rows.length + 1) = stp (stk rows rows.length) r := stk_end
    have e3 := stp_len (stk rows rows.length) r
    have ci : (rows.length : Int) + ((stk rows rows.length).length : Int) < 39 := by omega
    have z1 : szOk (rowsL rows).length = true := szOk_of (by omega)
    have z1' : szOk rows.length = true := szOk_of (by omega)
    have z2 : szOk (natL (stk rows rows.length)).length = true := szOk_of (by omega)
    have z2' : szOk (stk rows rows.length).length = true := szOk_of (by omega)
    refine ⟨rows ++ [r], a1, b1, .sh r.d, h2, ?_, ?_, ?_, p1, rfl, ?_⟩
    · rw [e1, e2, e3]
      unfold dl
      split <;> omega
    · simp
    · intro x hx
      rcases List.mem_append.mp hx with hx | hx
      · exact hlm x hx
      · rw [List.mem_singleton.mp hx]; exact hlim
    · rw [e1, e2, rowsL_app]
      have e4 : rowsL [r] = [r.d] := rfl
      rw [e4]
      generalize stk rows rows.length = st at *
      cases r with
      | rep r =>
        have h5 := sx_is r (show r < 5 from ho)
        simp only [Rw.d, stp] at h1 ⊢
        rw [natL_app]
        have e5 : natL [r] = [.int (r : Int)] := rfl
        rw [e5]
        generalize natL st = q at h1 n2 z2 ⊢
        generalize rowsL rows = ww at n1 z1 ⊢
        simp [Ob.d, binD, Rs.hold, holds, runDef, execs, exec, tst, ev, evs, callS, lent, noTwice, passAll, passS, backAll, backS, Out.bind, Out.thn, tstR, Rs.see, Out.of, sees1, sees2, negD, cmpS, cmpD, sameD, plainD, plainDs, eqD, blR, truD, SOut.seq, SOut.of, bltS, sees, bltD, tupD, putTgs, putTg, setSubS, obAt, putOb, mayPut_eq, mpO_un, mpO_sh, mpO_ow, putR, retR, pasKept, backP, noEx, len1S, lnB, h1, m6, n1, n2, ci, c, x0, x1, metOk, isMut, metS, metO, kindOk, z1, z1', z2, z2', h5]
      | fin =>
        rcases List.eq_nil_or_concat st with rfl | ⟨xs, x, rfl⟩
        · cases hf
        · rw [List.concat_eq_append] at *
          simp only [Rw.d, stp] at h1 ⊢
          rw [List.dropLast_concat]
          rw [natL_app] at h1 n2 z2 ⊢
          have e5 : natL [x] = [.int (x : Int)] := rfl
          rw [e5] at h1 n2 z2 ⊢
          rw [List.length_append, List.length_singleton] at n2 z2' ci
          have ci2 : (rows.length : Int) + ((xs.length : Int) + 1) < 39 := by simp at ci; omega
          have n3 : (natL xs).length = xs.length := natL_len xs
          generalize natL xs = q at h1 n2 n3 z2 ⊢
          generalize rowsL rows = ww at n1 z1 ⊢
          simp [Ob.d, binD, Rs.hold, holds, runDef, execs, exec, tst, ev, evs, callS, lent, noTwice, passAll, passS, backAll, backS, Out.bind, Out.thn, tstR, Rs.see, Out.of, sees1, sees2, negD, cmpS, cmpD, sameD, plainD, plainDs, eqD, blR, truD, SOut.seq, SOut.of, bltS, sees, bltD, tupD, putTgs, putTg, setSubS, obAt, putOb, mayPut_eq, mpO_un, mpO_sh, mpO_ow, putR, retR, pasKept, backP, noEx, len1S, lnB, h1, m6, n1, n2, n3, ci, ci2, c, x0, x1, metOk, isMut, metS, metO, kindOk, z1, z1', z2, z2']
      | addn x y =>
        simp only [Rw.d, stp] at h1 ⊢
        generalize natL st = q at h1 n2 z2 ⊢
        generalize rowsL rows = ww at n1 z1 ⊢
        simp [Ob.d, binD, Rs.hold, holds, runDef, execs, exec, tst, ev, evs, callS, lent, noTwice, passAll, passS, backAll, backS, Out.bind, Out.thn, tstR, Rs.see, Out.of, sees1, sees2, negD, cmpS, cmpD, sameD, plainD, plainDs, eqD, blR, truD, SOut.seq, SOut.of, bltS, sees, bltD, tupD, putTgs, putTg, setSubS, obAt, putOb, mayPut_eq, mpO_un, mpO_sh, mpO_ow, putR, retR, pasKept, backP, noEx, len1S, lnB, h1, m6, n1, n2, ci, c, x0, x1, metOk, isMut, metS, metO, kindOk, z1, z1', z2, z2']
      | addr x y =>
        simp only [Rw.d, stp] at h1 ⊢
        generalize natL st = q at h1 n2 z2 ⊢
        generalize rowsL rows = ww at n1 z1 ⊢
        simp [Ob.d, binD, Rs.hold, holds, runDef, execs, exec, tst, ev, evs, callS, lent, noTwice, passAll, passS, backAll, backS, Out.bind, Out.thn, tstR, Rs.see, Out.of, sees1, sees2, negD, cmpS, cmpD, sameD, plainD, plainDs, eqD, blR, truD, SOut.seq, SOut.of, bltS, sees, bltD, tupD, putTgs, putTg, setSubS, obAt, putOb, mayPut_eq, mpO_un, mpO_sh, mpO_ow, putR, retR, pasKept, backP, noEx, len1S, lnB, h1, m6, n1, n2, ci, c, x0, x1, metOk, isMut, metS, metO, kindOk, z1, z1', z2, z2']
      | tell x =>
        simp only [Rw.d, stp] at h1 ⊢
        generalize natL st = q at h1 n2 z2 ⊢
        generalize rowsL rows = ww at n1 z1 ⊢
        simp [Ob.d, binD, Rs.hold, holds, runDef, execs, exec, tst, ev, evs, callS, lent, noTwice, passAll, passS, backAll, backS, Out.bind, Out.thn, tstR, Rs.see, Out.of, sees1, sees2, negD, cmpS, cmpD, sameD, plainD, plainDs, eqD, blR, truD, SOut.seq, SOut.of, bltS, sees, bltD, tupD, putTgs, putTg, setSubS, obAt, putOb, mayPut_eq, mpO_un, mpO_sh, mpO_ow, putR, retR, pasKept, backP, noEx, len1S, lnB, h1, m6, n1, n2, ci, c, x0, x1, metOk, isMut, metS, metO, kindOk, z1, z1', z2, z2']
  · have ci : ¬ (rows.length : Int) + ((stk rows rows.length).length : Int) < 39 := by omega
    refine ⟨rows, a1, b1, .sh r.d, h, hl, by omega, hlm, p1, rfl, ?_⟩
    generalize stk rows rows.length = st at *
    generalize natL st = q at h1 n2 ⊢
    generalize rowsL rows = ww at n1 ⊢
    generalize r.d = rd at h1 ⊢
    simp [Ob.d, binD, Rs.hold, holds, runDef, execs, exec, tst, ev, evs, callS, lent, noTwice, passAll, passS, backAll, backS, Out.bind, Out.thn, tstR, Rs.see, Out.of, sees1, sees2, negD, cmpS, cmpD, sameD, plainD, plainDs, eqD, blR, truD, SOut.seq, SOut.of, bltS, sees, bltD, tupD, putTgs, putTg, setSubS, obAt, putOb, mayPut_eq, mpO_un, mpO_sh, mpO_ow, putR, retR, pasKept, backP, noEx, len1S, lnB, h1, m6, n1, n2, ci, c]
theorem rep_fin (m : Nat) : rowsL (List.replicate m .fin) = List.replicate m (.tup [.str tEnd]) := by unfold rowsL; rw [List.map_replicate]; rfl
theorem rep_flat (x : D) (m : Nat) : (List.replicate m [x]).flatten = List.replicate m x := by
  induction m with
  | zero => rfl
  | succ m ih => rw [List.replicate_succ, List.flatten_cons, ih, List.replicate_succ]; rfl
end Lw
end
section
set_option exponentiation.threshold 300
namespace Lw
open Mi
theorem mulA (m : Nat) (h : m ≤ 1000) : decide (-1000000 ≤ (m : Int)) = true := decide_eq_true (by omega)
theorem mulB (m : Nat) (h : m ≤ 1000) : decide ((m : Int) < 1000000) = true := decide_eq_true (by omega)
theorem mulC (x : D) (m : Int) (a : decide (-1000000 ≤ m) = true) (b : decide (m < 1000000) = true) (c : szOk m.toNat = true) : binD .mul (.lst [x]) (.int m) = some (.fr (.lst (List.replicate m.toNat [x]).flatten)) := by
  have c2 : szOk ([x].length * m.toNat) = true := by
    rw [List.length_singleton, Nat.one_mul]
    exact c
  simp only [binD]
  rw [a, b, c2]
  rfl
theorem mul_lst (x : D) (m : Nat) (h : m ≤ 1000) : binD .mul (.lst [x]) (.int (m : Int)) = some (.fr (.lst (List.replicate m x))) := by
  rw [mulC x (m : Int) (mulA m h) (mulB m h) (szOk_of (by rw [Int.toNat_natCast]; omega)), Int.toNat_natCast, rep_flat]
def finE : MExp := .bin .mul (.lst [.tup [.cst (.str [101, 110, 100])]]) (.len1 (.var 5))
theorem ev_bin (Gg : Gs) (op : Bop) (a b : MExp) (e : Env) : ev Gg (.bin op a b) e = (ev Gg a e).bind fun ra e1 => (ev Gg b e1).bind fun rb e2 => sees2 (binD op) ra rb e2 := by
  conv => lhs; unfold ev
theorem bind_ok {α β : Type} (a : α) (e : Env) (f : α → Env → Out β) : (Out.ok a e).bind f = f a e := rfl
theorem sees2_ok (f : D → D → Option Rs) (ra rb : Rs) (e : Env) (x y : D) (r : Rs) (h1 : ra.see e = some x) (h2 : rb.see e = some y) (h3 : f x y = some r) : sees2 f ra rb e = .ok r e := by
  unfold sees2
  rw [h1, h2]
  show Out.of e (f x y) = _
  rw [h3]
  rfl
theorem add_lst {x y : List D} (h : szOk (x.length + y.length) = true) : binD .add (.lst x) (.lst y) = some (.fr (.lst (x ++ y))) := by
  simp only [binD]
  rw [if_pos h]
theorem fin_ev (n : Nat) (s0 s1 s2 s3 s4 s6 : Sl) (q : List D) (m : Nat) (hm : m ≤ 1000) (hq : q.length = m) :
    ev (G n) finE [s0, s1, s2, s3, s4, .ow (.lst q), s6] = .ok (.fr (.lst (List.replicate m (.tup [.str tEnd])))) [s0, s1, s2, s3, s4, .ow (.lst q), s6] := by
  have hA : ev (G n) (.lst [.tup [.cst (.str [101, 110, 100])]]) [s0, s1, s2, s3, s4, .ow (.lst q), s6] = .ok (.fr (.lst [.tup [.str tEnd]])) [s0, s1, s2, s3, s4, .ow (.lst q), s6] := by
    simp [ev, evs, Out.bind, holds, Rs.hold]
  have hB : ev (G n) (.len1 (.var 5)) [s0, s1, s2, s3, s4, .ow (.lst q), s6] = .ok (.d (.int (m : Int))) [s0, s1, s2, s3, s4, .ow (.lst q), s6] := by
    simp [ev, Out.bind, len1S, Rs.see, Ob.d, bltD, hq, Out.of]
  have h := mul_lst (.tup [.str tEnd]) m hm
  unfold finE
  rw [ev_bin, hA, bind_ok, hB, bind_ok]
  exact sees2_ok _ _ _ _ _ _ _ rfl rfl h
theorem run3 (Gg : Gs) (np sz : Nat) (s1 s2 s3 : MStmt) (l l' : List Sl) (e0 e1 e2 e3 : Env) (r : Rs) (hl : l.length = np) (h0 : l ++ List.replicate (sz - np) .un = e0) (h1 : exec Gg s1 e0 = .nx e1) (h2 : exec Gg s2 e1 = .nx e2) (h3 : exec Gg s3 e2 = .rt r e3) (hk : pasKept l e3 = true) (hb : backP l e3 = l') :
    runDef Gg ⟨np, sz, [s1, s2, s3]⟩ l = .ok r l' := by
  subst h0
  subst hb
  unfold runDef
  rw [if_pos (by simpa using hl)]
  simp only [execs, SOut.seq, h1, h2, h3, hk, if_true]
theorem ret_fr (Gg : Gs) (m : MExp) (e e1 : Env) (o : Ob) (h : ev Gg m e = .ok (.fr o) e1) : exec Gg (.ret m) e = .rt (.fr o) e1 := by
  simp only [exec, h, Out.thn, retR]
theorem par_ow (Gg : Gs) (s0 s1 s2 : Sl) : exec Gg (.par 4 5 true true (.lst []) (.lst [])) [s0, s1, s2, .un, .un, .un, .un] = .nx [s0, s1, s2, .un, .ow (.lst []), .ow (.lst []), .un] := by
  simp [exec, ev, evs, Out.thn, Out.bind, holds, unbo, putR, mayPut_eq, mpO_un, SOut.of]
theorem lines_ex (n w : Nat) (hw : w ≤ 40) (T : Int) (hT : Wd T) (a b : Int) (hb : PB b) : ∃ (rows : List Rw) (a' b' : Int), VR rows ∧ (∀ r ∈ rows, r.lim T) ∧ PB b' ∧
    (G (n + 4)).fn i_law_lines [potS a b, .sh (.int (w : Int)), .sh (.int T)] = .ok (.fr (.lst (rowsL rows))) [potS a' b', .sh (.int (w : Int)), .sh (.int T)] := by
  obtain ⟨d, a1, b1, r1, p1, h1⟩ := take_ex (n + 2) a b ((w : Int) + 1) (by omega) (lt4000 (by omega)) hb
  have hr : rngOk 0 d = true := rng_ok (by omega) (by omega)
  have hit : evIt (G (n + 3)) (.rng none (.call i_law_take [.var 0, .bin .add (.var 1) (.cst (.int 1))])) [potS a b, .sh (.int (w : Int)), .sh (.int T), .un, .ow (.lst (rowsL [])), .ow (.lst (natL [])), .un] = .ok (.rng 0 d.toNat) [potS a1 b1, .sh (.int (w : Int)), .sh (.int T), .un, .ow (.lst (rowsL [])), .ow (.lst (natL [])), .un] := by
    generalize rowsL [] = q
    generalize natL [] = ww
    simp [evIt, srcL, srcOf, It.slots, Src.slots, It.len, Src.len, partO, It.at_, Src.at_, It.fine, Src.fine, ev, evs, evp, callS, lent, noTwice, passAll, passS, backAll, backS, Out.bind, Out.thn, Rs.see, Rs.hold, holds, Out.of, sees1, sees2, binD, bltS, sees, bltD, Ob.d, obAt, len1S, h1, hr]
  obtain ⟨e', hf, rows, a2, b2, s3, s6, hR, hL, hM, p2, m3, m6, q⟩ := exec_for_by (G := G (n + 3)) (t := .nm 3) (it := .rng none (.call i_law_take [.var 0, .bin .add (.var 1) (.cst (.int 1))])) (b := lnB) d.toNat
    (fun k e => ∃ (rows : List Rw) (a b : Int) (s3 s6 : Sl), RR rows ∧ rows.length + (stk rows rows.length).length ≤ 40 ∧ (∀ r ∈ rows, r.lim T) ∧ PB b ∧ mpO (some s3) = true ∧ mpO (some s6) = true ∧ e = [potS a b, .sh (.int (w : Int)), .sh (.int T), s3, .ow (.lst (rowsL rows)), .ow (.lst (natL (stk rows rows.length))), s6])
    hit rfl rfl ⟨[], a1, b1, .un, .un, RR.nil, by simp [stk], by simp, p1, rfl, rfl, rfl⟩
    (fun k e hk ⟨rows, a, b, s3, s6, hR, hL, hM, pb, m3, m6, q⟩ => by
      subst q
      obtain ⟨rows', a', b', t6, r1, r2, -, rM, r3, r4, hx⟩ := ln_body n (w : Int) T hT rows hR hM hL a b pb (.sh (.int (k : Int))) s6 m6
      refine ⟨.int (k : Int), [potS a b, .sh (.int (w : Int)), .sh (.int T), .sh (.int (k : Int)), .ow (.lst (rowsL rows)), .ow (.lst (natL (stk rows rows.length))), s6], _, ?_, ?_, hx, rows', a', b', _, t6, r1, r2, rM, r3, rfl, r4, rfl⟩
      · show some (D.int (0 + (k : Nat))) = _
        rw [Int.zero_add]
      · simp [Tgt.put, mayPut_eq, m3])
    (fun _ _ => rfl)
  subst q
  obtain ⟨c1, c2⟩ := close_ok _ rows hR rfl
  have n1 := rowsL_len rows
  have n2 := natL_len (stk rows rows.length)
  refine ⟨rows ++ List.replicate (stk rows rows.length).length .fin, a2, b2, ⟨by simp; omega, c1.ok, c1.st, ?_⟩, ?_, p2, ?_⟩
  · rw [List.length_append, List.length_replicate]
    exact c2
  · intro r hr
    rcases List.mem_append.mp hr with hr | hr
    · exact hM r hr
    · rw [List.eq_of_mem_replicate hr]; trivial
  · rw [rowsL_app, rep_fin]
    have e0 : d_law_lines = ⟨3, 7, [.par 4 5 true true (.lst []) (.lst []), .for_ (.nm 3) (.rng none (.call i_law_take [.var 0, .bin .add (.var 1) (.cst (.int 1))])) lnB, .ret (.bin .add (.var 4) finE)]⟩ := rfl
    rw [fn_succ (n + 3) _ _ d_law_lines rfl, e0]
    have en : rowsL [] = [] := rfl
    have en2 : natL [] = [] := rfl
    rw [en, en2] at hf
    have hm := (hR.st rows.length).1
    have hfin := fin_ev (n + 3) (potS a2 b2) (.sh (.int (w : Int))) (.sh (.int T)) s3 (.ow (.lst (rowsL rows))) s6 (natL (stk rows rows.length)) (stk rows rows.length).length (by omega) n2
    have z3 : szOk ((rowsL rows).length + (List.replicate (stk rows rows.length).length (D.tup [D.str tEnd])).length) = true := szOk_of (by rw [List.length_replicate]; omega)
    have hadd := add_lst z3
    have hret : ev (G (n + 3)) (.bin .add (.var 4) finE) [potS a2 b2, .sh (.int (w : Int)), .sh (.int T), s3, .ow (.lst (rowsL rows)), .ow (.lst (natL (stk rows rows.length))), s6] = .ok (.fr (.lst (rowsL rows ++ List.replicate (stk rows rows.length).length (.tup [.str tEnd])))) [potS a2 b2, .sh (.int (w : Int)), .sh (.int T), s3, .ow (.lst (rowsL rows)), .ow (.lst (natL (stk rows rows.length))), s6] := by
      have hv : ev (G (n + 3)) (.var 4) [potS a2 b2, .sh (.int (w : Int)), .sh (.int T), s3, .ow (.lst (rowsL rows)), .ow (.lst (natL (stk rows rows.length))), s6] = .ok (.bo 4) [potS a2 b2, .sh (.int (w : Int)), .sh (.int T), s3, .ow (.lst (rowsL rows)), .ow (.lst (natL (stk rows rows.length))), s6] := by simp [ev]
      rw [ev_bin, hv, bind_ok, hfin, bind_ok]
      exact sees2_ok _ _ _ _ _ _ _ (by simp [Rs.see, Ob.d]) rfl hadd
    exact run3 (G (n + 3)) 3 7 _ _ _ _ _ _ _ _ _ _ rfl rfl (par_ow _ _ _ _) hf (ret_fr _ _ _ _ _ hret) rfl rfl
end Lw
end
section
set_option exponentiation.threshold 300
namespace Lw
open Mi
def powE : MExp := .bin .pow (.cst (.int 10)) (.cst (.int 40))
theorem pow_ev (Gg : Gs) (e : Env) : ev Gg powE e = .ok (.d (.int T40)) e := by
  unfold powE
  rw [ev_bin]
  rfl
/-- small counts -/
def Sm (l : List Nat) : Prop := ∀ x ∈ l, (x : Int) < T40
def cE : MExp := .call i_law_count [.var 0, powE]
theorem cnt_call (n : Nat) (a b : Int) (hb : PB b) (rest : Env) : ∃ (x : Nat) (a' b' : Int), (x : Int) < T40 ∧ PB b' ∧ ev (G (n + 2)) cE (potS a b :: rest) = .ok (.d (.int (x : Int))) (potS a' b' :: rest) := by
  obtain ⟨x, a', b', q, p, h⟩ := count_ex n T40 wd40 a b hb
  refine ⟨x, a', b', q, p, ?_⟩
  have hp := pow_ev (G (n + 2)) (potS a b :: rest)
  unfold cE
  generalize powE = pw at hp ⊢
  generalize T40 = t at hp h
  simp [ev, evs, Out.bind, hp, callS, lent, noTwice, passAll, passS, h, backAll, backS]
/-- counts, drawn one by one -/
theorem cnt_comp (n N : Nat) (hN : N ≤ 1000) (it : MIt) (w : It) (a0 b0 a b : Int) (hb : PB b) (rest : Env) (j : Nat) (hj : rest[j]? = some .un) (hit : evIt (G (n + 2)) it (potS a0 b0 :: rest) = .ok w (potS a b :: rest)) (hw : w.len = N) (hs : w.slots = []) (hat : ∀ k e, k < N → ∃ x, w.at_ k e = some x) (hf : ∀ e, w.fine e = true) :
    ∃ (vs : List Nat) (a' b' : Int), vs.length = N ∧ Sm vs ∧ PB b' ∧ ev (G (n + 2)) (.comp cE (.nm (j + 1)) it none) (potS a0 b0 :: rest) = .ok (.fr (.lst (natL vs))) (potS a' b' :: rest) := by
  have jl : j < rest.length := (List.getElem?_eq_some_iff.mp hj).1
  have hset : rest.set j .un = rest := by
    apply List.ext_getElem?
    intro q
    by_cases c : j = q
    · subst c
      rw [List.getElem?_set_self jl, hj]
    · rw [List.getElem?_set_ne c]
  have hse : ∀ (s : Sl) , (s :: rest).set (j + 1) .un = s :: rest := fun s => by rw [List.set_cons_succ, hset]
  obtain ⟨acc, e2, g1, vs, a', b', g2, g3, gm, g4, g5⟩ := ev_comp_by (G := G (n + 2)) (a := cE) (t := .nm (j + 1)) (c := none) N
    (fun k acc e => ∃ (vs : List Nat) (a b : Int), acc = natL vs ∧ vs.length = k ∧ Sm vs ∧ PB b ∧ e = potS a b :: rest) hit hw (by
      have hwo : wipeOk (potS a b :: rest) [j + 1] = true := by simp [wipeOk, hj]
      show (wipeOk (potS a b :: rest) [j + 1] && _) = true
      rw [hwo, hs]
      rfl) ⟨[], a, b, rfl, rfl, fun x hx => by simp at hx, hb, hse _⟩
    (fun k acc e hk ⟨vs, a, b, q1, q2, qm, q3, q4⟩ hlen => by
      subst q4
      obtain ⟨x, hx⟩ := hat k (potS a b :: rest) hk
      obtain ⟨y, a', b', hy, p', h'⟩ := cnt_call n a b q3 (rest.set j (.sh x))
      refine ⟨x, potS a b :: rest.set j (.sh x), hx, ?_, .inl ⟨_, .d (.int (y : Int)), potS a' b' :: rest.set j (.sh x), .int (y : Int), _, by simp [evc], h', rfl, vs ++ [y], a', b', ?_, by simp [q2], ?_, p', ?_⟩⟩
      · have hm : (potS a b :: rest)[j + 1]? = some .un := by simpa using hj
        simp only [Tgt.put, mayPut_eq, hm, mpO_un, if_true]
        rfl
      · rw [q1, natL_app]
        rfl
      · intro z hz
        rcases List.mem_append.mp hz with hz | hz
        · exact qm z hz
        · rw [List.mem_singleton.mp hz]; exact hy
      · show (potS a' b' :: rest.set j (.sh x)).set (j + 1) .un = potS a' b' :: rest
        rw [List.set_cons_succ, List.set_set, hset])
    (fun _ e _ => hf e) (by omega)
  subst g2
  subst g5
  refine ⟨vs, a', b', g3, gm, g4, ?_⟩
  rw [g1]
  have : unwipe (potS a b :: rest) (potS a' b' :: rest) [j + 1] = potS a' b' :: rest := by
    show (potS a' b' :: rest).set (j + 1) ((potS a b :: rest)[j + 1]?.getD .un) = _
    have hm : (potS a b :: rest)[j + 1]? = some .un := by simpa using hj
    rw [hm]
    exact hse _
  exact congrArg _ this
end Lw
end
section
set_option exponentiation.threshold 300
namespace Lw
open Mi
/-! ### the law's own look -/
theorem lcount_any (n : Nat) (x : D) (hx : tame x = true) : (G (n + 1)).fn i_law_is_count [.sh x] = .ok (.d (.bl (cntB x))) [.sh x] := by
  have k1 : (Kd.int == Kd.int) = true := rfl
  have k2 : (Kd.int == Kd.bool) = false := rfl
  have k3 : (Kd.bool == Kd.int) = false := rfl
  have k4 : (Kd.bool == Kd.bool) = true := rfl
  have k5 : (Kd.str == Kd.int) = false := rfl
  have k6 : (Kd.str == Kd.bool) = false := rfl
  have k7 : (Kd.tuple == Kd.int) = false := rfl
  have k8 : (Kd.tuple == Kd.bool) = false := rfl
  have k9 : (Kd.list == Kd.int) = false := rfl
  have k10 : (Kd.list == Kd.bool) = false := rfl
  have k11 : (Kd.dict == Kd.int) = false := rfl
  have k12 : (Kd.dict == Kd.bool) = false := rfl
  rw [fn_succ n _ _ d_law_is_count rfl]
  cases x <;> first | cases hx; done | simp [Ob.d, binD, Rs.hold, holds, runDef, execs, exec, tst, ev, evs, callS, lent, noTwice, passAll, passS, backAll, backS, Out.bind, Out.thn, tstR, Rs.see, Out.of, sees1, sees2, negD, cmpS, cmpD, sameD, plainD, plainDs, eqD, blR, truD, SOut.seq, SOut.of, bltS, sees, bltD, tupD, putTgs, putTg, setSubS, obAt, putOb, mayPut_eq, mpO_un, mpO_sh, mpO_ow, putR, retR, pasKept, backP, noEx, len1S, d_law_is_count, b_law_is_count, iskD, isKd, kdOf, List.any, cntB, k1, k2, k3, k4, k5, k6, k7, k8, k9, k10, k11, k12]
theorem lcounts_any (n : Nat) (x : D) (hx : tame x = true) (m : Nat) (hm : m ≤ 1000) : (G (n + 2)).fn i_law_are_counts [.sh x, .sh (.int (m : Int))] = .ok (.d (.bl (cntsB m x))) [.sh x, .sh (.int (m : Int))] := by
  have e0 : d_law_are_counts = ⟨2, 3, [.ret (.and_ (.isk (.var 0) [.tuple]) (.and_ (.cmp .eq (.len1 (.var 0)) (.var 1)) (.blt .all [cntComp i_law_is_count 2 0])))]⟩ := rfl
  have k1 : (Kd.tuple == Kd.tuple) = true := rfl
  have k2 : (Kd.int == Kd.tuple) = false := rfl
  have k3 : (Kd.bool == Kd.tuple) = false := rfl
  have k4 : (Kd.str == Kd.tuple) = false := rfl
  have k5 : (Kd.list == Kd.tuple) = false := rfl
  have k6 : (Kd.dict == Kd.tuple) = false := rfl
  have k7 : (Kd.tuple == Kd.int) = false := rfl
  rw [fn_succ (n + 1) _ _ d_law_are_counts rfl, e0]
  cases x with
  | tup xs =>
    by_cases c : xs.length = m
    · have h1 := all_cnt (G (n + 1)) i_law_is_count (lcount_any n) xs hx (by omega) 0 2 [.sh (.tup xs), .sh (.int (m : Int)), .un] rfl rfl (by decide)
      generalize MExp.blt .all [cntComp i_law_is_count 2 0] = w at h1
      have hc : (xs.length == m) = true := by simpa using c
      simp only [cntsB]
      rw [hc, Bool.true_and]
      generalize xs.all cntB = b at h1 ⊢
      simp [Ob.d, binD, Rs.hold, holds, runDef, execs, exec, tst, ev, evs, callS, lent, noTwice, passAll, passS, backAll, backS, Out.bind, Out.thn, tstR, Rs.see, Out.of, sees1, sees2, negD, cmpS, cmpD, sameD, plainD, plainDs, eqD, blR, truD, SOut.seq, SOut.of, bltS, sees, bltD, tupD, putTgs, putTg, setSubS, obAt, putOb, mayPut_eq, mpO_un, mpO_sh, mpO_ow, putR, retR, pasKept, backP, noEx, len1S, h1, c, iskD, isKd, kdOf, List.any, k1]
    · have ci : ¬ (xs.length : Int) = (m : Int) := by omega
      have hc : (xs.length == m) = false := by simpa using c
      have hci : ((xs.length : Int) == (m : Int)) = false := by simpa using ci
      simp only [cntsB]
      rw [hc, Bool.false_and]
      generalize MExp.blt .all [cntComp i_law_is_count 2 0] = w
      simp [Ob.d, binD, Rs.hold, holds, runDef, execs, exec, tst, ev, evs, callS, lent, noTwice, passAll, passS, backAll, backS, Out.bind, Out.thn, tstR, Rs.see, Out.of, sees1, sees2, negD, cmpS, cmpD, sameD, plainD, plainDs, eqD, blR, truD, SOut.seq, SOut.of, bltS, sees, bltD, tupD, putTgs, putTg, setSubS, obAt, putOb, mayPut_eq, mpO_un, mpO_sh, mpO_ow, putR, retR, pasKept, backP, noEx, len1S, hci, hc, iskD, isKd, kdOf, List.any, k1]
  | ins c i => cases hx
  | scr i => cases hx
  | non => simp [Ob.d, binD, Rs.hold, holds, runDef, execs, exec, tst, ev, evs, callS, lent, noTwice, passAll, passS, backAll, backS, Out.bind, Out.thn, tstR, Rs.see, Out.of, sees1, sees2, negD, cmpS, cmpD, sameD, plainD, plainDs, eqD, blR, truD, SOut.seq, SOut.of, bltS, sees, bltD, tupD, putTgs, putTg, setSubS, obAt, putOb, mayPut_eq, mpO_un, mpO_sh, mpO_ow, putR, retR, pasKept, backP, noEx, len1S, iskD, isKd, kdOf, List.any, k1, k2, k3, k4, k5, k6, k7, cntsB]
  | bl b => simp [Ob.d, binD, Rs.hold, holds, runDef, execs, exec, tst, ev, evs, callS, lent, noTwice, passAll, passS, backAll, backS, Out.bind, Out.thn, tstR, Rs.see, Out.of, sees1, sees2, negD, cmpS, cmpD, sameD, plainD, plainDs, eqD, blR, truD, SOut.seq, SOut.of, bltS, sees, bltD, tupD, putTgs, putTg, setSubS, obAt, putOb, mayPut_eq, mpO_un, mpO_sh, mpO_ow, putR, retR, pasKept, backP, noEx, len1S, iskD, isKd, kdOf, List.any, k1, k2, k3, k4, k5, k6, k7, cntsB]
  | int i => simp [Ob.d, binD, Rs.hold, holds, runDef, execs, exec, tst, ev, evs, callS, lent, noTwice, passAll, passS, backAll, backS, Out.bind, Out.thn, tstR, Rs.see, Out.of, sees1, sees2, negD, cmpS, cmpD, sameD, plainD, plainDs, eqD, blR, truD, SOut.seq, SOut.of, bltS, sees, bltD, tupD, putTgs, putTg, setSubS, obAt, putOb, mayPut_eq, mpO_un, mpO_sh, mpO_ow, putR, retR, pasKept, backP, noEx, len1S, iskD, isKd, kdOf, List.any, k1, k2, k3, k4, k5, k6, k7, cntsB]
  | str i => simp [Ob.d, binD, Rs.hold, holds, runDef, execs, exec, tst, ev, evs, callS, lent, noTwice, passAll, passS, backAll, backS, Out.bind, Out.thn, tstR, Rs.see, Out.of, sees1, sees2, negD, cmpS, cmpD, sameD, plainD, plainDs, eqD, blR, truD, SOut.seq, SOut.of, bltS, sees, bltD, tupD, putTgs, putTg, setSubS, obAt, putOb, mayPut_eq, mpO_un, mpO_sh, mpO_ow, putR, retR, pasKept, backP, noEx, len1S, iskD, isKd, kdOf, List.any, k1, k2, k3, k4, k5, k6, k7, cntsB]
  | lst i => simp [Ob.d, binD, Rs.hold, holds, runDef, execs, exec, tst, ev, evs, callS, lent, noTwice, passAll, passS, backAll, backS, Out.bind, Out.thn, tstR, Rs.see, Out.of, sees1, sees2, negD, cmpS, cmpD, sameD, plainD, plainDs, eqD, blR, truD, SOut.seq, SOut.of, bltS, sees, bltD, tupD, putTgs, putTg, setSubS, obAt, putOb, mayPut_eq, mpO_un, mpO_sh, mpO_ow, putR, retR, pasKept, backP, noEx, len1S, iskD, isKd, kdOf, List.any, k1, k2, k3, k4, k5, k6, k7, cntsB]
  | dic i => simp [Ob.d, binD, Rs.hold, holds, runDef, execs, exec, tst, ev, evs, callS, lent, noTwice, passAll, passS, backAll, backS, Out.bind, Out.thn, tstR, Rs.see, Out.of, sees1, sees2, negD, cmpS, cmpD, sameD, plainD, plainDs, eqD, blR, truD, SOut.seq, SOut.of, bltS, sees, bltD, tupD, putTgs, putTg, setSubS, obAt, putOb, mayPut_eq, mpO_un, mpO_sh, mpO_ow, putR, retR, pasKept, backP, noEx, len1S, iskD, isKd, kdOf, List.any, k1, k2, k3, k4, k5, k6, k7, cntsB]
def dpB : List MStmt := [.set 2 false (.bin .sub (.bin .add (.var 2) (.blt .int [.cmp .eq (.idx (.var 3) (.cst (.int 0))) (.cst (.str [114, 101, 112, 101, 97, 116]))])) (.blt .int [.cmp .eq (.idx (.var 3) (.cst (.int 0))) (.cst (.str [101, 110, 100]))]))]
def dpV (m : Int) : Rw → Int
  | .rep _ => m + 1
  | .fin => m - 1
  | _ => m
theorem dp_body (n : Nat) (s0 s1 : Sl) (m : Int) (r : Rw) : execs (G n) dpB [s0, s1, .sh (.int m), .sh r.d] = .nx [s0, s1, .sh (.int (dpV m r)), .sh r.d] := by
  cases r <;> simp only [Rw.d, dpV] <;> simp [Ob.d, binD, Rs.hold, holds, runDef, execs, exec, tst, ev, evs, callS, lent, noTwice, passAll, passS, backAll, backS, Out.bind, Out.thn, tstR, Rs.see, Out.of, sees1, sees2, negD, cmpS, cmpD, sameD, plainD, plainDs, eqD, blR, truD, SOut.seq, SOut.of, bltS, sees, bltD, tupD, putTgs, putTg, setSubS, obAt, putOb, mayPut_eq, mpO_un, mpO_sh, mpO_ow, putR, retR, pasKept, backP, noEx, len1S, dpB, x0, b2i]
theorem deep_eq (n : Nat) (rows : List Rw) (v : VR rows) (k : Nat) (hk : k ≤ rows.length) : (G (n + 1)).fn i_law_deep [.sh (.lst (rowsL rows)), .sh (.int (k : Int))] = .ok (.d (.int ((stk rows k).length : Int))) [.sh (.lst (rowsL rows)), .sh (.int (k : Int))] := by
  have hl := rowsL_len rows
  have hcut : cut (rowsL rows) none (some (k : Int)) = (rowsL rows).take k := by
    have hb : bnd (rowsL rows).length (rowsL rows).length (some (k : Int)) = k := by
      show (if (k : Int) < 0 then ((k : Int) + ((rowsL rows).length : Int)).toNat else min (k : Int).toNat (rowsL rows).length) = k
      rw [if_neg (by omega), hl, Int.toNat_natCast]
      omega
    have h0 : bnd (rowsL rows).length 0 none = 0 := rfl
    unfold cut
    rw [hb, h0]
    simp
  have hit : evIt (G n) (.seq (.slc (.var 0) none (some (.var 1)))) [.sh (.lst (rowsL rows)), .sh (.int (k : Int)), .sh (.int 0), .un] = .ok (.one (.snap ((rowsL rows).take k))) [.sh (.lst (rowsL rows)), .sh (.int (k : Int)), .sh (.int 0), .un] := by
    generalize rowsL rows = q at hcut ⊢
    simp [evIt, srcL, srcOf, It.slots, Src.slots, It.len, Src.len, partO, It.at_, Src.at_, It.fine, Src.fine, ev, evs, evp, callS, lent, noTwice, passAll, passS, backAll, backS, Out.bind, Out.thn, Rs.see, Rs.hold, holds, Out.of, sees1, sees2, binD, bltS, sees, bltD, Ob.d, obAt, len1S, slcD, hcut]
  obtain ⟨e', hf, s3, m3, q⟩ := exec_for_by (G := G n) (t := .nm 3) (it := .seq (.slc (.var 0) none (some (.var 1)))) (b := dpB) k
    (fun j e => ∃ (s3 : Sl), mpO (some s3) = true ∧ e = [.sh (.lst (rowsL rows)), .sh (.int (k : Int)), .sh (.int ((stk rows j).length : Int)), s3])
    hit (by show ((rowsL rows).take k).length = k; rw [List.length_take, hl]; omega) rfl ⟨.un, rfl, rfl⟩
    (fun j e hj ⟨s3, m3, q⟩ => by
      subst q
      have hr : rows[j]? = some (rows[j]'(by omega)) := List.getElem?_eq_getElem (by omega)
      have hb := dp_body n (.sh (.lst (rowsL rows))) (.sh (.int (k : Int))) ((stk rows j).length : Int) (rows[j]'(by omega))
      have hd : dpV ((stk rows j).length : Int) (rows[j]'(by omega)) = ((stk rows (j + 1)).length : Int) := by
        rw [stk_succ hr, stp_len]
        have hf := (v.ok j _ hr).2
        cases hrw : rows[j]'(by omega) with
        | fin =>
          rw [hrw] at hf
          cases hst : stk rows j with
          | nil => rw [hst] at hf; cases hf
          | cons x st => simp [dpV, dl]
        | _ => simp [dpV, dl]
      rw [hd] at hb
      refine ⟨(rows[j]'(by omega)).d, [.sh (.lst (rowsL rows)), .sh (.int (k : Int)), .sh (.int ((stk rows j).length : Int)), .sh (rows[j]'(by omega)).d], _, ?_, ?_, hb, _, rfl, rfl⟩
      · show ((rowsL rows).take k)[j]? = _
        rw [List.getElem?_take, if_pos hj, rowsL_get, hr]
        rfl
      · simp [Tgt.put, mayPut_eq, m3])
    (fun _ _ => rfl)
  subst q
  have e0 : d_law_deep = ⟨2, 4, [.set 2 false (.cst (.int 0)), .for_ (.nm 3) (.seq (.slc (.var 0) none (some (.var 1)))) dpB, .ret (.var 2)]⟩ := rfl
  rw [fn_succ n _ _ d_law_deep rfl, e0]
  have e1 : ((stk rows 0).length : Int) = 0 := rfl
  generalize hw : MStmt.for_ (.nm 3) (.seq (.slc (.var 0) none (some (.var 1)))) dpB = w at hf
  generalize rowsL rows = q at hf ⊢
  simp [Ob.d, binD, Rs.hold, holds, runDef, execs, exec, tst, ev, evs, callS, lent, noTwice, passAll, passS, backAll, backS, Out.bind, Out.thn, tstR, Rs.see, Out.of, sees1, sees2, negD, cmpS, cmpD, sameD, plainD, plainDs, eqD, blR, truD, SOut.seq, SOut.of, bltS, sees, bltD, tupD, putTgs, putTg, setSubS, obAt, putOb, mayPut_eq, mpO_un, mpO_sh, mpO_ow, putR, retR, pasKept, backP, noEx, len1S, hf]
theorem x2 (x y z : D) (l : List D) : idxD (.tup (x :: y :: z :: l)) (.int 2) = some z := by
  show (plc (l.length + 3) 2).bind (fun k => (x :: y :: z :: l)[k]?) = some z
  have : plc (l.length + 3) 2 = some 2 := plc_nat (n := l.length + 3) (k := 2) (by omega)
  rw [this]; rfl
theorem lmoment_any (n : Nat) (rows : List Rw) (v : VR rows) (x : D) (hx : tame x = true) : (G (n + 3)).fn i_law_is_moment [.sh (.lst (rowsL rows)), .sh x] = .ok (.d (.bl (momB rows x))) [.sh (.lst (rowsL rows)), .sh x] := by
  have k1 : (Kd.tuple == Kd.tuple) = true := rfl
  have k2 : (Kd.int == Kd.tuple) = false := rfl
  have k3 : (Kd.bool == Kd.tuple) = false := rfl
  have k4 : (Kd.str == Kd.tuple) = false := rfl
  have k5 : (Kd.list == Kd.tuple) = false := rfl
  have k6 : (Kd.dict == Kd.tuple) = false := rfl
  have k7 : (Kd.tuple == Kd.int) = false := rfl
  have hl := rowsL_len rows
  rw [fn_succ (n + 2) _ _ d_law_is_moment rfl]
  have short : ∀ y : List D, y.length ≠ 3 → momB rows (.tup y) = false := by
    intro y hy
    match y with
    | [] => simp [momB]
    | [_] => simp [momB]
    | [_, _] => simp [momB]
    | [_, _, _] => exact (hy rfl).elim
    | _ :: _ :: _ :: _ :: _ => simp [momB]
  cases x with
  | tup y =>
    by_cases c : y.length = 3
    · match y, c with
      | [a, b, l], _ =>
        have hm : tames [a, b, l] = true := hx
        have ta := tames_mem hm a (by simp)
        have tb := tames_mem hm b (by simp)
        have tl := tames_mem hm l (by simp)
        have h1 : (G (n + 2)).fn i_law_are_counts [.sh a, .sh (.int 5)] = .ok (.d (.bl (cntsB 5 a))) [.sh a, .sh (.int 5)] := lcounts_any n a ta 5 (by decide)
        have h2 := lcount_any (n + 1) b tb
        have y0 := x0 a [b, l]
        have y1 := x1 a b [l]
        have y2 := x2 a b l []
        cases ha : cntsB 5 a with
        | false =>
          rw [ha] at h1
          have e : momB rows (.tup [a, b, l]) = false := by
            cases b <;> simp [momB, ha]
          rw [e]
          generalize rowsL rows = q
          simp [Ob.d, binD, Rs.hold, holds, runDef, execs, exec, tst, ev, evs, callS, lent, noTwice, passAll, passS, backAll, backS, Out.bind, Out.thn, tstR, Rs.see, Out.of, sees1, sees2, negD, cmpS, cmpD, sameD, plainD, plainDs, eqD, blR, truD, SOut.seq, SOut.of, bltS, sees, bltD, tupD, putTgs, putTg, setSubS, obAt, putOb, mayPut_eq, mpO_un, mpO_sh, mpO_ow, putR, retR, pasKept, backP, noEx, len1S, d_law_is_moment, b_law_is_moment, h1, y0, y1, y2, iskD, isKd, kdOf, List.any, k1]
        | true =>
          rw [ha] at h1
          cases hb : cntB b with
          | false =>
            rw [hb] at h2
            have e : momB rows (.tup [a, b, l]) = false := by
              cases b with
              | int i =>
                have : ¬ 0 ≤ i := by simpa [cntB] using hb
                simp [momB, this]
              | _ => rfl
            rw [e]
            generalize rowsL rows = q
            simp [Ob.d, binD, Rs.hold, holds, runDef, execs, exec, tst, ev, evs, callS, lent, noTwice, passAll, passS, backAll, backS, Out.bind, Out.thn, tstR, Rs.see, Out.of, sees1, sees2, negD, cmpS, cmpD, sameD, plainD, plainDs, eqD, blR, truD, SOut.seq, SOut.of, bltS, sees, bltD, tupD, putTgs, putTg, setSubS, obAt, putOb, mayPut_eq, mpO_un, mpO_sh, mpO_ow, putR, retR, pasKept, backP, noEx, len1S, d_law_is_moment, b_law_is_moment, h1, h2, y0, y1, y2, iskD, isKd, kdOf, List.any, k1]
          | true =>
            rw [hb] at h2
            cases b with
            | int i =>
              have i0 : 0 ≤ i := by simpa [cntB] using hb
              obtain ⟨k, rfl⟩ := Int.eq_ofNat_of_zero_le i0
              by_cases ck : k ≤ rows.length
              · have c1 : ¬ (rows.length : Int) < (k : Int) := by omega
                have c2 : ¬ rows.length < k := by omega
                have h3 := (v.st k).1
                have h4 := deep_eq (n + 1) rows v k ck
                have h5 := lcounts_any n l tl (stk rows k).length (by omega)
                have em : momB rows (.tup [a, .int (k : Int), l]) = cntsB (stk rows k).length l := by
                  have : (k : Int) ≤ (rows.length : Int) := by omega
                  simp [momB, ha]
                  omega
                rw [em]
                generalize cntsB (stk rows k).length l = bb at h5 ⊢
                generalize rowsL rows = q at h4 hl ⊢
                simp [Ob.d, binD, Rs.hold, holds, runDef, execs, exec, tst, ev, evs, callS, lent, noTwice, passAll, passS, backAll, backS, Out.bind, Out.thn, tstR, Rs.see, Out.of, sees1, sees2, negD, cmpS, cmpD, sameD, plainD, plainDs, eqD, blR, truD, SOut.seq, SOut.of, bltS, sees, bltD, tupD, putTgs, putTg, setSubS, obAt, putOb, mayPut_eq, mpO_un, mpO_sh, mpO_ow, putR, retR, pasKept, backP, noEx, len1S, d_law_is_moment, b_law_is_moment, h1, h2, y0, y1, y2, hl, c1, c2, h4, h5, iskD, isKd, kdOf, List.any, k1]
              · have c1 : (rows.length : Int) < (k : Int) := by omega
                have c2 : rows.length < k := by omega
                have em : momB rows (.tup [a, .int (k : Int), l]) = false := by
                  have : ¬ (k : Int) ≤ (rows.length : Int) := by omega
                  simp [momB]
                  omega
                rw [em]
                generalize rowsL rows = q at hl ⊢
                simp [Ob.d, binD, Rs.hold, holds, runDef, execs, exec, tst, ev, evs, callS, lent, noTwice, passAll, passS, backAll, backS, Out.bind, Out.thn, tstR, Rs.see, Out.of, sees1, sees2, negD, cmpS, cmpD, sameD, plainD, plainDs, eqD, blR, truD, SOut.seq, SOut.of, bltS, sees, bltD, tupD, putTgs, putTg, setSubS, obAt, putOb, mayPut_eq, mpO_un, mpO_sh, mpO_ow, putR, retR, pasKept, backP, noEx, len1S, d_law_is_moment, b_law_is_moment, h1, h2, y0, y1, y2, hl, c1, c2, iskD, isKd, kdOf, List.any, k1]
            | non => simp [cntB] at hb
            | bl _ => simp [cntB] at hb
            | str _ => simp [cntB] at hb
            | tup _ => simp [cntB] at hb
            | lst _ => simp [cntB] at hb
            | dic _ => simp [cntB] at hb
            | ins _ _ => simp [cntB] at hb
            | scr _ => simp [cntB] at hb
    · have ci : ¬ (y.length : Int) = 3 := by omega
      have hci : ((y.length : Int) == 3) = false := by simpa using ci
      have hc : (y.length == 3) = false := by simpa using c
      rw [short y c]
      generalize rowsL rows = q
      simp [Ob.d, binD, Rs.hold, holds, runDef, execs, exec, tst, ev, evs, callS, lent, noTwice, passAll, passS, backAll, backS, Out.bind, Out.thn, tstR, Rs.see, Out.of, sees1, sees2, negD, cmpS, cmpD, sameD, plainD, plainDs, eqD, blR, truD, SOut.seq, SOut.of, bltS, sees, bltD, tupD, putTgs, putTg, setSubS, obAt, putOb, mayPut_eq, mpO_un, mpO_sh, mpO_ow, putR, retR, pasKept, backP, noEx, len1S, d_law_is_moment, b_law_is_moment, hci, hc, c, iskD, isKd, kdOf, List.any, k1]
  | ins _ _ => cases hx
  | scr _ => cases hx
  | non => generalize rowsL rows = q; simp [Ob.d, binD, Rs.hold, holds, runDef, execs, exec, tst, ev, evs, callS, lent, noTwice, passAll, passS, backAll, backS, Out.bind, Out.thn, tstR, Rs.see, Out.of, sees1, sees2, negD, cmpS, cmpD, sameD, plainD, plainDs, eqD, blR, truD, SOut.seq, SOut.of, bltS, sees, bltD, tupD, putTgs, putTg, setSubS, obAt, putOb, mayPut_eq, mpO_un, mpO_sh, mpO_ow, putR, retR, pasKept, backP, noEx, len1S, d_law_is_moment, b_law_is_moment, iskD, isKd, kdOf, List.any, k1, k2, k3, k4, k5, k6, k7, momB]
  | bl _ => generalize rowsL rows = q; simp [Ob.d, binD, Rs.hold, holds, runDef, execs, exec, tst, ev, evs, callS, lent, noTwice, passAll, passS, backAll, backS, Out.bind, Out.thn, tstR, Rs.see, Out.of, sees1, sees2, negD, cmpS, cmpD, sameD, plainD, plainDs, eqD, blR, truD, SOut.seq, SOut.of, bltS, sees, bltD, tupD, putTgs, putTg, setSubS, obAt, putOb, mayPut_eq, mpO_un, mpO_sh, mpO_ow, putR, retR, pasKept, backP, noEx, len1S, d_law_is_moment, b_law_is_moment, iskD, isKd, kdOf, List.any, k1, k2, k3, k4, k5, k6, k7, momB]
  | int _ => generalize rowsL rows = q; simp [Ob.d, binD, Rs.hold, holds, runDef, execs, exec, tst, ev, evs, callS, lent, noTwice, passAll, passS, backAll, backS, Out.bind, Out.thn, tstR, Rs.see, Out.of, sees1, sees2, negD, cmpS, cmpD, sameD, plainD, plainDs, eqD, blR, truD, SOut.seq, SOut.of, bltS, sees, bltD, tupD, putTgs, putTg, setSubS, obAt, putOb, mayPut_eq, mpO_un, mpO_sh, mpO_ow, putR, retR, pasKept, backP, noEx, len1S, d_law_is_moment, b_law_is_moment, iskD, isKd, kdOf, List.any, k1, k2, k3, k4, k5, k6, k7, momB]
  | str _ => generalize rowsL rows = q; simp [Ob.d, binD, Rs.hold, holds, runDef, execs, exec, tst, ev, evs, callS, lent, noTwice, passAll, passS, backAll, backS, Out.bind, Out.thn, tstR, Rs.see, Out.of, sees1, sees2, negD, cmpS, cmpD, sameD, plainD, plainDs, eqD, blR, truD, SOut.seq, SOut.of, bltS, sees, bltD, tupD, putTgs, putTg, setSubS, obAt, putOb, mayPut_eq, mpO_un, mpO_sh, mpO_ow, putR, retR, pasKept, backP, noEx, len1S, d_law_is_moment, b_law_is_moment, iskD, isKd, kdOf, List.any, k1, k2, k3, k4, k5, k6, k7, momB]
  | lst _ => generalize rowsL rows = q; simp [Ob.d, binD, Rs.hold, holds, runDef, execs, exec, tst, ev, evs, callS, lent, noTwice, passAll, passS, backAll, backS, Out.bind, Out.thn, tstR, Rs.see, Out.of, sees1, sees2, negD, cmpS, cmpD, sameD, plainD, plainDs, eqD, blR, truD, SOut.seq, SOut.of, bltS, sees, bltD, tupD, putTgs, putTg, setSubS, obAt, putOb, mayPut_eq, mpO_un, mpO_sh, mpO_ow, putR, retR, pasKept, backP, noEx, len1S, d_law_is_moment, b_law_is_moment, iskD, isKd, kdOf, List.any, k1, k2, k3, k4, k5, k6, k7, momB]
  | dic _ => generalize rowsL rows = q; simp [Ob.d, binD, Rs.hold, holds, runDef, execs, exec, tst, ev, evs, callS, lent, noTwice, passAll, passS, backAll, backS, Out.bind, Out.thn, tstR, Rs.see, Out.of, sees1, sees2, negD, cmpS, cmpD, sameD, plainD, plainDs, eqD, blR, truD, SOut.seq, SOut.of, bltS, sees, bltD, tupD, putTgs, putTg, setSubS, obAt, putOb, mayPut_eq, mpO_un, mpO_sh, mpO_ow, putR, retR, pasKept, backP, noEx, len1S, d_law_is_moment, b_law_is_moment, iskD, isKd, kdOf, List.any, k1, k2, k3, k4, k5, k6, k7, momB]
theorem truth_eq (n : Nat) (b c : Bool) : (G (n + 1)).fn i_law_truth [.sh (.bl b), .sh (.bl c)] = .ok (.d (.bl (b == c))) [.sh (.bl b), .sh (.bl c)] := by
  have k1 : (Kd.bool == Kd.bool) = true := rfl
  rw [fn_succ n _ _ d_law_truth rfl]
  cases b <;> cases c <;> simp [Ob.d, binD, Rs.hold, holds, runDef, execs, exec, tst, ev, evs, callS, lent, noTwice, passAll, passS, backAll, backS, Out.bind, Out.thn, tstR, Rs.see, Out.of, sees1, sees2, negD, cmpS, cmpD, sameD, plainD, plainDs, eqD, blR, truD, SOut.seq, SOut.of, bltS, sees, bltD, tupD, putTgs, putTg, setSubS, obAt, putOb, mayPut_eq, mpO_un, mpO_sh, mpO_ow, putR, retR, pasKept, backP, noEx, len1S, d_law_truth, b_law_truth, iskD, isKd, kdOf, List.any, k1]
theorem right_any (n : Nat) (rows : List Rw) (v : VR rows) (p : D) (g : Pg rows p) (x : D) (hx : tame x = true) (t : Tx) (hr : rokD x = true) (ht : reprX x = some t) :
    (G (n + 8)).fn i_law_right [.sh p, .sh (.lst (rowsL rows)), .sh x] = .ok (.d (.bl true)) [.sh p, .sh (.lst (rowsL rows)), .sh x] := by
  have h1 := lmoment_any (n + 4) rows v x hx
  have h2 := moment_any (n + 2) v g x hx
  have h3 := truth_eq (n + 6) (momB rows x) (momB rows x)
  have hl := rowsL_len rows
  rw [beq_self_eq_true] at h3
  rw [fn_succ (n + 7) _ _ d_law_right rfl]
  cases hm : momB rows x with
  | true =>
    obtain ⟨k, hk, hk2⟩ := mom_at hm
    have h4 := over_any n v g x hx hm k hk
    have h5 := truth_eq (n + 6) (decide (k = rows.length)) (decide (k = rows.length))
    have hc : ((k : Int) == (rows.length : Int)) = decide (k = rows.length) := by
      by_cases c : k = rows.length
      · subst c; simp
      · have : ¬ (k : Int) = (rows.length : Int) := by omega
        simp [c, this]
    rw [beq_self_eq_true] at h5
    rw [hm] at h1 h2 h3
    generalize decide (k = rows.length) = dd at h4 h5 hc
    generalize rowsL rows = q at h1 hl ⊢
    simp [Ob.d, binD, Rs.hold, holds, runDef, execs, exec, tst, ev, evs, callS, lent, noTwice, passAll, passS, backAll, backS, Out.bind, Out.thn, tstR, Rs.see, Out.of, sees1, sees2, negD, cmpS, cmpD, sameD, plainD, plainDs, eqD, blR, truD, SOut.seq, SOut.of, bltS, sees, bltD, tupD, putTgs, putTg, setSubS, obAt, putOb, mayPut_eq, mpO_un, mpO_sh, mpO_ow, putR, retR, pasKept, backP, noEx, len1S, d_law_right, b_law_right, h1, h2, h3, h4, h5, hk, hl, hc, hr, ht]
  | false =>
    rw [hm] at h1 h2 h3
    generalize rowsL rows = q at h1 hl ⊢
    simp [Ob.d, binD, Rs.hold, holds, runDef, execs, exec, tst, ev, evs, callS, lent, noTwice, passAll, passS, backAll, backS, Out.bind, Out.thn, tstR, Rs.see, Out.of, sees1, sees2, negD, cmpS, cmpD, sameD, plainD, plainDs, eqD, blR, truD, SOut.seq, SOut.of, bltS, sees, bltD, tupD, putTgs, putTg, setSubS, obAt, putOb, mayPut_eq, mpO_un, mpO_sh, mpO_ow, putR, retR, pasKept, backP, noEx, len1S, d_law_right, b_law_right, h1, h2, h3, hr, ht]
end Lw
end
section
set_option exponentiation.threshold 300
namespace Lw
open Mi
/-! ### things that can be shown -/
theorem numT_len {i : Int} {k : Nat} (hk : 0 < k) (h : i.natAbs < 10 ^ k) : (numT i).length ≤ k + 1 := by
  unfold numT txOf
  rw [List.length_map]
  cases i with
  | ofNat n =>
    show (String.ofList (Nat.toDigits 10 n)).toList.length ≤ k + 1
    rw [String.toList_ofList]
    have := (Nat.length_toDigits_le_iff (b := 10) (n := n) (k := k) (by decide) hk).mpr h
    omega
  | negSucc n =>
    show ("-" ++ String.ofList (Nat.toDigits 10 (n + 1))).toList.length ≤ k + 1
    have := (Nat.length_toDigits_le_iff (b := 10) (n := n + 1) (k := k) (by decide) hk).mpr h
    have e : "-".toList.length = 1 := rfl
    have e2 : (String.ofList (Nat.toDigits 10 (n + 1))).toList.length = (Nat.toDigits 10 (n + 1)).length := by rw [String.toList_ofList]
    rw [String.toList_append, List.length_append]
    omega
theorem pow_28 (k : Nat) : 2 ^ (3 * k) ≤ 10 ^ k := by
  rw [Nat.pow_mul]
  exact Nat.pow_le_pow_left (by decide) k
theorem numT_len2 {i : Int} (h : i.natAbs.log2 < 1920) : (numT i).length ≤ 641 := by
  have h1 : i.natAbs < 2 ^ 1920 := by
    by_cases z : i.natAbs = 0
    · rw [z]; exact Nat.two_pow_pos _
    · exact (Nat.log2_lt z).mp h
  have h2 : 2 ^ 1920 ≤ 10 ^ 640 := pow_28 640
  exact numT_len (by decide) (Nat.lt_of_lt_of_le h1 h2)
theorem sep_len (sep : Tx) (B : Nat) (hs : sep.length = 2) : ∀ l : List Tx, (∀ t ∈ l, t.length ≤ B) → (sepT sep l).length ≤ l.length * (B + 2)
  | [], _ => by simp [sepT]
  | [t], h => by
    have := h t (List.mem_cons_self ..)
    simp [sepT]
    omega
  | t :: u :: l, h => by
    have h1 := h t (List.mem_cons_self ..)
    have h2 := sep_len sep B hs (u :: l) fun v hv => h v (List.mem_cons_of_mem _ hv)
    show (t ++ sep ++ sepT sep (u :: l)).length ≤ (u :: l).length.succ * (B + 2)
    rw [Nat.succ_mul, List.length_append, List.length_append, hs]
    omega
def okB (b : Bool) (n : Nat) (x : D) : Bool := if b then thinD n x else plainD n x
structure OKx (b : Bool) (n L : Nat) (x : D) : Prop where
  p : okB b n x = true
  r : ∃ t, reprD x = some t ∧ t.length ≤ L
  m : tame x = true
theorem OKx.le {b : Bool} {n L L' : Nat} {x : D} (h : OKx b n L x) (hl : L ≤ L') : OKx b n L' x := by
  obtain ⟨t, e, l⟩ := h.r
  exact ⟨h.p, ⟨t, e, by omega⟩, h.m⟩
theorem oks_thin {n L : Nat} : ∀ {xs : List D}, (∀ x ∈ xs, OKx true n L x) → thinDs n xs = true
  | [], _ => by simp [thinDs]
  | x :: xs, h => by
    have h1 : thinD n x = true := (h x (List.mem_cons_self ..)).p
    have h2 := oks_thin fun y hy => h y (List.mem_cons_of_mem _ hy)
    simp only [thinDs, h1, h2, Bool.and_self]
theorem oks_plain {n L : Nat} : ∀ {xs : List D}, (∀ x ∈ xs, OKx false n L x) → plainDs n xs = true
  | [], _ => by simp [plainDs]
  | x :: xs, h => by
    have h1 : plainD n x = true := (h x (List.mem_cons_self ..)).p
    have h2 := oks_plain fun y hy => h y (List.mem_cons_of_mem _ hy)
    simp only [plainDs, h1, h2, Bool.and_self]
theorem oks_tame {b : Bool} {n L : Nat} : ∀ {xs : List D}, (∀ x ∈ xs, OKx b n L x) → tames xs = true
  | [], _ => by simp [tames]
  | x :: xs, h => by
    have h1 := (h x (List.mem_cons_self ..)).m
    have h2 := oks_tame fun y hy => h y (List.mem_cons_of_mem _ hy)
    simp only [tames, h1, h2, Bool.and_self]
theorem oks_repr {b : Bool} {n L : Nat} : ∀ {xs : List D}, (∀ x ∈ xs, OKx b n L x) → ∃ ts, reprDs xs = some ts ∧ ts.length = xs.length ∧ ∀ t ∈ ts, t.length ≤ L
  | [], _ => ⟨[], by simp [reprDs], rfl, by simp⟩
  | x :: xs, h => by
    obtain ⟨t, e, l⟩ := (h x (List.mem_cons_self ..)).r
    obtain ⟨ts, e2, l2, h2⟩ := oks_repr fun y hy => h y (List.mem_cons_of_mem _ hy)
    refine ⟨t :: ts, by simp only [reprDs, e, e2], by simp [l2], fun u hu => ?_⟩
    rcases List.mem_cons.mp hu with rfl | hu
    · exact l
    · exact h2 u hu
theorem OKx.tup {b : Bool} {n L : Nat} {xs : List D} (h : ∀ x ∈ xs, OKx b n L x) (hl : xs.length ≤ 8) : OKx b (n + 1) (3 + 8 * (L + 2)) (.tup xs) := by
  obtain ⟨ts, e, l, ht⟩ := oks_repr h
  refine ⟨?_, ⟨tupT ts, by simp only [reprD, e], ?_⟩, oks_tame h⟩
  · cases b with
    | true => simp only [okB, if_true, thinD]; exact oks_thin h
    | false => simp only [okB, Bool.false_eq_true, if_false, plainD]; exact oks_plain h
  · have := sep_len [44, 32] L rfl ts ht
    have h2 : ts.length * (L + 2) ≤ 8 * (L + 2) := Nat.mul_le_mul_right _ (by omega)
    unfold tupT
    by_cases c : (ts.length == 1) = true
    · rw [if_pos c]; simp; omega
    · rw [if_neg c]; simp; omega
theorem OKx.lst {n L : Nat} {xs : List D} (h : ∀ x ∈ xs, OKx false n L x) (hl : xs.length ≤ 8) : OKx false (n + 1) (3 + 8 * (L + 2)) (.lst xs) := by
  obtain ⟨ts, e, l, ht⟩ := oks_repr h
  refine ⟨?_, ⟨lstT ts, by simp only [reprD, e], ?_⟩, rfl⟩
  · simp only [okB, Bool.false_eq_true, if_false, plainD]; exact oks_plain h
  · have := sep_len [44, 32] L rfl ts ht
    have h2 : ts.length * (L + 2) ≤ 8 * (L + 2) := Nat.mul_le_mul_right _ (by omega)
    unfold lstT
    simp
    omega
theorem OKx.int {b : Bool} {n : Nat} {i : Int} (h : i.natAbs < 2 ^ 200) : OKx b n 641 (.int i) := by
  have hl : i.natAbs.log2 < 1920 := Nat.lt_of_le_of_lt (log2_le h) (by decide)
  refine ⟨?_, ⟨numT i, by simp only [reprD, decide_eq_true hl, if_true], numT_len2 hl⟩, rfl⟩
  cases b <;> simp [okB, thinD, plainD]
theorem OKx.flat {b : Bool} {n : Nat} {x : D} (h : x = .non ∨ x = .bl true ∨ x = .bl false ∨ x = .str [] ∨ x = .str [51]) : OKx b n 641 x := by
  rcases h with rfl | rfl | rfl | rfl | rfl
  · exact ⟨by cases b <;> simp [okB, thinD, plainD], ⟨_, rfl, by decide⟩, rfl⟩
  · exact ⟨by cases b <;> simp [okB, thinD, plainD], ⟨_, rfl, by decide⟩, rfl⟩
  · exact ⟨by cases b <;> simp [okB, thinD, plainD], ⟨_, rfl, by decide⟩, rfl⟩
  · exact ⟨by cases b <;> simp [okB, thinD, plainD], ⟨_, rfl, by decide⟩, rfl⟩
  · exact ⟨by cases b <;> simp [okB, thinD, plainD], ⟨_, rfl, by decide⟩, rfl⟩
theorem OKx.dic {n : Nat} : OKx true (n + 1) 641 (.dic []) := ⟨by simp [okB, thinD], ⟨_, rfl, by decide⟩, rfl⟩
theorem OKx.shown {b : Bool} {L : Nat} {x : D} (h : OKx b 40 L x) (hl : L ≤ 16000000) : rokD x = true ∧ ∃ t, reprX x = some t := by
  obtain ⟨t, e, l⟩ := h.r
  refine ⟨?_, t, ?_⟩
  · have := h.p
    unfold rokD
    cases b with
    | true => simp only [okB, if_true] at this; simp [this]
    | false => simp only [okB, Bool.false_eq_true, if_false] at this; simp [this]
  · unfold reprX
    rw [e]
    show (if szOk t.length then some t else none) = some t
    rw [if_pos (szOk_of (by omega))]
/-! ### parts of rows -/
theorem idx_mem {l : List D} {d : Int} (h : 0 ≤ d ∧ d < l.length) : ∃ x ∈ l, idxD (.lst l) (.int d) = some x := by
  obtain ⟨k, rfl⟩ := Int.eq_ofNat_of_zero_le h.1
  have hk : k < l.length := by omega
  refine ⟨l[k], List.getElem_mem hk, ?_⟩
  exact idx_at (List.getElem?_eq_getElem hk)
theorem cut_mem {xs : List D} {lo hi : Option Int} {x : D} (h : x ∈ cut xs lo hi) : x ∈ xs := by
  unfold cut at h
  exact List.mem_of_mem_drop (List.mem_of_mem_take h)
theorem cut_len (xs : List D) (lo hi : Option Int) : (cut xs lo hi).length ≤ xs.length := by
  unfold cut
  rw [List.length_take, List.length_drop]
  omega
theorem sm_int {x : Nat} (h : (x : Int) < T40) : (x : Int).natAbs < 2 ^ 200 := by
  have h1 : T40.natAbs < 2 ^ 200 := by unfold T40; decide
  have h2 : (0 : Int) < T40 := t40p
  omega
theorem nat_ok {b : Bool} {n : Nat} {l : List Nat} (h : Sm l) : ∀ x ∈ natL l, OKx b n 641 x := by
  intro x hx
  unfold natL at hx
  obtain ⟨y, hy, rfl⟩ := List.mem_map.mp hx
  exact OKx.int (sm_int (h y hy))
/-! ### odd numbers, rows -/
def T30 : Int := 1000000000000000000000000000000
def pE30 : MExp := .neg (.bin .pow (.cst (.int 10)) (.cst (.int 30)))
theorem pE30_ev (Gg : Gs) (e : Env) : ev Gg pE30 e = .ok (.d (.int (-T30))) e := by
  have h : ev Gg (.bin .pow (.cst (.int 10)) (.cst (.int 30))) e = .ok (.d (.int T30)) e := by
    rw [ev_bin]
    rfl
  have e0 : ev Gg pE30 e = (ev Gg (.bin .pow (.cst (.int 10)) (.cst (.int 30))) e).bind fun ra e1 => sees1 negD ra e1 := by
    conv => lhs; unfold pE30 ev
  rw [e0, h]
  rfl
def onL (own : Int) : List D := [.int (-1), .bl true, .bl false, .non, .str [51], .tup [.int own], .lst [.int own], .str [], .int (-T30), .dic []]
theorem onL_ok {own : Int} (h : own.natAbs < 2 ^ 200) : ∀ x ∈ onL own, ∃ b, ∀ m, OKx b (m + 2) 5200 x := by
  have e : ∀ (b : Bool) (m : Nat), ∀ y ∈ [D.int own], OKx b (m + 1) 641 y := fun b m y hy => by rw [List.mem_singleton.mp hy]; exact OKx.int h
  intro x hx
  simp only [onL, List.mem_cons, List.mem_nil_iff, or_false] at hx
  rcases hx with rfl | rfl | rfl | rfl | rfl | rfl | rfl | rfl | rfl | rfl
  · exact ⟨true, fun m => (OKx.int (by decide)).le (by decide)⟩
  · exact ⟨true, fun m => (OKx.flat (by simp)).le (by decide)⟩
  · exact ⟨true, fun m => (OKx.flat (by simp)).le (by decide)⟩
  · exact ⟨true, fun m => (OKx.flat (by simp)).le (by decide)⟩
  · exact ⟨true, fun m => (OKx.flat (by simp)).le (by decide)⟩
  · exact ⟨true, fun m => (OKx.tup (e true m) (by simp)).le (by decide)⟩
  · exact ⟨false, fun m => (OKx.lst (e false m) (by simp)).le (by decide)⟩
  · exact ⟨true, fun m => (OKx.flat (by simp)).le (by decide)⟩
  · exact ⟨true, fun m => (OKx.int (by unfold T30; decide)).le (by decide)⟩
  · exact ⟨true, fun m => OKx.dic.le (by decide)⟩
theorem odd_number_ex (n : Nat) (own : Int) (h : own.natAbs < 2 ^ 200) (a b : Int) (hb : PB b) : ∃ (x : D) (a' b' : Int), (∃ q, ∀ m, OKx q (m + 2) 5200 x) ∧ PB b' ∧
    (G (n + 2)).fn i_law_odd_number [potS a b, .sh (.int own)] = .ok (.d x) [potS a' b', .sh (.int own)] := by
  obtain ⟨d, a1, b1, r1, p1, h1⟩ := take_ex n a b 10 (by decide) (lt4000 (by decide)) hb
  obtain ⟨x, hx, hi⟩ := idx_mem (l := onL own) (d := d) r1
  refine ⟨x, a1, b1, onL_ok h x hx, p1, ?_⟩
  have e0 : d_law_odd_number = ⟨2, 2, [.ret (.idx (.lst [.neg (.cst (.int 1)), .cst (.bl true), .cst (.bl false), .cst .non, .cst (.str [51]), .tup [.var 1], .lst [.var 1], .cst (.str []), pE30, .dic [] []]) (.call i_law_take [.var 0, .cst (.int 10)]))]⟩ := rfl
  have hp := pE30_ev (G (n + 1))
  unfold onL at hi
  rw [fn_succ (n + 1) _ _ d_law_odd_number rfl, e0]
  generalize pE30 = pe at hp ⊢
  generalize T30 = t at hp hi
  simp [Ob.d, binD, Rs.hold, holds, runDef, execs, exec, tst, ev, evs, callS, lent, noTwice, passAll, passS, backAll, backS, Out.bind, Out.thn, tstR, Rs.see, Out.of, sees1, sees2, negD, cmpS, cmpD, sameD, plainD, plainDs, eqD, blR, truD, SOut.seq, SOut.of, bltS, sees, bltD, tupD, putTgs, putTg, setSubS, obAt, putOb, mayPut_eq, mpO_un, mpO_sh, mpO_ow, putR, retR, pasKept, backP, noEx, len1S, hp, h1, hi]
theorem natL_eqs (l : List Nat) : eqDs (natL l) [] = l.isEmpty := by cases l <;> rfl
def orL (row : List D) : List D := [.lst row, .non, .tup (row ++ [.int 0]), .tup (cut row none (some (-1))), .str [], .int 5, .dic [], .tup [.tup row]]
theorem orL_ok {l : List Nat} (h : Sm l) (hl : l.length ≤ 5) : ∀ x ∈ orL (natL l), ∃ b, ∀ m, OKx b (m + 4) 42000 x := by
  have hn := natL_len l
  intro x hx
  simp only [orL, List.mem_cons, List.mem_nil_iff, or_false] at hx
  rcases hx with rfl | rfl | rfl | rfl | rfl | rfl | rfl | rfl
  · exact ⟨false, fun m => (OKx.lst (nat_ok h) (by omega)).le (by decide)⟩
  · exact ⟨true, fun m => (OKx.flat (by simp)).le (by decide)⟩
  · refine ⟨true, fun m => (OKx.tup (L := 641) (fun y hy => ?_) (by simp; omega)).le (by decide)⟩
    rcases List.mem_append.mp hy with hy | hy
    · exact nat_ok h y hy
    · rw [List.mem_singleton.mp hy]; exact OKx.int (by decide)
  · exact ⟨true, fun m => (OKx.tup (L := 641) (fun y hy => nat_ok h y (cut_mem hy)) (by have := cut_len (natL l) none (some (-1)); omega)).le (by decide)⟩
  · exact ⟨true, fun m => (OKx.flat (by simp)).le (by decide)⟩
  · exact ⟨true, fun m => (OKx.int (by decide)).le (by decide)⟩
  · exact ⟨true, fun m => OKx.dic.le (by decide)⟩
  · refine ⟨true, fun m => (OKx.tup (n := m + 3) (L := 3 + 8 * 643) (fun y hy => ?_) (by simp)).le (by decide)⟩
    rw [List.mem_singleton.mp hy]
    exact OKx.tup (nat_ok h) (by omega)
/-- takes of a small width -/
theorem tk (n : Nat) (w : Int) (hw : 0 < w) (hw2 : w < 1000) (a b : Int) (hb : PB b) : ∃ d a' b' : Int, (0 ≤ d ∧ d < w) ∧ PB b' ∧ (G (n + 1)).fn i_law_take [potS a b, .sh (.int w)] = .ok (.d (.int d)) [potS a' b', .sh (.int w)] :=
  take_ex n a b w hw (lt4000 (by omega)) hb
theorem odd_row_ex (n : Nat) (l : List Nat) (h : Sm l) (hl : l.length ≤ 5) (a b : Int) (hb : PB b) : ∃ (x : D) (a' b' : Int), (∃ q, ∀ m, OKx q (m + 4) 42000 x) ∧ PB b' ∧
    (G (n + 3)).fn i_law_odd_row [potS a b, .sh (.tup (natL l))] = .ok (.d x) [potS a' b', .sh (.tup (natL l))] := by
  have hn := natL_len l
  have hem := natL_eqs l
  have hpl := natL_plain 39 l
  obtain ⟨d, a1, b1, r1, p1, h1⟩ := tk (n + 1) ((l.length : Int) + 1) (by omega) (by omega) a b hb
  have z1 : szOk ((natL l).length + 1) = true := szOk_of (by omega)
  have z1' : szOk (l.length + 1) = true := szOk_of (by omega)
  have ok := orL_ok h hl
  rw [fn_succ (n + 2) _ _ d_law_odd_row rfl]
  have pick : ∀ (a b : Int), PB b → ∃ (e a' b' : Int) (x : D), PB b' ∧ x ∈ orL (natL l) ∧ (G (n + 2)).fn i_law_take [potS a b, .sh (.int 8)] = .ok (.d (.int e)) [potS a' b', .sh (.int 8)] ∧ idxD (.lst (orL (natL l))) (.int e) = some x := fun a b hb => by
    obtain ⟨e, a', b', r, p, h⟩ := tk (n + 1) 8 (by decide) (by decide) a b hb
    obtain ⟨x, hx, hi⟩ := idx_mem (l := orL (natL l)) (d := e) r
    exact ⟨e, a', b', x, p, hx, h, hi⟩
  cases he : l.isEmpty with
  | true =>
    rw [he] at hem
    obtain ⟨e, a2, b2, x, p2, hx, h2, hi⟩ := pick a1 b1 p1
    refine ⟨x, a2, b2, ok x hx, p2, ?_⟩
    unfold orL at hi
    generalize hc : cut (natL l) none (some (-1)) = cu at hi
    generalize natL l = q at hn hem hpl hi hc z1 ⊢
    simp [Ob.d, binD, Rs.hold, holds, runDef, execs, exec, tst, ev, evs, callS, lent, noTwice, passAll, passS, backAll, backS, Out.bind, Out.thn, tstR, Rs.see, Out.of, sees1, sees2, negD, cmpS, cmpD, sameD, plainD, plainDs, eqD, blR, truD, SOut.seq, SOut.of, bltS, sees, bltD, tupD, putTgs, putTg, setSubS, obAt, putOb, mayPut_eq, mpO_un, mpO_sh, mpO_ow, putR, retR, pasKept, backP, noEx, len1S, d_law_odd_row, b_law_odd_row, hn, h1, h2, hi, hem, hpl, z1, z1', slcD, evp, partO, hc]
  | false =>
    rw [he] at hem
    obtain ⟨f, a2, b2, r2, p2, h2⟩ := tk (n + 1) 2 (by decide) (by decide) a1 b1 p1
    by_cases cf : f = 0
    · subst cf
      obtain ⟨e, a3, b3, x, p3, hx, h3, hi⟩ := pick a2 b2 p2
      refine ⟨x, a3, b3, ok x hx, p3, ?_⟩
      unfold orL at hi
      generalize hc : cut (natL l) none (some (-1)) = cu at hi
      generalize natL l = q at hn hem hpl hi hc z1 ⊢
      simp [Ob.d, binD, Rs.hold, holds, runDef, execs, exec, tst, ev, evs, callS, lent, noTwice, passAll, passS, backAll, backS, Out.bind, Out.thn, tstR, Rs.see, Out.of, sees1, sees2, negD, cmpS, cmpD, sameD, plainD, plainDs, eqD, blR, truD, SOut.seq, SOut.of, bltS, sees, bltD, tupD, putTgs, putTg, setSubS, obAt, putOb, mayPut_eq, mpO_un, mpO_sh, mpO_ow, putR, retR, pasKept, backP, noEx, len1S, d_law_odd_row, b_law_odd_row, hn, h1, h2, h3, hi, hem, hpl, z1, z1', slcD, evp, partO, hc]
    · have cf' : (f == 0) = false := by simpa using cf
      obtain ⟨x, a3, b3, hx, p3, h3⟩ := odd_number_ex n 1 (by decide) a2 b2 p2
      obtain ⟨g, a4, b4, r4, p4, h4⟩ := tk (n + 1) 2 (by decide) (by decide) a3 b3 p3
      obtain ⟨q, hq⟩ := hx
      have c1 := cut_len (natL l) none (some d)
      have c2 := cut_len (natL l) (some (d + g)) none
      refine ⟨.tup ((cut (natL l) none (some d) ++ [x]) ++ cut (natL l) (some (d + g)) none), a4, b4, ⟨q, fun m => (OKx.tup (n := m + 3) (L := 5200) (fun y hy => ?_) ?_).le (by decide)⟩, p4, ?_⟩
      · rcases List.mem_append.mp hy with hy | hy
        · rcases List.mem_append.mp hy with hy | hy
          · exact (nat_ok h y (cut_mem hy)).le (by decide)
          · rw [List.mem_singleton.mp hy]; exact hq (m + 1)
        · exact (nat_ok h y (cut_mem hy)).le (by decide)
      · have hcl : ∀ (u v : List D), (u ++ [x]).length = u.length + 1 := by simp
        rw [List.length_append, hcl _ []]
        have c3 : (cut (natL l) none (some d)).length + (cut (natL l) (some (d + g)) none).length ≤ 7 := by
          have b1 : bnd (natL l).length (natL l).length (some d) = min d.toNat (natL l).length := by
            show (if d < 0 then (d + ((natL l).length : Int)).toNat else min d.toNat (natL l).length) = _
            rw [if_neg (by omega)]
          have b2 : bnd (natL l).length 0 (some (d + g)) = min (d + g).toNat (natL l).length := by
            show (if d + g < 0 then (d + g + ((natL l).length : Int)).toNat else min (d + g).toNat (natL l).length) = _
            rw [if_neg (by omega)]
          have b3 : bnd (natL l).length 0 none = 0 := rfl
          have b4 : bnd (natL l).length (natL l).length none = (natL l).length := rfl
          unfold cut
          rw [b1, b2, b3, b4, List.length_take, List.length_take, List.length_drop, List.length_drop]
          omega
        omega
      · generalize hc1 : cut (natL l) none (some d) = u at c1 ⊢
        generalize hc2 : cut (natL l) (some (d + g)) none = v at c2 ⊢
        have z2 : szOk (u.length + 1) = true := szOk_of (by omega)
        have z3 : szOk (u.length + 1 + v.length) = true := szOk_of (by omega)
        generalize hc : cut (natL l) none (some (-1)) = cu
        generalize natL l = q at hn hem hpl hc z1 hc1 hc2 ⊢
        simp [Ob.d, binD, Rs.hold, holds, runDef, execs, exec, tst, ev, evs, callS, lent, noTwice, passAll, passS, backAll, backS, Out.bind, Out.thn, tstR, Rs.see, Out.of, sees1, sees2, negD, cmpS, cmpD, sameD, plainD, plainDs, eqD, blR, truD, SOut.seq, SOut.of, bltS, sees, bltD, tupD, putTgs, putTg, setSubS, obAt, putOb, mayPut_eq, mpO_un, mpO_sh, mpO_ow, putR, retR, pasKept, backP, noEx, len1S, d_law_odd_row, b_law_odd_row, hn, h1, h2, h3, h4, hem, hpl, z1, z1', slcD, evp, partO, hc, hc1, hc2, cf, cf', z2, z3]
end Lw
end
section
set_option exponentiation.threshold 300
namespace Lw
open Mi
/-! ### what is drawn -/
def dvE : MExp := .blt .tuple [.comp cE (.nm 4) (.seq (.cst (.str [97, 98, 99, 100, 101]))) none]
def dlE : MExp := .blt .tuple [.comp cE (.nm 5) (.rng none (.call i_law_deep [.var 1, .var 3])) none]
theorem drawn_ex (n : Nat) (rows : List Rw) (v : VR rows) (a b : Int) (hb : PB b) : ∃ (vs : List Nat) (at_ : Nat) (lf : List Nat) (a' b' : Int), Sp rows vs at_ lf ∧ Sm vs ∧ Sm lf ∧ PB b' ∧
    (G (n + 3)).fn i_law_drawn [potS a b, .sh (.lst (rowsL rows))] = .ok (.d (spotD vs at_ lf)) [potS a' b', .sh (.lst (rowsL rows))] := by
  have hl := rowsL_len rows
  have hv := v.len
  obtain ⟨vs, a1, b1, l1, s1, p1, h1⟩ := cnt_comp n 5 (by decide) (.seq (.cst (.str [97, 98, 99, 100, 101]))) (.one (.snap [.str [97], .str [98], .str [99], .str [100], .str [101]])) a b a b hb [.sh (.lst (rowsL rows)), .un, .un, .un, .un] 3 rfl (by simp [evIt, srcL, srcOf, It.slots, Src.slots, It.len, Src.len, partO, It.at_, Src.at_, It.fine, Src.fine, ev, evs, evp, callS, lent, noTwice, passAll, passS, backAll, backS, Out.bind, Out.thn, Rs.see, Rs.hold, holds, Out.of, sees1, sees2, binD, bltS, sees, bltD, Ob.d, obAt, len1S]) rfl rfl
    (fun k e hk => ⟨_, List.getElem?_eq_getElem (l := [D.str [97], .str [98], .str [99], .str [100], .str [101]]) hk⟩) (fun _ => rfl)
  obtain ⟨d, a2, b2, r2, p2, h2⟩ := tk (n + 1) ((rows.length : Int) + 1) (by omega) (by omega) a1 b1 p1
  obtain ⟨k, rfl⟩ := Int.eq_ofNat_of_zero_le r2.1
  have hk : k ≤ rows.length := by omega
  have hdp := deep_eq (n + 1) rows v k hk
  have h3l := (v.st k).1
  have hr : rngOk 0 ((stk rows k).length : Int) = true := rng_ok (by omega) (by omega)
  have hit : evIt (G (n + 2)) (.rng none (.call i_law_deep [.var 1, .var 3])) (potS a2 b2 :: [.sh (.lst (rowsL rows)), .sh (.tup (natL vs)), .sh (.int (k : Int)), .un, .un]) = .ok (.rng 0 (stk rows k).length) (potS a2 b2 :: [.sh (.lst (rowsL rows)), .sh (.tup (natL vs)), .sh (.int (k : Int)), .un, .un]) := by
    generalize rowsL rows = q at hdp ⊢
    generalize natL vs = w
    simp [evIt, srcL, srcOf, It.slots, Src.slots, It.len, Src.len, partO, It.at_, Src.at_, It.fine, Src.fine, ev, evs, evp, callS, lent, noTwice, passAll, passS, backAll, backS, Out.bind, Out.thn, Rs.see, Rs.hold, holds, Out.of, sees1, sees2, binD, bltS, sees, bltD, Ob.d, obAt, len1S, hdp, hr]
  obtain ⟨lf, a3, b3, l3, s3, p3, h3⟩ := cnt_comp n (stk rows k).length (by omega) (.rng none (.call i_law_deep [.var 1, .var 3])) (.rng 0 (stk rows k).length) a2 b2 a2 b2 p2 [.sh (.lst (rowsL rows)), .sh (.tup (natL vs)), .sh (.int (k : Int)), .un, .un] 4 rfl hit rfl rfl (fun k e hk => ⟨_, rfl⟩) (fun _ => rfl)
  refine ⟨vs, k, lf, a3, b3, ⟨l1, hk, l3⟩, s1, s3, p3, ?_⟩
  have e0 : d_law_drawn = ⟨2, 6, [.set 2 false (.blt .tuple [.comp cE (.nm 4) (.seq (.cst (.str [97, 98, 99, 100, 101]))) none]), .set 3 false (.call i_law_take [.var 0, .bin .add (.len1 (.var 1)) (.cst (.int 1))]), .ret (.tup [.var 2, .var 3, .blt .tuple [.comp cE (.nm 5) (.rng none (.call i_law_deep [.var 1, .var 3])) none]])]⟩ := rfl
  rw [fn_succ (n + 2) _ _ d_law_drawn rfl, e0]
  unfold spotD
  generalize MExp.comp cE (.nm 4) (.seq (.cst (.str [97, 98, 99, 100, 101]))) none = m1 at h1 ⊢
  generalize MExp.comp cE (.nm (4 + 1)) (.rng none (.call i_law_deep [.var 1, .var 3])) none = m2 at h3 ⊢
  generalize MExp.comp cE (.nm 5) (.rng none (.call i_law_deep [.var 1, .var 3])) none = m3 at h3 ⊢
  generalize rowsL rows = q at h1 h3 hl ⊢
  generalize natL vs = w1 at h1 h3 ⊢
  generalize natL lf = w2 at h3 ⊢
  simp [Ob.d, binD, Rs.hold, holds, runDef, execs, exec, tst, ev, evs, callS, lent, noTwice, passAll, passS, backAll, backS, Out.bind, Out.thn, tstR, Rs.see, Out.of, sees1, sees2, negD, cmpS, cmpD, sameD, plainD, plainDs, eqD, blR, truD, SOut.seq, SOut.of, bltS, sees, bltD, tupD, putTgs, putTg, setSubS, obAt, putOb, mayPut_eq, mpO_un, mpO_sh, mpO_ow, putR, retR, pasKept, backP, noEx, len1S, h1, h2, h3, hl]
/-! ### an odd thing -/
def T39 : Int := 1000000000000000000000000000000000000000
def pE39 : MExp := .bin .pow (.cst (.int 10)) (.cst (.int 39))
theorem pE39_ev (Gg : Gs) (e : Env) : ev Gg pE39 e = .ok (.d (.int T39)) e := by
  unfold pE39
  rw [ev_bin]
  rfl
theorem one_ex (n : Nat) (l : List D) (hl : 0 < l.length) (hl2 : l.length < 1000) (a b : Int) (hb : PB b) : ∃ (x : D) (a' b' : Int), x ∈ l ∧ PB b' ∧
    (G (n + 2)).fn i_law_one [potS a b, .sh (.lst l)] = .ok (.d x) [potS a' b', .sh (.lst l)] := by
  obtain ⟨d, a1, b1, r1, p1, h1⟩ := tk n (l.length : Int) (by omega) (by omega) a b hb
  obtain ⟨x, hx, hi⟩ := idx_mem (l := l) (d := d) r1
  refine ⟨x, a1, b1, hx, p1, ?_⟩
  rw [fn_succ (n + 1) _ _ d_law_one rfl]
  simp [Ob.d, binD, Rs.hold, holds, runDef, execs, exec, tst, ev, evs, callS, lent, noTwice, passAll, passS, backAll, backS, Out.bind, Out.thn, tstR, Rs.see, Out.of, sees1, sees2, negD, cmpS, cmpD, sameD, plainD, plainDs, eqD, blR, truD, SOut.seq, SOut.of, bltS, sees, bltD, tupD, putTgs, putTg, setSubS, obAt, putOb, mayPut_eq, mpO_un, mpO_sh, mpO_ow, putR, retR, pasKept, backP, noEx, len1S, d_law_one, b_law_one, h1, hi]
/-- three parts, each to be shown -/
theorem ok3 {x y z : D} {q : Bool} (hx : ∀ m, OKx q (m + 4) 42000 x) (hy : ∀ m, OKx q (m + 4) 42000 y) (hz : ∀ m, OKx q (m + 4) 42000 z) : ∀ m, OKx q (m + 5) 400000 (.tup [x, y, z]) := fun m =>
  (OKx.tup (n := m + 4) (L := 42000) (fun u hu => by
    simp only [List.mem_cons, List.mem_nil_iff, or_false] at hu
    rcases hu with rfl | rfl | rfl
    · exact hx m
    · exact hy m
    · exact hz m) (by simp)).le (by decide)
theorem okN {q : Bool} {l : List Nat} (h : Sm l) (hl : l.length ≤ 8) : ∀ m, OKx q (m + 4) 42000 (.tup (natL l)) := fun m => (OKx.tup (n := m + 3) (nat_ok h) (by rw [natL_len]; exact hl)).le (by decide)
theorem okI {q : Bool} {i : Int} (h : i.natAbs < 2 ^ 200) : ∀ m, OKx q (m + 4) 42000 (.int i) := fun m => (OKx.int h).le (by decide)
def Shows (x : D) : Prop := ∃ q, OKx q 40 4000000 x
section
variable {rows : List Rw} {vs : List Nat} {at_ : Nat} {lf : List Nat}
theorem spot_ok {q : Bool} (s : Sp rows vs at_ lf) (h3 : lf.length ≤ 3) (h40 : rows.length ≤ 40) (sv : Sm vs) (sl : Sm lf) : ∀ m, OKx q (m + 5) 400000 (spotD vs at_ lf) :=
  ok3 (okN sv (by rw [s.v]; decide)) (okI (by have := s.a; omega)) (okN sl (by omega))
def odL (sp : List D) : List D := [.non, .bl true, .int 7, .str [], .tup [], .lst [], .dic [], .lst sp, .tup (sp ++ [.tup []]), .tup (cut sp none (some 2)), .tup [.tup sp], .tup sp.reverse]
theorem odL_ok (s : Sp rows vs at_ lf) (h3 : lf.length ≤ 3) (h40 : rows.length ≤ 40) (sv : Sm vs) (sl : Sm lf) : ∀ x ∈ odL [.tup (natL vs), .int (at_ : Int), .tup (natL lf)], Shows x := by
  have p : ∀ (q : Bool), ∀ y ∈ [D.tup (natL vs), .int (at_ : Int), .tup (natL lf)], OKx q 39 42000 y := fun q y hy => by
    simp only [List.mem_cons, List.mem_nil_iff, or_false] at hy
    rcases hy with rfl | rfl | rfl
    · exact okN sv (by rw [s.v]; decide) 35
    · exact okI (by have := s.a; omega) 35
    · exact okN sl (by omega) 35
  intro x hx
  simp only [odL, List.mem_cons, List.mem_nil_iff, or_false] at hx
  rcases hx with rfl | rfl | rfl | rfl | rfl | rfl | rfl | rfl | rfl | rfl | rfl | rfl
  · exact ⟨true, (OKx.flat (by simp)).le (by decide)⟩
  · exact ⟨true, (OKx.flat (by simp)).le (by decide)⟩
  · exact ⟨true, (OKx.int (by decide)).le (by decide)⟩
  · exact ⟨true, (OKx.flat (by simp)).le (by decide)⟩
  · exact ⟨true, (OKx.tup (n := 39) (L := 0) (by simp) (by simp)).le (by decide)⟩
  · exact ⟨false, (OKx.lst (n := 39) (L := 0) (by simp) (by simp)).le (by decide)⟩
  · exact ⟨true, (OKx.dic (n := 39)).le (by decide)⟩
  · exact ⟨false, (OKx.lst (n := 39) (p false) (by simp)).le (by decide)⟩
  · refine ⟨true, (OKx.tup (n := 39) (L := 42000) (fun y hy => ?_) (by simp)).le (by decide)⟩
    rcases List.mem_append.mp hy with hy | hy
    · exact p true y hy
    · rw [List.mem_singleton.mp hy]
      exact (OKx.tup (n := 38) (L := 0) (by simp) (by simp)).le (by decide)
  · exact ⟨true, (OKx.tup (n := 39) (L := 42000) (fun y hy => p true y (cut_mem hy)) (by have := cut_len [D.tup (natL vs), .int (at_ : Int), .tup (natL lf)] none (some 2); simp at this; omega)).le (by decide)⟩
  · refine ⟨true, (OKx.tup (n := 39) (L := 400000) (fun y hy => ?_) (by simp)).le (by decide)⟩
    rw [List.mem_singleton.mp hy]
    exact spot_ok s h3 h40 sv sl 34
  · exact ⟨true, (OKx.tup (n := 39) (L := 42000) (fun y hy => p true y (List.mem_reverse.mp hy)) (by simp)).le (by decide)⟩
theorem shows3 {x y z : D} {q : Bool} (hx : ∀ m, OKx q (m + 4) 42000 x) (hy : ∀ m, OKx q (m + 4) 42000 y) (hz : ∀ m, OKx q (m + 4) 42000 z) : Shows (.tup [x, y, z]) := ⟨q, (ok3 hx hy hz 35).le (by decide)⟩
theorem ok_up {x : D} {q : Bool} (h : ∀ m, OKx q (m + 2) 5200 x) : ∀ m, OKx q (m + 4) 42000 x := fun m => (h (m + 2)).le (by decide)
theorem t39 : T39.natAbs < 2 ^ 200 := by unfold T39; decide
set_option maxHeartbeats 2000000 in
theorem odd_ex (n : Nat) (v : VR rows) (s : Sp rows vs at_ lf) (sv : Sm vs) (sl : Sm lf) (a b : Int) (hb : PB b) : ∃ (x : D) (a' b' : Int), Shows x ∧ PB b' ∧
    (G (n + 4)).fn i_law_odd [potS a b, .sh (.lst (rowsL rows)), .sh (spotD vs at_ lf)] = .ok (.d x) [potS a' b', .sh (.lst (rowsL rows)), .sh (spotD vs at_ lf)] := by
  have h3l : lf.length ≤ 3 := by rw [s.l]; exact (v.st at_).1
  have h40 := v.len
  have hl := rowsL_len rows
  have sa := s.a
  obtain ⟨w, a1, b1, r1, p1, h1⟩ := tk (n + 2) 8 (by decide) (by decide) a b hb
  have okv : ∀ q m, OKx q (m + 4) 42000 (.tup (natL vs)) := fun q => okN sv (by rw [s.v]; decide)
  have okl : ∀ q m, OKx q (m + 4) 42000 (.tup (natL lf)) := fun q => okN sl (by omega)
  have oka : ∀ q m, OKx q (m + 4) 42000 (.int (at_ : Int)) := fun q => okI (by omega)
  have e0 : d_law_odd = ⟨3, 8, [.unp [.nm 4, .nm 5, .nm 6] (.var 2), .set 3 false (.call i_law_take [.var 0, .cst (.int 8)]), .ite (.cmp .eq (.var 3) (.cst (.int 0))) [.set 7 false (.lst [.cst .non, .cst (.bl true), .cst (.int 7), .cst (.str []), .tup [], .lst [], .dic [] [], .blt .list [.var 2], .bin .add (.var 2) (.tup [.tup []]), .slc (.var 2) none (some (.cst (.int 2))), .tup [.var 2], .rev (.var 2)]), .ret (.idx (.var 7) (.call i_law_take [.var 0, .cst (.int 12)]))] [], .ite (.cmp .eq (.var 3) (.cst (.int 1))) [.ret (.tup [.call i_law_odd_row [.var 0, .var 4], .var 5, .var 6])] [], .ite (.cmp .eq (.var 3) (.cst (.int 2))) [.ret (.tup [.var 4, .var 5, .call i_law_odd_row [.var 0, .var 6]])] [], .ite (.cmp .eq (.var 3) (.cst (.int 3))) [.ret (.tup [.var 4, .call i_law_odd_number [.var 0, .var 5], .var 6])] [], .ite (.cmp .eq (.var 3) (.cst (.int 4))) [.ret (.tup [.var 4, .call i_law_one [.var 0, .lst [.len1 (.var 1), .bin .add (.len1 (.var 1)) (.cst (.int 1)), .bin .add (.var 5) (.cst (.int 1)), pE39]], .var 6])] [], .ite (.cmp .eq (.var 3) (.cst (.int 5))) [.ret (.tup [.var 4, .call i_law_take [.var 0, .bin .add (.len1 (.var 1)) (.cst (.int 1))], .var 6])] [], .ite (.cmp .eq (.var 3) (.cst (.int 6))) [.ret (.tup [.var 4, .var 5, .idx (.lst [.bin .add (.var 6) (.tup [cE]), .slc (.var 6) (some (.cst (.int 1))) none]) (.call i_law_take [.var 0, .cst (.int 2)])])] [], .ret (.var 2)]⟩ := rfl
  have hpow := pE39_ev (G (n + 3))
  rw [fn_succ (n + 3) _ _ d_law_odd rfl, e0]
  have cw : w = 0 ∨ w = 1 ∨ w = 2 ∨ w = 3 ∨ w = 4 ∨ w = 5 ∨ w = 6 ∨ w = 7 := by omega
  rcases cw with rfl | rfl | rfl | rfl | rfl | rfl | rfl | rfl
  · obtain ⟨d, a2, b2, r2, p2, h2⟩ := tk (n + 2) 12 (by decide) (by decide) a1 b1 p1
    obtain ⟨x, hx, hi⟩ := idx_mem (l := odL [.tup (natL vs), .int (at_ : Int), .tup (natL lf)]) (d := d) r2
    refine ⟨x, a2, b2, odL_ok s h3l h40 sv sl x hx, p2, ?_⟩
    unfold odL at hi
    rw [show ([D.tup (natL vs), .int (at_ : Int), .tup (natL lf)] ++ [.tup []]) = [D.tup (natL vs), .int (at_ : Int), .tup (natL lf), .tup []] from rfl, show [D.tup (natL vs), .int (at_ : Int), .tup (natL lf)].reverse = [.tup (natL lf), .int (at_ : Int), D.tup (natL vs)] from rfl] at hi
    unfold spotD
    generalize hc : cut [D.tup (natL vs), .int (at_ : Int), .tup (natL lf)] none (some 2) = cu at hi
    generalize rowsL rows = w
    generalize natL vs = w1 at hi hc ⊢
    generalize natL lf = w2 at hi hc ⊢
    generalize cE = c
    generalize pE39 = pe
    have z : szOk 4 = true := rfl
    simp [Ob.d, binD, Rs.hold, holds, runDef, execs, exec, tst, ev, evs, callS, lent, noTwice, passAll, passS, backAll, backS, Out.bind, Out.thn, tstR, Rs.see, Out.of, sees1, sees2, negD, cmpS, cmpD, sameD, plainD, plainDs, eqD, blR, truD, SOut.seq, SOut.of, bltS, sees, bltD, tupD, putTgs, putTg, setSubS, obAt, putOb, mayPut_eq, mpO_un, mpO_sh, mpO_ow, putR, retR, pasKept, backP, noEx, len1S, h1, h2, slcD, evp, partO, hc, revD, z, hi]
  · obtain ⟨x, a2, b2, ⟨q, hq⟩, p2, h2⟩ := odd_row_ex n vs sv (by rw [s.v]; decide) a1 b1 p1
    refine ⟨_, a2, b2, shows3 hq (oka q) (okl q), p2, ?_⟩
    unfold spotD
    generalize rowsL rows = w
    generalize natL vs = w1 at h2 ⊢
    generalize natL lf = w2
    generalize cE = c
    generalize pE39 = pe
    simp [Ob.d, binD, Rs.hold, holds, runDef, execs, exec, tst, ev, evs, callS, lent, noTwice, passAll, passS, backAll, backS, Out.bind, Out.thn, tstR, Rs.see, Out.of, sees1, sees2, negD, cmpS, cmpD, sameD, plainD, plainDs, eqD, blR, truD, SOut.seq, SOut.of, bltS, sees, bltD, tupD, putTgs, putTg, setSubS, obAt, putOb, mayPut_eq, mpO_un, mpO_sh, mpO_ow, putR, retR, pasKept, backP, noEx, len1S, h1, h2]
  · obtain ⟨x, a2, b2, ⟨q, hq⟩, p2, h2⟩ := odd_row_ex n lf sl (by omega) a1 b1 p1
    refine ⟨_, a2, b2, shows3 (okv q) (oka q) hq, p2, ?_⟩
    unfold spotD
    generalize rowsL rows = w
    generalize natL vs = w1
    generalize natL lf = w2 at h2 ⊢
    generalize cE = c
    generalize pE39 = pe
    simp [Ob.d, binD, Rs.hold, holds, runDef, execs, exec, tst, ev, evs, callS, lent, noTwice, passAll, passS, backAll, backS, Out.bind, Out.thn, tstR, Rs.see, Out.of, sees1, sees2, negD, cmpS, cmpD, sameD, plainD, plainDs, eqD, blR, truD, SOut.seq, SOut.of, bltS, sees, bltD, tupD, putTgs, putTg, setSubS, obAt, putOb, mayPut_eq, mpO_un, mpO_sh, mpO_ow, putR, retR, pasKept, backP, noEx, len1S, h1, h2]
  · obtain ⟨x, a2, b2, ⟨q, hq⟩, p2, h2⟩ := odd_number_ex (n + 1) (at_ : Int) (by omega) a1 b1 p1
    refine ⟨_, a2, b2, shows3 (okv q) (ok_up hq) (okl q), p2, ?_⟩
    unfold spotD
    generalize rowsL rows = w
    generalize natL vs = w1
    generalize natL lf = w2
    generalize cE = c
    generalize pE39 = pe
    simp [Ob.d, binD, Rs.hold, holds, runDef, execs, exec, tst, ev, evs, callS, lent, noTwice, passAll, passS, backAll, backS, Out.bind, Out.thn, tstR, Rs.see, Out.of, sees1, sees2, negD, cmpS, cmpD, sameD, plainD, plainDs, eqD, blR, truD, SOut.seq, SOut.of, bltS, sees, bltD, tupD, putTgs, putTg, setSubS, obAt, putOb, mayPut_eq, mpO_un, mpO_sh, mpO_ow, putR, retR, pasKept, backP, noEx, len1S, h1, h2]
  · obtain ⟨x, a2, b2, hx, p2, h2⟩ := one_ex (n + 1) [.int (rows.length : Int), .int ((rows.length : Int) + 1), .int ((at_ : Int) + 1), .int T39] (by simp) (by simp) a1 b1 p1
    have hq : ∀ m, OKx true (m + 4) 42000 x := by
      simp only [List.mem_cons, List.mem_nil_iff, or_false] at hx
      rcases hx with rfl | rfl | rfl | rfl
      · exact okI (by omega)
      · exact okI (by omega)
      · exact okI (by omega)
      · exact okI t39
    refine ⟨_, a2, b2, shows3 (okv true) hq (okl true), p2, ?_⟩
    unfold spotD
    generalize rowsL rows = w at hl ⊢
    generalize natL vs = w1
    generalize natL lf = w2
    generalize cE = c
    generalize pE39 = pe at hpow ⊢
    generalize T39 = t at hpow h2
    simp [Ob.d, binD, Rs.hold, holds, runDef, execs, exec, tst, ev, evs, callS, lent, noTwice, passAll, passS, backAll, backS, Out.bind, Out.thn, tstR, Rs.see, Out.of, sees1, sees2, negD, cmpS, cmpD, sameD, plainD, plainDs, eqD, blR, truD, SOut.seq, SOut.of, bltS, sees, bltD, tupD, putTgs, putTg, setSubS, obAt, putOb, mayPut_eq, mpO_un, mpO_sh, mpO_ow, putR, retR, pasKept, backP, noEx, len1S, h1, h2, hl, hpow]
  · obtain ⟨d, a2, b2, r2, p2, h2⟩ := tk (n + 2) ((rows.length : Int) + 1) (by omega) (by omega) a1 b1 p1
    refine ⟨_, a2, b2, shows3 (okv true) (okI (i := d) (by omega)) (okl true), p2, ?_⟩
    unfold spotD
    generalize rowsL rows = w at hl ⊢
    generalize natL vs = w1
    generalize natL lf = w2
    generalize cE = c
    generalize pE39 = pe
    simp [Ob.d, binD, Rs.hold, holds, runDef, execs, exec, tst, ev, evs, callS, lent, noTwice, passAll, passS, backAll, backS, Out.bind, Out.thn, tstR, Rs.see, Out.of, sees1, sees2, negD, cmpS, cmpD, sameD, plainD, plainDs, eqD, blR, truD, SOut.seq, SOut.of, bltS, sees, bltD, tupD, putTgs, putTg, setSubS, obAt, putOb, mayPut_eq, mpO_un, mpO_sh, mpO_ow, putR, retR, pasKept, backP, noEx, len1S, h1, h2, hl]
  · obtain ⟨x, a2, b2, hx, p2, h2⟩ := cnt_call (n + 1) a1 b1 p1 [.sh (.lst (rowsL rows)), .sh (.tup [.tup (natL vs), .int (at_ : Int), .tup (natL lf)]), .sh (.int 6), .sh (.tup (natL vs)), .sh (.int (at_ : Int)), .sh (.tup (natL lf)), .un]
    obtain ⟨d, a3, b3, r3, p3, h3⟩ := tk (n + 2) 2 (by decide) (by decide) a2 b2 p2
    obtain ⟨y, hy, hi⟩ := idx_mem (l := [.tup (natL lf ++ [.int (x : Int)]), .tup (cut (natL lf) (some 1) none)]) (d := d) r3
    have hq : ∀ m, OKx true (m + 4) 42000 y := by
      simp only [List.mem_cons, List.mem_nil_iff, or_false] at hy
      rcases hy with rfl | rfl
      · have e : natL lf ++ [.int (x : Int)] = natL (lf ++ [x]) := by rw [natL_app]; rfl
        rw [e]
        exact okN (fun z hz => by
          rcases List.mem_append.mp hz with hz | hz
          · exact sl z hz
          · rw [List.mem_singleton.mp hz]; exact hx) (by simp; omega)
      · exact fun m => (OKx.tup (n := m + 3) (L := 641) (fun z hz => nat_ok sl z (cut_mem hz)) (by have := cut_len (natL lf) (some 1) none; rw [natL_len] at this; omega)).le (by decide)
    refine ⟨_, a3, b3, shows3 (okv true) (oka true) hq, p3, ?_⟩
    have z1 : szOk ((natL lf).length + 1) = true := szOk_of (by rw [natL_len]; omega)
    unfold spotD
    generalize hc : cut (natL lf) (some 1) none = cu at hi
    generalize rowsL rows = w at h2 ⊢
    generalize natL vs = w1 at h2 ⊢
    generalize natL lf = w2 at h2 hi hc z1 ⊢
    generalize cE = c at h2 ⊢
    generalize pE39 = pe
    simp [Ob.d, binD, Rs.hold, holds, runDef, execs, exec, tst, ev, evs, callS, lent, noTwice, passAll, passS, backAll, backS, Out.bind, Out.thn, tstR, Rs.see, Out.of, sees1, sees2, negD, cmpS, cmpD, sameD, plainD, plainDs, eqD, blR, truD, SOut.seq, SOut.of, bltS, sees, bltD, tupD, putTgs, putTg, setSubS, obAt, putOb, mayPut_eq, mpO_un, mpO_sh, mpO_ow, putR, retR, pasKept, backP, noEx, len1S, h1, h2, h3, slcD, evp, partO, hc, z1, hi]
  · refine ⟨_, a1, b1, ⟨true, (spot_ok s h3l h40 sv sl 35).le (by decide)⟩, p1, ?_⟩
    unfold spotD
    generalize rowsL rows = w
    generalize natL vs = w1
    generalize natL lf = w2
    generalize cE = c
    generalize pE39 = pe
    simp [Ob.d, binD, Rs.hold, holds, runDef, execs, exec, tst, ev, evs, callS, lent, noTwice, passAll, passS, backAll, backS, Out.bind, Out.thn, tstR, Rs.see, Out.of, sees1, sees2, negD, cmpS, cmpD, sameD, plainD, plainDs, eqD, blR, truD, SOut.seq, SOut.of, bltS, sees, bltD, tupD, putTgs, putTg, setSubS, obAt, putOb, mayPut_eq, mpO_un, mpO_sh, mpO_ow, putR, retR, pasKept, backP, noEx, len1S, h1]
end
end Lw
end
section
set_option exponentiation.threshold 300
namespace Lw
open Mi
theorem Shows.go {x : D} (h : Shows x) : tame x = true ∧ rokD x = true ∧ ∃ t, reprX x = some t := by
  obtain ⟨q, h⟩ := h
  obtain ⟨a, b⟩ := h.shown (by decide)
  exact ⟨h.m, a, b⟩
theorem right_sh (n : Nat) (rows : List Rw) (v : VR rows) (p : D) (g : Pg rows p) (x : D) (h : Shows x) :
    (G (n + 8)).fn i_law_right [.sh p, .sh (.lst (rowsL rows)), .sh x] = .ok (.d (.bl true)) [.sh p, .sh (.lst (rowsL rows)), .sh x] := by
  obtain ⟨a, b, t, c⟩ := h.go
  exact right_any n rows v p g x a t b c
theorem natL_tames : ∀ l : List Nat, tames (natL l) = true
  | [] => rfl
  | x :: l => by
    have := natL_tames l
    unfold natL at this ⊢
    simp only [List.map_cons, tames, tame, this, Bool.and_self]
theorem eqDs_nat : ∀ l : List Nat, eqDs (natL l) (natL l) = true
  | [] => rfl
  | x :: l => by
    have := eqDs_nat l
    unfold natL at this ⊢
    simp only [List.map_cons, eqDs, eqD, beq_self_eq_true, this, Bool.and_self]
theorem first_eq (n : Nat) (p : D) (vs : List Nat) (h : vs.length = 5) : (G (n + 4)).fn i_first_moment [.sh p, .sh (.tup (natL vs))] = .ok (.d (spotD vs 0 [])) [.sh p, .sh (.tup (natL vs))] := by
  have h1 := values_any n (.tup (natL vs)) (natL_tames vs)
  rw [cntsB_natL vs 5 h] at h1
  have e : spotD vs 0 [] = .tup [.tup (natL vs), .int 0, .tup []] := rfl
  rw [fn_succ (n + 3) _ _ d_first_moment rfl, e]
  generalize natL vs = q at h1 ⊢
  simp [Ob.d, binD, Rs.hold, holds, runDef, execs, exec, tst, ev, evs, callS, lent, noTwice, passAll, passS, backAll, backS, Out.bind, Out.thn, tstR, Rs.see, Out.of, sees1, sees2, negD, cmpS, cmpD, sameD, plainD, plainDs, eqD, blR, truD, SOut.seq, SOut.of, bltS, sees, bltD, tupD, putTgs, putTg, setSubS, obAt, putOb, mayPut_eq, mpO_un, mpO_sh, mpO_ow, putR, retR, pasKept, backP, noEx, len1S, d_first_moment, b_first_moment, h1]
theorem same0 (vs : List Nat) : plainD 40 (spotD vs 0 []) = true ∧ plainDs 38 (natL vs) = true ∧ eqD (spotD vs 0 []) (.tup [.tup (natL vs), .int 0, .tup []]) = true := by
  have e : spotD vs 0 [] = .tup [.tup (natL vs), .int 0, .tup []] := rfl
  have h1 := natL_plain 38 vs
  have h2 := eqDs_nat vs
  rw [e]
  simp [plainD, plainDs, h1, eqD, eqDs, h2]
def z5E : MExp := .bin .mul (.tup [.cst (.int 0)]) (.cst (.int 5))
theorem z5_ev (Gg : Gs) (e : Env) : ev Gg z5E e = .ok (.d (.tup (natL [0, 0, 0, 0, 0]))) e := by
  unfold z5E
  rw [ev_bin]
  rfl
def inB : List MStmt := [.set 6 false (.call i_law_drawn [.var 2, .var 3]), .set 7 false (.call i_law_odd [.var 2, .var 3, .var 6]), .ite (.or_ (.not_ (.call i_law_right [.var 4, .var 3, .var 6])) (.not_ (.call i_law_right [.var 4, .var 3, .var 7]))) [.ret (.cst (.bl false))] [], .set 8 false (.call i_first_moment [.var 4, .idx (.var 6) (.cst (.int 0))]), .ite (.or_ (.cmp .ne (.var 8) (.tup [.idx (.var 6) (.cst (.int 0)), .cst (.int 0), .tup []])) (.not_ (.call i_law_right [.var 4, .var 3, .var 8]))) [.ret (.cst (.bl false))] []]
section
variable {rows : List Rw} {p : D}
theorem in_body (n : Nat) (v : VR rows) (g : Pg rows p) (a b : Int) (hb : PB b) (s0 s1 s5 s6 s7 s8 : Sl) (m6 : mpO (some s6) = true) (m7 : mpO (some s7) = true) (m8 : mpO (some s8) = true) :
    ∃ (a' b' : Int) (t6 t7 t8 : Sl), PB b' ∧ mpO (some t6) = true ∧ mpO (some t7) = true ∧ mpO (some t8) = true ∧
      execs (G (n + 9)) inB [s0, s1, .ow (.lst [.int a, .int b]), .sh (.lst (rowsL rows)), .sh p, s5, s6, s7, s8] = .nx [s0, s1, .ow (.lst [.int a', .int b']), .sh (.lst (rowsL rows)), .sh p, s5, t6, t7, t8] := by
  obtain ⟨vs, at_, lf, a1, b1, s, sv, sl, p1, h1⟩ := drawn_ex (n + 6) rows v a b hb
  obtain ⟨x, a2, b2, hx, p2, h2⟩ := odd_ex (n + 5) v s sv sl a1 b1 p1
  have h3l : lf.length ≤ 3 := by rw [s.l]; exact (v.st at_).1
  have h40 := v.len
  have sp : Shows (spotD vs at_ lf) := ⟨true, (spot_ok s h3l h40 sv sl 35).le (by decide)⟩
  have s0' : Sp rows vs 0 [] := ⟨s.v, by omega, rfl⟩
  have sp0 : Shows (spotD vs 0 []) := ⟨true, (spot_ok s0' (by simp) h40 sv (fun _ h => by simp at h) 35).le (by decide)⟩
  have r1 := right_sh (n + 1) rows v p g _ sp
  have r2 := right_sh (n + 1) rows v p g _ hx
  have r3 := right_sh (n + 1) rows v p g _ sp0
  have f1 := first_eq (n + 5) p vs s.v
  obtain ⟨c1, c2, c3⟩ := same0 vs
  have i0 : idxD (spotD vs at_ lf) (.int 0) = some (.tup (natL vs)) := x0 _ _
  refine ⟨a2, b2, .sh (spotD vs at_ lf), .sh x, .sh (spotD vs 0 []), p2, rfl, rfl, rfl, ?_⟩
  generalize spotD vs 0 [] = w0 at r3 f1 c1 c3
  generalize spotD vs at_ lf = w at h1 h2 r1 i0
  generalize natL vs = q at f1 c2 c3 i0
  generalize rowsL rows = rl at h1 h2 r1 r2 r3 ⊢
  simp [Ob.d, binD, Rs.hold, holds, runDef, execs, exec, tst, ev, evs, callS, lent, noTwice, passAll, passS, backAll, backS, Out.bind, Out.thn, tstR, Rs.see, Out.of, sees1, sees2, negD, cmpS, cmpD, sameD, plainD, plainDs, eqD, blR, truD, SOut.seq, SOut.of, bltS, sees, bltD, tupD, putTgs, putTg, setSubS, obAt, putOb, mayPut_eq, mpO_un, mpO_sh, mpO_ow, putR, retR, pasKept, backP, noEx, len1S, inB, h1, h2, r1, r2, r3, f1, c1, c2, c3, i0, m6, m7, m8]
def inF : MStmt := .for_ (.nm 5) (.rng none (.cst (.int 12))) inB
theorem in_ex (n : Nat) (v : VR rows) (g : Pg rows p) (a b : Int) (hb : PB b) (s0 s1 s5 s6 s7 s8 : Sl) (m5 : mpO (some s5) = true) (m6 : mpO (some s6) = true) (m7 : mpO (some s7) = true) (m8 : mpO (some s8) = true) :
    ∃ (a' b' : Int) (t5 t6 t7 t8 : Sl), PB b' ∧ mpO (some t5) = true ∧ mpO (some t6) = true ∧ mpO (some t7) = true ∧ mpO (some t8) = true ∧
      exec (G (n + 9)) inF [s0, s1, .ow (.lst [.int a, .int b]), .sh (.lst (rowsL rows)), .sh p, s5, s6, s7, s8] = .nx [s0, s1, .ow (.lst [.int a', .int b']), .sh (.lst (rowsL rows)), .sh p, t5, t6, t7, t8] := by
  have hr : rngOk 0 12 = true := rng_ok (by omega) (by omega)
  obtain ⟨e', hf, a', b', t5, t6, t7, t8, p', q5, q6, q7, q8, q⟩ := exec_for_by (G := G (n + 9)) (t := .nm 5) (it := .rng none (.cst (.int 12))) (b := inB) (e := [s0, s1, .ow (.lst [.int a, .int b]), .sh (.lst (rowsL rows)), .sh p, s5, s6, s7, s8]) (w := .rng 0 12) 12
    (fun k e => ∃ (a b : Int) (t5 t6 t7 t8 : Sl), PB b ∧ mpO (some t5) = true ∧ mpO (some t6) = true ∧ mpO (some t7) = true ∧ mpO (some t8) = true ∧ e = [s0, s1, .ow (.lst [.int a, .int b]), .sh (.lst (rowsL rows)), .sh p, t5, t6, t7, t8])
    (by generalize rowsL rows = w; simp [evIt, srcL, srcOf, It.slots, Src.slots, It.len, Src.len, partO, It.at_, Src.at_, It.fine, Src.fine, ev, evs, evp, callS, lent, noTwice, passAll, passS, backAll, backS, Out.bind, Out.thn, Rs.see, Rs.hold, holds, Out.of, sees1, sees2, binD, bltS, sees, bltD, Ob.d, obAt, len1S, hr]) rfl rfl ⟨a, b, s5, s6, s7, s8, hb, m5, m6, m7, m8, rfl⟩
    (fun k e hk ⟨a, b, t5, t6, t7, t8, pb, q5, q6, q7, q8, q⟩ => by
      subst q
      obtain ⟨a', b', u6, u7, u8, p', r6, r7, r8, hx⟩ := in_body n v g a b pb s0 s1 (.sh (.int (k : Int))) t6 t7 t8 q6 q7 q8
      refine ⟨.int (k : Int), [s0, s1, .ow (.lst [.int a, .int b]), .sh (.lst (rowsL rows)), .sh p, .sh (.int (k : Int)), t6, t7, t8], _, ?_, ?_, hx, a', b', _, _, _, _, p', rfl, r6, r7, r8, rfl⟩
      · show some (D.int (0 + (k : Nat))) = _
        rw [Int.zero_add]
      · simp [Tgt.put, mayPut_eq, q5])
    (fun _ _ => rfl)
  subst q
  exact ⟨a', b', t5, t6, t7, t8, p', q5, q6, q7, q8, hf⟩
end
def outB : List MStmt := [.set 2 true (.call i_law_pot [.var 0, .var 1]), .set 3 false (.call i_law_lines [.var 2, .cst (.int 40), powE]), .set 4 false (.mk c_Program [.blt .list [.var 3]]), inF, .ite (.not_ (.call i_law_right [.var 4, .var 3, .tup [z5E, .len1 (.var 3), .tup []]])) [.ret (.cst (.bl false))] []]
theorem out_ex (n k : Nat) (hk : k < 64) (ns : List Int) (s2 s3 s4 s5 s6 s7 s8 : Sl) (m2 : mpO (some s2) = true) (m3 : mpO (some s3) = true) (m4 : mpO (some s4) = true) (m5 : mpO (some s5) = true) (m6 : mpO (some s6) = true) (m7 : mpO (some s7) = true) (m8 : mpO (some s8) = true) :
    ∃ t2 t3 t4 t5 t6 t7 t8 : Sl, mpO (some t2) = true ∧ mpO (some t3) = true ∧ mpO (some t4) = true ∧ mpO (some t5) = true ∧ mpO (some t6) = true ∧ mpO (some t7) = true ∧ mpO (some t8) = true ∧
      execs (G (n + 9)) outB [.sh (.scr ns), .sh (.int (k : Int)), s2, s3, s4, s5, s6, s7, s8] = .nx [.sh (.scr ns), .sh (.int (k : Int)), t2, t3, t4, t5, t6, t7, t8] := by
  obtain ⟨a0, b0, p0, p0', h0⟩ := pot_of (n + 8) ns k hk
  obtain ⟨rows, a1, b1, v, -, p1, h1⟩ := lines_ex (n + 5) 40 (by decide) T40 wd40 a0 b0 ⟨p0, p0'⟩
  obtain ⟨fs, g, h2⟩ := make_dn (n + 2) rows v (.lst (rowsL rows)) (.inr rfl)
  obtain ⟨a2, b2, t5, t6, t7, t8, p2, q5, q6, q7, q8, h3⟩ := in_ex n v g a1 b1 p1 (.sh (.scr ns)) (.sh (.int (k : Int))) s5 s6 s7 s8 m5 m6 m7 m8
  have hl := rowsL_len rows
  have h40 := v.len
  have se : Sp rows [0, 0, 0, 0, 0] rows.length [] := ⟨rfl, Nat.le_refl _, by rw [v.fin]⟩
  have r0 : Sm [0, 0, 0, 0, 0] := fun x hx => by
    have : x = 0 := by simpa using hx
    subst this
    exact t40p
  have spe : Shows (spotD [0, 0, 0, 0, 0] rows.length []) := ⟨true, (spot_ok se (by simp) h40 r0 (fun _ h => by simp at h) 35).le (by decide)⟩
  have r1 := right_sh (n + 1) rows v _ g _ spe
  have hz5 := z5_ev (G (n + 9))
  have hi : (G (n + 9)).init 0 = some i_dn_Program_init := rfl
  have hp : ∀ e, ev (G (n + 9)) powE e = .ok (.d (.int T40)) e := pow_ev _
  refine ⟨.ow (.lst [.int a2, .int b2]), .sh (.lst (rowsL rows)), .sh (.ins 0 fs), t5, t6, t7, t8, rfl, rfl, rfl, q5, q6, q7, q8, ?_⟩
  have en : natL [] = [] := rfl
  unfold spotD at r1
  rw [en] at r1
  unfold outB
  generalize inF = w at h3 ⊢
  generalize powE = pe at hp ⊢
  generalize z5E = ze at hz5 ⊢
  generalize natL [0, 0, 0, 0, 0] = z0 at hz5 r1
  generalize T40 = t at hp h1
  generalize rowsL rows = q at h1 h2 h3 r1 hl ⊢
  have h1 : (G (n + 9)).fn i_law_lines [potS a0 b0, .sh (.int 40), .sh (.int t)] = .ok (.fr (.lst q)) [potS a1 b1, .sh (.int 40), .sh (.int t)] := h1
  simp [Ob.d, binD, Rs.hold, holds, runDef, execs, exec, tst, ev, evs, callS, lent, noTwice, passAll, passS, backAll, backS, Out.bind, Out.thn, tstR, Rs.see, Out.of, sees1, sees2, negD, cmpS, cmpD, sameD, plainD, plainDs, eqD, blR, truD, SOut.seq, SOut.of, bltS, sees, bltD, tupD, putTgs, putTg, setSubS, obAt, putOb, mayPut_eq, mpO_un, mpO_sh, mpO_ow, putR, retR, pasKept, backP, noEx, len1S, h0, h1, hp, makeS, hi, h2, h3, hz5, r1, hl, m2, m3, m4]
theorem law_ex (n : Nat) (ns : List Int) : ∃ l, (G (n + 10)).fn i_law [.sh (.scr ns)] = .ok (.d (.bl true)) l := by
  obtain ⟨m, hm, hm8⟩ : ∃ m : Nat, (if (if (ns.length : Int) < 8 then (ns.length : Int) else 8) > 1 then (if (ns.length : Int) < 8 then (ns.length : Int) else 8) else 1) = (m : Int) ∧ m ≤ 8 := by
    refine ⟨(if (if (ns.length : Int) < 8 then (ns.length : Int) else 8) > 1 then (if (ns.length : Int) < 8 then (ns.length : Int) else 8) else 1).toNat, ?_, ?_⟩ <;> split <;> split <;> omega
  have hr : rngOk 0 (m : Int) = true := rng_ok (by omega) (by omega)
  have e0 : d_law = ⟨1, 9, [.for_ (.nm 1) (.rng none (.blt .max2 [.cst (.int 1), .blt .min2 [.cst (.int 8), .len1 (.var 0)]])) outB, .ret (.cst (.bl true))]⟩ := rfl
  obtain ⟨e', h, s1, s2, s3, s4, s5, s6, s7, s8, -, -, -, -, -, -, -, -, q⟩ := exec_for_by (G := G (n + 9)) (t := .nm 1) (it := .rng none (.blt .max2 [.cst (.int 1), .blt .min2 [.cst (.int 8), .len1 (.var 0)]])) (b := outB) (e := [.sh (.scr ns), .un, .un, .un, .un, .un, .un, .un, .un]) (w := .rng 0 m) m
    (fun k e => ∃ s1 s2 s3 s4 s5 s6 s7 s8 : Sl, mpO (some s1) = true ∧ mpO (some s2) = true ∧ mpO (some s3) = true ∧ mpO (some s4) = true ∧ mpO (some s5) = true ∧ mpO (some s6) = true ∧ mpO (some s7) = true ∧ mpO (some s8) = true ∧ e = [.sh (.scr ns), s1, s2, s3, s4, s5, s6, s7, s8])
    (by simp [evIt, srcL, srcOf, It.slots, Src.slots, It.len, Src.len, partO, It.at_, Src.at_, It.fine, Src.fine, ev, evs, evp, callS, lent, noTwice, passAll, passS, backAll, backS, Out.bind, Out.thn, Rs.see, Rs.hold, holds, Out.of, sees1, sees2, binD, bltS, sees, bltD, Ob.d, obAt, len1S, hr, hm]) rfl rfl ⟨.un, .un, .un, .un, .un, .un, .un, .un, rfl, rfl, rfl, rfl, rfl, rfl, rfl, rfl, rfl⟩
    (fun k e hk ⟨s1, s2, s3, s4, s5, s6, s7, s8, m1, m2, m3, m4, m5, m6, m7, m8, he⟩ => by
      subst he
      obtain ⟨t2, t3, t4, t5, t6, t7, t8, q2, q3, q4, q5, q6, q7, q8, h⟩ := out_ex n k (by omega) ns s2 s3 s4 s5 s6 s7 s8 m2 m3 m4 m5 m6 m7 m8
      refine ⟨.int (k : Int), [.sh (.scr ns), .sh (.int (k : Int)), s2, s3, s4, s5, s6, s7, s8], _, ?_, ?_, h, _, t2, t3, t4, t5, t6, t7, t8, rfl, q2, q3, q4, q5, q6, q7, q8, rfl⟩
      · show some (D.int (0 + (k : Nat))) = _
        rw [Int.zero_add]
      · simp [Tgt.put, mayPut_eq, m1])
    (fun _ _ => rfl)
  subst q
  rw [fn_succ (n + 9) _ _ d_law rfl, e0]
  refine ⟨[.sh (.scr ns)], ?_⟩
  generalize hw : MStmt.for_ (.nm 1) (.rng none (.blt .max2 [.cst (.int 1), .blt .min2 [.cst (.int 8), .len1 (.var 0)]])) outB = w at h
  simp [Ob.d, binD, Rs.hold, holds, runDef, execs, exec, tst, ev, evs, callS, lent, noTwice, passAll, passS, backAll, backS, Out.bind, Out.thn, tstR, Rs.see, Out.of, sees1, sees2, negD, cmpS, cmpD, sameD, plainD, plainDs, eqD, blR, truD, SOut.seq, SOut.of, bltS, sees, bltD, tupD, putTgs, putTg, setSubS, obAt, putOb, mayPut_eq, mpO_un, mpO_sh, mpO_ow, putR, retR, pasKept, backP, noEx, len1S, h]
theorem pure_law (ns : List Int) (h : ns.length ≤ 63) : ∃ l, (G 14).fn i_law [.sh (.scr ns)] = .ok (.d (.bl true)) l := law_ex 4 ns
end Lw
end
namespace Lw
open PySem PySem.Spec PyProof.Rows L2 Mi
def top (i : Nat) : Stmt := PySem.Challenge.pw_farsteps_k21_moments.main.body.getD i (.Pass ⟨0, 0, 0, 0⟩)
def anL : List Str := ["__eq__", "__len__", "__str__", "__repr__", "partners", "lines", "arounds", "around", "want_place"]
def Tt (K : PySem.W.Frag) : Tb := ⟨K, anT anL, fun i => match i with
  | 0 => He.ga K "Program"
  | _ => 0, fun i j h => an_inj anL (by decide +kernel) (by decide +kernel) i j h⟩
abbrev st_is_whole : Stmt := top 10
abbrev sc_is_whole : Scope := defScope st_is_whole
abbrev N_is_whole : List Str := ["thing"]
abbrev P_is_whole : List Str := ["thing"]
abbrev Fd_is_whole (K : PySem.W.Frag) (f : Addr) (fd : FuncData) : Prop := FunD K "is_whole" "is_whole" (defArgs st_is_whole) (defBody st_is_whole) sc_is_whole [] [] f fd
theorem S_is_whole : FnScope N_is_whole P_is_whole sc_is_whole := ⟨rfl, rfl, rfl, by decide +kernel, rfl, by decide +kernel, by decide +kernel⟩
abbrev st_is_count : Stmt := top 11
abbrev sc_is_count : Scope := defScope st_is_count
abbrev N_is_count : List Str := ["thing"]
abbrev P_is_count : List Str := ["thing"]
abbrev Fd_is_count (K : PySem.W.Frag) (f : Addr) (fd : FuncData) : Prop := FunD K "is_count" "is_count" (defArgs st_is_count) (defBody st_is_count) sc_is_count [] [] f fd
theorem S_is_count : FnScope N_is_count P_is_count sc_is_count := ⟨rfl, rfl, rfl, by decide +kernel, rfl, by decide +kernel, by decide +kernel⟩
abbrev st_is_register : Stmt := top 12
abbrev sc_is_register : Scope := defScope st_is_register
abbrev N_is_register : List Str := ["thing"]
abbrev P_is_register : List Str := ["thing"]
abbrev Fd_is_register (K : PySem.W.Frag) (f : Addr) (fd : FuncData) : Prop := FunD K "is_register" "is_register" (defArgs st_is_register) (defBody st_is_register) sc_is_register [] [] f fd
theorem S_is_register : FnScope N_is_register P_is_register sc_is_register := ⟨rfl, rfl, rfl, by decide +kernel, rfl, by decide +kernel, by decide +kernel⟩
abbrev st_rank : Stmt := top 13
abbrev sc_rank : Scope := defScope st_rank
abbrev N_rank : List Str := ["letter"]
abbrev P_rank : List Str := ["letter"]
abbrev Fd_rank (K : PySem.W.Frag) (f : Addr) (fd : FuncData) : Prop := FunD K "rank" "rank" (defArgs st_rank) (defBody st_rank) sc_rank [] [] f fd
theorem S_rank : FnScope N_rank P_rank sc_rank := ⟨rfl, rfl, rfl, by decide +kernel, rfl, by decide +kernel, by decide +kernel⟩
abbrev st_is_values : Stmt := top 14
abbrev sc_is_values : Scope := defScope st_is_values
abbrev N_is_values : List Str := ["thing", "one"]
abbrev P_is_values : List Str := ["thing"]
abbrev Fd_is_values (K : PySem.W.Frag) (f : Addr) (fd : FuncData) : Prop := FunD K "is_values" "is_values" (defArgs st_is_values) (defBody st_is_values) sc_is_values [] [] f fd
theorem S_is_values : FnScope N_is_values P_is_values sc_is_values := ⟨rfl, rfl, rfl, by decide +kernel, rfl, by decide +kernel, by decide +kernel⟩
abbrev st_may_be_added : Stmt := top 15
abbrev sc_may_be_added : Scope := defScope st_may_be_added
abbrev N_may_be_added : List Str := ["letter", "thing"]
abbrev P_may_be_added : List Str := ["letter", "thing"]
abbrev Fd_may_be_added (K : PySem.W.Frag) (f : Addr) (fd : FuncData) : Prop := FunD K "may_be_added" "may_be_added" (defArgs st_may_be_added) (defBody st_may_be_added) sc_may_be_added [] [] f fd
theorem S_may_be_added : FnScope N_may_be_added P_may_be_added sc_may_be_added := ⟨rfl, rfl, rfl, by decide +kernel, rfl, by decide +kernel, by decide +kernel⟩
abbrev st_is_row : Stmt := top 16
abbrev sc_is_row : Scope := defScope st_is_row
abbrev N_is_row : List Str := ["thing", "word", "parts"]
abbrev P_is_row : List Str := ["thing"]
abbrev Fd_is_row (K : PySem.W.Frag) (f : Addr) (fd : FuncData) : Prop := FunD K "is_row" "is_row" (defArgs st_is_row) (defBody st_is_row) sc_is_row [] [] f fd
theorem S_is_row : FnScope N_is_row P_is_row sc_is_row := ⟨rfl, rfl, rfl, by decide +kernel, rfl, by decide +kernel, by decide +kernel⟩
abbrev st_is_moment : Stmt := top 19
abbrev sc_is_moment : Scope := defScope st_is_moment
abbrev N_is_moment : List Str := ["program", "thing", "values", "at", "left", "number"]
abbrev P_is_moment : List Str := ["program", "thing"]
abbrev Fd_is_moment (K : PySem.W.Frag) (f : Addr) (fd : FuncData) : Prop := FunD K "is_moment" "is_moment" (defArgs st_is_moment) (defBody st_is_moment) sc_is_moment [] [] f fd
theorem S_is_moment : FnScope N_is_moment P_is_moment sc_is_moment := ⟨rfl, rfl, rfl, by decide +kernel, rfl, by decide +kernel, by decide +kernel⟩
abbrev st_want_moment : Stmt := top 20
abbrev sc_want_moment : Scope := defScope st_want_moment
abbrev N_want_moment : List Str := ["program", "thing"]
abbrev P_want_moment : List Str := ["program", "thing"]
abbrev Fd_want_moment (K : PySem.W.Frag) (f : Addr) (fd : FuncData) : Prop := FunD K "want_moment" "want_moment" (defArgs st_want_moment) (defBody st_want_moment) sc_want_moment [] [] f fd
theorem S_want_moment : FnScope N_want_moment P_want_moment sc_want_moment := ⟨rfl, rfl, rfl, by decide +kernel, rfl, by decide +kernel, by decide +kernel⟩
abbrev st_is_over : Stmt := top 21
abbrev sc_is_over : Scope := defScope st_is_over
abbrev N_is_over : List Str := ["program", "moment"]
abbrev P_is_over : List Str := ["program", "moment"]
abbrev Fd_is_over (K : PySem.W.Frag) (f : Addr) (fd : FuncData) : Prop := FunD K "is_over" "is_over" (defArgs st_is_over) (defBody st_is_over) sc_is_over [] [] f fd
theorem S_is_over : FnScope N_is_over P_is_over sc_is_over := ⟨rfl, rfl, rfl, by decide +kernel, rfl, by decide +kernel, by decide +kernel⟩
abbrev st_first_moment : Stmt := top 22
abbrev sc_first_moment : Scope := defScope st_first_moment
abbrev N_first_moment : List Str := ["program", "values"]
abbrev P_first_moment : List Str := ["program", "values"]
abbrev Fd_first_moment (K : PySem.W.Frag) (f : Addr) (fd : FuncData) : Prop := FunD K "first_moment" "first_moment" (defArgs st_first_moment) (defBody st_first_moment) sc_first_moment [] [] f fd
theorem S_first_moment : FnScope N_first_moment P_first_moment sc_first_moment := ⟨rfl, rfl, rfl, by decide +kernel, rfl, by decide +kernel, by decide +kernel⟩
abbrev st_may_stand : Stmt := top 26
abbrev sc_may_stand : Scope := defScope st_may_stand
abbrev N_may_stand : List Str := ["row", "letters", "letter"]
abbrev P_may_stand : List Str := ["row", "letters"]
abbrev Fd_may_stand (K : PySem.W.Frag) (f : Addr) (fd : FuncData) : Prop := FunD K "may_stand" "may_stand" (defArgs st_may_stand) (defBody st_may_stand) sc_may_stand [] [] f fd
theorem S_may_stand : FnScope N_may_stand P_may_stand sc_may_stand := ⟨rfl, rfl, rfl, by decide +kernel, rfl, by decide +kernel, by decide +kernel⟩
abbrev st_first_wrong : Stmt := top 27
abbrev sc_first_wrong : Scope := defScope st_first_wrong
abbrev N_first_wrong : List Str := ["rows", "letters", "place", "row"]
abbrev P_first_wrong : List Str := ["rows"]
abbrev Fd_first_wrong (K : PySem.W.Frag) (f : Addr) (fd : FuncData) : Prop := FunD K "first_wrong" "first_wrong" (defArgs st_first_wrong) (defBody st_first_wrong) sc_first_wrong [] [] f fd
theorem S_first_wrong : FnScope N_first_wrong P_first_wrong sc_first_wrong := ⟨rfl, rfl, rfl, by decide +kernel, rfl, by decide +kernel, by decide +kernel⟩
abbrev st_repeats_around : Stmt := top 28
abbrev sc_repeats_around : Scope := defScope st_repeats_around
abbrev N_repeats_around : List Str := ["rows", "opened", "found", "place", "row"]
abbrev P_repeats_around : List Str := ["rows"]
abbrev Fd_repeats_around (K : PySem.W.Frag) (f : Addr) (fd : FuncData) : Prop := FunD K "repeats_around" "repeats_around" (defArgs st_repeats_around) (defBody st_repeats_around) sc_repeats_around [] [] f fd
theorem S_repeats_around : FnScope N_repeats_around P_repeats_around sc_repeats_around := ⟨rfl, rfl, rfl, by decide +kernel, rfl, by decide +kernel, by decide +kernel⟩
abbrev st_partners_of : Stmt := top 29
abbrev sc_partners_of : Scope := defScope st_partners_of
abbrev N_partners_of : List Str := ["arounds", "rows", "found", "place", "row"]
abbrev P_partners_of : List Str := ["arounds", "rows"]
abbrev Fd_partners_of (K : PySem.W.Frag) (f : Addr) (fd : FuncData) : Prop := FunD K "partners_of" "partners_of" (defArgs st_partners_of) (defBody st_partners_of) sc_partners_of [] [] f fd
theorem S_partners_of : FnScope N_partners_of P_partners_of sc_partners_of := ⟨rfl, rfl, rfl, by decide +kernel, rfl, by decide +kernel, by decide +kernel⟩
abbrev st_law_pot : Stmt := top 32
abbrev sc_law_pot : Scope := defScope st_law_pot
abbrev N_law_pot : List Str := ["_law_script", "_law_k", "_law_cell"]
abbrev P_law_pot : List Str := ["_law_script", "_law_k"]
abbrev Fd_law_pot (K : PySem.W.Frag) (f : Addr) (fd : FuncData) : Prop := FunD K "_law_pot" "_law_pot" (defArgs st_law_pot) (defBody st_law_pot) sc_law_pot [] [] f fd
theorem S_law_pot : FnScope N_law_pot P_law_pot sc_law_pot := ⟨rfl, rfl, rfl, by decide +kernel, rfl, by decide +kernel, by decide +kernel⟩
abbrev st_law_take : Stmt := top 33
abbrev sc_law_take : Scope := defScope st_law_take
abbrev N_law_take : List Str := ["_law_pot_here", "_law_wide", "_law_digit"]
abbrev P_law_take : List Str := ["_law_pot_here", "_law_wide"]
abbrev Fd_law_take (K : PySem.W.Frag) (f : Addr) (fd : FuncData) : Prop := FunD K "_law_take" "_law_take" (defArgs st_law_take) (defBody st_law_take) sc_law_take [] [] f fd
theorem S_law_take : FnScope N_law_take P_law_take sc_law_take := ⟨rfl, rfl, rfl, by decide +kernel, rfl, by decide +kernel, by decide +kernel⟩
abbrev st_law_one : Stmt := top 34
abbrev sc_law_one : Scope := defScope st_law_one
abbrev N_law_one : List Str := ["_law_pot_here", "_law_some"]
abbrev P_law_one : List Str := ["_law_pot_here", "_law_some"]
abbrev Fd_law_one (K : PySem.W.Frag) (f : Addr) (fd : FuncData) : Prop := FunD K "_law_one" "_law_one" (defArgs st_law_one) (defBody st_law_one) sc_law_one [] [] f fd
theorem S_law_one : FnScope N_law_one P_law_one sc_law_one := ⟨rfl, rfl, rfl, by decide +kernel, rfl, by decide +kernel, by decide +kernel⟩
abbrev st_law_count : Stmt := top 35
abbrev sc_law_count : Scope := defScope st_law_count
abbrev N_law_count : List Str := ["_law_pot_here", "_law_beyond"]
abbrev P_law_count : List Str := ["_law_pot_here", "_law_beyond"]
abbrev Fd_law_count (K : PySem.W.Frag) (f : Addr) (fd : FuncData) : Prop := FunD K "_law_count" "_law_count" (defArgs st_law_count) (defBody st_law_count) sc_law_count [] [] f fd
theorem S_law_count : FnScope N_law_count P_law_count sc_law_count := ⟨rfl, rfl, rfl, by decide +kernel, rfl, by decide +kernel, by decide +kernel⟩
abbrev st_law_line : Stmt := top 36
abbrev sc_law_line : Scope := defScope st_law_line
abbrev N_law_line : List Str := ["_law_pot_here", "_law_opened", "_law_beyond", "_law_letters", "_law_low", "_law_way", "_law_goal", "_law_number"]
abbrev P_law_line : List Str := ["_law_pot_here", "_law_opened", "_law_beyond"]
abbrev Fd_law_line (K : PySem.W.Frag) (f : Addr) (fd : FuncData) : Prop := FunD K "_law_line" "_law_line" (defArgs st_law_line) (defBody st_law_line) sc_law_line [] [] f fd
theorem S_law_line : FnScope N_law_line P_law_line sc_law_line := ⟨rfl, rfl, rfl, by decide +kernel, rfl, by decide +kernel, by decide +kernel⟩
abbrev st_law_lines : Stmt := top 37
abbrev sc_law_lines : Scope := defScope st_law_lines
abbrev N_law_lines : List Str := ["_law_pot_here", "_law_wide", "_law_beyond", "_law_turn", "_law_made", "_law_opened", "_law_line_here"]
abbrev P_law_lines : List Str := ["_law_pot_here", "_law_wide", "_law_beyond"]
abbrev Fd_law_lines (K : PySem.W.Frag) (f : Addr) (fd : FuncData) : Prop := FunD K "_law_lines" "_law_lines" (defArgs st_law_lines) (defBody st_law_lines) sc_law_lines [] [] f fd
theorem S_law_lines : FnScope N_law_lines P_law_lines sc_law_lines := ⟨rfl, rfl, rfl, by decide +kernel, rfl, by decide +kernel, by decide +kernel⟩
abbrev st_law_deep : Stmt := top 38
abbrev sc_law_deep : Scope := defScope st_law_deep
abbrev N_law_deep : List Str := ["_law_lines_here", "_law_at", "_law_deep_here", "_law_line_here"]
abbrev P_law_deep : List Str := ["_law_lines_here", "_law_at"]
abbrev Fd_law_deep (K : PySem.W.Frag) (f : Addr) (fd : FuncData) : Prop := FunD K "_law_deep" "_law_deep" (defArgs st_law_deep) (defBody st_law_deep) sc_law_deep [] [] f fd
theorem S_law_deep : FnScope N_law_deep P_law_deep sc_law_deep := ⟨rfl, rfl, rfl, by decide +kernel, rfl, by decide +kernel, by decide +kernel⟩
abbrev st_law_is_count : Stmt := top 39
abbrev sc_law_is_count : Scope := defScope st_law_is_count
abbrev N_law_is_count : List Str := ["_law_thing"]
abbrev P_law_is_count : List Str := ["_law_thing"]
abbrev Fd_law_is_count (K : PySem.W.Frag) (f : Addr) (fd : FuncData) : Prop := FunD K "_law_is_count" "_law_is_count" (defArgs st_law_is_count) (defBody st_law_is_count) sc_law_is_count [] [] f fd
theorem S_law_is_count : FnScope N_law_is_count P_law_is_count sc_law_is_count := ⟨rfl, rfl, rfl, by decide +kernel, rfl, by decide +kernel, by decide +kernel⟩
abbrev st_law_are_counts : Stmt := top 40
abbrev sc_law_are_counts : Scope := defScope st_law_are_counts
abbrev N_law_are_counts : List Str := ["_law_thing", "_law_many", "_law_one_here"]
abbrev P_law_are_counts : List Str := ["_law_thing", "_law_many"]
abbrev Fd_law_are_counts (K : PySem.W.Frag) (f : Addr) (fd : FuncData) : Prop := FunD K "_law_are_counts" "_law_are_counts" (defArgs st_law_are_counts) (defBody st_law_are_counts) sc_law_are_counts [] [] f fd
theorem S_law_are_counts : FnScope N_law_are_counts P_law_are_counts sc_law_are_counts := ⟨rfl, rfl, rfl, by decide +kernel, rfl, by decide +kernel, by decide +kernel⟩
abbrev st_law_is_moment : Stmt := top 41
abbrev sc_law_is_moment : Scope := defScope st_law_is_moment
abbrev N_law_is_moment : List Str := ["_law_lines_here", "_law_thing"]
abbrev P_law_is_moment : List Str := ["_law_lines_here", "_law_thing"]
abbrev Fd_law_is_moment (K : PySem.W.Frag) (f : Addr) (fd : FuncData) : Prop := FunD K "_law_is_moment" "_law_is_moment" (defArgs st_law_is_moment) (defBody st_law_is_moment) sc_law_is_moment [] [] f fd
theorem S_law_is_moment : FnScope N_law_is_moment P_law_is_moment sc_law_is_moment := ⟨rfl, rfl, rfl, by decide +kernel, rfl, by decide +kernel, by decide +kernel⟩
abbrev st_law_drawn : Stmt := top 42
abbrev sc_law_drawn : Scope := defScope st_law_drawn
abbrev N_law_drawn : List Str := ["_law_pot_here", "_law_lines_here", "_law_numbers", "_law_at", "_law_letter", "_law_turn"]
abbrev P_law_drawn : List Str := ["_law_pot_here", "_law_lines_here"]
abbrev Fd_law_drawn (K : PySem.W.Frag) (f : Addr) (fd : FuncData) : Prop := FunD K "_law_drawn" "_law_drawn" (defArgs st_law_drawn) (defBody st_law_drawn) sc_law_drawn [] [] f fd
theorem S_law_drawn : FnScope N_law_drawn P_law_drawn sc_law_drawn := ⟨rfl, rfl, rfl, by decide +kernel, rfl, by decide +kernel, by decide +kernel⟩
abbrev st_law_odd_number : Stmt := top 43
abbrev sc_law_odd_number : Scope := defScope st_law_odd_number
abbrev N_law_odd_number : List Str := ["_law_pot_here", "_law_own"]
abbrev P_law_odd_number : List Str := ["_law_pot_here", "_law_own"]
abbrev Fd_law_odd_number (K : PySem.W.Frag) (f : Addr) (fd : FuncData) : Prop := FunD K "_law_odd_number" "_law_odd_number" (defArgs st_law_odd_number) (defBody st_law_odd_number) sc_law_odd_number [] [] f fd
theorem S_law_odd_number : FnScope N_law_odd_number P_law_odd_number sc_law_odd_number := ⟨rfl, rfl, rfl, by decide +kernel, rfl, by decide +kernel, by decide +kernel⟩
abbrev st_law_odd_row : Stmt := top 44
abbrev sc_law_odd_row : Scope := defScope st_law_odd_row
abbrev N_law_odd_row : List Str := ["_law_pot_here", "_law_row", "_law_at", "_law_some"]
abbrev P_law_odd_row : List Str := ["_law_pot_here", "_law_row"]
abbrev Fd_law_odd_row (K : PySem.W.Frag) (f : Addr) (fd : FuncData) : Prop := FunD K "_law_odd_row" "_law_odd_row" (defArgs st_law_odd_row) (defBody st_law_odd_row) sc_law_odd_row [] [] f fd
theorem S_law_odd_row : FnScope N_law_odd_row P_law_odd_row sc_law_odd_row := ⟨rfl, rfl, rfl, by decide +kernel, rfl, by decide +kernel, by decide +kernel⟩
abbrev st_law_odd : Stmt := top 45
abbrev sc_law_odd : Scope := defScope st_law_odd
abbrev N_law_odd : List Str := ["_law_pot_here", "_law_lines_here", "_law_spot", "_law_way", "_law_numbers", "_law_at", "_law_left", "_law_some"]
abbrev P_law_odd : List Str := ["_law_pot_here", "_law_lines_here", "_law_spot"]
abbrev Fd_law_odd (K : PySem.W.Frag) (f : Addr) (fd : FuncData) : Prop := FunD K "_law_odd" "_law_odd" (defArgs st_law_odd) (defBody st_law_odd) sc_law_odd [] [] f fd
theorem S_law_odd : FnScope N_law_odd P_law_odd sc_law_odd := ⟨rfl, rfl, rfl, by decide +kernel, rfl, by decide +kernel, by decide +kernel⟩
abbrev st_law_truth : Stmt := top 46
abbrev sc_law_truth : Scope := defScope st_law_truth
abbrev N_law_truth : List Str := ["_law_found", "_law_due"]
abbrev P_law_truth : List Str := ["_law_found", "_law_due"]
abbrev Fd_law_truth (K : PySem.W.Frag) (f : Addr) (fd : FuncData) : Prop := FunD K "_law_truth" "_law_truth" (defArgs st_law_truth) (defBody st_law_truth) sc_law_truth [] [] f fd
theorem S_law_truth : FnScope N_law_truth P_law_truth sc_law_truth := ⟨rfl, rfl, rfl, by decide +kernel, rfl, by decide +kernel, by decide +kernel⟩
abbrev st_law_right : Stmt := top 47
abbrev sc_law_right : Scope := defScope st_law_right
abbrev N_law_right : List Str := ["_law_program", "_law_lines_here", "_law_thing", "_law_shown", "_law_due"]
abbrev P_law_right : List Str := ["_law_program", "_law_lines_here", "_law_thing"]
abbrev Fd_law_right (K : PySem.W.Frag) (f : Addr) (fd : FuncData) : Prop := FunD K "_law_right" "_law_right" (defArgs st_law_right) (defBody st_law_right) sc_law_right [] [] f fd
theorem S_law_right : FnScope N_law_right P_law_right sc_law_right := ⟨rfl, rfl, rfl, by decide +kernel, rfl, by decide +kernel, by decide +kernel⟩
abbrev st_law : Stmt := top 48
abbrev sc_law : Scope := defScope st_law
abbrev N_law : List Str := ["_law_script", "_law_k", "_law_pot_here", "_law_lines_here", "_law_program", "_law_turn", "_law_spot", "_law_odd_here", "_law_begun"]
abbrev P_law : List Str := ["_law_script"]
abbrev Fd_law (K : PySem.W.Frag) (f : Addr) (fd : FuncData) : Prop := FunD K "law" "law" (defArgs st_law) (defBody st_law) sc_law [] [] f fd
theorem S_law : FnScope N_law P_law sc_law := ⟨rfl, rfl, rfl, by decide +kernel, rfl, by decide +kernel, by decide +kernel⟩
abbrev st_m_Program_init : Stmt := (clsB (top 30)).getD 0 (.Pass ⟨0, 0, 0, 0⟩)
abbrev sc_m_Program_init : Scope := defScope st_m_Program_init
abbrev N_m_Program_init : List Str := ["self", "rows", "wrong"]
abbrev P_m_Program_init : List Str := ["self", "rows"]
abbrev Fd_m_Program_init (K : PySem.W.Frag) (f : Addr) (fd : FuncData) : Prop := FunD K "__init__" "Program.__init__" (defArgs st_m_Program_init) (defBody st_m_Program_init) sc_m_Program_init [] [] f fd
theorem S_m_Program_init : FnScope N_m_Program_init P_m_Program_init sc_m_Program_init := ⟨rfl, rfl, rfl, by decide +kernel, rfl, by decide +kernel, by decide +kernel⟩
abbrev st_m_Program_want_place : Stmt := (clsB (top 30)).getD 1 (.Pass ⟨0, 0, 0, 0⟩)
abbrev sc_m_Program_want_place : Scope := defScope st_m_Program_want_place
abbrev N_m_Program_want_place : List Str := ["self", "place", "upto"]
abbrev P_m_Program_want_place : List Str := ["self", "place", "upto"]
abbrev Fd_m_Program_want_place (K : PySem.W.Frag) (f : Addr) (fd : FuncData) : Prop := FunD K "want_place" "Program.want_place" (defArgs st_m_Program_want_place) (defBody st_m_Program_want_place) sc_m_Program_want_place [] [] f fd
theorem S_m_Program_want_place : FnScope N_m_Program_want_place P_m_Program_want_place sc_m_Program_want_place := ⟨rfl, rfl, rfl, by decide +kernel, rfl, by decide +kernel, by decide +kernel⟩
abbrev st_m_Program_around : Stmt := (clsB (top 30)).getD 4 (.Pass ⟨0, 0, 0, 0⟩)
abbrev sc_m_Program_around : Scope := defScope st_m_Program_around
abbrev N_m_Program_around : List Str := ["self", "place"]
abbrev P_m_Program_around : List Str := ["self", "place"]
abbrev Fd_m_Program_around (K : PySem.W.Frag) (f : Addr) (fd : FuncData) : Prop := FunD K "around" "Program.around" (defArgs st_m_Program_around) (defBody st_m_Program_around) sc_m_Program_around [] [] f fd
theorem S_m_Program_around : FnScope N_m_Program_around P_m_Program_around sc_m_Program_around := ⟨rfl, rfl, rfl, by decide +kernel, rfl, by decide +kernel, by decide +kernel⟩
abbrev st_m_Program_len : Stmt := (clsB (top 30)).getD 8 (.Pass ⟨0, 0, 0, 0⟩)
abbrev sc_m_Program_len : Scope := defScope st_m_Program_len
abbrev N_m_Program_len : List Str := ["self"]
abbrev P_m_Program_len : List Str := ["self"]
abbrev Fd_m_Program_len (K : PySem.W.Frag) (f : Addr) (fd : FuncData) : Prop := FunD K "__len__" "Program.__len__" (defArgs st_m_Program_len) (defBody st_m_Program_len) sc_m_Program_len [] [] f fd
theorem S_m_Program_len : FnScope N_m_Program_len P_m_Program_len sc_m_Program_len := ⟨rfl, rfl, rfl, by decide +kernel, rfl, by decide +kernel, by decide +kernel⟩
structure Bs_ (mg : Str → Option Value) : Prop where
  b_abs : mg "abs" = none
  b_all : mg "all" = none
  b_bool : mg "bool" = none
  b_divmod : mg "divmod" = none
  b_enumerate : mg "enumerate" = none
  b_int : mg "int" = none
  b_isinstance : mg "isinstance" = none
  b_len : mg "len" = none
  b_list : mg "list" = none
  b_max : mg "max" = none
  b_min : mg "min" = none
  b_range : mg "range" = none
  b_repr : mg "repr" = none
  b_str : mg "str" = none
  b_tuple : mg "tuple" = none
structure Zs_ (K : PySem.W.Frag) (mg : Str → Option Value) : Prop where
  g_MOST_DEEP : ∃ t, mg "MOST_DEEP" = some (.int 3 t)
  g_MOST_ROWS : ∃ t, mg "MOST_ROWS" = some (.int 40 t)
  g_REGISTERS : GTup K mg "REGISTERS" [[97], [98], [99], [100], [101]]
  at_Program : mg "Program" = some (.ref ((Tt K).cA 0))
  cl_Program : Cls K ((Tt K).cA 0)
  na_Program_partners : NoAttr K ((Tt K).cA 0) "partners"
  na_Program_lines : NoAttr K ((Tt K).cA 0) "lines"
  na_Program_arounds : NoAttr K ((Tt K).cA 0) "arounds"
theorem clsok {K : PySem.W.Frag} {mg : Str → Option Value} (Z : Zs_ K mg) (n : Nat) : ClsOk (Tt K) (G n) := by
  have go : ∀ c f, freeF c f = true → Cls K ((Tt K).cA c) ∧ NoAttr K ((Tt K).cA c) ((Tt K).an f) := fun c f h => by
    unfold freeF at h
    rw [Bool.and_eq_true] at h
    have h1 : c < 1 := of_decide_eq_true h.1
    have h2 : f = 4 ∨ f = 5 ∨ f = 6 := by simpa using h.2
    have h1 : c = 0 := by omega
    rcases h1 with rfl <;> rcases h2 with rfl | rfl | rfl
    · exact ⟨Z.cl_Program, Z.na_Program_partners⟩
    · exact ⟨Z.cl_Program, Z.na_Program_lines⟩
    · exact ⟨Z.cl_Program, Z.na_Program_arounds⟩
  have e : ∀ c f, (G n).free c f = freeF c f := fun c f => by cases n <;> rfl
  exact ⟨fun c f h => (go c f (by rw [← e]; exact h)).1, fun c f h => (go c f (by rw [← e]; exact h)).2⟩
theorem init_Program (n : Nat) : (G n).init 0 = some i_dn_Program_init := by cases n <;> rfl
structure Cs (P : Program) (w : World) (K : PySem.W.Frag) (mg : Str → Option Value) (base : Heap) (n : Nat) : Prop where
  c_is_whole : CalG P w K mg base (Tt K) ((G n).fn i_is_whole) n 1 "is_whole" 1 [] (List.range 1) []
  c_is_count : CalG P w K mg base (Tt K) ((G n).fn i_is_count) n 1 "is_count" 1 [] (List.range 1) []
  c_is_register : CalG P w K mg base (Tt K) ((G n).fn i_is_register) n 1 "is_register" 1 [] (List.range 1) []
  c_rank : CalG P w K mg base (Tt K) ((G n).fn i_rank) n 1 "rank" 1 [] (List.range 1) []
  c_is_values : CalG P w K mg base (Tt K) ((G n).fn i_is_values) n 1 "is_values" 1 [] (List.range 1) []
  c_may_be_added : CalG P w K mg base (Tt K) ((G n).fn i_may_be_added) n 2 "may_be_added" 2 [] (List.range 2) []
  c_is_row : CalG P w K mg base (Tt K) ((G n).fn i_is_row) n 1 "is_row" 1 [] (List.range 1) []
  c_is_moment : CalG P w K mg base (Tt K) ((G n).fn i_is_moment) n 2 "is_moment" 2 [] (List.range 2) []
  c_want_moment : CalG P w K mg base (Tt K) ((G n).fn i_want_moment) n 2 "want_moment" 2 [] (List.range 2) []
  c_is_over : CalG P w K mg base (Tt K) ((G n).fn i_is_over) n 2 "is_over" 2 [] (List.range 2) []
  c_first_moment : CalG P w K mg base (Tt K) ((G n).fn i_first_moment) n 2 "first_moment" 2 [] (List.range 2) []
  c_may_stand : CalG P w K mg base (Tt K) ((G n).fn i_may_stand) n 2 "may_stand" 2 [] (List.range 2) []
  c_first_wrong : CalG P w K mg base (Tt K) ((G n).fn i_first_wrong) n 1 "first_wrong" 1 [] (List.range 1) []
  c_repeats_around : CalG P w K mg base (Tt K) ((G n).fn i_repeats_around) n 1 "repeats_around" 1 [] (List.range 1) []
  c_partners_of : CalG P w K mg base (Tt K) ((G n).fn i_partners_of) n 2 "partners_of" 2 [] (List.range 2) []
  c_law_pot : CalG P w K mg base (Tt K) ((G n).fn i_law_pot) n 2 "_law_pot" 2 [] (List.range 2) []
  c_law_take : CalG P w K mg base (Tt K) ((G n).fn i_law_take) n 2 "_law_take" 2 [] (List.range 2) []
  c_law_one : CalG P w K mg base (Tt K) ((G n).fn i_law_one) n 2 "_law_one" 2 [] (List.range 2) []
  c_law_count : CalG P w K mg base (Tt K) ((G n).fn i_law_count) n 2 "_law_count" 2 [] (List.range 2) []
  c_law_line : CalG P w K mg base (Tt K) ((G n).fn i_law_line) n 3 "_law_line" 3 [] (List.range 3) []
  c_law_lines : CalG P w K mg base (Tt K) ((G n).fn i_law_lines) n 3 "_law_lines" 3 [] (List.range 3) []
  c_law_deep : CalG P w K mg base (Tt K) ((G n).fn i_law_deep) n 2 "_law_deep" 2 [] (List.range 2) []
  c_law_is_count : CalG P w K mg base (Tt K) ((G n).fn i_law_is_count) n 1 "_law_is_count" 1 [] (List.range 1) []
  c_law_are_counts : CalG P w K mg base (Tt K) ((G n).fn i_law_are_counts) n 2 "_law_are_counts" 2 [] (List.range 2) []
  c_law_is_moment : CalG P w K mg base (Tt K) ((G n).fn i_law_is_moment) n 2 "_law_is_moment" 2 [] (List.range 2) []
  c_law_drawn : CalG P w K mg base (Tt K) ((G n).fn i_law_drawn) n 2 "_law_drawn" 2 [] (List.range 2) []
  c_law_odd_number : CalG P w K mg base (Tt K) ((G n).fn i_law_odd_number) n 2 "_law_odd_number" 2 [] (List.range 2) []
  c_law_odd_row : CalG P w K mg base (Tt K) ((G n).fn i_law_odd_row) n 2 "_law_odd_row" 2 [] (List.range 2) []
  c_law_odd : CalG P w K mg base (Tt K) ((G n).fn i_law_odd) n 3 "_law_odd" 3 [] (List.range 3) []
  c_law_truth : CalG P w K mg base (Tt K) ((G n).fn i_law_truth) n 2 "_law_truth" 2 [] (List.range 2) []
  c_law_right : CalG P w K mg base (Tt K) ((G n).fn i_law_right) n 3 "_law_right" 3 [] (List.range 3) []
  c_law : CalG P w K mg base (Tt K) ((G n).fn i_law) n 1 "law" 1 [] (List.range 1) []
  o_around : ∀ c f, (G n).meth c mt_around = some f → CalM P w K mg base (Tt K) ((G n).fn f) n c mt_around
  o_want_place : ∀ c f, (G n).meth c mt_want_place = some f → CalM P w K mg base (Tt K) ((G n).fn f) n c mt_want_place
  l_len : ∀ c f, (G n).meth c 1 = some f → CalS P w K mg base (Tt K) ((G n).fn f) n c "__len__"
  k_Program : ClsK P w K mg base (Tt K) ((G n).fn i_dn_Program_init) n 0 2 "Program"
  r_m_Program_init : ∀ fa fd, Fd_m_Program_init K fa fd → FnG P w K mg base n fa fd P_m_Program_init (SpF (Tt K) 2 ((G n).fn i_m_Program_init))
  r_m_Program_len : ∀ fa fd, Fd_m_Program_len K fa fd → FnG P w K mg base n fa fd P_m_Program_len (SpF (Tt K) 1 ((G n).fn i_m_Program_len))
section
variable {P : Program} {w : World} {K : PySem.W.Frag} {mg : Str → Option Value} {base : Heap} {n : Nat} {f : Addr} {fd : FuncData}
theorem ok_is_whole (B : Bs_ mg) (Z : Zs_ K mg) (Co : Cs P w K mg base n) (F : Fd_is_whole K f fd) : FnG P w K mg base (n + 1) f fd P_is_whole (SpF (Tt K) 1 ((G (n + 1)).fn i_is_whole)) :=
  fn_okG (T := Tt K) (G := G n) (d := d_is_whole) (N := N_is_whole) F S_is_whole rfl rfl rfl fun cdv A outer s H E c hr =>
    show PSs _ _ (rdS (Tt K) (WD E) (MStmt.sts b_is_whole) (execs (G n) b_is_whole)) from
    (ss_cons (s_ret (r_and (r_isk c.ok B.b_isinstance B.b_int (by decide +kernel) (r_var)) (r_one (r_not c.ok (r_isk c.ok B.b_isinstance B.b_bool (by decide +kernel) (r_var)))))) ss_nil)
theorem ok_is_count (B : Bs_ mg) (Z : Zs_ K mg) (Co : Cs P w K mg base n) (F : Fd_is_count K f fd) : FnG P w K mg base (n + 1) f fd P_is_count (SpF (Tt K) 1 ((G (n + 1)).fn i_is_count)) :=
  fn_okG (T := Tt K) (G := G n) (d := d_is_count) (N := N_is_count) F S_is_count rfl rfl rfl fun cdv A outer s H E c hr =>
    show PSs _ _ (rdS (Tt K) (WD E) (MStmt.sts b_is_count) (execs (G n) b_is_count)) from
    (ss_cons (s_ret (r_and (r_callG c Co.c_is_whole hr rfl (a_cons (r_var) a_nil)) (r_one (r_cmp c.ok .ge (r_var) r_int)))) ss_nil)
theorem ok_is_register (B : Bs_ mg) (Z : Zs_ K mg) (Co : Cs P w K mg base n) (F : Fd_is_register K f fd) : FnG P w K mg base (n + 1) f fd P_is_register (SpF (Tt K) 1 ((G (n + 1)).fn i_is_register)) :=
  fn_okG (T := Tt K) (G := G n) (d := d_is_register) (N := N_is_register) F S_is_register rfl rfl rfl fun cdv A outer s H E c hr =>
    show PSs _ _ (rdS (Tt K) (WD E) (MStmt.sts b_is_register) (execs (G n) b_is_register)) from
    (ss_cons (s_ret (r_and (r_isk c.ok B.b_isinstance B.b_str (by decide +kernel) (r_var)) (r_one (r_cmp c.ok .isIn (r_var) (r_gtup c.ok Z.g_REGISTERS))))) ss_nil)
theorem ok_rank (B : Bs_ mg) (Z : Zs_ K mg) (Co : Cs P w K mg base n) (F : Fd_rank K f fd) : FnG P w K mg base (n + 1) f fd P_rank (SpF (Tt K) 1 ((G (n + 1)).fn i_rank)) :=
  fn_okG (T := Tt K) (G := G n) (d := d_rank) (N := N_rank) F S_rank rfl rfl rfl fun cdv A outer s H E c hr =>
    show PSs _ _ (rdS (Tt K) (WD E) (MStmt.sts b_rank) (execs (G n) b_rank)) from
    (ss_cons (s_ret (r_gtidx c.ok Z.g_REGISTERS (a_cons (r_var) a_nil))) ss_nil)
theorem ok_is_values (B : Bs_ mg) (Z : Zs_ K mg) (Co : Cs P w K mg base n) (F : Fd_is_values K f fd) : FnG P w K mg base (n + 1) f fd P_is_values (SpF (Tt K) 1 ((G (n + 1)).fn i_is_values)) :=
  fn_okG (T := Tt K) (G := G n) (d := d_is_values) (N := N_is_values) F S_is_values rfl rfl rfl fun cdv A outer s H E c hr =>
    show PSs _ _ (rdS (Tt K) (WD E) (MStmt.sts b_is_values) (execs (G n) b_is_values)) from
    (ss_cons (s_ret (r_and (r_isk c.ok B.b_isinstance B.b_tuple (by decide +kernel) (r_var)) (r_and (r_cmp c.ok .eq (r_len1 c.ok Co.l_len hr c.tk B.b_len (r_var)) (r_len1 c.ok Co.l_len hr c.tk B.b_len (r_gtup c.ok Z.g_REGISTERS))) (r_one (r_blt c.ok .all B.b_all (by decide +kernel) (a_cons (r_comp c.ok [("one", 1)] (i_seq c.ok (r_var)) (blkOk_by (N := N_is_values) (sc := sc_is_values) (by decide +kernel)) (fun _ _ _ _ _ => (g_nm (c.blk _ _ _ _ _).ok.nd)) (fun _ _ _ _ _ => c_no) (fun _ _ _ _ _ => (r_callG (c.blk _ _ _ _ _) Co.c_is_count hr rfl (a_cons (r_var) a_nil)))) a_nil)))))) ss_nil)
theorem ok_may_be_added (B : Bs_ mg) (Z : Zs_ K mg) (Co : Cs P w K mg base n) (F : Fd_may_be_added K f fd) : FnG P w K mg base (n + 1) f fd P_may_be_added (SpF (Tt K) 2 ((G (n + 1)).fn i_may_be_added)) :=
  fn_okG (T := Tt K) (G := G n) (d := d_may_be_added) (N := N_may_be_added) F S_may_be_added rfl rfl rfl fun cdv A outer s H E c hr =>
    show PSs _ _ (rdS (Tt K) (WD E) (MStmt.sts b_may_be_added) (execs (G n) b_may_be_added)) from
    (ss_cons (s_ret (r_or (r_callG c Co.c_is_count hr rfl (a_cons (r_var) a_nil)) (r_one (r_and (r_callG c Co.c_is_register hr rfl (a_cons (r_var) a_nil)) (r_one (r_cmp c.ok .lt (r_callG c Co.c_rank hr rfl (a_cons (r_var) a_nil)) (r_callG c Co.c_rank hr rfl (a_cons (r_var) a_nil)))))))) ss_nil)
theorem ok_is_row (B : Bs_ mg) (Z : Zs_ K mg) (Co : Cs P w K mg base n) (F : Fd_is_row K f fd) : FnG P w K mg base (n + 1) f fd P_is_row (SpF (Tt K) 1 ((G (n + 1)).fn i_is_row)) :=
  fn_okG (T := Tt K) (G := G n) (d := d_is_row) (N := N_is_row) F S_is_row rfl rfl rfl fun cdv A outer s H E c hr =>
    show PSs _ _ (rdS (Tt K) (WD E) (MStmt.sts b_is_row) (execs (G n) b_is_row)) from
    (ss_cons (s_if (t_w (t_or (t_not (t_val c.ok (r_isk c.ok B.b_isinstance B.b_tuple (by decide +kernel) (r_var)))) (t_or (t_cmp c.ok .eq (r_len1 c.ok Co.l_len hr c.tk B.b_len (r_var)) r_int) (t_or1 (t_not (t_val c.ok (r_isk c.ok B.b_isinstance B.b_str (by decide +kernel) (r_idx c.ok (r_var) r_int)))))))) (ss_cons (s_ret r_bl) ss_nil) ss_nil) (ss_cons (s_star c.ok (r_var) (gs_cons (g_nm c.ok.nd) (gs_star1 (gs_cons (g_nm c.ok.nd) gs_nil)))) (ss_cons (s_if (t_cmp c.ok .eq (r_var) (r_str (by decide +kernel))) (ss_cons (s_ret (r_cmp c.ok .eq (r_len1 c.ok Co.l_len hr c.tk B.b_len (r_var)) r_int)) ss_nil) ss_nil) (ss_cons (s_if (t_cmp c.ok .eq (r_var) (r_str (by decide +kernel))) (ss_cons (s_ret (r_and (r_cmp c.ok .eq (r_len1 c.ok Co.l_len hr c.tk B.b_len (r_var)) r_int) (r_and (r_callG c Co.c_is_register hr rfl (a_cons (r_idx c.ok (r_var) r_int) a_nil)) (r_one (r_callG c Co.c_may_be_added hr rfl (a_cons (r_idx c.ok (r_var) r_int) (a_cons (r_idx c.ok (r_var) r_int) a_nil))))))) ss_nil) ss_nil) (ss_cons (s_ret (r_and (r_cmp c.ok .isIn (r_var) (r_tup (a_cons (r_str (by decide +kernel)) (a_cons (r_str (by decide +kernel)) a_nil)))) (r_and (r_cmp c.ok .eq (r_len1 c.ok Co.l_len hr c.tk B.b_len (r_var)) r_int) (r_one (r_callG c Co.c_is_register hr rfl (a_cons (r_idx c.ok (r_var) r_int) a_nil)))))) ss_nil)))))
theorem ok_is_moment (B : Bs_ mg) (Z : Zs_ K mg) (Co : Cs P w K mg base n) (F : Fd_is_moment K f fd) : FnG P w K mg base (n + 1) f fd P_is_moment (SpF (Tt K) 2 ((G (n + 1)).fn i_is_moment)) :=
  fn_okG (T := Tt K) (G := G n) (d := d_is_moment) (N := N_is_moment) F S_is_moment rfl rfl rfl fun cdv A outer s H E c hr =>
    show PSs _ _ (rdS (Tt K) (WD E) (MStmt.sts b_is_moment) (execs (G n) b_is_moment)) from
    (ss_cons (s_if (t_w (t_or (t_not (t_val c.ok (r_isk c.ok B.b_isinstance B.b_tuple (by decide +kernel) (r_var)))) (t_or1 (t_cmp c.ok .ne (r_len1 c.ok Co.l_len hr c.tk B.b_len (r_var)) r_int)))) (ss_cons (s_ret r_bl) ss_nil) ss_nil) (ss_cons (s_unp c.ok (r_var) (qs_nm (q_nm c.ok.nd) (qs_nm (q_nm c.ok.nd) (qs_nm (q_nm c.ok.nd) qs_nil)))) (ss_cons (s_if (t_w (t_or (t_not (t_val c.ok (r_callG c Co.c_is_values hr rfl (a_cons (r_var) a_nil)))) (t_or (t_not (t_val c.ok (r_callG c Co.c_is_count hr rfl (a_cons (r_var) a_nil)))) (t_or (t_cmp c.ok .gt (r_var) (r_len1 c.ok Co.l_len hr c.tk B.b_len (r_var))) (t_or1 (t_not (t_val c.ok (r_isk c.ok B.b_isinstance B.b_tuple (by decide +kernel) (r_var))))))))) (ss_cons (s_ret r_bl) ss_nil) ss_nil) (ss_cons (s_ret (r_and (r_cmp c.ok .eq (r_len1 c.ok Co.l_len hr c.tk B.b_len (r_var)) (r_len1 c.ok Co.l_len hr c.tk B.b_len (r_own (m := mt_around) Co.o_around hr c.gd c.tk (r_var) (a_cons (r_var) a_nil)))) (r_one (r_blt c.ok .all B.b_all (by decide +kernel) (a_cons (r_comp c.ok [("number", 5)] (i_seq c.ok (r_var)) (blkOk_by (N := N_is_moment) (sc := sc_is_moment) (by decide +kernel)) (fun _ _ _ _ _ => (g_nm (c.blk _ _ _ _ _).ok.nd)) (fun _ _ _ _ _ => c_no) (fun _ _ _ _ _ => (r_callG (c.blk _ _ _ _ _) Co.c_is_count hr rfl (a_cons (r_var) a_nil)))) a_nil))))) ss_nil))))
theorem ok_want_moment (B : Bs_ mg) (Z : Zs_ K mg) (Co : Cs P w K mg base n) (F : Fd_want_moment K f fd) : FnG P w K mg base (n + 1) f fd P_want_moment (SpF (Tt K) 2 ((G (n + 1)).fn i_want_moment)) :=
  fn_okG (T := Tt K) (G := G n) (d := d_want_moment) (N := N_want_moment) F S_want_moment rfl rfl rfl fun cdv A outer s H E c hr =>
    show PSs _ _ (rdS (Tt K) (WD E) (MStmt.sts b_want_moment) (execs (G n) b_want_moment)) from
    (ss_cons (s_if (t_not (t_val c.ok (r_callG c Co.c_is_moment hr rfl (a_cons (r_var) (a_cons (r_var) a_nil))))) (ss_cons s_never ss_nil) ss_nil) ss_nil)
theorem ok_is_over (B : Bs_ mg) (Z : Zs_ K mg) (Co : Cs P w K mg base n) (F : Fd_is_over K f fd) : FnG P w K mg base (n + 1) f fd P_is_over (SpF (Tt K) 2 ((G (n + 1)).fn i_is_over)) :=
  fn_okG (T := Tt K) (G := G n) (d := d_is_over) (N := N_is_over) F S_is_over rfl rfl rfl fun cdv A outer s H E c hr =>
    show PSs _ _ (rdS (Tt K) (WD E) (MStmt.sts b_is_over) (execs (G n) b_is_over)) from
    (ss_cons (s_exp (r_callG c Co.c_want_moment hr rfl (a_cons (r_var) (a_cons (r_var) a_nil)))) (ss_cons (s_ret (r_cmp c.ok .eq (r_idx c.ok (r_var) r_int) (r_len1 c.ok Co.l_len hr c.tk B.b_len (r_var)))) ss_nil))
theorem ok_first_moment (B : Bs_ mg) (Z : Zs_ K mg) (Co : Cs P w K mg base n) (F : Fd_first_moment K f fd) : FnG P w K mg base (n + 1) f fd P_first_moment (SpF (Tt K) 2 ((G (n + 1)).fn i_first_moment)) :=
  fn_okG (T := Tt K) (G := G n) (d := d_first_moment) (N := N_first_moment) F S_first_moment rfl rfl rfl fun cdv A outer s H E c hr =>
    show PSs _ _ (rdS (Tt K) (WD E) (MStmt.sts b_first_moment) (execs (G n) b_first_moment)) from
    (ss_cons (s_if (t_not (t_val c.ok (r_callG c Co.c_is_values hr rfl (a_cons (r_var) a_nil)))) (ss_cons s_never ss_nil) ss_nil) (ss_cons (s_ret (r_tup (a_cons (r_var) (a_cons r_int (a_cons (r_tup a_nil) a_nil))))) ss_nil))
theorem ok_may_stand (B : Bs_ mg) (Z : Zs_ K mg) (Co : Cs P w K mg base n) (F : Fd_may_stand K f fd) : FnG P w K mg base (n + 1) f fd P_may_stand (SpF (Tt K) 2 ((G (n + 1)).fn i_may_stand)) :=
  fn_okG (T := Tt K) (G := G n) (d := d_may_stand) (N := N_may_stand) F S_may_stand rfl rfl rfl fun cdv A outer s H E c hr =>
    show PSs _ _ (rdS (Tt K) (WD E) (MStmt.sts b_may_stand) (execs (G n) b_may_stand)) from
    (ss_cons (s_if (t_cmp c.ok .eq (r_idx c.ok (r_var) r_int) (r_str (by decide +kernel))) (ss_cons (s_ret (r_cmp c.ok .ne (r_var) (r_lst a_nil))) ss_nil) ss_nil) (ss_cons (s_if (t_cmp c.ok .eq (r_idx c.ok (r_var) r_int) (r_str (by decide +kernel))) (ss_cons (s_ret (r_cmp c.ok .lt (r_len1 c.ok Co.l_len hr c.tk B.b_len (r_var)) (r_gint Z.g_MOST_DEEP))) ss_nil) ss_nil) (ss_cons (s_ret (r_or (r_cmp c.ok .eq (r_idx c.ok (r_var) r_int) (r_str (by decide +kernel))) (r_one (r_blt c.ok .all B.b_all (by decide +kernel) (a_cons (r_comp c.ok [("letter", 2)] (i_seq c.ok (r_var)) (blkOk_by (N := N_may_stand) (sc := sc_may_stand) (by decide +kernel)) (fun _ _ _ _ _ => (g_nm (c.blk _ _ _ _ _).ok.nd)) (fun _ _ _ _ _ => c_no) (fun _ _ _ _ _ => (r_cmp (c.blk _ _ _ _ _).ok .lt (r_callG (c.blk _ _ _ _ _) Co.c_rank hr rfl (a_cons (r_var) a_nil)) (r_callG (c.blk _ _ _ _ _) Co.c_rank hr rfl (a_cons (r_idx (c.blk _ _ _ _ _).ok (r_var) r_int) a_nil))))) a_nil))))) ss_nil)))
theorem ok_first_wrong (B : Bs_ mg) (Z : Zs_ K mg) (Co : Cs P w K mg base n) (F : Fd_first_wrong K f fd) : FnG P w K mg base (n + 1) f fd P_first_wrong (SpF (Tt K) 1 ((G (n + 1)).fn i_first_wrong)) :=
  fn_okG (T := Tt K) (G := G n) (d := d_first_wrong) (N := N_first_wrong) F S_first_wrong rfl rfl rfl fun cdv A outer s H E c hr =>
    show PSs _ _ (rdS (Tt K) (WD E) (MStmt.sts b_first_wrong) (execs (G n) b_first_wrong)) from
    (ss_cons (s_set true c.ok.nd (r_lst a_nil)) (ss_cons (s_for c.ok c.po (i_enum c.ok B.b_enumerate (r_var)) (g_tp c.ok (gs_cons (g_nm c.ok.nd) (gs_cons (g_nm c.ok.nd) gs_nil))) (ss_cons (s_if (t_w (t_or (t_cmp c.ok .ge (r_var) (r_gint Z.g_MOST_ROWS)) (t_or (t_not (t_val c.ok (r_callG c Co.c_is_row hr rfl (a_cons (r_var) a_nil)))) (t_or1 (t_not (t_val c.ok (r_callG c Co.c_may_stand hr rfl (a_cons (r_var) (a_cons (r_var) a_nil))))))))) (ss_cons (s_ret (r_var)) ss_nil) ss_nil) (ss_cons (s_if (t_cmp c.ok .eq (r_idx c.ok (r_var) r_int) (r_str (by decide +kernel))) (ss_cons (s_exp (r_m_append c.ok (r_var) (a_cons (r_idx c.ok (r_var) r_int) a_nil))) ss_nil) (ss_cons (s_if (t_cmp c.ok .eq (r_idx c.ok (r_var) r_int) (r_str (by decide +kernel))) (ss_cons (s_exp (r_m_pop c.ok (r_var))) ss_nil) ss_nil) ss_nil)) ss_nil))) (ss_cons (s_ret (r_ite (t_val c.ok (r_var)) (r_len1 c.ok Co.l_len hr c.tk B.b_len (r_var)) r_non)) ss_nil)))
theorem ok_repeats_around (B : Bs_ mg) (Z : Zs_ K mg) (Co : Cs P w K mg base n) (F : Fd_repeats_around K f fd) : FnG P w K mg base (n + 1) f fd P_repeats_around (SpF (Tt K) 1 ((G (n + 1)).fn i_repeats_around)) :=
  fn_okG (T := Tt K) (G := G n) (d := d_repeats_around) (N := N_repeats_around) F S_repeats_around rfl rfl rfl fun cdv A outer s H E c hr =>
    show PSs _ _ (rdS (Tt K) (WD E) (MStmt.sts b_repeats_around) (execs (G n) b_repeats_around)) from
    (ss_cons (s_par c.ok true true (r_lst a_nil) (r_lst a_nil)) (ss_cons (s_for c.ok c.po (i_enum c.ok B.b_enumerate (r_var)) (g_tp c.ok (gs_cons (g_nm c.ok.nd) (gs_cons (g_nm c.ok.nd) gs_nil))) (ss_cons (s_exp (r_m_append c.ok (r_var) (a_cons (r_blt c.ok .list B.b_list (by decide +kernel) (a_cons (r_var) a_nil)) a_nil))) (ss_cons (s_if (t_cmp c.ok .eq (r_idx c.ok (r_var) r_int) (r_str (by decide +kernel))) (ss_cons (s_exp (r_m_append c.ok (r_var) (a_cons (r_var) a_nil))) ss_nil) (ss_cons (s_if (t_cmp c.ok .eq (r_idx c.ok (r_var) r_int) (r_str (by decide +kernel))) (ss_cons (s_exp (r_m_pop c.ok (r_var))) ss_nil) ss_nil) ss_nil)) ss_nil))) (ss_cons (s_ret (r_bin c.ok .add (r_var) (r_lst (a_cons (r_lst a_nil) a_nil)))) ss_nil)))
theorem ok_partners_of (B : Bs_ mg) (Z : Zs_ K mg) (Co : Cs P w K mg base n) (F : Fd_partners_of K f fd) : FnG P w K mg base (n + 1) f fd P_partners_of (SpF (Tt K) 2 ((G (n + 1)).fn i_partners_of)) :=
  fn_okG (T := Tt K) (G := G n) (d := d_partners_of) (N := N_partners_of) F S_partners_of rfl rfl rfl fun cdv A outer s H E c hr =>
    show PSs _ _ (rdS (Tt K) (WD E) (MStmt.sts b_partners_of) (execs (G n) b_partners_of)) from
    (ss_cons (s_set true c.ok.nd r_dic0) (ss_cons (s_for c.ok c.po (i_enum c.ok B.b_enumerate (r_var)) (g_tp c.ok (gs_cons (g_nm c.ok.nd) (gs_cons (g_nm c.ok.nd) gs_nil))) (ss_cons (s_if (t_cmp c.ok .eq (r_idx c.ok (r_var) r_int) (r_str (by decide +kernel))) (ss_cons (s_sub c.ok (r_idx c.ok (r_idx c.ok (r_var) (r_var)) (r_neg r_int)) (r_var) (r_var)) (ss_cons (s_sub c.ok (r_var) (r_var) (r_idx c.ok (r_var) (r_var))) ss_nil)) ss_nil) ss_nil)) (ss_cons (s_ret (r_var)) ss_nil)))
theorem ok_law_pot (B : Bs_ mg) (Z : Zs_ K mg) (Co : Cs P w K mg base n) (F : Fd_law_pot K f fd) : FnG P w K mg base (n + 1) f fd P_law_pot (SpF (Tt K) 2 ((G (n + 1)).fn i_law_pot)) :=
  fn_okG (T := Tt K) (G := G n) (d := d_law_pot) (N := N_law_pot) F S_law_pot rfl rfl rfl fun cdv A outer s H E c hr =>
    show PSs _ _ (rdS (Tt K) (WD E) (MStmt.sts b_law_pot) (execs (G n) b_law_pot)) from
    (ss_cons (s_set false c.ok.nd (r_ite (t_cmp c.ok .lt (r_var) (r_len1 c.ok Co.l_len hr c.tk B.b_len (r_var))) (r_idx c.ok (r_var) (r_var)) r_int)) (ss_cons (s_ret (r_lst (a_cons (r_blt c.ok .max2 B.b_max (by decide +kernel) (a_cons r_int (a_cons (r_bin c.ok .sub (r_blt c.ok .abs B.b_abs (by decide +kernel) (a_cons (r_var) a_nil)) (r_bin c.ok .pow r_int r_int)) a_nil))) (a_cons (r_bin c.ok .mod (r_bin c.ok .add (r_bin c.ok .add (r_bin c.ok .mul (r_bin c.ok .mod (r_blt c.ok .abs B.b_abs (by decide +kernel) (a_cons (r_var) a_nil)) r_int) r_int) (r_bin c.ok .mul r_int (r_var))) r_int) r_int) a_nil)))) ss_nil))
theorem ok_law_take (B : Bs_ mg) (Z : Zs_ K mg) (Co : Cs P w K mg base n) (F : Fd_law_take K f fd) : FnG P w K mg base (n + 1) f fd P_law_take (SpF (Tt K) 2 ((G (n + 1)).fn i_law_take)) :=
  fn_okG (T := Tt K) (G := G n) (d := d_law_take) (N := N_law_take) F S_law_take rfl rfl rfl fun cdv A outer s H E c hr =>
    show PSs _ _ (rdS (Tt K) (WD E) (MStmt.sts b_law_take) (execs (G n) b_law_take)) from
    (ss_cons (s_if (t_cmp c.ok .gt (r_idx c.ok (r_var) r_int) r_int) (ss_cons (s_unp c.ok (r_blt c.ok .divmod B.b_divmod (by decide +kernel) (a_cons (r_idx c.ok (r_var) r_int) (a_cons (r_var) a_nil))) (qs_sub (q_sub c.ok (r_var) r_int) (qs_nm (q_nm c.ok.nd) qs_nil))) (ss_cons (s_ret (r_var)) ss_nil)) ss_nil) (ss_cons (s_sub c.ok (r_bin c.ok .mod (r_bin c.ok .add (r_bin c.ok .mul (r_idx c.ok (r_var) r_int) r_int) r_int) r_int) (r_var) r_int) (ss_cons (s_ret (r_bin c.ok .mod (r_bin c.ok .fdiv (r_bin c.ok .mod (r_bin c.ok .mul (r_idx c.ok (r_var) r_int) (r_idx c.ok (r_var) r_int)) r_int) r_int) (r_var))) ss_nil)))
theorem ok_law_one (B : Bs_ mg) (Z : Zs_ K mg) (Co : Cs P w K mg base n) (F : Fd_law_one K f fd) : FnG P w K mg base (n + 1) f fd P_law_one (SpF (Tt K) 2 ((G (n + 1)).fn i_law_one)) :=
  fn_okG (T := Tt K) (G := G n) (d := d_law_one) (N := N_law_one) F S_law_one rfl rfl rfl fun cdv A outer s H E c hr =>
    show PSs _ _ (rdS (Tt K) (WD E) (MStmt.sts b_law_one) (execs (G n) b_law_one)) from
    (ss_cons (s_ret (r_idx c.ok (r_var) (r_callG c Co.c_law_take hr rfl (a_cons (r_var) (a_cons (r_len1 c.ok Co.l_len hr c.tk B.b_len (r_var)) a_nil))))) ss_nil)
theorem ok_law_count (B : Bs_ mg) (Z : Zs_ K mg) (Co : Cs P w K mg base n) (F : Fd_law_count K f fd) : FnG P w K mg base (n + 1) f fd P_law_count (SpF (Tt K) 2 ((G (n + 1)).fn i_law_count)) :=
  fn_okG (T := Tt K) (G := G n) (d := d_law_count) (N := N_law_count) F S_law_count rfl rfl rfl fun cdv A outer s H E c hr =>
    show PSs _ _ (rdS (Tt K) (WD E) (MStmt.sts b_law_count) (execs (G n) b_law_count)) from
    (ss_cons (s_ret (r_idx c.ok (r_lst (a_cons (r_callG c Co.c_law_take hr rfl (a_cons (r_var) (a_cons r_int a_nil))) (a_cons (r_callG c Co.c_law_take hr rfl (a_cons (r_var) (a_cons r_int a_nil))) (a_cons (r_callG c Co.c_law_take hr rfl (a_cons (r_var) (a_cons (r_var) a_nil))) a_nil)))) (r_callG c Co.c_law_take hr rfl (a_cons (r_var) (a_cons r_int a_nil))))) ss_nil)
theorem ok_law_line (B : Bs_ mg) (Z : Zs_ K mg) (Co : Cs P w K mg base n) (F : Fd_law_line K f fd) : FnG P w K mg base (n + 1) f fd P_law_line (SpF (Tt K) 3 ((G (n + 1)).fn i_law_line)) :=
  fn_okG (T := Tt K) (G := G n) (d := d_law_line) (N := N_law_line) F S_law_line rfl rfl rfl fun cdv A outer s H E c hr =>
    show PSs _ _ (rdS (Tt K) (WD E) (MStmt.sts b_law_line) (execs (G n) b_law_line)) from
    (ss_cons (s_set false c.ok.nd (r_str (by decide +kernel))) (ss_cons (s_set false c.ok.nd (r_bin c.ok .add (r_blt c.ok .maxl B.b_max (by decide +kernel) (a_cons (r_bin c.ok .add (r_var) (r_lst (a_cons (r_neg r_int) a_nil))) a_nil)) r_int)) (ss_cons (s_set false c.ok.nd (r_callG c Co.c_law_take hr rfl (a_cons (r_var) (a_cons r_int a_nil)))) (ss_cons (s_if (t_w (t_and (t_cmp c.ok .lt (r_var) r_int) (t_and1 (t_cmp c.ok .lt (r_var) r_int)))) (ss_cons (s_set false c.ok.nd (r_bin c.ok .add (r_var) (r_callG c Co.c_law_take hr rfl (a_cons (r_var) (a_cons (r_bin c.ok .sub r_int (r_var)) a_nil))))) (ss_cons (s_set false c.ok.nd (r_callG c Co.c_law_count hr rfl (a_cons (r_var) (a_cons (r_var) a_nil)))) (ss_cons (s_if (t_w (t_and (t_cmp c.ok .gt (r_var) r_int) (t_and1 (t_cmp c.ok .eq (r_callG c Co.c_law_take hr rfl (a_cons (r_var) (a_cons r_int a_nil))) r_int)))) (ss_cons (s_ret (r_tup (a_cons (r_str (by decide +kernel)) (a_cons (r_idx c.ok (r_var) (r_var)) (a_cons (r_idx c.ok (r_var) (r_callG c Co.c_law_take hr rfl (a_cons (r_var) (a_cons (r_var) a_nil)))) a_nil))))) ss_nil) ss_nil) (ss_cons (s_ret (r_tup (a_cons (r_str (by decide +kernel)) (a_cons (r_idx c.ok (r_var) (r_var)) (a_cons (r_var) a_nil))))) ss_nil)))) ss_nil) (ss_cons (s_if (t_w (t_and (t_cmp c.ok .lt (r_var) r_int) (t_and1 (t_cmp c.ok .lt (r_len1 c.ok Co.l_len hr c.tk B.b_len (r_var)) r_int)))) (ss_cons (s_ret (r_tup (a_cons (r_str (by decide +kernel)) (a_cons (r_idx c.ok (r_var) (r_blt c.ok .min2 B.b_min (by decide +kernel) (a_cons (r_callG c Co.c_law_take hr rfl (a_cons (r_var) (a_cons r_int a_nil))) (a_cons (r_callG c Co.c_law_take hr rfl (a_cons (r_var) (a_cons r_int a_nil))) a_nil)))) a_nil)))) ss_nil) ss_nil) (ss_cons (s_if (t_w (t_and (t_cmp c.ok .gt (r_var) r_int) (t_and1 (t_cmp c.ok .ne (r_var) (r_lst a_nil))))) (ss_cons (s_ret (r_tup (a_cons (r_str (by decide +kernel)) a_nil))) ss_nil) ss_nil) (ss_cons (s_ret (r_tup (a_cons (r_str (by decide +kernel)) (a_cons (r_idx c.ok (r_var) (r_callG c Co.c_law_take hr rfl (a_cons (r_var) (a_cons r_int a_nil)))) a_nil)))) ss_nil)))))))
theorem ok_law_lines (B : Bs_ mg) (Z : Zs_ K mg) (Co : Cs P w K mg base n) (F : Fd_law_lines K f fd) : FnG P w K mg base (n + 1) f fd P_law_lines (SpF (Tt K) 3 ((G (n + 1)).fn i_law_lines)) :=
  fn_okG (T := Tt K) (G := G n) (d := d_law_lines) (N := N_law_lines) F S_law_lines rfl rfl rfl fun cdv A outer s H E c hr =>
    show PSs _ _ (rdS (Tt K) (WD E) (MStmt.sts b_law_lines) (execs (G n) b_law_lines)) from
    (ss_cons (s_par c.ok true true (r_lst a_nil) (r_lst a_nil)) (ss_cons (s_for c.ok c.po (i_rng1 B.b_range (r_callG c Co.c_law_take hr rfl (a_cons (r_var) (a_cons (r_bin c.ok .add (r_var) r_int) a_nil)))) (g_nm c.ok.nd) (ss_cons (s_set false c.ok.nd (r_callG c Co.c_law_line hr rfl (a_cons (r_var) (a_cons (r_var) (a_cons (r_var) a_nil))))) (ss_cons (s_if (t_cmp c.ok .lt (r_bin c.ok .add (r_len1 c.ok Co.l_len hr c.tk B.b_len (r_var)) (r_len1 c.ok Co.l_len hr c.tk B.b_len (r_var))) r_int) (ss_cons (s_exp (r_m_append c.ok (r_var) (a_cons (r_var) a_nil))) (ss_cons (s_if (t_cmp c.ok .eq (r_idx c.ok (r_var) r_int) (r_str (by decide +kernel))) (ss_cons (s_exp (r_m_append c.ok (r_var) (a_cons (r_sidx c.ok (l := [97, 98, 99, 100, 101]) (by decide +kernel) sidx_abcde (a_cons (r_idx c.ok (r_var) r_int) a_nil)) a_nil))) ss_nil) (ss_cons (s_if (t_cmp c.ok .eq (r_idx c.ok (r_var) r_int) (r_str (by decide +kernel))) (ss_cons (s_exp (r_m_pop c.ok (r_var))) ss_nil) ss_nil) ss_nil)) ss_nil)) ss_nil) ss_nil))) (ss_cons (s_ret (r_bin c.ok .add (r_var) (r_bin c.ok .mul (r_lst (a_cons (r_tup (a_cons (r_str (by decide +kernel)) a_nil)) a_nil)) (r_len1 c.ok Co.l_len hr c.tk B.b_len (r_var))))) ss_nil)))
theorem ok_law_deep (B : Bs_ mg) (Z : Zs_ K mg) (Co : Cs P w K mg base n) (F : Fd_law_deep K f fd) : FnG P w K mg base (n + 1) f fd P_law_deep (SpF (Tt K) 2 ((G (n + 1)).fn i_law_deep)) :=
  fn_okG (T := Tt K) (G := G n) (d := d_law_deep) (N := N_law_deep) F S_law_deep rfl rfl rfl fun cdv A outer s H E c hr =>
    show PSs _ _ (rdS (Tt K) (WD E) (MStmt.sts b_law_deep) (execs (G n) b_law_deep)) from
    (ss_cons (s_set false c.ok.nd r_int) (ss_cons (s_for c.ok c.po (i_seq c.ok (r_slc c.ok (r_var) o_no (o_yes (r_var)))) (g_nm c.ok.nd) (ss_cons (s_set false c.ok.nd (r_bin c.ok .sub (r_bin c.ok .add (r_var) (r_blt c.ok .int B.b_int (by decide +kernel) (a_cons (r_cmp c.ok .eq (r_idx c.ok (r_var) r_int) (r_str (by decide +kernel))) a_nil))) (r_blt c.ok .int B.b_int (by decide +kernel) (a_cons (r_cmp c.ok .eq (r_idx c.ok (r_var) r_int) (r_str (by decide +kernel))) a_nil)))) ss_nil)) (ss_cons (s_ret (r_var)) ss_nil)))
theorem ok_law_is_count (B : Bs_ mg) (Z : Zs_ K mg) (Co : Cs P w K mg base n) (F : Fd_law_is_count K f fd) : FnG P w K mg base (n + 1) f fd P_law_is_count (SpF (Tt K) 1 ((G (n + 1)).fn i_law_is_count)) :=
  fn_okG (T := Tt K) (G := G n) (d := d_law_is_count) (N := N_law_is_count) F S_law_is_count rfl rfl rfl fun cdv A outer s H E c hr =>
    show PSs _ _ (rdS (Tt K) (WD E) (MStmt.sts b_law_is_count) (execs (G n) b_law_is_count)) from
    (ss_cons (s_ret (r_and (r_isk c.ok B.b_isinstance B.b_int (by decide +kernel) (r_var)) (r_and (r_not c.ok (r_isk c.ok B.b_isinstance B.b_bool (by decide +kernel) (r_var))) (r_one (r_cmp c.ok .ge (r_var) r_int))))) ss_nil)
theorem ok_law_are_counts (B : Bs_ mg) (Z : Zs_ K mg) (Co : Cs P w K mg base n) (F : Fd_law_are_counts K f fd) : FnG P w K mg base (n + 1) f fd P_law_are_counts (SpF (Tt K) 2 ((G (n + 1)).fn i_law_are_counts)) :=
  fn_okG (T := Tt K) (G := G n) (d := d_law_are_counts) (N := N_law_are_counts) F S_law_are_counts rfl rfl rfl fun cdv A outer s H E c hr =>
    show PSs _ _ (rdS (Tt K) (WD E) (MStmt.sts b_law_are_counts) (execs (G n) b_law_are_counts)) from
    (ss_cons (s_ret (r_and (r_isk c.ok B.b_isinstance B.b_tuple (by decide +kernel) (r_var)) (r_and (r_cmp c.ok .eq (r_len1 c.ok Co.l_len hr c.tk B.b_len (r_var)) (r_var)) (r_one (r_blt c.ok .all B.b_all (by decide +kernel) (a_cons (r_comp c.ok [("_law_one_here", 2)] (i_seq c.ok (r_var)) (blkOk_by (N := N_law_are_counts) (sc := sc_law_are_counts) (by decide +kernel)) (fun _ _ _ _ _ => (g_nm (c.blk _ _ _ _ _).ok.nd)) (fun _ _ _ _ _ => c_no) (fun _ _ _ _ _ => (r_callG (c.blk _ _ _ _ _) Co.c_law_is_count hr rfl (a_cons (r_var) a_nil)))) a_nil)))))) ss_nil)
theorem ok_law_is_moment (B : Bs_ mg) (Z : Zs_ K mg) (Co : Cs P w K mg base n) (F : Fd_law_is_moment K f fd) : FnG P w K mg base (n + 1) f fd P_law_is_moment (SpF (Tt K) 2 ((G (n + 1)).fn i_law_is_moment)) :=
  fn_okG (T := Tt K) (G := G n) (d := d_law_is_moment) (N := N_law_is_moment) F S_law_is_moment rfl rfl rfl fun cdv A outer s H E c hr =>
    show PSs _ _ (rdS (Tt K) (WD E) (MStmt.sts b_law_is_moment) (execs (G n) b_law_is_moment)) from
    (ss_cons (s_if (t_w (t_or (t_not (t_val c.ok (r_isk c.ok B.b_isinstance B.b_tuple (by decide +kernel) (r_var)))) (t_or (t_cmp c.ok .ne (r_len1 c.ok Co.l_len hr c.tk B.b_len (r_var)) r_int) (t_or1 (t_not (t_val c.ok (r_callG c Co.c_law_are_counts hr rfl (a_cons (r_idx c.ok (r_var) r_int) (a_cons r_int a_nil))))))))) (ss_cons (s_ret r_bl) ss_nil) ss_nil) (ss_cons (s_if (t_w (t_or (t_not (t_val c.ok (r_callG c Co.c_law_is_count hr rfl (a_cons (r_idx c.ok (r_var) r_int) a_nil)))) (t_or1 (t_cmp c.ok .gt (r_idx c.ok (r_var) r_int) (r_len1 c.ok Co.l_len hr c.tk B.b_len (r_var)))))) (ss_cons (s_ret r_bl) ss_nil) ss_nil) (ss_cons (s_ret (r_callG c Co.c_law_are_counts hr rfl (a_cons (r_idx c.ok (r_var) r_int) (a_cons (r_callG c Co.c_law_deep hr rfl (a_cons (r_var) (a_cons (r_idx c.ok (r_var) r_int) a_nil))) a_nil)))) ss_nil)))
theorem ok_law_drawn (B : Bs_ mg) (Z : Zs_ K mg) (Co : Cs P w K mg base n) (F : Fd_law_drawn K f fd) : FnG P w K mg base (n + 1) f fd P_law_drawn (SpF (Tt K) 2 ((G (n + 1)).fn i_law_drawn)) :=
  fn_okG (T := Tt K) (G := G n) (d := d_law_drawn) (N := N_law_drawn) F S_law_drawn rfl rfl rfl fun cdv A outer s H E c hr =>
    show PSs _ _ (rdS (Tt K) (WD E) (MStmt.sts b_law_drawn) (execs (G n) b_law_drawn)) from
    (ss_cons (s_set false c.ok.nd (r_blt c.ok .tuple B.b_tuple (by decide +kernel) (a_cons (r_comp c.ok [("_law_letter", 4)] (i_seq c.ok (r_str (by decide +kernel))) (blkOk_by (N := N_law_drawn) (sc := sc_law_drawn) (by decide +kernel)) (fun _ _ _ _ _ => (g_nm (c.blk _ _ _ _ _).ok.nd)) (fun _ _ _ _ _ => c_no) (fun _ _ _ _ _ => (r_callG (c.blk _ _ _ _ _) Co.c_law_count hr rfl (a_cons (r_var) (a_cons (r_bin (c.blk _ _ _ _ _).ok .pow r_int r_int) a_nil))))) a_nil))) (ss_cons (s_set false c.ok.nd (r_callG c Co.c_law_take hr rfl (a_cons (r_var) (a_cons (r_bin c.ok .add (r_len1 c.ok Co.l_len hr c.tk B.b_len (r_var)) r_int) a_nil)))) (ss_cons (s_ret (r_tup (a_cons (r_var) (a_cons (r_var) (a_cons (r_blt c.ok .tuple B.b_tuple (by decide +kernel) (a_cons (r_comp c.ok [("_law_turn", 5)] (i_rng1 B.b_range (r_callG c Co.c_law_deep hr rfl (a_cons (r_var) (a_cons (r_var) a_nil)))) (blkOk_by (N := N_law_drawn) (sc := sc_law_drawn) (by decide +kernel)) (fun _ _ _ _ _ => (g_nm (c.blk _ _ _ _ _).ok.nd)) (fun _ _ _ _ _ => c_no) (fun _ _ _ _ _ => (r_callG (c.blk _ _ _ _ _) Co.c_law_count hr rfl (a_cons (r_var) (a_cons (r_bin (c.blk _ _ _ _ _).ok .pow r_int r_int) a_nil))))) a_nil)) a_nil))))) ss_nil)))
theorem ok_law_odd_number (B : Bs_ mg) (Z : Zs_ K mg) (Co : Cs P w K mg base n) (F : Fd_law_odd_number K f fd) : FnG P w K mg base (n + 1) f fd P_law_odd_number (SpF (Tt K) 2 ((G (n + 1)).fn i_law_odd_number)) :=
  fn_okG (T := Tt K) (G := G n) (d := d_law_odd_number) (N := N_law_odd_number) F S_law_odd_number rfl rfl rfl fun cdv A outer s H E c hr =>
    show PSs _ _ (rdS (Tt K) (WD E) (MStmt.sts b_law_odd_number) (execs (G n) b_law_odd_number)) from
    (ss_cons (s_ret (r_idx c.ok (r_lst (a_cons (r_neg r_int) (a_cons r_bl (a_cons r_bl (a_cons r_non (a_cons (r_str (by decide +kernel)) (a_cons (r_tup (a_cons (r_var) a_nil)) (a_cons (r_lst (a_cons (r_var) a_nil)) (a_cons (r_str (by decide +kernel)) (a_cons (r_neg (r_bin c.ok .pow r_int r_int)) (a_cons r_dic0 a_nil))))))))))) (r_callG c Co.c_law_take hr rfl (a_cons (r_var) (a_cons r_int a_nil))))) ss_nil)
theorem ok_law_odd_row (B : Bs_ mg) (Z : Zs_ K mg) (Co : Cs P w K mg base n) (F : Fd_law_odd_row K f fd) : FnG P w K mg base (n + 1) f fd P_law_odd_row (SpF (Tt K) 2 ((G (n + 1)).fn i_law_odd_row)) :=
  fn_okG (T := Tt K) (G := G n) (d := d_law_odd_row) (N := N_law_odd_row) F S_law_odd_row rfl rfl rfl fun cdv A outer s H E c hr =>
    show PSs _ _ (rdS (Tt K) (WD E) (MStmt.sts b_law_odd_row) (execs (G n) b_law_odd_row)) from
    (ss_cons (s_set false c.ok.nd (r_callG c Co.c_law_take hr rfl (a_cons (r_var) (a_cons (r_bin c.ok .add (r_len1 c.ok Co.l_len hr c.tk B.b_len (r_var)) r_int) a_nil)))) (ss_cons (s_set false c.ok.nd (r_lst (a_cons (r_blt c.ok .list B.b_list (by decide +kernel) (a_cons (r_var) a_nil)) (a_cons r_non (a_cons (r_bin c.ok .add (r_var) (r_tup (a_cons r_int a_nil))) (a_cons (r_slc c.ok (r_var) o_no (o_yes (r_neg r_int))) (a_cons (r_str (by decide +kernel)) (a_cons r_int (a_cons r_dic0 (a_cons (r_tup (a_cons (r_var) a_nil)) a_nil)))))))))) (ss_cons (s_if (t_w (t_or (t_cmp c.ok .eq (r_var) (r_tup a_nil)) (t_or1 (t_cmp c.ok .eq (r_callG c Co.c_law_take hr rfl (a_cons (r_var) (a_cons r_int a_nil))) r_int)))) (ss_cons (s_ret (r_idx c.ok (r_var) (r_callG c Co.c_law_take hr rfl (a_cons (r_var) (a_cons r_int a_nil))))) ss_nil) ss_nil) (ss_cons (s_ret (r_bin c.ok .add (r_bin c.ok .add (r_slc c.ok (r_var) o_no (o_yes (r_var))) (r_tup (a_cons (r_callG c Co.c_law_odd_number hr rfl (a_cons (r_var) (a_cons r_int a_nil))) a_nil))) (r_slc c.ok (r_var) (o_yes (r_bin c.ok .add (r_var) (r_callG c Co.c_law_take hr rfl (a_cons (r_var) (a_cons r_int a_nil))))) o_no))) ss_nil))))
theorem ok_law_odd (B : Bs_ mg) (Z : Zs_ K mg) (Co : Cs P w K mg base n) (F : Fd_law_odd K f fd) : FnG P w K mg base (n + 1) f fd P_law_odd (SpF (Tt K) 3 ((G (n + 1)).fn i_law_odd)) :=
  fn_okG (T := Tt K) (G := G n) (d := d_law_odd) (N := N_law_odd) F S_law_odd rfl rfl rfl fun cdv A outer s H E c hr =>
    show PSs _ _ (rdS (Tt K) (WD E) (MStmt.sts b_law_odd) (execs (G n) b_law_odd)) from
    (ss_cons (s_unp c.ok (r_var) (qs_nm (q_nm c.ok.nd) (qs_nm (q_nm c.ok.nd) (qs_nm (q_nm c.ok.nd) qs_nil)))) (ss_cons (s_set false c.ok.nd (r_callG c Co.c_law_take hr rfl (a_cons (r_var) (a_cons r_int a_nil)))) (ss_cons (s_if (t_cmp c.ok .eq (r_var) r_int) (ss_cons (s_set false c.ok.nd (r_lst (a_cons r_non (a_cons r_bl (a_cons r_int (a_cons (r_str (by decide +kernel)) (a_cons (r_tup a_nil) (a_cons (r_lst a_nil) (a_cons r_dic0 (a_cons (r_blt c.ok .list B.b_list (by decide +kernel) (a_cons (r_var) a_nil)) (a_cons (r_bin c.ok .add (r_var) (r_tup (a_cons (r_tup a_nil) a_nil))) (a_cons (r_slc c.ok (r_var) o_no (o_yes r_int)) (a_cons (r_tup (a_cons (r_var) a_nil)) (a_cons (r_rev c.ok (r_var)) a_nil)))))))))))))) (ss_cons (s_ret (r_idx c.ok (r_var) (r_callG c Co.c_law_take hr rfl (a_cons (r_var) (a_cons r_int a_nil))))) ss_nil)) ss_nil) (ss_cons (s_if (t_cmp c.ok .eq (r_var) r_int) (ss_cons (s_ret (r_tup (a_cons (r_callG c Co.c_law_odd_row hr rfl (a_cons (r_var) (a_cons (r_var) a_nil))) (a_cons (r_var) (a_cons (r_var) a_nil))))) ss_nil) ss_nil) (ss_cons (s_if (t_cmp c.ok .eq (r_var) r_int) (ss_cons (s_ret (r_tup (a_cons (r_var) (a_cons (r_var) (a_cons (r_callG c Co.c_law_odd_row hr rfl (a_cons (r_var) (a_cons (r_var) a_nil))) a_nil))))) ss_nil) ss_nil) (ss_cons (s_if (t_cmp c.ok .eq (r_var) r_int) (ss_cons (s_ret (r_tup (a_cons (r_var) (a_cons (r_callG c Co.c_law_odd_number hr rfl (a_cons (r_var) (a_cons (r_var) a_nil))) (a_cons (r_var) a_nil))))) ss_nil) ss_nil) (ss_cons (s_if (t_cmp c.ok .eq (r_var) r_int) (ss_cons (s_ret (r_tup (a_cons (r_var) (a_cons (r_callG c Co.c_law_one hr rfl (a_cons (r_var) (a_cons (r_lst (a_cons (r_len1 c.ok Co.l_len hr c.tk B.b_len (r_var)) (a_cons (r_bin c.ok .add (r_len1 c.ok Co.l_len hr c.tk B.b_len (r_var)) r_int) (a_cons (r_bin c.ok .add (r_var) r_int) (a_cons (r_bin c.ok .pow r_int r_int) a_nil))))) a_nil))) (a_cons (r_var) a_nil))))) ss_nil) ss_nil) (ss_cons (s_if (t_cmp c.ok .eq (r_var) r_int) (ss_cons (s_ret (r_tup (a_cons (r_var) (a_cons (r_callG c Co.c_law_take hr rfl (a_cons (r_var) (a_cons (r_bin c.ok .add (r_len1 c.ok Co.l_len hr c.tk B.b_len (r_var)) r_int) a_nil))) (a_cons (r_var) a_nil))))) ss_nil) ss_nil) (ss_cons (s_if (t_cmp c.ok .eq (r_var) r_int) (ss_cons (s_ret (r_tup (a_cons (r_var) (a_cons (r_var) (a_cons (r_idx c.ok (r_lst (a_cons (r_bin c.ok .add (r_var) (r_tup (a_cons (r_callG c Co.c_law_count hr rfl (a_cons (r_var) (a_cons (r_bin c.ok .pow r_int r_int) a_nil))) a_nil))) (a_cons (r_slc c.ok (r_var) (o_yes r_int) o_no) a_nil))) (r_callG c Co.c_law_take hr rfl (a_cons (r_var) (a_cons r_int a_nil)))) a_nil))))) ss_nil) ss_nil) (ss_cons (s_ret (r_var)) ss_nil))))))))))
theorem ok_law_truth (B : Bs_ mg) (Z : Zs_ K mg) (Co : Cs P w K mg base n) (F : Fd_law_truth K f fd) : FnG P w K mg base (n + 1) f fd P_law_truth (SpF (Tt K) 2 ((G (n + 1)).fn i_law_truth)) :=
  fn_okG (T := Tt K) (G := G n) (d := d_law_truth) (N := N_law_truth) F S_law_truth rfl rfl rfl fun cdv A outer s H E c hr =>
    show PSs _ _ (rdS (Tt K) (WD E) (MStmt.sts b_law_truth) (execs (G n) b_law_truth)) from
    (ss_cons (s_ret (r_and (r_isk c.ok B.b_isinstance B.b_bool (by decide +kernel) (r_var)) (r_one (r_cmp c.ok .eq (r_var) (r_var))))) ss_nil)
theorem ok_law_right (B : Bs_ mg) (Z : Zs_ K mg) (Co : Cs P w K mg base n) (F : Fd_law_right K f fd) : FnG P w K mg base (n + 1) f fd P_law_right (SpF (Tt K) 3 ((G (n + 1)).fn i_law_right)) :=
  fn_okG (T := Tt K) (G := G n) (d := d_law_right) (N := N_law_right) F S_law_right rfl rfl rfl fun cdv A outer s H E c hr =>
    show PSs _ _ (rdS (Tt K) (WD E) (MStmt.sts b_law_right) (execs (G n) b_law_right)) from
    (ss_cons (s_set false c.ok.nd (r_blt c.ok .repr B.b_repr (by decide +kernel) (a_cons (r_var) a_nil))) (ss_cons (s_set false c.ok.nd (r_callG c Co.c_law_is_moment hr rfl (a_cons (r_var) (a_cons (r_var) a_nil)))) (ss_cons (s_if (t_w (t_or (t_not (t_val c.ok (r_callG c Co.c_law_truth hr rfl (a_cons (r_callG c Co.c_is_moment hr rfl (a_cons (r_var) (a_cons (r_var) a_nil))) (a_cons (r_var) a_nil))))) (t_or1 (t_cmp c.ok .ne (r_blt c.ok .repr B.b_repr (by decide +kernel) (a_cons (r_var) a_nil)) (r_var))))) (ss_cons (s_ret r_bl) ss_nil) ss_nil) (ss_cons (s_ret (r_or (r_not c.ok (r_var)) (r_one (r_callG c Co.c_law_truth hr rfl (a_cons (r_callG c Co.c_is_over hr rfl (a_cons (r_var) (a_cons (r_var) a_nil))) (a_cons (r_cmp c.ok .eq (r_idx c.ok (r_var) r_int) (r_len1 c.ok Co.l_len hr c.tk B.b_len (r_var))) a_nil)))))) ss_nil))))
theorem ok_law (B : Bs_ mg) (Z : Zs_ K mg) (Co : Cs P w K mg base n) (F : Fd_law K f fd) : FnG P w K mg base (n + 1) f fd P_law (SpF (Tt K) 1 ((G (n + 1)).fn i_law)) :=
  fn_okG (T := Tt K) (G := G n) (d := d_law) (N := N_law) F S_law rfl rfl rfl fun cdv A outer s H E c hr =>
    show PSs _ _ (rdS (Tt K) (WD E) (MStmt.sts b_law) (execs (G n) b_law)) from
    (ss_cons (s_for c.ok c.po (i_rng1 B.b_range (r_blt c.ok .max2 B.b_max (by decide +kernel) (a_cons r_int (a_cons (r_blt c.ok .min2 B.b_min (by decide +kernel) (a_cons r_int (a_cons (r_len1 c.ok Co.l_len hr c.tk B.b_len (r_var)) a_nil))) a_nil)))) (g_nm c.ok.nd) (ss_cons (s_set true c.ok.nd (r_callG c Co.c_law_pot hr rfl (a_cons (r_var) (a_cons (r_var) a_nil)))) (ss_cons (s_set false c.ok.nd (r_callG c Co.c_law_lines hr rfl (a_cons (r_var) (a_cons r_int (a_cons (r_bin c.ok .pow r_int r_int) a_nil))))) (ss_cons (s_set false c.ok.nd (r_mk c Co.k_Program hr (a_cons (r_blt c.ok .list B.b_list (by decide +kernel) (a_cons (r_var) a_nil)) a_nil) (hi := init_Program n))) (ss_cons (s_for c.ok c.po (i_rng1 B.b_range r_int) (g_nm c.ok.nd) (ss_cons (s_set false c.ok.nd (r_callG c Co.c_law_drawn hr rfl (a_cons (r_var) (a_cons (r_var) a_nil)))) (ss_cons (s_set false c.ok.nd (r_callG c Co.c_law_odd hr rfl (a_cons (r_var) (a_cons (r_var) (a_cons (r_var) a_nil))))) (ss_cons (s_if (t_w (t_or (t_not (t_val c.ok (r_callG c Co.c_law_right hr rfl (a_cons (r_var) (a_cons (r_var) (a_cons (r_var) a_nil)))))) (t_or1 (t_not (t_val c.ok (r_callG c Co.c_law_right hr rfl (a_cons (r_var) (a_cons (r_var) (a_cons (r_var) a_nil))))))))) (ss_cons (s_ret r_bl) ss_nil) ss_nil) (ss_cons (s_set false c.ok.nd (r_callG c Co.c_first_moment hr rfl (a_cons (r_var) (a_cons (r_idx c.ok (r_var) r_int) a_nil)))) (ss_cons (s_if (t_w (t_or (t_cmp c.ok .ne (r_var) (r_tup (a_cons (r_idx c.ok (r_var) r_int) (a_cons r_int (a_cons (r_tup a_nil) a_nil))))) (t_or1 (t_not (t_val c.ok (r_callG c Co.c_law_right hr rfl (a_cons (r_var) (a_cons (r_var) (a_cons (r_var) a_nil))))))))) (ss_cons (s_ret r_bl) ss_nil) ss_nil) ss_nil)))))) (ss_cons (s_if (t_not (t_val c.ok (r_callG c Co.c_law_right hr rfl (a_cons (r_var) (a_cons (r_var) (a_cons (r_tup (a_cons (r_bin c.ok .mul (r_tup (a_cons r_int a_nil)) r_int) (a_cons (r_len1 c.ok Co.l_len hr c.tk B.b_len (r_var)) (a_cons (r_tup a_nil) a_nil)))) a_nil)))))) (ss_cons (s_ret r_bl) ss_nil) ss_nil) ss_nil)))))) (ss_cons (s_ret r_bl) ss_nil))
theorem ok_m_Program_init (B : Bs_ mg) (Z : Zs_ K mg) (Co : Cs P w K mg base n) (F : Fd_m_Program_init K f fd) : FnG P w K mg base (n + 1) f fd P_m_Program_init (SpF (Tt K) 2 ((G (n + 1)).fn i_m_Program_init)) :=
  fn_okG (T := Tt K) (G := G n) (d := d_m_Program_init) (N := N_m_Program_init) F S_m_Program_init rfl rfl rfl fun cdv A outer s H E c hr =>
    show PSs _ _ (rdS (Tt K) (WD E) (MStmt.sts b_m_Program_init) (execs (G n) b_m_Program_init)) from
    (ss_cons (s_set false c.ok.nd (r_ite (t_val c.ok (r_isk2 c.ok B.b_isinstance B.b_list B.b_tuple (by decide +kernel) (by decide +kernel) (r_var))) (r_callG c Co.c_first_wrong hr rfl (a_cons (r_var) a_nil)) (r_neg r_int))) (ss_cons (s_if (t_cmp c.ok .notN (r_var) r_non) (ss_cons s_never ss_nil) ss_nil) (ss_cons (s_fld c.ok (clsok Z n) (f := fl_lines) (r_blt c.ok .list B.b_list (by decide +kernel) (a_cons (r_var) a_nil)) (r_var)) (ss_cons (s_fld c.ok (clsok Z n) (f := fl_arounds) (r_callG c Co.c_repeats_around hr rfl (a_cons (r_fld c.ok (clsok Z n) (f := fl_lines) (r_var)) a_nil)) (r_var)) (ss_cons (s_fld c.ok (clsok Z n) (f := fl_partners) (r_callG c Co.c_partners_of hr rfl (a_cons (r_fld c.ok (clsok Z n) (f := fl_arounds) (r_var)) (a_cons (r_fld c.ok (clsok Z n) (f := fl_lines) (r_var)) a_nil))) (r_var)) ss_nil)))))
theorem ok_m_Program_want_place (B : Bs_ mg) (Z : Zs_ K mg) (Co : Cs P w K mg base n) (F : Fd_m_Program_want_place K f fd) : FnG P w K mg base (n + 1) f fd P_m_Program_want_place (SpF (Tt K) 3 ((G (n + 1)).fn i_m_Program_want_place)) :=
  fn_okG (T := Tt K) (G := G n) (d := d_m_Program_want_place) (N := N_m_Program_want_place) F S_m_Program_want_place rfl rfl rfl fun cdv A outer s H E c hr =>
    show PSs _ _ (rdS (Tt K) (WD E) (MStmt.sts b_m_Program_want_place) (execs (G n) b_m_Program_want_place)) from
    (ss_cons (s_if (t_w (t_or (t_not (t_val c.ok (r_callG c Co.c_is_count hr rfl (a_cons (r_var) a_nil)))) (t_or1 (t_cmp c.ok .ge (r_var) (r_var))))) (ss_cons s_never ss_nil) ss_nil) ss_nil)
theorem ok_m_Program_around (B : Bs_ mg) (Z : Zs_ K mg) (Co : Cs P w K mg base n) (F : Fd_m_Program_around K f fd) : FnG P w K mg base (n + 1) f fd P_m_Program_around (SpF (Tt K) 2 ((G (n + 1)).fn i_m_Program_around)) :=
  fn_okG (T := Tt K) (G := G n) (d := d_m_Program_around) (N := N_m_Program_around) F S_m_Program_around rfl rfl rfl fun cdv A outer s H E c hr =>
    show PSs _ _ (rdS (Tt K) (WD E) (MStmt.sts b_m_Program_around) (execs (G n) b_m_Program_around)) from
    (ss_cons (s_exp (r_own (m := mt_want_place) Co.o_want_place hr c.gd c.tk (r_var) (a_cons (r_var) (a_cons (r_len1 c.ok Co.l_len hr c.tk B.b_len (r_fld c.ok (clsok Z n) (f := fl_arounds) (r_var))) a_nil)))) (ss_cons (s_ret (r_blt c.ok .list B.b_list (by decide +kernel) (a_cons (r_idx c.ok (r_fld c.ok (clsok Z n) (f := fl_arounds) (r_var)) (r_var)) a_nil))) ss_nil))
theorem ok_m_Program_len (B : Bs_ mg) (Z : Zs_ K mg) (Co : Cs P w K mg base n) (F : Fd_m_Program_len K f fd) : FnG P w K mg base (n + 1) f fd P_m_Program_len (SpF (Tt K) 1 ((G (n + 1)).fn i_m_Program_len)) :=
  fn_okG (T := Tt K) (G := G n) (d := d_m_Program_len) (N := N_m_Program_len) F S_m_Program_len rfl rfl rfl fun cdv A outer s H E c hr =>
    show PSs _ _ (rdS (Tt K) (WD E) (MStmt.sts b_m_Program_len) (execs (G n) b_m_Program_len)) from
    (ss_cons (s_ret (r_len1 c.ok Co.l_len hr c.tk B.b_len (r_fld c.ok (clsok Z n) (f := fl_lines) (r_var)))) ss_nil)
end
end Lw
namespace Lw
open PySem PySem.Spec PyProof.Rows L2 Mi
theorem bn_is_whole {K : PySem.W.Frag} {f : Addr} {fd : FuncData} (F : Fd_is_whole K f fd) : Bn K (Tt K) fd P_is_whole 1 [] (List.range 1) [] [] := bn_of F fun _ _ _ _ _ _ us ws h1 h2 => match us, ws, h1, h2 with
  | [_], [], _, _ => rfl
theorem bn_is_count {K : PySem.W.Frag} {f : Addr} {fd : FuncData} (F : Fd_is_count K f fd) : Bn K (Tt K) fd P_is_count 1 [] (List.range 1) [] [] := bn_of F fun _ _ _ _ _ _ us ws h1 h2 => match us, ws, h1, h2 with
  | [_], [], _, _ => rfl
theorem bn_is_register {K : PySem.W.Frag} {f : Addr} {fd : FuncData} (F : Fd_is_register K f fd) : Bn K (Tt K) fd P_is_register 1 [] (List.range 1) [] [] := bn_of F fun _ _ _ _ _ _ us ws h1 h2 => match us, ws, h1, h2 with
  | [_], [], _, _ => rfl
theorem bn_rank {K : PySem.W.Frag} {f : Addr} {fd : FuncData} (F : Fd_rank K f fd) : Bn K (Tt K) fd P_rank 1 [] (List.range 1) [] [] := bn_of F fun _ _ _ _ _ _ us ws h1 h2 => match us, ws, h1, h2 with
  | [_], [], _, _ => rfl
theorem bn_is_values {K : PySem.W.Frag} {f : Addr} {fd : FuncData} (F : Fd_is_values K f fd) : Bn K (Tt K) fd P_is_values 1 [] (List.range 1) [] [] := bn_of F fun _ _ _ _ _ _ us ws h1 h2 => match us, ws, h1, h2 with
  | [_], [], _, _ => rfl
theorem bn_may_be_added {K : PySem.W.Frag} {f : Addr} {fd : FuncData} (F : Fd_may_be_added K f fd) : Bn K (Tt K) fd P_may_be_added 2 [] (List.range 2) [] [] := bn_of F fun _ _ _ _ _ _ us ws h1 h2 => match us, ws, h1, h2 with
  | [_, _], [], _, _ => rfl
theorem bn_is_row {K : PySem.W.Frag} {f : Addr} {fd : FuncData} (F : Fd_is_row K f fd) : Bn K (Tt K) fd P_is_row 1 [] (List.range 1) [] [] := bn_of F fun _ _ _ _ _ _ us ws h1 h2 => match us, ws, h1, h2 with
  | [_], [], _, _ => rfl
theorem bn_is_moment {K : PySem.W.Frag} {f : Addr} {fd : FuncData} (F : Fd_is_moment K f fd) : Bn K (Tt K) fd P_is_moment 2 [] (List.range 2) [] [] := bn_of F fun _ _ _ _ _ _ us ws h1 h2 => match us, ws, h1, h2 with
  | [_, _], [], _, _ => rfl
theorem bn_want_moment {K : PySem.W.Frag} {f : Addr} {fd : FuncData} (F : Fd_want_moment K f fd) : Bn K (Tt K) fd P_want_moment 2 [] (List.range 2) [] [] := bn_of F fun _ _ _ _ _ _ us ws h1 h2 => match us, ws, h1, h2 with
  | [_, _], [], _, _ => rfl
theorem bn_is_over {K : PySem.W.Frag} {f : Addr} {fd : FuncData} (F : Fd_is_over K f fd) : Bn K (Tt K) fd P_is_over 2 [] (List.range 2) [] [] := bn_of F fun _ _ _ _ _ _ us ws h1 h2 => match us, ws, h1, h2 with
  | [_, _], [], _, _ => rfl
theorem bn_first_moment {K : PySem.W.Frag} {f : Addr} {fd : FuncData} (F : Fd_first_moment K f fd) : Bn K (Tt K) fd P_first_moment 2 [] (List.range 2) [] [] := bn_of F fun _ _ _ _ _ _ us ws h1 h2 => match us, ws, h1, h2 with
  | [_, _], [], _, _ => rfl
theorem bn_may_stand {K : PySem.W.Frag} {f : Addr} {fd : FuncData} (F : Fd_may_stand K f fd) : Bn K (Tt K) fd P_may_stand 2 [] (List.range 2) [] [] := bn_of F fun _ _ _ _ _ _ us ws h1 h2 => match us, ws, h1, h2 with
  | [_, _], [], _, _ => rfl
theorem bn_first_wrong {K : PySem.W.Frag} {f : Addr} {fd : FuncData} (F : Fd_first_wrong K f fd) : Bn K (Tt K) fd P_first_wrong 1 [] (List.range 1) [] [] := bn_of F fun _ _ _ _ _ _ us ws h1 h2 => match us, ws, h1, h2 with
  | [_], [], _, _ => rfl
theorem bn_repeats_around {K : PySem.W.Frag} {f : Addr} {fd : FuncData} (F : Fd_repeats_around K f fd) : Bn K (Tt K) fd P_repeats_around 1 [] (List.range 1) [] [] := bn_of F fun _ _ _ _ _ _ us ws h1 h2 => match us, ws, h1, h2 with
  | [_], [], _, _ => rfl
theorem bn_partners_of {K : PySem.W.Frag} {f : Addr} {fd : FuncData} (F : Fd_partners_of K f fd) : Bn K (Tt K) fd P_partners_of 2 [] (List.range 2) [] [] := bn_of F fun _ _ _ _ _ _ us ws h1 h2 => match us, ws, h1, h2 with
  | [_, _], [], _, _ => rfl
theorem bn_law_pot {K : PySem.W.Frag} {f : Addr} {fd : FuncData} (F : Fd_law_pot K f fd) : Bn K (Tt K) fd P_law_pot 2 [] (List.range 2) [] [] := bn_of F fun _ _ _ _ _ _ us ws h1 h2 => match us, ws, h1, h2 with
  | [_, _], [], _, _ => rfl
theorem bn_law_take {K : PySem.W.Frag} {f : Addr} {fd : FuncData} (F : Fd_law_take K f fd) : Bn K (Tt K) fd P_law_take 2 [] (List.range 2) [] [] := bn_of F fun _ _ _ _ _ _ us ws h1 h2 => match us, ws, h1, h2 with
  | [_, _], [], _, _ => rfl
theorem bn_law_one {K : PySem.W.Frag} {f : Addr} {fd : FuncData} (F : Fd_law_one K f fd) : Bn K (Tt K) fd P_law_one 2 [] (List.range 2) [] [] := bn_of F fun _ _ _ _ _ _ us ws h1 h2 => match us, ws, h1, h2 with
  | [_, _], [], _, _ => rfl
theorem bn_law_count {K : PySem.W.Frag} {f : Addr} {fd : FuncData} (F : Fd_law_count K f fd) : Bn K (Tt K) fd P_law_count 2 [] (List.range 2) [] [] := bn_of F fun _ _ _ _ _ _ us ws h1 h2 => match us, ws, h1, h2 with
  | [_, _], [], _, _ => rfl
theorem bn_law_line {K : PySem.W.Frag} {f : Addr} {fd : FuncData} (F : Fd_law_line K f fd) : Bn K (Tt K) fd P_law_line 3 [] (List.range 3) [] [] := bn_of F fun _ _ _ _ _ _ us ws h1 h2 => match us, ws, h1, h2 with
  | [_, _, _], [], _, _ => rfl
theorem bn_law_lines {K : PySem.W.Frag} {f : Addr} {fd : FuncData} (F : Fd_law_lines K f fd) : Bn K (Tt K) fd P_law_lines 3 [] (List.range 3) [] [] := bn_of F fun _ _ _ _ _ _ us ws h1 h2 => match us, ws, h1, h2 with
  | [_, _, _], [], _, _ => rfl
theorem bn_law_deep {K : PySem.W.Frag} {f : Addr} {fd : FuncData} (F : Fd_law_deep K f fd) : Bn K (Tt K) fd P_law_deep 2 [] (List.range 2) [] [] := bn_of F fun _ _ _ _ _ _ us ws h1 h2 => match us, ws, h1, h2 with
  | [_, _], [], _, _ => rfl
theorem bn_law_is_count {K : PySem.W.Frag} {f : Addr} {fd : FuncData} (F : Fd_law_is_count K f fd) : Bn K (Tt K) fd P_law_is_count 1 [] (List.range 1) [] [] := bn_of F fun _ _ _ _ _ _ us ws h1 h2 => match us, ws, h1, h2 with
  | [_], [], _, _ => rfl
theorem bn_law_are_counts {K : PySem.W.Frag} {f : Addr} {fd : FuncData} (F : Fd_law_are_counts K f fd) : Bn K (Tt K) fd P_law_are_counts 2 [] (List.range 2) [] [] := bn_of F fun _ _ _ _ _ _ us ws h1 h2 => match us, ws, h1, h2 with
  | [_, _], [], _, _ => rfl
theorem bn_law_is_moment {K : PySem.W.Frag} {f : Addr} {fd : FuncData} (F : Fd_law_is_moment K f fd) : Bn K (Tt K) fd P_law_is_moment 2 [] (List.range 2) [] [] := bn_of F fun _ _ _ _ _ _ us ws h1 h2 => match us, ws, h1, h2 with
  | [_, _], [], _, _ => rfl
theorem bn_law_drawn {K : PySem.W.Frag} {f : Addr} {fd : FuncData} (F : Fd_law_drawn K f fd) : Bn K (Tt K) fd P_law_drawn 2 [] (List.range 2) [] [] := bn_of F fun _ _ _ _ _ _ us ws h1 h2 => match us, ws, h1, h2 with
  | [_, _], [], _, _ => rfl
theorem bn_law_odd_number {K : PySem.W.Frag} {f : Addr} {fd : FuncData} (F : Fd_law_odd_number K f fd) : Bn K (Tt K) fd P_law_odd_number 2 [] (List.range 2) [] [] := bn_of F fun _ _ _ _ _ _ us ws h1 h2 => match us, ws, h1, h2 with
  | [_, _], [], _, _ => rfl
theorem bn_law_odd_row {K : PySem.W.Frag} {f : Addr} {fd : FuncData} (F : Fd_law_odd_row K f fd) : Bn K (Tt K) fd P_law_odd_row 2 [] (List.range 2) [] [] := bn_of F fun _ _ _ _ _ _ us ws h1 h2 => match us, ws, h1, h2 with
  | [_, _], [], _, _ => rfl
theorem bn_law_odd {K : PySem.W.Frag} {f : Addr} {fd : FuncData} (F : Fd_law_odd K f fd) : Bn K (Tt K) fd P_law_odd 3 [] (List.range 3) [] [] := bn_of F fun _ _ _ _ _ _ us ws h1 h2 => match us, ws, h1, h2 with
  | [_, _, _], [], _, _ => rfl
theorem bn_law_truth {K : PySem.W.Frag} {f : Addr} {fd : FuncData} (F : Fd_law_truth K f fd) : Bn K (Tt K) fd P_law_truth 2 [] (List.range 2) [] [] := bn_of F fun _ _ _ _ _ _ us ws h1 h2 => match us, ws, h1, h2 with
  | [_, _], [], _, _ => rfl
theorem bn_law_right {K : PySem.W.Frag} {f : Addr} {fd : FuncData} (F : Fd_law_right K f fd) : Bn K (Tt K) fd P_law_right 3 [] (List.range 3) [] [] := bn_of F fun _ _ _ _ _ _ us ws h1 h2 => match us, ws, h1, h2 with
  | [_, _, _], [], _, _ => rfl
theorem bn_law {K : PySem.W.Frag} {f : Addr} {fd : FuncData} (F : Fd_law K f fd) : Bn K (Tt K) fd P_law 1 [] (List.range 1) [] [] := bn_of F fun _ _ _ _ _ _ us ws h1 h2 => match us, ws, h1, h2 with
  | [_], [], _, _ => rfl
theorem bm_m_Program_init {K : PySem.W.Frag} {f : Addr} {fd : FuncData} (F : Fd_m_Program_init K f fd) (s : Shared) (us : List Value) (hl : us.length = 2) : BindsTo s fd ⟨us, []⟩ (P_m_Program_init.zip us) := L2.FunD.bindsA (ps := P_m_Program_init) F (fun _ _ _ _ _ _ us hl => match us, hl with
  | [_, _], _ => rfl) s us hl
theorem bm_m_Program_want_place {K : PySem.W.Frag} {f : Addr} {fd : FuncData} (F : Fd_m_Program_want_place K f fd) (s : Shared) (us : List Value) (hl : us.length = 3) : BindsTo s fd ⟨us, []⟩ (P_m_Program_want_place.zip us) := L2.FunD.bindsA (ps := P_m_Program_want_place) F (fun _ _ _ _ _ _ us hl => match us, hl with
  | [_, _, _], _ => rfl) s us hl
theorem bm_m_Program_around {K : PySem.W.Frag} {f : Addr} {fd : FuncData} (F : Fd_m_Program_around K f fd) (s : Shared) (us : List Value) (hl : us.length = 2) : BindsTo s fd ⟨us, []⟩ (P_m_Program_around.zip us) := L2.FunD.bindsA (ps := P_m_Program_around) F (fun _ _ _ _ _ _ us hl => match us, hl with
  | [_, _], _ => rfl) s us hl
theorem bm_m_Program_len {K : PySem.W.Frag} {f : Addr} {fd : FuncData} (F : Fd_m_Program_len K f fd) (s : Shared) (us : List Value) (hl : us.length = 1) : BindsTo s fd ⟨us, []⟩ (P_m_Program_len.zip us) := L2.FunD.bindsA (ps := P_m_Program_len) F (fun _ _ _ _ _ _ us hl => match us, hl with
  | [_], _ => rfl) s us hl
structure Fs_ (K : PySem.W.Frag) (mg : Str → Option Value) : Prop where
  f_is_whole : ∃ fa fd, Fd_is_whole K fa fd ∧ mg "is_whole" = some (.ref fa)
  f_is_count : ∃ fa fd, Fd_is_count K fa fd ∧ mg "is_count" = some (.ref fa)
  f_is_register : ∃ fa fd, Fd_is_register K fa fd ∧ mg "is_register" = some (.ref fa)
  f_rank : ∃ fa fd, Fd_rank K fa fd ∧ mg "rank" = some (.ref fa)
  f_is_values : ∃ fa fd, Fd_is_values K fa fd ∧ mg "is_values" = some (.ref fa)
  f_may_be_added : ∃ fa fd, Fd_may_be_added K fa fd ∧ mg "may_be_added" = some (.ref fa)
  f_is_row : ∃ fa fd, Fd_is_row K fa fd ∧ mg "is_row" = some (.ref fa)
  f_is_moment : ∃ fa fd, Fd_is_moment K fa fd ∧ mg "is_moment" = some (.ref fa)
  f_want_moment : ∃ fa fd, Fd_want_moment K fa fd ∧ mg "want_moment" = some (.ref fa)
  f_is_over : ∃ fa fd, Fd_is_over K fa fd ∧ mg "is_over" = some (.ref fa)
  f_first_moment : ∃ fa fd, Fd_first_moment K fa fd ∧ mg "first_moment" = some (.ref fa)
  f_may_stand : ∃ fa fd, Fd_may_stand K fa fd ∧ mg "may_stand" = some (.ref fa)
  f_first_wrong : ∃ fa fd, Fd_first_wrong K fa fd ∧ mg "first_wrong" = some (.ref fa)
  f_repeats_around : ∃ fa fd, Fd_repeats_around K fa fd ∧ mg "repeats_around" = some (.ref fa)
  f_partners_of : ∃ fa fd, Fd_partners_of K fa fd ∧ mg "partners_of" = some (.ref fa)
  f_law_pot : ∃ fa fd, Fd_law_pot K fa fd ∧ mg "_law_pot" = some (.ref fa)
  f_law_take : ∃ fa fd, Fd_law_take K fa fd ∧ mg "_law_take" = some (.ref fa)
  f_law_one : ∃ fa fd, Fd_law_one K fa fd ∧ mg "_law_one" = some (.ref fa)
  f_law_count : ∃ fa fd, Fd_law_count K fa fd ∧ mg "_law_count" = some (.ref fa)
  f_law_line : ∃ fa fd, Fd_law_line K fa fd ∧ mg "_law_line" = some (.ref fa)
  f_law_lines : ∃ fa fd, Fd_law_lines K fa fd ∧ mg "_law_lines" = some (.ref fa)
  f_law_deep : ∃ fa fd, Fd_law_deep K fa fd ∧ mg "_law_deep" = some (.ref fa)
  f_law_is_count : ∃ fa fd, Fd_law_is_count K fa fd ∧ mg "_law_is_count" = some (.ref fa)
  f_law_are_counts : ∃ fa fd, Fd_law_are_counts K fa fd ∧ mg "_law_are_counts" = some (.ref fa)
  f_law_is_moment : ∃ fa fd, Fd_law_is_moment K fa fd ∧ mg "_law_is_moment" = some (.ref fa)
  f_law_drawn : ∃ fa fd, Fd_law_drawn K fa fd ∧ mg "_law_drawn" = some (.ref fa)
  f_law_odd_number : ∃ fa fd, Fd_law_odd_number K fa fd ∧ mg "_law_odd_number" = some (.ref fa)
  f_law_odd_row : ∃ fa fd, Fd_law_odd_row K fa fd ∧ mg "_law_odd_row" = some (.ref fa)
  f_law_odd : ∃ fa fd, Fd_law_odd K fa fd ∧ mg "_law_odd" = some (.ref fa)
  f_law_truth : ∃ fa fd, Fd_law_truth K fa fd ∧ mg "_law_truth" = some (.ref fa)
  f_law_right : ∃ fa fd, Fd_law_right K fa fd ∧ mg "_law_right" = some (.ref fa)
  f_law : ∃ fa fd, Fd_law K fa fd ∧ mg "law" = some (.ref fa)
  f_m_Program_init : ∃ fa fd, Fd_m_Program_init K fa fd ∧ Mk K ((Tt K).cA 0) fa
  f_m_Program_want_place : ∃ fa fd, Fd_m_Program_want_place K fa fd ∧ Meth K ((Tt K).cA 0) "want_place" fa
  f_m_Program_around : ∃ fa fd, Fd_m_Program_around K fa fd ∧ Meth K ((Tt K).cA 0) "around" fa
  f_m_Program_len : ∃ fa fd, Fd_m_Program_len K fa fd ∧ Meth K ((Tt K).cA 0) "__len__" fa
theorem run_no {G : Gs} {d : Def} {l : List Sl} (h : l.length ≠ d.pars) : runDef G d l = .no := by
  unfold runDef
  rw [if_neg (by simpa using h)]
theorem no_m_Program_init (n : Nat) (l : List Sl) (h : l.length ≠ 2) : (G n).fn i_m_Program_init l = .no := by
  cases n with
  | zero => rfl
  | succ n => exact run_no (G := G n) (d := d_m_Program_init) h
theorem no_m_Program_want_place (n : Nat) (l : List Sl) (h : l.length ≠ 3) : (G n).fn i_m_Program_want_place l = .no := by
  cases n with
  | zero => rfl
  | succ n => exact run_no (G := G n) (d := d_m_Program_want_place) h
theorem no_m_Program_around (n : Nat) (l : List Sl) (h : l.length ≠ 2) : (G n).fn i_m_Program_around l = .no := by
  cases n with
  | zero => rfl
  | succ n => exact run_no (G := G n) (d := d_m_Program_around) h
theorem no_m_Program_len (n : Nat) (l : List Sl) (h : l.length ≠ 1) : (G n).fn i_m_Program_len l = .no := by
  cases n with
  | zero => rfl
  | succ n => exact run_no (G := G n) (d := d_m_Program_len) h
theorem cs {P : Program} {w : World} {K : PySem.W.Frag} {mg : Str → Option Value} {base : Heap} (B : Bs_ mg) (Z : Zs_ K mg) (F : Fs_ K mg) : ∀ n, Cs P w K mg base n
  | 0 => {
      c_is_whole := by obtain ⟨fa, fd, F1, m⟩ := F.f_is_whole; exact ⟨⟨fa, fd, P_is_whole, [], fn_zeroG rfl, m, F1.kp, bn_is_whole F1⟩, fun l _ => rfl⟩
      c_is_count := by obtain ⟨fa, fd, F1, m⟩ := F.f_is_count; exact ⟨⟨fa, fd, P_is_count, [], fn_zeroG rfl, m, F1.kp, bn_is_count F1⟩, fun l _ => rfl⟩
      c_is_register := by obtain ⟨fa, fd, F1, m⟩ := F.f_is_register; exact ⟨⟨fa, fd, P_is_register, [], fn_zeroG rfl, m, F1.kp, bn_is_register F1⟩, fun l _ => rfl⟩
      c_rank := by obtain ⟨fa, fd, F1, m⟩ := F.f_rank; exact ⟨⟨fa, fd, P_rank, [], fn_zeroG rfl, m, F1.kp, bn_rank F1⟩, fun l _ => rfl⟩
      c_is_values := by obtain ⟨fa, fd, F1, m⟩ := F.f_is_values; exact ⟨⟨fa, fd, P_is_values, [], fn_zeroG rfl, m, F1.kp, bn_is_values F1⟩, fun l _ => rfl⟩
      c_may_be_added := by obtain ⟨fa, fd, F1, m⟩ := F.f_may_be_added; exact ⟨⟨fa, fd, P_may_be_added, [], fn_zeroG rfl, m, F1.kp, bn_may_be_added F1⟩, fun l _ => rfl⟩
      c_is_row := by obtain ⟨fa, fd, F1, m⟩ := F.f_is_row; exact ⟨⟨fa, fd, P_is_row, [], fn_zeroG rfl, m, F1.kp, bn_is_row F1⟩, fun l _ => rfl⟩
      c_is_moment := by obtain ⟨fa, fd, F1, m⟩ := F.f_is_moment; exact ⟨⟨fa, fd, P_is_moment, [], fn_zeroG rfl, m, F1.kp, bn_is_moment F1⟩, fun l _ => rfl⟩
      c_want_moment := by obtain ⟨fa, fd, F1, m⟩ := F.f_want_moment; exact ⟨⟨fa, fd, P_want_moment, [], fn_zeroG rfl, m, F1.kp, bn_want_moment F1⟩, fun l _ => rfl⟩
      c_is_over := by obtain ⟨fa, fd, F1, m⟩ := F.f_is_over; exact ⟨⟨fa, fd, P_is_over, [], fn_zeroG rfl, m, F1.kp, bn_is_over F1⟩, fun l _ => rfl⟩
      c_first_moment := by obtain ⟨fa, fd, F1, m⟩ := F.f_first_moment; exact ⟨⟨fa, fd, P_first_moment, [], fn_zeroG rfl, m, F1.kp, bn_first_moment F1⟩, fun l _ => rfl⟩
      c_may_stand := by obtain ⟨fa, fd, F1, m⟩ := F.f_may_stand; exact ⟨⟨fa, fd, P_may_stand, [], fn_zeroG rfl, m, F1.kp, bn_may_stand F1⟩, fun l _ => rfl⟩
      c_first_wrong := by obtain ⟨fa, fd, F1, m⟩ := F.f_first_wrong; exact ⟨⟨fa, fd, P_first_wrong, [], fn_zeroG rfl, m, F1.kp, bn_first_wrong F1⟩, fun l _ => rfl⟩
      c_repeats_around := by obtain ⟨fa, fd, F1, m⟩ := F.f_repeats_around; exact ⟨⟨fa, fd, P_repeats_around, [], fn_zeroG rfl, m, F1.kp, bn_repeats_around F1⟩, fun l _ => rfl⟩
      c_partners_of := by obtain ⟨fa, fd, F1, m⟩ := F.f_partners_of; exact ⟨⟨fa, fd, P_partners_of, [], fn_zeroG rfl, m, F1.kp, bn_partners_of F1⟩, fun l _ => rfl⟩
      c_law_pot := by obtain ⟨fa, fd, F1, m⟩ := F.f_law_pot; exact ⟨⟨fa, fd, P_law_pot, [], fn_zeroG rfl, m, F1.kp, bn_law_pot F1⟩, fun l _ => rfl⟩
      c_law_take := by obtain ⟨fa, fd, F1, m⟩ := F.f_law_take; exact ⟨⟨fa, fd, P_law_take, [], fn_zeroG rfl, m, F1.kp, bn_law_take F1⟩, fun l _ => rfl⟩
      c_law_one := by obtain ⟨fa, fd, F1, m⟩ := F.f_law_one; exact ⟨⟨fa, fd, P_law_one, [], fn_zeroG rfl, m, F1.kp, bn_law_one F1⟩, fun l _ => rfl⟩
      c_law_count := by obtain ⟨fa, fd, F1, m⟩ := F.f_law_count; exact ⟨⟨fa, fd, P_law_count, [], fn_zeroG rfl, m, F1.kp, bn_law_count F1⟩, fun l _ => rfl⟩
      c_law_line := by obtain ⟨fa, fd, F1, m⟩ := F.f_law_line; exact ⟨⟨fa, fd, P_law_line, [], fn_zeroG rfl, m, F1.kp, bn_law_line F1⟩, fun l _ => rfl⟩
      c_law_lines := by obtain ⟨fa, fd, F1, m⟩ := F.f_law_lines; exact ⟨⟨fa, fd, P_law_lines, [], fn_zeroG rfl, m, F1.kp, bn_law_lines F1⟩, fun l _ => rfl⟩
      c_law_deep := by obtain ⟨fa, fd, F1, m⟩ := F.f_law_deep; exact ⟨⟨fa, fd, P_law_deep, [], fn_zeroG rfl, m, F1.kp, bn_law_deep F1⟩, fun l _ => rfl⟩
      c_law_is_count := by obtain ⟨fa, fd, F1, m⟩ := F.f_law_is_count; exact ⟨⟨fa, fd, P_law_is_count, [], fn_zeroG rfl, m, F1.kp, bn_law_is_count F1⟩, fun l _ => rfl⟩
      c_law_are_counts := by obtain ⟨fa, fd, F1, m⟩ := F.f_law_are_counts; exact ⟨⟨fa, fd, P_law_are_counts, [], fn_zeroG rfl, m, F1.kp, bn_law_are_counts F1⟩, fun l _ => rfl⟩
      c_law_is_moment := by obtain ⟨fa, fd, F1, m⟩ := F.f_law_is_moment; exact ⟨⟨fa, fd, P_law_is_moment, [], fn_zeroG rfl, m, F1.kp, bn_law_is_moment F1⟩, fun l _ => rfl⟩
      c_law_drawn := by obtain ⟨fa, fd, F1, m⟩ := F.f_law_drawn; exact ⟨⟨fa, fd, P_law_drawn, [], fn_zeroG rfl, m, F1.kp, bn_law_drawn F1⟩, fun l _ => rfl⟩
      c_law_odd_number := by obtain ⟨fa, fd, F1, m⟩ := F.f_law_odd_number; exact ⟨⟨fa, fd, P_law_odd_number, [], fn_zeroG rfl, m, F1.kp, bn_law_odd_number F1⟩, fun l _ => rfl⟩
      c_law_odd_row := by obtain ⟨fa, fd, F1, m⟩ := F.f_law_odd_row; exact ⟨⟨fa, fd, P_law_odd_row, [], fn_zeroG rfl, m, F1.kp, bn_law_odd_row F1⟩, fun l _ => rfl⟩
      c_law_odd := by obtain ⟨fa, fd, F1, m⟩ := F.f_law_odd; exact ⟨⟨fa, fd, P_law_odd, [], fn_zeroG rfl, m, F1.kp, bn_law_odd F1⟩, fun l _ => rfl⟩
      c_law_truth := by obtain ⟨fa, fd, F1, m⟩ := F.f_law_truth; exact ⟨⟨fa, fd, P_law_truth, [], fn_zeroG rfl, m, F1.kp, bn_law_truth F1⟩, fun l _ => rfl⟩
      c_law_right := by obtain ⟨fa, fd, F1, m⟩ := F.f_law_right; exact ⟨⟨fa, fd, P_law_right, [], fn_zeroG rfl, m, F1.kp, bn_law_right F1⟩, fun l _ => rfl⟩
      c_law := by obtain ⟨fa, fd, F1, m⟩ := F.f_law; exact ⟨⟨fa, fd, P_law, [], fn_zeroG rfl, m, F1.kp, bn_law F1⟩, fun l _ => rfl⟩
      o_around := fun c f h => by
        cases c with
        | zero =>
          have h : some i_m_Program_around = some f := h
          cases h
          obtain ⟨fa, fd, F1, me⟩ := F.f_m_Program_around
          exact ⟨2, fa, fd, P_m_Program_around, fn_zeroG rfl, Z.cl_Program, me, fun s us _ hl => bm_m_Program_around F1 s us hl, no_m_Program_around 0⟩
        | succ c =>
          have h : (none : Option Nat) = some f := h; cases h
      o_want_place := fun c f h => by
        cases c with
        | zero =>
          have h : some i_m_Program_want_place = some f := h
          cases h
          obtain ⟨fa, fd, F1, me⟩ := F.f_m_Program_want_place
          exact ⟨3, fa, fd, P_m_Program_want_place, fn_zeroG rfl, Z.cl_Program, me, fun s us _ hl => bm_m_Program_want_place F1 s us hl, no_m_Program_want_place 0⟩
        | succ c =>
          have h : (none : Option Nat) = some f := h; cases h
      l_len := fun c f h => by
        cases c with
        | zero =>
          have h : some i_dn_Program_len = some f := h
          cases h
          exact ⟨.inl fun l => rfl⟩
        | succ c =>
          have h : (none : Option Nat) = some f := h; cases h
      k_Program := by obtain ⟨fa, fd, F1, mk⟩ := F.f_m_Program_init; exact ⟨Z.at_Program, ⟨fa, mk, .inl fun l => rfl⟩, fun l _ => rfl⟩
      r_m_Program_init := fun fa fd F1 => fn_zeroG rfl
      r_m_Program_len := fun fa fd F1 => fn_zeroG rfl }
  | n + 1 => {
      c_is_whole := by obtain ⟨fa, fd, F1, m⟩ := F.f_is_whole; exact ⟨⟨fa, fd, P_is_whole, [], ok_is_whole B Z (cs B Z F n) F1, m, F1.kp, bn_is_whole F1⟩, fun l h => run_no h⟩
      c_is_count := by obtain ⟨fa, fd, F1, m⟩ := F.f_is_count; exact ⟨⟨fa, fd, P_is_count, [], ok_is_count B Z (cs B Z F n) F1, m, F1.kp, bn_is_count F1⟩, fun l h => run_no h⟩
      c_is_register := by obtain ⟨fa, fd, F1, m⟩ := F.f_is_register; exact ⟨⟨fa, fd, P_is_register, [], ok_is_register B Z (cs B Z F n) F1, m, F1.kp, bn_is_register F1⟩, fun l h => run_no h⟩
      c_rank := by obtain ⟨fa, fd, F1, m⟩ := F.f_rank; exact ⟨⟨fa, fd, P_rank, [], ok_rank B Z (cs B Z F n) F1, m, F1.kp, bn_rank F1⟩, fun l h => run_no h⟩
      c_is_values := by obtain ⟨fa, fd, F1, m⟩ := F.f_is_values; exact ⟨⟨fa, fd, P_is_values, [], ok_is_values B Z (cs B Z F n) F1, m, F1.kp, bn_is_values F1⟩, fun l h => run_no h⟩
      c_may_be_added := by obtain ⟨fa, fd, F1, m⟩ := F.f_may_be_added; exact ⟨⟨fa, fd, P_may_be_added, [], ok_may_be_added B Z (cs B Z F n) F1, m, F1.kp, bn_may_be_added F1⟩, fun l h => run_no h⟩
      c_is_row := by obtain ⟨fa, fd, F1, m⟩ := F.f_is_row; exact ⟨⟨fa, fd, P_is_row, [], ok_is_row B Z (cs B Z F n) F1, m, F1.kp, bn_is_row F1⟩, fun l h => run_no h⟩
      c_is_moment := by obtain ⟨fa, fd, F1, m⟩ := F.f_is_moment; exact ⟨⟨fa, fd, P_is_moment, [], ok_is_moment B Z (cs B Z F n) F1, m, F1.kp, bn_is_moment F1⟩, fun l h => run_no h⟩
      c_want_moment := by obtain ⟨fa, fd, F1, m⟩ := F.f_want_moment; exact ⟨⟨fa, fd, P_want_moment, [], ok_want_moment B Z (cs B Z F n) F1, m, F1.kp, bn_want_moment F1⟩, fun l h => run_no h⟩
      c_is_over := by obtain ⟨fa, fd, F1, m⟩ := F.f_is_over; exact ⟨⟨fa, fd, P_is_over, [], ok_is_over B Z (cs B Z F n) F1, m, F1.kp, bn_is_over F1⟩, fun l h => run_no h⟩
      c_first_moment := by obtain ⟨fa, fd, F1, m⟩ := F.f_first_moment; exact ⟨⟨fa, fd, P_first_moment, [], ok_first_moment B Z (cs B Z F n) F1, m, F1.kp, bn_first_moment F1⟩, fun l h => run_no h⟩
      c_may_stand := by obtain ⟨fa, fd, F1, m⟩ := F.f_may_stand; exact ⟨⟨fa, fd, P_may_stand, [], ok_may_stand B Z (cs B Z F n) F1, m, F1.kp, bn_may_stand F1⟩, fun l h => run_no h⟩
      c_first_wrong := by obtain ⟨fa, fd, F1, m⟩ := F.f_first_wrong; exact ⟨⟨fa, fd, P_first_wrong, [], ok_first_wrong B Z (cs B Z F n) F1, m, F1.kp, bn_first_wrong F1⟩, fun l h => run_no h⟩
      c_repeats_around := by obtain ⟨fa, fd, F1, m⟩ := F.f_repeats_around; exact ⟨⟨fa, fd, P_repeats_around, [], ok_repeats_around B Z (cs B Z F n) F1, m, F1.kp, bn_repeats_around F1⟩, fun l h => run_no h⟩
      c_partners_of := by obtain ⟨fa, fd, F1, m⟩ := F.f_partners_of; exact ⟨⟨fa, fd, P_partners_of, [], ok_partners_of B Z (cs B Z F n) F1, m, F1.kp, bn_partners_of F1⟩, fun l h => run_no h⟩
      c_law_pot := by obtain ⟨fa, fd, F1, m⟩ := F.f_law_pot; exact ⟨⟨fa, fd, P_law_pot, [], ok_law_pot B Z (cs B Z F n) F1, m, F1.kp, bn_law_pot F1⟩, fun l h => run_no h⟩
      c_law_take := by obtain ⟨fa, fd, F1, m⟩ := F.f_law_take; exact ⟨⟨fa, fd, P_law_take, [], ok_law_take B Z (cs B Z F n) F1, m, F1.kp, bn_law_take F1⟩, fun l h => run_no h⟩
      c_law_one := by obtain ⟨fa, fd, F1, m⟩ := F.f_law_one; exact ⟨⟨fa, fd, P_law_one, [], ok_law_one B Z (cs B Z F n) F1, m, F1.kp, bn_law_one F1⟩, fun l h => run_no h⟩
      c_law_count := by obtain ⟨fa, fd, F1, m⟩ := F.f_law_count; exact ⟨⟨fa, fd, P_law_count, [], ok_law_count B Z (cs B Z F n) F1, m, F1.kp, bn_law_count F1⟩, fun l h => run_no h⟩
      c_law_line := by obtain ⟨fa, fd, F1, m⟩ := F.f_law_line; exact ⟨⟨fa, fd, P_law_line, [], ok_law_line B Z (cs B Z F n) F1, m, F1.kp, bn_law_line F1⟩, fun l h => run_no h⟩
      c_law_lines := by obtain ⟨fa, fd, F1, m⟩ := F.f_law_lines; exact ⟨⟨fa, fd, P_law_lines, [], ok_law_lines B Z (cs B Z F n) F1, m, F1.kp, bn_law_lines F1⟩, fun l h => run_no h⟩
      c_law_deep := by obtain ⟨fa, fd, F1, m⟩ := F.f_law_deep; exact ⟨⟨fa, fd, P_law_deep, [], ok_law_deep B Z (cs B Z F n) F1, m, F1.kp, bn_law_deep F1⟩, fun l h => run_no h⟩
      c_law_is_count := by obtain ⟨fa, fd, F1, m⟩ := F.f_law_is_count; exact ⟨⟨fa, fd, P_law_is_count, [], ok_law_is_count B Z (cs B Z F n) F1, m, F1.kp, bn_law_is_count F1⟩, fun l h => run_no h⟩
      c_law_are_counts := by obtain ⟨fa, fd, F1, m⟩ := F.f_law_are_counts; exact ⟨⟨fa, fd, P_law_are_counts, [], ok_law_are_counts B Z (cs B Z F n) F1, m, F1.kp, bn_law_are_counts F1⟩, fun l h => run_no h⟩
      c_law_is_moment := by obtain ⟨fa, fd, F1, m⟩ := F.f_law_is_moment; exact ⟨⟨fa, fd, P_law_is_moment, [], ok_law_is_moment B Z (cs B Z F n) F1, m, F1.kp, bn_law_is_moment F1⟩, fun l h => run_no h⟩
      c_law_drawn := by obtain ⟨fa, fd, F1, m⟩ := F.f_law_drawn; exact ⟨⟨fa, fd, P_law_drawn, [], ok_law_drawn B Z (cs B Z F n) F1, m, F1.kp, bn_law_drawn F1⟩, fun l h => run_no h⟩
      c_law_odd_number := by obtain ⟨fa, fd, F1, m⟩ := F.f_law_odd_number; exact ⟨⟨fa, fd, P_law_odd_number, [], ok_law_odd_number B Z (cs B Z F n) F1, m, F1.kp, bn_law_odd_number F1⟩, fun l h => run_no h⟩
      c_law_odd_row := by obtain ⟨fa, fd, F1, m⟩ := F.f_law_odd_row; exact ⟨⟨fa, fd, P_law_odd_row, [], ok_law_odd_row B Z (cs B Z F n) F1, m, F1.kp, bn_law_odd_row F1⟩, fun l h => run_no h⟩
      c_law_odd := by obtain ⟨fa, fd, F1, m⟩ := F.f_law_odd; exact ⟨⟨fa, fd, P_law_odd, [], ok_law_odd B Z (cs B Z F n) F1, m, F1.kp, bn_law_odd F1⟩, fun l h => run_no h⟩
      c_law_truth := by obtain ⟨fa, fd, F1, m⟩ := F.f_law_truth; exact ⟨⟨fa, fd, P_law_truth, [], ok_law_truth B Z (cs B Z F n) F1, m, F1.kp, bn_law_truth F1⟩, fun l h => run_no h⟩
      c_law_right := by obtain ⟨fa, fd, F1, m⟩ := F.f_law_right; exact ⟨⟨fa, fd, P_law_right, [], ok_law_right B Z (cs B Z F n) F1, m, F1.kp, bn_law_right F1⟩, fun l h => run_no h⟩
      c_law := by obtain ⟨fa, fd, F1, m⟩ := F.f_law; exact ⟨⟨fa, fd, P_law, [], ok_law B Z (cs B Z F n) F1, m, F1.kp, bn_law F1⟩, fun l h => run_no h⟩
      o_around := fun c f h => by
        cases c with
        | zero =>
          have h : some i_m_Program_around = some f := h
          cases h
          obtain ⟨fa, fd, F1, me⟩ := F.f_m_Program_around
          exact ⟨2, fa, fd, P_m_Program_around, ok_m_Program_around B Z (cs B Z F n) F1, Z.cl_Program, me, fun s us _ hl => bm_m_Program_around F1 s us hl, no_m_Program_around (n + 1)⟩
        | succ c =>
          have h : (none : Option Nat) = some f := h; cases h
      o_want_place := fun c f h => by
        cases c with
        | zero =>
          have h : some i_m_Program_want_place = some f := h
          cases h
          obtain ⟨fa, fd, F1, me⟩ := F.f_m_Program_want_place
          exact ⟨3, fa, fd, P_m_Program_want_place, ok_m_Program_want_place B Z (cs B Z F n) F1, Z.cl_Program, me, fun s us _ hl => bm_m_Program_want_place F1 s us hl, no_m_Program_want_place (n + 1)⟩
        | succ c =>
          have h : (none : Option Nat) = some f := h; cases h
      l_len := fun c f h => by
        cases c with
        | zero =>
          have h : some i_dn_Program_len = some f := h
          cases h
          obtain ⟨fa, fd, F1, me⟩ := F.f_m_Program_len
          exact ⟨.inr ⟨n, 1, fa, fd, P_m_Program_len, rfl, (cs B Z F n).r_m_Program_len fa fd F1, me, fun s us _ hl => bm_m_Program_len F1 s us hl, no_m_Program_len n⟩⟩
        | succ c =>
          have h : (none : Option Nat) = some f := h; cases h
      k_Program := by obtain ⟨fa, fd, F1, mk⟩ := F.f_m_Program_init; exact ⟨Z.at_Program, ⟨fa, mk, .inr ⟨n, fd, P_m_Program_init, rfl, (cs B Z F n).r_m_Program_init fa fd F1, fun s us _ hl => bm_m_Program_init F1 s us hl⟩⟩, no_m_Program_init n⟩
      r_m_Program_init := fun fa fd F1 => ok_m_Program_init B Z (cs B Z F n) F1
      r_m_Program_len := fun fa fd F1 => ok_m_Program_len B Z (cs B Z F n) F1 }
def h_is_whole : He.DefD := ⟨("is_whole", none), "is_whole", "is_whole", defArgs st_is_whole, defBody st_is_whole, defScope st_is_whole, [], []⟩
def h_is_count : He.DefD := ⟨("is_count", none), "is_count", "is_count", defArgs st_is_count, defBody st_is_count, defScope st_is_count, [], []⟩
def h_is_register : He.DefD := ⟨("is_register", none), "is_register", "is_register", defArgs st_is_register, defBody st_is_register, defScope st_is_register, [], []⟩
def h_rank : He.DefD := ⟨("rank", none), "rank", "rank", defArgs st_rank, defBody st_rank, defScope st_rank, [], []⟩
def h_is_values : He.DefD := ⟨("is_values", none), "is_values", "is_values", defArgs st_is_values, defBody st_is_values, defScope st_is_values, [], []⟩
def h_may_be_added : He.DefD := ⟨("may_be_added", none), "may_be_added", "may_be_added", defArgs st_may_be_added, defBody st_may_be_added, defScope st_may_be_added, [], []⟩
def h_is_row : He.DefD := ⟨("is_row", none), "is_row", "is_row", defArgs st_is_row, defBody st_is_row, defScope st_is_row, [], []⟩
def h_is_moment : He.DefD := ⟨("is_moment", none), "is_moment", "is_moment", defArgs st_is_moment, defBody st_is_moment, defScope st_is_moment, [], []⟩
def h_want_moment : He.DefD := ⟨("want_moment", none), "want_moment", "want_moment", defArgs st_want_moment, defBody st_want_moment, defScope st_want_moment, [], []⟩
def h_is_over : He.DefD := ⟨("is_over", none), "is_over", "is_over", defArgs st_is_over, defBody st_is_over, defScope st_is_over, [], []⟩
def h_first_moment : He.DefD := ⟨("first_moment", none), "first_moment", "first_moment", defArgs st_first_moment, defBody st_first_moment, defScope st_first_moment, [], []⟩
def h_may_stand : He.DefD := ⟨("may_stand", none), "may_stand", "may_stand", defArgs st_may_stand, defBody st_may_stand, defScope st_may_stand, [], []⟩
def h_first_wrong : He.DefD := ⟨("first_wrong", none), "first_wrong", "first_wrong", defArgs st_first_wrong, defBody st_first_wrong, defScope st_first_wrong, [], []⟩
def h_repeats_around : He.DefD := ⟨("repeats_around", none), "repeats_around", "repeats_around", defArgs st_repeats_around, defBody st_repeats_around, defScope st_repeats_around, [], []⟩
def h_partners_of : He.DefD := ⟨("partners_of", none), "partners_of", "partners_of", defArgs st_partners_of, defBody st_partners_of, defScope st_partners_of, [], []⟩
def h_law_pot : He.DefD := ⟨("_law_pot", none), "_law_pot", "_law_pot", defArgs st_law_pot, defBody st_law_pot, defScope st_law_pot, [], []⟩
def h_law_take : He.DefD := ⟨("_law_take", none), "_law_take", "_law_take", defArgs st_law_take, defBody st_law_take, defScope st_law_take, [], []⟩
def h_law_one : He.DefD := ⟨("_law_one", none), "_law_one", "_law_one", defArgs st_law_one, defBody st_law_one, defScope st_law_one, [], []⟩
def h_law_count : He.DefD := ⟨("_law_count", none), "_law_count", "_law_count", defArgs st_law_count, defBody st_law_count, defScope st_law_count, [], []⟩
def h_law_line : He.DefD := ⟨("_law_line", none), "_law_line", "_law_line", defArgs st_law_line, defBody st_law_line, defScope st_law_line, [], []⟩
def h_law_lines : He.DefD := ⟨("_law_lines", none), "_law_lines", "_law_lines", defArgs st_law_lines, defBody st_law_lines, defScope st_law_lines, [], []⟩
def h_law_deep : He.DefD := ⟨("_law_deep", none), "_law_deep", "_law_deep", defArgs st_law_deep, defBody st_law_deep, defScope st_law_deep, [], []⟩
def h_law_is_count : He.DefD := ⟨("_law_is_count", none), "_law_is_count", "_law_is_count", defArgs st_law_is_count, defBody st_law_is_count, defScope st_law_is_count, [], []⟩
def h_law_are_counts : He.DefD := ⟨("_law_are_counts", none), "_law_are_counts", "_law_are_counts", defArgs st_law_are_counts, defBody st_law_are_counts, defScope st_law_are_counts, [], []⟩
def h_law_is_moment : He.DefD := ⟨("_law_is_moment", none), "_law_is_moment", "_law_is_moment", defArgs st_law_is_moment, defBody st_law_is_moment, defScope st_law_is_moment, [], []⟩
def h_law_drawn : He.DefD := ⟨("_law_drawn", none), "_law_drawn", "_law_drawn", defArgs st_law_drawn, defBody st_law_drawn, defScope st_law_drawn, [], []⟩
def h_law_odd_number : He.DefD := ⟨("_law_odd_number", none), "_law_odd_number", "_law_odd_number", defArgs st_law_odd_number, defBody st_law_odd_number, defScope st_law_odd_number, [], []⟩
def h_law_odd_row : He.DefD := ⟨("_law_odd_row", none), "_law_odd_row", "_law_odd_row", defArgs st_law_odd_row, defBody st_law_odd_row, defScope st_law_odd_row, [], []⟩
def h_law_odd : He.DefD := ⟨("_law_odd", none), "_law_odd", "_law_odd", defArgs st_law_odd, defBody st_law_odd, defScope st_law_odd, [], []⟩
def h_law_truth : He.DefD := ⟨("_law_truth", none), "_law_truth", "_law_truth", defArgs st_law_truth, defBody st_law_truth, defScope st_law_truth, [], []⟩
def h_law_right : He.DefD := ⟨("_law_right", none), "_law_right", "_law_right", defArgs st_law_right, defBody st_law_right, defScope st_law_right, [], []⟩
def h_law : He.DefD := ⟨("law", none), "law", "law", defArgs st_law, defBody st_law, defScope st_law, [], []⟩
def h_m_Program_init : He.DefD := ⟨("Program", some "__init__"), "__init__", "Program.__init__", defArgs st_m_Program_init, defBody st_m_Program_init, defScope st_m_Program_init, [], []⟩
def h_m_Program_want_place : He.DefD := ⟨("Program", some "want_place"), "want_place", "Program.want_place", defArgs st_m_Program_want_place, defBody st_m_Program_want_place, defScope st_m_Program_want_place, [], []⟩
def h_m_Program_around : He.DefD := ⟨("Program", some "around"), "around", "Program.around", defArgs st_m_Program_around, defBody st_m_Program_around, defScope st_m_Program_around, [], []⟩
def h_m_Program_len : He.DefD := ⟨("Program", some "__len__"), "__len__", "Program.__len__", defArgs st_m_Program_len, defBody st_m_Program_len, defScope st_m_Program_len, [], []⟩
def fn : List He.DefD := [h_is_whole, h_is_count, h_is_register, h_rank, h_is_values, h_may_be_added, h_is_row, h_is_moment, h_want_moment, h_is_over, h_first_moment, h_may_stand, h_first_wrong, h_repeats_around, h_partners_of, h_law_pot, h_law_take, h_law_one, h_law_count, h_law_line, h_law_lines, h_law_deep, h_law_is_count, h_law_are_counts, h_law_is_moment, h_law_drawn, h_law_odd_number, h_law_odd_row, h_law_odd, h_law_truth, h_law_right, h_law, h_m_Program_init, h_m_Program_want_place, h_m_Program_around, h_m_Program_len]
def fa : List He.Fa := [.free "abs", .free "all", .free "bool", .free "divmod", .free "enumerate", .free "int", .free "isinstance", .free "len", .free "list", .free "max", .free "min", .free "range", .free "repr", .free "str", .free "tuple", .int "MOST_DEEP" 3, .int "MOST_ROWS" 40, .glo "REGISTERS", .glo "Program", .cls "Program", .noat "Program" "partners", .noat "Program" "lines", .noat "Program" "arounds", .glo "is_whole", .glo "is_count", .glo "is_register", .glo "rank", .glo "is_values", .glo "may_be_added", .glo "is_row", .glo "is_moment", .glo "want_moment", .glo "is_over", .glo "first_moment", .glo "may_stand", .glo "first_wrong", .glo "repeats_around", .glo "partners_of", .glo "_law_pot", .glo "_law_take", .glo "_law_one", .glo "_law_count", .glo "_law_line", .glo "_law_lines", .glo "_law_deep", .glo "_law_is_count", .glo "_law_are_counts", .glo "_law_is_moment", .glo "_law_drawn", .glo "_law_odd_number", .glo "_law_odd_row", .glo "_law_odd", .glo "_law_truth", .glo "_law_right", .glo "law", .mkr "Program", .meth "Program" "want_place", .meth "Program" "around", .meth "Program" "__len__"]
def ex (K : PySem.W.Frag) : Bool := tupN K "REGISTERS" [[97], [98], [99], [100], [101]]
def nm0 : List PySem.Str := ["_wall", "__name__", "FarError", "NoValues", "NoMoment", "NoProgram", "NoSuch", "NoPlace", "REGISTERS", "is_whole", "is_count", "is_register", "rank", "is_values", "may_be_added", "is_row", "row_text", "is_moment", "want_moment", "is_over", "first_moment", "MOST_ROWS", "MOST_DEEP", "may_stand", "first_wrong", "repeats_around", "partners_of", "Program", "_law_pot", "_law_take"]
def nm1 : List PySem.Str := ["_law_one", "_law_count", "_law_line", "_law_lines", "_law_deep", "_law_is_count", "_law_are_counts", "_law_is_moment", "_law_drawn", "_law_odd_number", "_law_odd_row", "_law_odd", "_law_truth", "_law_right"]
def names : List PySem.Str := nm0 ++ nm1
abbrev R : PySem.W.OpenRow := PySem.W.OpenLaw.row PySem.Challenge.rw_farsteps_k21_moments
abbrev hk : PySem.W.Hook := hookE 7 fa fn ex
def ob (s : PySem.W.SharedT) : He.AlD × Bool := obsE 7 fa fn ex (HandSHeadRun.getT s)
theorem ob_eq (s : PySem.W.SharedT) : ob s = hk.obs s.abs := obsE_eq (HandSHeadRun.getT_eq s)
theorem run (w : World) : HandSHeadRun.RunEq R (PySem.W.view R.prog [48]) hk ob 3000 names w := by
  intro os
  kernel_rfl
theorem facts {K : PySem.W.Frag} {h : Heap} {mg : Str → Option Value} (X : K.In h) (Gm : h.Ns mainGlobals mg) (c : He.SaysD fa fn K) (d : ex K = true) : Bs_ mg ∧ Zs_ K mg ∧ Fs_ K mg := by
  refine ⟨{
      b_abs := He.free_ok X Gm (c.fact 0 (f := .free "abs") rfl)
      b_all := He.free_ok X Gm (c.fact 1 (f := .free "all") rfl)
      b_bool := He.free_ok X Gm (c.fact 2 (f := .free "bool") rfl)
      b_divmod := He.free_ok X Gm (c.fact 3 (f := .free "divmod") rfl)
      b_enumerate := He.free_ok X Gm (c.fact 4 (f := .free "enumerate") rfl)
      b_int := He.free_ok X Gm (c.fact 5 (f := .free "int") rfl)
      b_isinstance := He.free_ok X Gm (c.fact 6 (f := .free "isinstance") rfl)
      b_len := He.free_ok X Gm (c.fact 7 (f := .free "len") rfl)
      b_list := He.free_ok X Gm (c.fact 8 (f := .free "list") rfl)
      b_max := He.free_ok X Gm (c.fact 9 (f := .free "max") rfl)
      b_min := He.free_ok X Gm (c.fact 10 (f := .free "min") rfl)
      b_range := He.free_ok X Gm (c.fact 11 (f := .free "range") rfl)
      b_repr := He.free_ok X Gm (c.fact 12 (f := .free "repr") rfl)
      b_str := He.free_ok X Gm (c.fact 13 (f := .free "str") rfl)
      b_tuple := He.free_ok X Gm (c.fact 14 (f := .free "tuple") rfl)
    }, {
      g_MOST_DEEP := He.int_ok X Gm (c.fact 15 (f := .int "MOST_DEEP" 3) rfl)
      g_MOST_ROWS := He.int_ok X Gm (c.fact 16 (f := .int "MOST_ROWS" 40) rfl)
      g_REGISTERS := gtup_ok (He.glo_ok X Gm (c.fact 17 (f := .glo "REGISTERS") rfl)) d
      at_Program := He.glo_ok X Gm (c.fact 18 (f := .glo "Program") rfl)
      cl_Program := He.cls_ok (c.fact 19 (f := .cls "Program") rfl)
      na_Program_partners := He.noat_ok (c.fact 20 (f := .noat "Program" "partners") rfl)
      na_Program_lines := He.noat_ok (c.fact 21 (f := .noat "Program" "lines") rfl)
      na_Program_arounds := He.noat_ok (c.fact 22 (f := .noat "Program" "arounds") rfl)
    }, {
      f_is_whole := by obtain ⟨fd, F⟩ := c.def_ 0 (d := h_is_whole) rfl; exact ⟨_, fd, F, He.glo_ok X Gm (c.fact 23 (f := .glo "is_whole") rfl)⟩
      f_is_count := by obtain ⟨fd, F⟩ := c.def_ 1 (d := h_is_count) rfl; exact ⟨_, fd, F, He.glo_ok X Gm (c.fact 24 (f := .glo "is_count") rfl)⟩
      f_is_register := by obtain ⟨fd, F⟩ := c.def_ 2 (d := h_is_register) rfl; exact ⟨_, fd, F, He.glo_ok X Gm (c.fact 25 (f := .glo "is_register") rfl)⟩
      f_rank := by obtain ⟨fd, F⟩ := c.def_ 3 (d := h_rank) rfl; exact ⟨_, fd, F, He.glo_ok X Gm (c.fact 26 (f := .glo "rank") rfl)⟩
      f_is_values := by obtain ⟨fd, F⟩ := c.def_ 4 (d := h_is_values) rfl; exact ⟨_, fd, F, He.glo_ok X Gm (c.fact 27 (f := .glo "is_values") rfl)⟩
      f_may_be_added := by obtain ⟨fd, F⟩ := c.def_ 5 (d := h_may_be_added) rfl; exact ⟨_, fd, F, He.glo_ok X Gm (c.fact 28 (f := .glo "may_be_added") rfl)⟩
      f_is_row := by obtain ⟨fd, F⟩ := c.def_ 6 (d := h_is_row) rfl; exact ⟨_, fd, F, He.glo_ok X Gm (c.fact 29 (f := .glo "is_row") rfl)⟩
      f_is_moment := by obtain ⟨fd, F⟩ := c.def_ 7 (d := h_is_moment) rfl; exact ⟨_, fd, F, He.glo_ok X Gm (c.fact 30 (f := .glo "is_moment") rfl)⟩
      f_want_moment := by obtain ⟨fd, F⟩ := c.def_ 8 (d := h_want_moment) rfl; exact ⟨_, fd, F, He.glo_ok X Gm (c.fact 31 (f := .glo "want_moment") rfl)⟩
      f_is_over := by obtain ⟨fd, F⟩ := c.def_ 9 (d := h_is_over) rfl; exact ⟨_, fd, F, He.glo_ok X Gm (c.fact 32 (f := .glo "is_over") rfl)⟩
      f_first_moment := by obtain ⟨fd, F⟩ := c.def_ 10 (d := h_first_moment) rfl; exact ⟨_, fd, F, He.glo_ok X Gm (c.fact 33 (f := .glo "first_moment") rfl)⟩
      f_may_stand := by obtain ⟨fd, F⟩ := c.def_ 11 (d := h_may_stand) rfl; exact ⟨_, fd, F, He.glo_ok X Gm (c.fact 34 (f := .glo "may_stand") rfl)⟩
      f_first_wrong := by obtain ⟨fd, F⟩ := c.def_ 12 (d := h_first_wrong) rfl; exact ⟨_, fd, F, He.glo_ok X Gm (c.fact 35 (f := .glo "first_wrong") rfl)⟩
      f_repeats_around := by obtain ⟨fd, F⟩ := c.def_ 13 (d := h_repeats_around) rfl; exact ⟨_, fd, F, He.glo_ok X Gm (c.fact 36 (f := .glo "repeats_around") rfl)⟩
      f_partners_of := by obtain ⟨fd, F⟩ := c.def_ 14 (d := h_partners_of) rfl; exact ⟨_, fd, F, He.glo_ok X Gm (c.fact 37 (f := .glo "partners_of") rfl)⟩
      f_law_pot := by obtain ⟨fd, F⟩ := c.def_ 15 (d := h_law_pot) rfl; exact ⟨_, fd, F, He.glo_ok X Gm (c.fact 38 (f := .glo "_law_pot") rfl)⟩
      f_law_take := by obtain ⟨fd, F⟩ := c.def_ 16 (d := h_law_take) rfl; exact ⟨_, fd, F, He.glo_ok X Gm (c.fact 39 (f := .glo "_law_take") rfl)⟩
      f_law_one := by obtain ⟨fd, F⟩ := c.def_ 17 (d := h_law_one) rfl; exact ⟨_, fd, F, He.glo_ok X Gm (c.fact 40 (f := .glo "_law_one") rfl)⟩
      f_law_count := by obtain ⟨fd, F⟩ := c.def_ 18 (d := h_law_count) rfl; exact ⟨_, fd, F, He.glo_ok X Gm (c.fact 41 (f := .glo "_law_count") rfl)⟩
      f_law_line := by obtain ⟨fd, F⟩ := c.def_ 19 (d := h_law_line) rfl; exact ⟨_, fd, F, He.glo_ok X Gm (c.fact 42 (f := .glo "_law_line") rfl)⟩
      f_law_lines := by obtain ⟨fd, F⟩ := c.def_ 20 (d := h_law_lines) rfl; exact ⟨_, fd, F, He.glo_ok X Gm (c.fact 43 (f := .glo "_law_lines") rfl)⟩
      f_law_deep := by obtain ⟨fd, F⟩ := c.def_ 21 (d := h_law_deep) rfl; exact ⟨_, fd, F, He.glo_ok X Gm (c.fact 44 (f := .glo "_law_deep") rfl)⟩
      f_law_is_count := by obtain ⟨fd, F⟩ := c.def_ 22 (d := h_law_is_count) rfl; exact ⟨_, fd, F, He.glo_ok X Gm (c.fact 45 (f := .glo "_law_is_count") rfl)⟩
      f_law_are_counts := by obtain ⟨fd, F⟩ := c.def_ 23 (d := h_law_are_counts) rfl; exact ⟨_, fd, F, He.glo_ok X Gm (c.fact 46 (f := .glo "_law_are_counts") rfl)⟩
      f_law_is_moment := by obtain ⟨fd, F⟩ := c.def_ 24 (d := h_law_is_moment) rfl; exact ⟨_, fd, F, He.glo_ok X Gm (c.fact 47 (f := .glo "_law_is_moment") rfl)⟩
      f_law_drawn := by obtain ⟨fd, F⟩ := c.def_ 25 (d := h_law_drawn) rfl; exact ⟨_, fd, F, He.glo_ok X Gm (c.fact 48 (f := .glo "_law_drawn") rfl)⟩
      f_law_odd_number := by obtain ⟨fd, F⟩ := c.def_ 26 (d := h_law_odd_number) rfl; exact ⟨_, fd, F, He.glo_ok X Gm (c.fact 49 (f := .glo "_law_odd_number") rfl)⟩
      f_law_odd_row := by obtain ⟨fd, F⟩ := c.def_ 27 (d := h_law_odd_row) rfl; exact ⟨_, fd, F, He.glo_ok X Gm (c.fact 50 (f := .glo "_law_odd_row") rfl)⟩
      f_law_odd := by obtain ⟨fd, F⟩ := c.def_ 28 (d := h_law_odd) rfl; exact ⟨_, fd, F, He.glo_ok X Gm (c.fact 51 (f := .glo "_law_odd") rfl)⟩
      f_law_truth := by obtain ⟨fd, F⟩ := c.def_ 29 (d := h_law_truth) rfl; exact ⟨_, fd, F, He.glo_ok X Gm (c.fact 52 (f := .glo "_law_truth") rfl)⟩
      f_law_right := by obtain ⟨fd, F⟩ := c.def_ 30 (d := h_law_right) rfl; exact ⟨_, fd, F, He.glo_ok X Gm (c.fact 53 (f := .glo "_law_right") rfl)⟩
      f_law := by obtain ⟨fd, F⟩ := c.def_ 31 (d := h_law) rfl; exact ⟨_, fd, F, He.glo_ok X Gm (c.fact 54 (f := .glo "law") rfl)⟩
      f_m_Program_init := by obtain ⟨fd, F⟩ := c.def_ 32 (d := h_m_Program_init) rfl; exact ⟨_, fd, F, He.mkr_ok (c.fact 55 (f := .mkr "Program") rfl)⟩
      f_m_Program_want_place := by obtain ⟨fd, F⟩ := c.def_ 33 (d := h_m_Program_want_place) rfl; exact ⟨_, fd, F, He.meth_ok (c.fact 56 (f := .meth "Program" "want_place") rfl)⟩
      f_m_Program_around := by obtain ⟨fd, F⟩ := c.def_ 34 (d := h_m_Program_around) rfl; exact ⟨_, fd, F, He.meth_ok (c.fact 57 (f := .meth "Program" "around") rfl)⟩
      f_m_Program_len := by obtain ⟨fd, F⟩ := c.def_ 35 (d := h_m_Program_len) rfl; exact ⟨_, fd, F, He.meth_ok (c.fact 58 (f := .meth "Program" "__len__") rfl)⟩
    }⟩
theorem entry0 {K : PySem.W.Frag} {H : Hp} {a : Addr} {ns : List Int} (hS : SqL K H a (ns.map V.int)) : ST (Tt K) ⟨H, H, pasOf 0 [.ref a] [Sl.sh (.scr ns)]⟩ H H ([V.ref a].map some) [.sh (.scr ns)] [] where
  sub := Same.refl H
  s0 := Same.refl H
  len := rfl
  slot := fun i s h => by
    cases i with
    | zero => cases h; exact ⟨_, rfl, _, rfl, .scr hS⟩
    | succ i => simp at h
  temp := fun t h => by simp at h
  dist := fun i j p ⟨_, s, b, c⟩ _ => by
    cases i with
    | zero => cases b; cases c
    | succ i => simp at b
  dtt := by simp [tmpL]
  dts := fun p h => by simp [tmpL] at h
  pak := fun q h => by simp [pasOf] at h
  keep := fun b o h _ => h
  dom := fun b o h => ⟨o, h⟩
  new := fun b o h => .inl ⟨o, h⟩
theorem law_sp {K : PySem.W.Frag} (pure_law : ∀ ns : List Int, ns.length ≤ 63 → ∃ l, (G 14).fn i_law [.sh (.scr ns)] = .ok (.d (.bl true)) l) {H : Hp} {a : Addr} {ns : List Int} (hl : ns.length ≤ 63) (hS : SqL K H a (ns.map V.int)) (E : XK) :
    SpF (Tt K) 1 ((G 14).fn i_law) [.ref a] H (fun v _ => v = .bl true) E := by
  obtain ⟨l, e⟩ := pure_law ns hl
  refine ⟨rfl, H, [.sh (.scr ns)], rfl, fun s h => .inl ⟨_, List.mem_singleton.mp h⟩, entry0 hS, ?_⟩
  rw [e]
  intro H0' H' v _ S
  have r : Rp (Tt K) H0' v (.bl true) := S.temp _ (List.mem_cons_self ..)
  cases r
  rfl
end Lw
open PySem PySem.W PySem.Calls PyProof.Rows
theorem PySem.Challenge.cw_farsteps_k21_moments_holds : PySem.Challenge.rw_farsteps_k21_moments.Holds := by
  w_on; o_law
  refine HandSHeadRun.head_any (r := OpenLaw.row PySem.Challenge.rw_farsteps_k21_moments) (q := view (OpenLaw.row PySem.Challenge.rw_farsteps_k21_moments).prog [48]) (H := Lw.hk) (ob := Lw.ob) (M := 3000) (loose := Lw.names) (d := HandSHeadRun.topDef (OpenLaw.row PySem.Challenge.rw_farsteps_k21_moments).prog 48) (kwd := []) Lw.ob_eq
    (by kernel_rfl) (fun s => by kernel_rfl) Lw.run (by kernel_rfl) (by kernel_rfl) (by kernel_rfl) (by rfl) (by first | assumption | decide +kernel) (by decide +kernel) ⟨rfl, rfl, rfl, rfl, rfl, by decide +kernel⟩ ?hw ?hc
  case hw => w_witness2
  case hc =>
    refine Mi.walk_ofG (l := PySem.Challenge.rw_farsteps_k21_moments) (n := 63) (k := 14) (x := "_law_script") rfl (by decide) (by kernel_rfl) ⟨rfl, by decide, by decide⟩ ?F
    intro w mg fa h Y G hmg0
    obtain ⟨K, KX, c, d⟩ := Y
    have hmg : mg ("law" : PySem.Str) = some (.ref fa) := by
      have e : (HandSHeadRun.topDef (OpenLaw.row PySem.Challenge.rw_farsteps_k21_moments).prog 48).name = ("law" : PySem.Str) := by kernel_rfl
      rw [← e]
      exact hmg0
    obtain ⟨B, Z, F⟩ := Lw.facts KX G c d
    obtain ⟨fa', fd, FL, m⟩ := F.f_law
    have e := hmg.symm.trans m
    cases e
    exact ⟨K, fd, Mi.SpF (Lw.Tt K) 1 ((Lw.G 14).fn Lw.i_law), KX, fun s v => L2.FunD.bindsA (ps := ["_law_script"]) FL (fun _ _ _ _ _ _ us hl => match us, hl with | [_], _ => rfl) s [v] rfl, fun H a ns hl _ hS => Lw.law_sp Lw.pure_law hl hS _, fun base _ _ => Lw.ok_law B Z (Lw.cs B Z F 13) FL⟩
