import PyProof.Rows.All
import Wide.All
import OpenK.AllK
import Wide.FinOn
import HandS.Base
import HandS.Call
import HandS.List
import HandS.Comp
import HandS.Ends
import HandS.Dict
import HandS.Iter
import HandS.Text
import HandS.Exc
import HandS.Words
import HandS.WordsList
import HandS.WordsDict
import HandS.WordsExc
import HandS.ForMost
import HandS.Wide
import HandS.WideBits
import HandS.IsInst
import HandS.TupLe
import HandS.TupAny
import HandS.TupMul
import HandS.Conv
import HandS.Style
import HandS.RaiseMore
import HandS.SortInts
import PyProof.ReprRoads
import HandS.StrMore
import HandS.Strs
import HandS.ExcOwn
import HandS.Defaults
import KE.GoesEnum
import KE.GoesZip
import HandS.Small
import HandS.Flow
import HandS.MakeKwOnly
import KE.KUnpack
import HandS.TryMany
import HandS.ExcValue
import KE.KUnpackStar
import HandS.HeadEnd
import HandS.Replace
import HandS.HeadHook1
import HandS.HeadHook2
import HandS.Codes
import HandS.ExcField
import HandS.ExcIs
import KE.KIsAll
import KE.KExcIs
import HandS.ExcInit
import KE.KExcInit
import PySem.Challenge.RW_farsteps_k37_differences_refused
import KE.KStateDown
import Lean
import HandS.More
import HandS.Head0
import HandS.Head1
import HandS.Head2
set_option Elab.async false
set_option linter.all false
set_option maxHeartbeats 0
set_option maxRecDepth 100000
/-! A small language of its own: data, environments, and what a text of it computes. Plain Lean, no program in sight. -/
namespace Mi
abbrev Tx := List Nat
/-- data: what a value stands for, its identity left out -/
inductive D where
  | non | bl (b : Bool) | int (i : Int) | str (s : Tx)
  | tup (xs : List D) | lst (xs : List D) | dic (ks : List (D × D)) | ins (c : Nat) (fs : List (Nat × D))
  | scr (ns : List Int)
  deriving Inhabited
/-- an object that one name alone reaches -/
inductive Ob where
  | lst (xs : List D) | dic (ks : List (D × D)) | ins (c : Nat) (fs : List (Nat × D))
  deriving Inhabited
def Ob.d : Ob → D
  | .lst xs => .lst xs
  | .dic ks => .dic ks
  | .ins c fs => .ins c fs
/-- a raised thing: its class, its fields -/
structure Xc where
  cls : Nat
  fs : List (Nat × D)
/-- a slot: nothing, data that stands still, an object of one's own, an object of the caller's, the raised thing that is handled -/
inductive Sl where
  | un | sh (d : D) | ow (o : Ob) | pa (o : Ob) | xc (x : Xc)
  deriving Inhabited
abbrev Env := List Sl
/-- a result: data, a new object, what slot i has -/
inductive Rs where
  | d (x : D) | fr (o : Ob) | bo (i : Nat)
  deriving Inhabited
inductive Out (α : Type) where
  | ok (a : α) (e : Env) | ex (x : Xc) (e : Env) | no
def Out.bind {α β : Type} (o : Out α) (f : α → Env → Out β) : Out β :=
  match o with
  | .ok a e => f a e
  | .ex x e => .ex x e
  | .no => .no
/-- an answer that may be wanting -/
def Out.of {α : Type} (e : Env) : Option α → Out α
  | some a => .ok a e
  | none => .no
def Out.of2 {α : Type} : Option (α × Env) → Out α
  | some (a, e) => .ok a e
  | none => .no
/-! ### what a result shows -/
def Rs.see (e : Env) : Rs → Option D
  | .d x => some x
  | .fr o => some o.d
  | .bo i => match e[i]? with
    | some (.sh x) => some x
    | some (.ow o) => some o.d
    | some (.pa o) => some o.d
    | _ => none
/-- a result as data that stands still -/
def Rs.hold (e : Env) : Rs → Option (D × Env)
  | .d x => some (x, e)
  | .fr o => some (o.d, e)
  | .bo i => match e[i]? with
    | some (.sh x) => some (x, e)
    | some (.ow o) => some (o.d, e.set i (.sh o.d))
    | _ => none
def holds : List Rs → Env → Option (List D × Env)
  | [], e => some ([], e)
  | r :: rs, e => match r.hold e with
    | some (x, e1) => match holds rs e1 with
      | some (xs, e2) => some (x :: xs, e2)
      | none => none
    | none => none
def sees (e : Env) : List Rs → Option (List D)
  | [] => some []
  | r :: rs => match r.see e with
    | some x => match sees e rs with
      | some xs => some (x :: xs)
      | none => none
    | none => none
/-! ### handing over -/
def passS (e : Env) : Rs → Option Sl
  | .d x => some (.sh x)
  | .fr o => some (.sh o.d)
  | .bo i => match e[i]? with
    | some (.sh x) => some (.sh x)
    | some (.ow o) => some (.pa o)
    | some (.pa o) => some (.pa o)
    | _ => none
def passAll (e : Env) : List Rs → Option (List Sl)
  | [] => some []
  | r :: rs => match passS e r with
    | some s => match passAll e rs with
      | some l => some (s :: l)
      | none => none
    | none => none
/-- the slots that are handed over -/
def lent : List Rs → List Nat
  | [] => []
  | .bo i :: rs => i :: lent rs
  | _ :: rs => lent rs
def noTwice : List Nat → Bool
  | [] => true
  | i :: l => !l.contains i && noTwice l
def backS (e : Env) : Rs → Sl → Env
  | .bo i, .pa o => match e[i]? with
    | some (.ow _) => e.set i (.ow o)
    | some (.pa _) => e.set i (.pa o)
    | _ => e
  | _, _ => e
def backAll (e : Env) : List Rs → List Sl → Env
  | r :: rs, s :: l => backAll (backS e r s) rs l
  | _, _ => e
/-! ### operations on data -/
inductive Bop where
  | add | sub | mul | fdiv | mod | pow
  deriving DecidableEq
inductive Cop where
  | eq | ne | lt | le | gt | ge | isN | notN | isIn | notIn
  deriving DecidableEq
def szLine : Nat := 16777216
def szOk (n : Nat) : Bool := decide (n ≤ 16000000)
/-- == of data; none where objects of classes, dicts are met -/
def flatD : D → Bool
  | .non => true
  | .bl _ => true
  | .int _ => true
  | .str _ => true
  | _ => false
def b2i (b : Bool) : Int := if b then 1 else 0
mutual
def eqD : D → D → Bool
  | .non, .non => true
  | .bl a, .bl b => a == b
  | .bl a, .int b => b2i a == b
  | .int a, .bl b => a == b2i b
  | .int a, .int b => a == b
  | .str a, .str b => a == b
  | .tup xs, .tup ys => eqDs xs ys
  | .lst xs, .lst ys => eqDs xs ys
  | _, _ => false
def eqDs : List D → List D → Bool
  | [], [] => true
  | x :: xs, y :: ys => eqD x y && eqDs xs ys
  | _, _ => false
end
mutual
/-- data without objects of classes, dicts, at most so deep -/
def plainD : Nat → D → Bool
  | _, .non => true
  | _, .bl _ => true
  | _, .int _ => true
  | _, .str s => s.all (fun c => decide (c < 1114112))
  | n + 1, .tup xs => plainDs n xs
  | n + 1, .lst xs => plainDs n xs
  | _, _ => false
def plainDs : Nat → List D → Bool
  | _, [] => true
  | n, x :: xs => plainD n x && plainDs n xs
end
/-- the place that an index of any sign means -/
def plc (n : Nat) (i : Int) : Option Nat :=
  if 0 ≤ i then (if i < n then some i.toNat else none) else if -(n : Int) ≤ i then some (i + n).toNat else none
def mulOk (i j : Int) : Bool := decide (i.natAbs.log2 + j.natAbs.log2 < 1000000)
def divOk (j : Int) : Bool := decide (0 < j) && decide (j.natAbs.log2 < 9000)
def binD : Bop → D → D → Option Rs
  | .add, .int i, .int j => some (.d (.int (i + j)))
  | .add, .str x, .str y => if szOk (x.length + y.length) then some (.d (.str (x ++ y))) else none
  | .add, .lst x, .lst y => if szOk (x.length + y.length) then some (.fr (.lst (x ++ y))) else none
  | .add, .tup x, .tup y => if szOk (x.length + y.length) then some (.d (.tup (x ++ y))) else none
  | .sub, .int i, .int j => some (.d (.int (i - j)))
  | .mul, .int i, .int j => if mulOk i j then some (.d (.int (i * j))) else none
  | .mul, .lst x, .int j => if decide (-1000000 ≤ j) && decide (j < 1000000) && szOk (x.length * j.toNat) then some (.fr (.lst (List.replicate j.toNat x).flatten)) else none
  | .mul, .tup x, .int j => if !x.isEmpty && decide (2 ≤ j) && decide (j ≤ 1000) && decide (x.length ≤ 1000) then some (.d (.tup (List.replicate j.toNat x).flatten)) else none
  | .mul, .str x, .int j => if j == 0 then some (.d (.str [])) else if j == 1 then some (.d (.str x)) else none
  | .fdiv, .int i, .int j => if divOk j then some (.d (.int (i / j))) else none
  | .mod, .int i, .int j => if decide (0 < j) then some (.d (.int (i % j))) else none
  | .pow, .int i, .int j => if decide (0 ≤ j) && decide (j ≤ 1000000) && decide (i.natAbs < 18446744073709551616) then some (.d (.int (i ^ j.toNat))) else none
  | _, _, _ => none
def lookD (ks : List (D × D)) (k : D) : Option D := match ks with
  | [] => none
  | (q, v) :: r => if eqD q k then some v else lookD r k
def putD (k v : D) (ks : List (D × D)) : List (D × D) :=
  if ks.any fun p => eqD p.1 k then ks.map fun p => if eqD p.1 k then (p.1, v) else p else ks ++ [(k, v)]
/-- a key of a dict: an int, a text -/
def keyD : D → Bool
  | .int _ => true
  | .str _ => true
  | _ => false
/-- x stands ahead in a text -/
def pre : Tx → Tx → Bool
  | [], _ => true
  | _ :: _, [] => false
  | a :: x, b :: y => a == b && pre x y
def inD (x : D) : D → Option Bool
  | .tup ys => if flatD x && ys.all flatD then some (ys.any fun y => eqD y x) else none
  | .lst ys => if flatD x && ys.all flatD then some (ys.any fun y => eqD y x) else none
  | .str t => match x with
    | .str [c] => some (t.contains c)
    | _ => none
  | .dic ks => if keyD x then some (lookD ks x).isSome else none
  | _ => none
/-- == of data where it is known: scalars of one kind (any texts), else data of bounded depth -/
def sameD : D → D → Option Bool
  | .str a, .str b => some (a == b)
  | .int a, .int b => some (a == b)
  | x, y => if plainD 40 x && plainD 40 y then some (eqD x y) else none
def isNonD : D → Bool
  | .non => true
  | _ => false
def cmpD : Cop → D → D → Option Bool
  | .eq, x, y => sameD x y
  | .ne, x, y => (sameD x y).map (!·)
  | .lt, .int i, .int j => some (decide (i < j))
  | .le, .int i, .int j => some (decide (i ≤ j))
  | .gt, .int i, .int j => some (decide (j < i))
  | .ge, .int i, .int j => some (decide (j ≤ i))
  | .isN, x, .non => some (isNonD x)
  | .notN, x, .non => some (!isNonD x)
  | .isIn, x, y => inD x y
  | .notIn, x, y => (inD x y).map (!·)
  | _, _, _ => none
def truD : D → Option Bool
  | .non => some false
  | .bl b => some b
  | .int i => some (i != 0)
  | .str s => if szOk s.length then some (!s.isEmpty) else none
  | .tup xs => some (!xs.isEmpty)
  | .lst xs => some (!xs.isEmpty)
  | .dic ks => some (!ks.isEmpty)
  | _ => none
def idxD : D → D → Option D
  | .tup xs, .int i => (plc xs.length i).bind fun k => xs[k]?
  | .lst xs, .int i => (plc xs.length i).bind fun k => xs[k]?
  | .scr xs, .int i => ((plc xs.length i).bind fun k => xs[k]?).map .int
  | .str s, .int i => if szOk s.length then ((plc s.length i).bind fun k => s[k]?).map fun c => .str [c] else none
  | .dic ks, k => if keyD k then lookD ks k else none
  | _, _ => none
/-- a bound of a slice, as a place -/
def bnd (n : Nat) (dflt : Nat) : Option Int → Nat
  | none => dflt
  | some v => if v < 0 then (v + (n : Int)).toNat else min v.toNat n
def cut {α : Type} (xs : List α) (lo hi : Option Int) : List α := (xs.drop (bnd xs.length 0 lo)).take (bnd xs.length xs.length hi - bnd xs.length 0 lo)
def slcD : D → Option Int → Option Int → Option Rs
  | .tup xs, lo, hi => some (.d (.tup (cut xs lo hi)))
  | .lst xs, lo, hi => some (.fr (.lst (cut xs lo hi)))
  | .str s, lo, hi => if szOk s.length then some (.d (.str (cut s lo hi))) else none
  | _, _, _ => none
def intsOf : List D → Option (List Int)
  | [] => some []
  | .int i :: r => match intsOf r with
    | some l => some (i :: l)
    | none => none
  | _ :: _ => none
def blsOf : List D → Option (List Bool)
  | [] => some []
  | .bl b :: r => match blsOf r with
    | some l => some (b :: l)
    | none => none
  | _ :: _ => none
def strsOf : List D → Option (List Tx)
  | [] => some []
  | .str b :: r => match strsOf r with
    | some l => some (b :: l)
    | none => none
  | _ :: _ => none
def maxI : List Int → Option Int
  | [] => none
  | i :: l => some (l.foldl max i)
def minI : List Int → Option Int
  | [] => none
  | i :: l => some (l.foldl min i)
def txOf (s : String) : Tx := s.toList.map Char.toNat
/-- a whole number as it is written -/
def numT (i : Int) : Tx := txOf (toString i)
def sepT (sep : Tx) : List Tx → Tx
  | [] => []
  | [x] => x
  | x :: y :: r => x ++ sep ++ sepT sep (y :: r)
/-! ### what repr tells -/
/-- a text of plain signs, no quote, no backslash -/
def plainT (s : Tx) : Bool := s.all fun c => decide (32 ≤ c) && decide (c < 127) && (c != 39) && (c != 92)
def reprS (s : Tx) : Option Tx := if plainT s then some (39 :: s ++ [39]) else none
def lstT (ts : List Tx) : Tx := 91 :: sepT [44, 32] ts ++ [93]
def tupT (ts : List Tx) : Tx := 40 :: sepT [44, 32] ts ++ (if ts.length == 1 then [44, 41] else [41])
/-- a scalar's text, a dict's of scalars -/
def flatT : D → Option Tx
  | .non => some [78, 111, 110, 101]
  | .bl true => some [84, 114, 117, 101]
  | .bl false => some [70, 97, 108, 115, 101]
  | .int i => if decide (i.natAbs.log2 < 1920) then some (numT i) else none
  | .str s => reprS s
  | _ => none
def kvT : List (D × D) → Option (List Tx)
  | [] => some []
  | p :: r => match flatT p.1 with
    | some a => match flatT p.2 with
      | some b => match kvT r with
        | some l => some ((a ++ [58, 32] ++ b) :: l)
        | none => none
      | none => none
    | none => none
def dicT (ts : List Tx) : Tx := 123 :: sepT [44, 32] ts ++ [125]
mutual
def reprD : D → Option Tx
  | .non => some [78, 111, 110, 101]
  | .bl true => some [84, 114, 117, 101]
  | .bl false => some [70, 97, 108, 115, 101]
  | .int i => if decide (i.natAbs.log2 < 1920) then some (numT i) else none
  | .str s => reprS s
  | .tup xs => match reprDs xs with
    | some ts => some (tupT ts)
    | none => none
  | .lst xs => match reprDs xs with
    | some ts => some (lstT ts)
    | none => none
  | .dic ks => (kvT ks).map dicT
  | _ => none
def reprDs : List D → Option (List Tx)
  | [] => some []
  | x :: xs => match reprD x with
    | some t => match reprDs xs with
      | some ts => some (t :: ts)
      | none => none
    | none => none
end
def reprX (x : D) : Option Tx := match reprD x with
  | some t => if szOk t.length then some t else none
  | none => none
mutual
/-- .. data without lists, dicts empty -/
def thinD : Nat → D → Bool
  | _, .non => true
  | _, .bl _ => true
  | _, .int _ => true
  | _, .str s => s.all (fun c => decide (c < 1114112))
  | n + 1, .tup xs => thinDs n xs
  | _ + 1, .dic ks => ks.isEmpty
  | _, _ => false
def thinDs : Nat → List D → Bool
  | _, [] => true
  | n, x :: xs => thinD n x && thinDs n xs
end
def flatB : D → Bool
  | .non => true
  | .bl _ => true
  | .int _ => true
  | .str _ => true
  | _ => false
mutual
/-- .. any data without objects of classes, dicts of scalars -/
def mixD : Nat → D → Bool
  | _, .non => true
  | _, .bl _ => true
  | _, .int _ => true
  | _, .str _ => true
  | n + 1, .tup xs => mixDs n xs
  | n + 1, .lst xs => mixDs n xs
  | _ + 2, .dic ks => ks.all fun p => flatB p.1 && flatB p.2
  | _, _ => false
def mixDs : Nat → List D → Bool
  | _, [] => true
  | n, x :: xs => mixD n x && mixDs n xs
end
/-- repr may be asked of it -/
def rokD (x : D) : Bool := plainD 40 x || thinD 40 x || mixD 40 x
/-- ints in order -/
def insI (x : Int) : List Int → List Int
  | [] => [x]
  | y :: l => if x ≤ y then x :: y :: l else y :: insI x l
def sortI : List Int → List Int
  | [] => []
  | x :: l => insI x (sortI l)
inductive Blt where
  | len | abs | max2 | min2 | divmod | list | tuple | str | int | all | any | sum | maxl | minl | repr | sorted
  deriving DecidableEq
/-- a built-in that is called where nothing is handled -/
def calmB : Blt → Bool
  | .max2 | .min2 | .all | .any | .sum | .maxl | .minl => true
  | _ => false
def seqD : D → Option (List D)
  | .tup xs => some xs
  | .lst xs => some xs
  | _ => none
def bltD : Blt → List D → Option Rs
  | .len, [.tup xs] => some (.d (.int xs.length))
  | .len, [.lst xs] => some (.d (.int xs.length))
  | .len, [.scr xs] => some (.d (.int xs.length))
  | .len, [.str s] => if szOk s.length then some (.d (.int s.length)) else none
  | .len, [.dic ks] => some (.d (.int ks.length))
  | .abs, [.int i] => some (.d (.int (if i < 0 then -i else i)))
  | .max2, [.int i, .int j] => some (.d (.int (if j > i then j else i)))
  | .min2, [.int i, .int j] => some (.d (.int (if j < i then j else i)))
  | .divmod, [.int i, .int j] => if divOk j then some (.d (.tup [.int (i / j), .int (i % j)])) else none
  | .list, [.tup xs] => some (.fr (.lst xs))
  | .list, [.lst xs] => some (.fr (.lst xs))
  | .tuple, [.tup xs] => some (.d (.tup xs))
  | .tuple, [.lst xs] => some (.d (.tup xs))
  | .str, [.int i] => if decide (i.natAbs.log2 < 1920) then some (.d (.str (numT i))) else none
  | .str, [.str s] => some (.d (.str s))
  | .int, [.int i] => some (.d (.int i))
  | .int, [.bl b] => some (.d (.int (b2i b)))
  | .all, [.lst xs] => match blsOf xs with
    | some l => some (.d (.bl (l.all id)))
    | none => none
  | .any, [.lst xs] => match blsOf xs with
    | some l => some (.d (.bl (l.any id)))
    | none => none
  | .sum, [.lst xs] => match intsOf xs with
    | some l => some (.d (.int l.sum))
    | none => none
  | .maxl, [.lst xs] => match intsOf xs with
    | some l => (maxI l).map fun m => .d (.int m)
    | none => none
  | .minl, [.lst xs] => match intsOf xs with
    | some l => (minI l).map fun m => .d (.int m)
    | none => none
  | .repr, [x] => if rokD x then (reprX x).map fun t => .d (.str t) else none
  | .sorted, [.lst xs] => match intsOf xs with
    | some l => some (.fr (.lst ((sortI l).map .int)))
    | none => none
  | _, _ => none
/-! ### the text -/
/-- built-in kinds -/
inductive Kd where
  | int | bool | str | list | tuple | dict
  deriving DecidableEq
def kdOf : D → Option Kd
  | .bl _ => some .bool
  | .int _ => some .int
  | .str _ => some .str
  | .tup _ => some .tuple
  | .lst _ => some .list
  | .dic _ => some .dict
  | _ => none
/-- isinstance with one built-in class -/
def isKd (k : Kd) (x : D) : Bool := match kdOf x with
  | some q => q == k || (k == .int && q == .bool)
  | none => false
inductive Met where
  | append | pop | index | join | reverse | clear | dget | split | bitlen
  deriving DecidableEq
inductive Tgt where
  | nm (i : Nat) | tp (is : List Nat)
mutual
inductive MExp where
  | var (i : Nat)
  | cst (d : D)
  | tup (es : List MExp) | lst (es : List MExp) | dic (ks : List MExp) (vs : List MExp)
  | bin (op : Bop) (a b : MExp) | neg (a : MExp)
  | cmp (op : Cop) (a b : MExp) | chn (op1 op2 : Cop) (a b c : MExp)
  | and_ (a b : MExp) | or_ (a b : MExp) | not_ (a : MExp)
  | ite (c a b : MExp)
  | idx (a b : MExp) | slc (a : MExp) (lo hi : Option MExp) | rev (a : MExp)
  | call (f : Nat) (es : List MExp)
  | callk (f : Nat) (es : List MExp) (km : List Nat)
  | blt (b : Blt) (es : List MExp)
  | met (m : Met) (o : MExp) (es : List MExp)
  | fld (o : MExp) (f : Nat)
  | own (o : MExp) (m : Nat) (es : List MExp)
  | len1 (o : MExp)
  | isx (i : Nat) (cs : List Nat) | xfl (i : Nat) (f : Nat)
  | pick (es : List MExp) (i : MExp)
  | mk (c : Nat) (es : List MExp)
  | isk (e : MExp) (ks : List Kd)
  | isc (e : MExp) (c : Nat)
  | comp (e : MExp) (t : Tgt) (it : MIt) (c : Option MExp)
  | lrng (a : Option MExp) (b : MExp)
inductive MIt where
  | seq (e : MExp) | rng (a : Option MExp) (b : MExp) | enum (e : MExp) | zip (a b : MExp)
end
inductive Tg where
  | nm (i : Nat) | sub (o i : MExp) | fld (o : MExp) (f : Nat)
inductive MStmt where
  | set (i : Nat) (own : Bool) (e : MExp)
  | par (i j : Nat) (own1 own2 : Bool) (a b : MExp)
  | unp (ts : List Tg) (e : MExp)
  | star (is : List Nat) (j : Nat) (e : MExp)
  | setSub (o i e : MExp)
  | setFld (o : MExp) (f : Nat) (e : MExp)
  | aug (i : Nat) (op : Bop) (e : MExp)
  | exp (e : MExp)
  | ret (e : MExp) | retN
  | ite (c : MExp) (a b : List MStmt)
  | for_ (t : Tgt) (it : MIt) (b : List MStmt)
  | whl (c : MExp) (b : List MStmt)
  | never
  | thru (b : List MStmt)
  | pass
  | par3 (i j l : Nat) (own1 own2 own3 : Bool) (a b c : MExp)
  | raise (c : Nat) (fs : List Nat) (es : List MExp)
  | tri (b : List MStmt) (c : Nat) (i : Nat) (h : List MStmt)
def sees2 (f : D → D → Option Rs) (ra rb : Rs) (e : Env) : Out Rs := match ra.see e, rb.see e with
  | some x, some y => Out.of e (f x y)
  | _, _ => .no
def sees1 (f : D → Option Rs) (ra : Rs) (e : Env) : Out Rs := match ra.see e with
  | some x => Out.of e (f x)
  | none => .no
def blR (b : Bool) : Rs := .d (.bl b)
def negD : D → Option Rs
  | .int i => some (.d (.int (-i)))
  | _ => none
def revD : D → Option Rs
  | .lst xs => some (.fr (.lst xs.reverse))
  | .tup xs => some (.d (.tup xs.reverse))
  | _ => none
def iskD (ks : List Kd) : D → Option Rs
  | .ins _ _ => none
  | .scr _ => none
  | x => some (blR (ks.any fun k => isKd k x))
/-- what the defs of the text are worth, and what the classes have -/
structure Gs where
  fn : Nat → Env → Out Rs
  meth : Nat → Nat → Option Nat
  init : Nat → Option Nat
  isa : Nat → Nat → Option Bool
  free : Nat → Nat → Bool
  fuel : Nat
/-- is it of one of some classes -/
def anyIs (G : Gs) (c : Nat) : List Nat → Option Bool
  | [] => some false
  | k :: l => match G.isa c k, anyIs G c l with
    | some a, some b => some (a || b)
    | _, _ => none
/-- a call: the slots handed over, what the def is worth, the slots handed back -/
def callS (G : Gs) (f : Nat) (rs : List Rs) (e : Env) : Out Rs :=
  if noTwice (lent rs) then
    match passAll e rs with
    | some l => match G.fn f l with
      | .ok (.d x) l' => .ok (.d x) (backAll e rs l')
      | .ok (.fr o) l' => .ok (.fr o) (backAll e rs l')
      | .ok (.bo _) _ => .no
      | .ex x l' => .ex x (backAll e rs l')
      | .no => .no
    | none => .no
  else .no
/-- a new instance: its slot first -/
def makeS (G : Gs) (c : Nat) (rs : List Rs) (e : Env) : Out Rs :=
  match G.init c with
  | some f =>
    if noTwice (lent rs) then
      match passAll e rs with
      | some l => match G.fn f (.pa (.ins c []) :: l) with
        | .ok (.d .non) (.pa (.ins c' fs) :: l') => if c' == c then .ok (.fr (.ins c fs)) (backAll e rs l') else .no
        | .ex x (_ :: l') => .ex x (backAll e rs l')
        | _ => .no
      | none => .no
    else .no
  | none => .no
def clsOf : D → Option Nat
  | .ins c _ => some c
  | _ => none
def lookF : List (Nat × D) → Nat → Option D
  | [], _ => none
  | (g, x) :: r, f => if g == f then some x else lookF r f
def putFs (f : Nat) (x : D) : List (Nat × D) → List (Nat × D)
  | [] => [(f, x)]
  | (g, y) :: r => if g == f then (g, x) :: r else (g, y) :: putFs f x r
/-- len(o): of an instance by its own __len__ (the def told by meth of place 1) -/
def lenR : Rs → Env → Out Rs
  | .d (.int i), e => if decide (0 ≤ i) && decide (i ≤ 16000000) then .ok (.d (.int i)) e else .no
  | _, _ => .no
def len1S (G : Gs) (ro : Rs) (e : Env) : Out Rs :=
  match ro.see e with
  | some (.ins c _) => match G.meth c 1 with
    | some f => (callS G f [ro] e).bind fun r e2 => lenR r e2
    | none => .no
  | some x => Out.of e (bltD .len [x])
  | none => .no
abbrev mEq : Nat := 0
abbrev mLen : Nat := 1
abbrev mStr : Nat := 2
abbrev mRepr : Nat := 3
def notR (e : Env) : Rs → Out Rs
  | .d (.bl b) => .ok (.d (.bl (!b))) e
  | _ => .no
def cmpS (op : Cop) (ra rb : Rs) (e : Env) : Out Rs := sees2 (fun x y => (cmpD op x y).map blR) ra rb e
def fldD (G : Gs) (f : Nat) : D → Option Rs
  | .ins c fs => if G.free c f then (lookF fs f).map .d else none
  | _ => none
def iscD (G : Gs) (c : Nat) : D → Option Rs
  | .ins c' _ => (G.isa c' c).map blR
  | _ => some (blR false)
def bltS (b : Blt) (rs : List Rs) (e : Env) : Out Rs :=
  match sees e rs with
  | some xs => Out.of e (bltD b xs)
  | none => .no
/-- an object of one's own is another one from now on -/
def putOb (e : Env) (i : Nat) (o : Ob) : Option Env :=
  match e[i]? with
  | some (.ow _) => some (e.set i (.ow o))
  | some (.pa _) => some (e.set i (.pa o))
  | _ => none
def obAt (e : Env) (i : Nat) : Option Ob :=
  match e[i]? with
  | some (.ow o) => some o
  | some (.pa o) => some o
  | _ => none
def isPre (x t : Tx) : Bool := pre x t
/-- the first place at which a sign stands -/
def findC (c : Nat) : Tx → Nat → Option Nat
  | [], _ => none
  | b :: t, k => if b == c then some k else findC c t (k + 1)
def findT (x : Tx) : List Tx → Nat → Option Nat
  | [], _ => none
  | y :: l, k => if y == x then some k else findT x l (k + 1)
def splitT (sep : Nat) : Tx → Tx → List Tx
  | [], acc => [acc]
  | c :: t, acc => if c == sep then acc :: splitT sep t [] else splitT sep t (acc ++ [c])
/-- methods that change nothing -/
def metD : Met → D → List D → Option Rs
  | .index, .tup xs, [.str x] => (strsOf xs).bind fun l => (findT x l 0).map fun k => .d (.int k)
  | .index, .str t, [.str [c]] => (findC c t 0).map fun k => .d (.int k)
  | .join, .str s, [.lst xs] => match strsOf xs with
    | some l => if szOk (sepT s l).length then some (.d (.str (sepT s l))) else none
    | none => none
  | .dget, .dic ks, [k] => if keyD k then some (.d ((lookD ks k).getD .non)) else none
  | .dget, .dic ks, [k, x] => if keyD k then some (.d ((lookD ks k).getD x)) else none
  | .split, .str t, [.str [c]] => if szOk (t.length + 2) then some (.fr (.lst ((splitT c t []).map .str))) else none
  | _, _, _ => none
/-- methods that change a list of one's own -/
def metO : Met → List D → List D → Option (D × List D)
  | .append, xs, [x] => if szOk xs.length then some (.non, xs ++ [x]) else none
  | .pop, xs, [] => match xs[xs.length - 1]? with
    | some x => some (x, xs.dropLast)
    | none => none
  | .reverse, xs, [] => some (.non, xs.reverse)
  | .clear, _, [] => some (.non, [])
  | _, _, _ => none
def isMut : Met → Bool
  | .append => true
  | .pop => true
  | .reverse => true
  | .clear => true
  | _ => false
def metS (m : Met) (ro : Rs) (rs : List Rs) (e : Env) : Out Rs :=
  if isMut m then
    match ro with
    | .bo i => match holds rs e with
      | some (xs, e1) => match obAt e1 i with
        | some (.lst l) => match metO m l xs with
          | some (x, l') => match putOb e1 i (.lst l') with
            | some e2 => .ok (.d x) e2
            | none => .no
          | none => .no
        | _ => .no
      | none => .no
    | _ => .no
  else
    match holds rs e with
    | some (xs, e1) => match ro.see e1 with
      | some o => Out.of e1 (metD m o xs)
      | none => .no
    | none => .no
/-- what the method is asked of, ahead of its arguments -/
def kindOk : Met → D → Bool
  | .index, .tup _ => true
  | .index, .str _ => true
  | .join, .str _ => true
  | .split, .str _ => true
  | .dget, .dic _ => true
  | _, _ => false
def metOk (m : Met) (ro : Rs) (e : Env) : Bool := cond (isMut m) (match ro with
  | .bo i => match obAt e i with
    | some (.lst _) => true
    | _ => false
  | _ => false) (match ro.see e with
  | some x => kindOk m x
  | none => false)
/-! ### what a loop walks -/
inductive Src where
  | snap (xs : List D) | slot (i n : Nat)
inductive It where
  | one (s : Src) | rng (lo : Int) (n : Nat) | enum (s : Src) | zip (a b : Src)
def Src.len : Src → Nat
  | .snap xs => xs.length
  | .slot _ n => n
def Src.at_ (s : Src) (k : Nat) (e : Env) : Option D := match s with
  | .snap xs => xs[k]?
  | .slot i _ => match obAt e i with
    | some (.lst xs) => xs[k]?
    | _ => none
def Src.fine (s : Src) (e : Env) : Bool := match s with
  | .snap _ => true
  | .slot i n => match obAt e i with
    | some (.lst xs) => xs.length == n
    | _ => false
def It.len : It → Nat
  | .one s => s.len
  | .rng _ n => n
  | .enum s => s.len
  | .zip a b => min a.len b.len
def It.at_ (t : It) (k : Nat) (e : Env) : Option D := match t with
  | .one s => s.at_ k e
  | .rng lo _ => some (.int (lo + (k : Nat)))
  | .enum s => (s.at_ k e).map fun x => .tup [.int (k : Nat), x]
  | .zip a b => (a.at_ k e).bind fun x => (b.at_ k e).map fun y => .tup [x, y]
def It.fine (t : It) (e : Env) : Bool := match t with
  | .one s => s.fine e
  | .rng _ _ => true
  | .enum s => s.fine e
  | .zip a b => a.fine e && b.fine e
def Src.slots : Src → List Nat
  | .snap _ => []
  | .slot i _ => [i]
def It.slots : It → List Nat
  | .one s => s.slots
  | .rng _ _ => []
  | .enum s => s.slots
  | .zip a b => a.slots ++ b.slots
/-- what may be walked: data that stands, a new object, an object of one's own -/
def srcOf (e : Env) : Rs → Option Src
  | .d (.lst xs) => some (.snap xs)
  | .d (.tup xs) => some (.snap xs)
  | .d (.str s) => some (.snap (s.map fun c => .str [c]))
  | .fr (.lst xs) => some (.snap xs)
  | .bo i => match obAt e i with
    | some (.lst xs) => some (.slot i xs.length)
    | _ => none
  | _ => none
/-- .. a list, a tuple -/
def srcL (e : Env) : Rs → Option Src
  | .d (.str _) => none
  | r => srcOf e r
/-- a name may be stored anew -/
def mayPut (e : Env) (i : Nat) : Bool := match e[i]? with
  | some (.pa _) => false
  | some _ => true
  | none => false
def putNs : List Nat → List D → Env → Option Env
  | [], [], e => some e
  | i :: is, x :: xs, e => if mayPut e i then putNs is xs (e.set i (.sh x)) else none
  | _, _, _ => none
def tupD : D → Option (List D)
  | .tup xs => some xs
  | _ => none
def Tgt.put (t : Tgt) (x : D) (e : Env) : Option Env := match t with
  | .nm i => if mayPut e i then some (e.set i (.sh x)) else none
  | .tp is => match tupD x with
    | some xs => putNs is xs e
    | none => none
def Tgt.is : Tgt → List Nat
  | .nm i => [i]
  | .tp is => is
/-- the names of a comprehension's own: nothing stands there that is one's own -/
def wipeOk (e : Env) : List Nat → Bool
  | [] => true
  | i :: l => (match e[i]? with
    | some .un => true
    | some (.sh _) => true
    | _ => false) && wipeOk e l
def wipeE (e : Env) : List Nat → Env
  | [] => e
  | i :: l => (wipeE e l).set i .un
/-- .. as they stood -/
def unwipe (e0 : Env) (e : Env) : List Nat → Env
  | [] => e
  | i :: l => unwipe e0 (e.set i ((wipeE e0 l)[i]?.getD .un)) l
/-- a comprehension's turns; left: how many are left -/
def compLoop (it : It) (t : Tgt) (test : Env → Out Bool) (elt : Env → Out Rs) : Nat → Nat → List D → Env → Out (List D)
  | 0, _, acc, e => if it.fine e then .ok acc e else .no
  | left + 1, k, acc, e => match it.at_ k e with
    | some x => match t.put x e with
      | some e1 => match test e1 with
        | .ok true e2 => match elt e2 with
          | .ok r e3 => match r.hold e3 with
            | some (y, e4) => if szOk acc.length then compLoop it t test elt left (k + 1) (acc ++ [y]) (wipeE e4 t.is) else .no
            | none => .no
          | _ => .no
        | .ok false e2 => compLoop it t test elt left (k + 1) acc (wipeE e2 t.is)
        | _ => .no
      | none => .no
    | none => .no
def partO (e : Env) : Rs → Out Int
  | .d (.int i) => .ok i e
  | _ => .no
def tstR (r : Rs) (e : Env) : Out Bool := Out.of e ((r.see e).bind truD)
def rngOk (i j : Int) : Bool := decide (i.natAbs ≤ 4000000000000000000) && decide (j.natAbs ≤ 4000000000000000000)
/-- one of several results, by its place -/
def pickS (rs : List Rs) : Out Rs → Out Rs
  | .ok ri e2 => match ri.see e2 with
    | some (.int k) => match (plc rs.length k).bind fun n => rs[n]? with
      | some r => .ok r e2
      | none => .no
    | _ => .no
  | _ => .no
def lrngS (i j : Int) (e : Env) : Out Rs := if rngOk i j && szOk (j - i).toNat then .ok (.fr (.lst ((List.range (j - i).toNat).map fun k => .int (i + (k : Nat))))) e else .no
mutual
def ev (G : Gs) : MExp → Env → Out Rs
  | .var i, e => match e[i]? with
    | some (.sh x) => .ok (.d x) e
    | some (.ow _) => .ok (.bo i) e
    | some (.pa _) => .ok (.bo i) e
    | _ => .no
  | .cst d, e => .ok (.d d) e
  | .tup es, e => (evs G es e).bind fun rs e1 => match holds rs e1 with
    | some (xs, e2) => .ok (.d (.tup xs)) e2
    | none => .no
  | .lst es, e => (evs G es e).bind fun rs e1 => match holds rs e1 with
    | some (xs, e2) => .ok (.fr (.lst xs)) e2
    | none => .no
  | .dic ks vs, e => (evs G ks e).bind fun rs e1 => match holds rs e1 with
    | some (xs, e2) => (evs G vs e2).bind fun ws e3 => match holds ws e3 with
      | some (ys, e4) => if xs.all keyD then .ok (.fr (.dic ((xs.zip ys).foldl (fun a p => putD p.1 p.2 a) []))) e4 else .no
      | none => .no
    | none => .no
  | .bin op a b, e => (ev G a e).bind fun ra e1 => (ev G b e1).bind fun rb e2 => sees2 (binD op) ra rb e2
  | .neg a, e => (ev G a e).bind fun ra e1 => sees1 negD ra e1
  | .cmp op a b, e => (ev G a e).bind fun ra e1 => (ev G b e1).bind fun rb e2 => cmpS op ra rb e2
  | .chn op1 op2 a b c, e => (ev G a e).bind fun ra e1 => (ev G b e1).bind fun rb e2 => match ra.see e2, rb.see e2 with
    | some x, some y => match cmpD op1 x y with
      | some true => (ev G c e2).bind fun rc e3 => cmpS op2 rb rc e3
      | some false => .ok (.d (.bl false)) e2
      | none => .no
    | _, _ => .no
  | .and_ a b, e => (ev G a e).bind fun ra e1 => match ra with
    | .d (.bl true) => ev G b e1
    | .d (.bl false) => .ok (.d (.bl false)) e1
    | _ => .no
  | .or_ a b, e => (ev G a e).bind fun ra e1 => match ra with
    | .d (.bl true) => .ok (.d (.bl true)) e1
    | .d (.bl false) => ev G b e1
    | _ => .no
  | .not_ a, e => (ev G a e).bind fun ra e1 => (tstR ra e1).bind fun k e2 => .ok (.d (.bl (!k))) e2
  | .ite c a b, e => (ev G c e).bind fun rc e1 => (tstR rc e1).bind fun k e2 => if k then ev G a e2 else ev G b e2
  | .idx a b, e => (ev G a e).bind fun ra e1 => (ev G b e1).bind fun rb e2 => sees2 (fun x y => (idxD x y).map .d) ra rb e2
  | .slc a lo hi, e => (ev G a e).bind fun ra e1 => (evp G lo e1).bind fun l e2 => (evp G hi e2).bind fun h e3 => match ra.see e3 with
    | some x => Out.of e3 (slcD x l h)
    | none => .no
  | .rev a, e => (ev G a e).bind fun ra e1 => sees1 revD ra e1
  | .call f es, e => (evs G es e).bind fun rs e1 => callS G f rs e1
  | .callk f es km, e => (evs G es e).bind fun rs e1 => callS G f (km.filterMap fun k => rs[k]?) e1
  | .blt b es, e => (evs G es e).bind fun rs e1 => bltS b rs e1
  | .met m o es, e => (ev G o e).bind fun ro e1 => if metOk m ro e1 then (evs G es e1).bind fun rs e2 => metS m ro rs e2 else .no
  | .fld o f, e => (ev G o e).bind fun ro e1 => sees1 (fldD G f) ro e1
  | .own o m es, e => (ev G o e).bind fun ro e1 => match ro.see e1 with
    | some (.ins c fs) => match G.meth c m with
      | some f => if (lookF fs m).isNone then (evs G es e1).bind fun rs e2 => callS G f (ro :: rs) e2 else .no
      | none => .no
    | _ => .no
  | .len1 o, e => (ev G o e).bind fun ro e1 => len1S G ro e1
  | .mk c es, e => (evs G es e).bind fun rs e1 => makeS G c rs e1
  | .isk a ks, e => (ev G a e).bind fun ra e1 => sees1 (iskD ks) ra e1
  | .isc a c, e => (ev G a e).bind fun ra e1 => sees1 (iscD G c) ra e1
  | .isx i cs, e => match e[i]? with
    | some (.xc x) => Out.of e ((anyIs G x.cls cs).map blR)
    | _ => .no
  | .xfl i f, e => match e[i]? with
    | some (.xc x) => Out.of e (if G.isa x.cls (1000 + f) == some true then (lookF x.fs f).map .d else none)
    | _ => .no
  | .pick es i, e => (evs G es e).bind fun rs e1 => pickS rs (ev G i e1)
  | .comp a t it c, e => (evIt G it e).bind fun w e1 =>
    if wipeOk e1 t.is && w.slots.all (fun i => !t.is.contains i) then
      match compLoop w t (fun e => evc G c e) (fun e => ev G a e) w.len 0 [] (wipeE e1 t.is) with
      | .ok xs e2 => .ok (.fr (.lst xs)) (unwipe e1 e2 t.is)
      | _ => .no
    else .no
  | .lrng none b, e => (ev G b e).bind fun r e1 => (partO e1 r).bind fun j e2 => lrngS 0 j e2
  | .lrng (some a) b, e => (ev G a e).bind fun q e1 => (partO e1 q).bind fun i e2 => (ev G b e2).bind fun r e3 => (partO e3 r).bind fun j e4 => lrngS i j e4
def evs (G : Gs) : List MExp → Env → Out (List Rs)
  | [], e => .ok [] e
  | a :: as, e => (ev G a e).bind fun r e1 => (evs G as e1).bind fun rs e2 => .ok (r :: rs) e2
def evp (G : Gs) : Option MExp → Env → Out (Option Int)
  | none, e => .ok none e
  | some a, e => (ev G a e).bind fun r e1 => (partO e1 r).bind fun i e2 => .ok (some i) e2
def evc (G : Gs) : Option MExp → Env → Out Bool
  | none, e => .ok true e
  | some a, e => (ev G a e).bind fun r e1 => tstR r e1
def evIt (G : Gs) : MIt → Env → Out It
  | .seq a, e => (ev G a e).bind fun r e1 => Out.of e1 ((srcOf e1 r).map .one)
  | .rng none b, e => (ev G b e).bind fun r e1 => (partO e1 r).bind fun j e2 => if rngOk 0 j then .ok (.rng 0 j.toNat) e2 else .no
  | .rng (some a) b, e => (ev G a e).bind fun q e1 => (partO e1 q).bind fun i e2 => (ev G b e2).bind fun r e3 => (partO e3 r).bind fun j e4 => if rngOk i j then .ok (.rng i (j - i).toNat) e4 else .no
  | .enum a, e => (ev G a e).bind fun r e1 => Out.of e1 ((srcL e1 r).map .enum)
  | .zip a b, e => (ev G a e).bind fun q e1 => (ev G b e1).bind fun r e2 => match srcL e2 q, srcL e2 r with
    | some x, some y => .ok (.zip x y) e2
    | _, _ => .no
end
def tst (G : Gs) (a : MExp) (e : Env) : Out Bool := (ev G a e).bind fun r e1 => tstR r e1
/-! ### statements -/
inductive SOut where
  | nx (e : Env) | rt (r : Rs) (e : Env) | ex (x : Xc) (e : Env) | no
def SOut.seq (o : SOut) (f : Env → SOut) : SOut := match o with
  | .nx e => f e
  | .rt r e => .rt r e
  | .ex x e => .ex x e
  | .no => .no
def Out.thn {α : Type} (o : Out α) (f : α → Env → SOut) : SOut := match o with
  | .ok a e => f a e
  | .ex x e => .ex x e
  | .no => .no
def SOut.of : Option Env → SOut
  | some e => .nx e
  | none => .no
/-- a result is stored at a name; own: a new object stays one's own -/
def putR (own : Bool) (i : Nat) (r : Rs) (e : Env) : Option Env :=
  if mayPut e i then
    match r with
    | .d x => some (e.set i (.sh x))
    | .fr o => some (e.set i (if own then .ow o else .sh o.d))
    | .bo j => match r.hold e with
      | some (x, e1) => some (e1.set i (.sh x))
      | none => none
  else none
/-- a result that is no name's -/
def unbo (r : Rs) (e : Env) : Option (Rs × Env) := match r with
  | .bo _ => match r.hold e with
    | some (x, e1) => some (.d x, e1)
    | none => none
  | r => some (r, e)
/-- what is handed back -/
def retR (r : Rs) (e : Env) : SOut := match r with
  | .d x => .rt (.d x) e
  | .fr o => .rt (.fr o) e
  | .bo i => match e[i]? with
    | some (.ow o) => .rt (.fr o) (e.set i .un)
    | some (.sh x) => .rt (.d x) e
    | _ => .no
def setSubS (ro : Rs) (i x : D) (e : Env) : Option Env := match ro with
  | .bo j => match obAt e j with
    | some (.lst xs) => match i with
      | .int k => (plc xs.length k).bind fun n => putOb e j (.lst (xs.set n x))
      | _ => none
    | some (.dic ks) => if keyD i && szOk ks.length then putOb e j (.dic (putD i x ks)) else none
    | _ => none
  | _ => none
def setFldS (G : Gs) (ro : Rs) (f : Nat) (x : D) (e : Env) : Option Env := match ro with
  | .bo j => match obAt e j with
    | some (.ins c fs) => if G.free c f && decide (fs.length < 1000) then putOb e j (.ins c (putFs f x fs)) else none
    | _ => none
  | _ => none
/-- a value goes to a target -/
def putTg (G : Gs) (x : D) : Tg → Env → SOut
  | .nm i, e => SOut.of (if mayPut e i then some (e.set i (.sh x)) else none)
  | .sub o i, e => (ev G o e).thn fun ro e1 => (ev G i e1).thn fun ri e2 => match ri.see e2 with
    | some k => SOut.of (setSubS ro k x e2)
    | none => .no
  | .fld o f, e => (ev G o e).thn fun ro e1 => SOut.of (setFldS G ro f x e1)
def putTgs (G : Gs) : List Tg → List D → Env → SOut
  | [], [], e => .nx e
  | t :: ts, x :: xs, e => (putTg G x t e).seq fun e1 => putTgs G ts xs e1
  | _, _, _ => .no
def forLoop (it : It) (t : Tgt) (body : Env → SOut) : Nat → Nat → Env → SOut
  | 0, _, e => if it.fine e then .nx e else .no
  | left + 1, k, e => match it.at_ k e with
    | some x => match t.put x e with
      | some e1 => (body e1).seq fun e2 => forLoop it t body left (k + 1) e2
      | none => .no
    | none => .no
def whlLoop (test : Env → Out Bool) (body : Env → SOut) : Nat → Env → SOut
  | 0, _ => .no
  | fuel + 1, e => (test e).thn fun k e1 => if k then (body e1).seq fun e2 => whlLoop test body fuel e2 else .nx e1
/-- the names that a statement stores -/
def tgS : List Tg → List Nat
  | [] => []
  | .nm i :: l => i :: tgS l
  | _ :: l => tgS l
mutual
def MStmt.st : MStmt → List Nat
  | .set i _ _ => [i]
  | .par i j _ _ _ _ => [i, j]
  | .unp ts _ => tgS ts
  | .star is j _ => j :: is
  | .aug i _ _ => [i]
  | .ite _ a b => MStmt.sts a ++ MStmt.sts b
  | .for_ t _ b => t.is ++ MStmt.sts b
  | .whl _ b => MStmt.sts b
  | .thru b => MStmt.sts b
  | .par3 i j l _ _ _ _ _ _ => [i, j, l]
  | .tri b _ i h => MStmt.sts b ++ i :: MStmt.sts h
  | _ => []
def MStmt.sts : List MStmt → List Nat
  | [] => []
  | s :: l => MStmt.st s ++ MStmt.sts l
end
/-- nothing stands at a name -/
def isUn (e : Env) (i : Nat) : Bool := match e[i]? with
  | some .un => true
  | _ => false
def isXc (e : Env) (i : Nat) : Bool := match e[i]? with
  | some (.xc _) => true
  | _ => false
/-- no raised thing is handled -/
def noXc : Env → Bool
  | [] => true
  | .xc _ :: _ => false
  | _ :: l => noXc l
mutual
def exec (G : Gs) : MStmt → Env → SOut
  | .set i own a, e => (ev G a e).thn fun r e1 => SOut.of (putR own i r e1)
  | .par i j o1 o2 a b, e => (ev G a e).thn fun r e1 => (ev G b e1).thn fun q e2 => match unbo r e2 with
    | some (r', e3) => match unbo q e3 with
      | some (q', e4) => match putR o1 i r' e4 with
        | some e5 => SOut.of (putR o2 j q' e5)
        | none => .no
      | none => .no
    | none => .no
  | .unp ts a, e => (ev G a e).thn fun r e1 => match (r.see e1).bind seqD with
    | some xs => if xs.length == ts.length then putTgs G ts xs e1 else .no
    | none => .no
  | .star is j a, e => (ev G a e).thn fun r e1 => match (r.see e1).bind seqD with
    | some xs => if decide (is.length ≤ xs.length) && decide (xs.length ≤ 16000) then match putNs is (xs.take is.length) e1 with
      | some e2 => if mayPut e2 j then .nx (e2.set j (.sh (.lst (xs.drop is.length)))) else .no
      | none => .no else .no
    | none => .no
  | .setSub o i a, e => (ev G a e).thn fun r e1 => match r.hold e1 with
    | some (x, e2) => (ev G o e2).thn fun ro e3 => (ev G i e3).thn fun ri e4 => match ri.see e4 with
      | some k => SOut.of (setSubS ro k x e4)
      | none => .no
    | none => .no
  | .setFld o f a, e => (ev G a e).thn fun r e1 => match r.hold e1 with
    | some (x, e2) => (ev G o e2).thn fun ro e3 => SOut.of (setFldS G ro f x e3)
    | none => .no
  | .aug i op a, e => match e[i]? with
    | some (.sh (.int n)) => (ev G a e).thn fun r e1 => match r with
      | .d (.int k) => match op with
        | .add => SOut.of (putR false i (.d (.int (n + k))) e1)
        | .sub => SOut.of (putR false i (.d (.int (n - k))) e1)
        | _ => .no
      | _ => .no
    | _ => .no
  | .exp a, e => (ev G a e).thn fun _ e1 => .nx e1
  | .ret a, e => (ev G a e).thn fun r e1 => retR r e1
  | .retN, e => .rt (.d .non) e
  | .ite c a b, e => (tst G c e).thn fun k e1 => if k then execs G a e1 else execs G b e1
  | .for_ t it b, e => (evIt G it e).thn fun w e1 => if w.slots.all (fun i => !(t.is ++ MStmt.sts b).contains i) then forLoop w t (fun e => execs G b e) w.len 0 e1 else .no
  | .whl c b, e => whlLoop (fun e => tst G c e) (fun e => execs G b e) G.fuel e
  | .never, _ => .no
  | .thru b, e => match execs G b e with
    | .ex _ _ => .no
    | o => o
  | .pass, e => .nx e
  | .par3 i j l o1 o2 o3 a b c, e => (ev G a e).thn fun r e1 => (ev G b e1).thn fun q e2 => (ev G c e2).thn fun p e3 => match unbo r e3 with
    | some (r', e4) => match unbo q e4 with
      | some (q', e5) => match unbo p e5 with
        | some (p', e6) => match putR o1 i r' e6 with
          | some e7 => match putR o2 j q' e7 with
            | some e8 => SOut.of (putR o3 l p' e8)
            | none => .no
          | none => .no
        | none => .no
      | none => .no
    | none => .no
  | .raise c fs es, e => (evs G es e).thn fun rs e1 => match holds rs e1 with
    | some (xs, e2) => if xs.length == fs.length then .ex ⟨c, fs.zip xs⟩ e2 else .no
    | none => .no
  | .tri b c i h, e => match execs G b e with
    | .ex x e1 => match G.isa x.cls c with
      | some true => if isUn e1 i && noXc e1 then match execs G h (e1.set i (.xc x)) with
        | .nx e2 => if isXc e2 i && noXc (e2.set i .un) then .nx (e2.set i .un) else .no
        | .rt r e2 => if isXc e2 i && noXc (e2.set i .un) then .rt r (e2.set i .un) else .no
        | _ => .no
        else .no
      | some false => .ex x e1
      | none => .no
    | o => o
def execs (G : Gs) : List MStmt → Env → SOut
  | [], e => .nx e
  | s :: ss, e => (exec G s e).seq fun e1 => execs G ss e1
end
/-! ### a text: its defs -/
structure Def where
  pars : Nat
  size : Nat
  body : List MStmt
/-- the parameters' slots, as they are handed back -/
def backP : List Sl → Env → List Sl
  | [], _ => []
  | .pa o :: l, e => (match e with
    | .pa o' :: _ => .pa o'
    | _ => .pa o) :: backP l e.tail
  | s :: l, e => s :: backP l e.tail
/-- slots of the caller's stay the caller's -/
def pasKept : List Sl → Env → Bool
  | [], _ => true
  | .pa _ :: l, e => (match e with
    | .pa _ :: _ => true
    | _ => false) && pasKept l e.tail
  | _ :: l, e => pasKept l e.tail
def runDef (G : Gs) (d : Def) (l : List Sl) : Out Rs :=
  if l.length == d.pars then
    match execs G d.body (l ++ List.replicate (d.size - d.pars) .un) with
    | .nx e => if pasKept l e then .ok (.d .non) (backP l e) else .no
    | .rt r e => if pasKept l e then .ok r (backP l e) else .no
    | .ex x e => if pasKept l e then .ex x (backP l e) else .no
    | .no => .no
  else .no
end Mi
namespace Mi
def noEx (o : Out Rs) : Out Rs := match o with
  | .ex _ _ => .no
  | o => o
/-- the text's defs, by how deep calls may go -/
def Gn (defs : Nat → Option Def) (meth : Nat → Nat → Option Nat) (init : Nat → Option Nat) (isa : Nat → Nat → Option Bool) (free : Nat → Nat → Bool) (fuel : Nat) : Nat → Gs
  | 0 => ⟨fun _ _ => .no, meth, init, isa, free, fuel⟩
  | n + 1 => ⟨fun f l => match defs f with
    | some d => noEx (runDef (Gn defs meth init isa free fuel n) d l)
    | none => .no, meth, init, isa, free, fuel⟩
end Mi
section
set_option maxHeartbeats 4000000
namespace Mi
open PySem PySem.Spec PyProof.Rows L2
/-! ### what stands for what -/
/-- the written part; the attributes' names; the classes' places -/
structure Tb where
  K : PySem.W.Frag
  an : Nat → Str
  cA : Nat → Addr
  inj : ∀ i j, an i = an j → i = j
  xa : Option (Addr × Option Addr × Value) := none
inductive KyR : Key → D → Prop where
  | int (i : Int) : KyR (.inl i) (.int i)
  | str (s : Tx) : KyR (.inr ⟨s.toArray⟩) (.str s)
mutual
inductive Rp (T : Tb) (H : Hp) : V → D → Prop where
  | non : Rp T H .non .non
  | bl (b : Bool) : Rp T H (.bl b) (.bl b)
  | int (i : Int) : Rp T H (.int i) (.int i)
  | str (s : Tx) : Rp T H (.str ⟨s.toArray⟩) (.str s)
  | tup {p : Addr} {vs : List V} {xs : List D} : SqT T.K H p vs → Rps T H vs xs → Rp T H (.ref p) (.tup xs)
  | lst {p : Addr} {vs : List V} {xs : List D} : H p = some (.lst vs) → Rps T H vs xs → Rp T H (.ref p) (.lst xs)
  | dic {p : Addr} {vs : List (Key × V)} {xs : List (D × D)} : H p = some (.dK vs) → RpK T H vs xs → Rp T H (.ref p) (.dic xs)
  | ins {p dx : Addr} {c : Nat} {vs : List (Str × V)} {fs : List (Nat × D)} : H p = some (.ins (T.cA c) dx vs) → RpF T H vs fs → Rp T H (.ref p) (.ins c fs)
  | scr {p : Addr} {ns : List Int} : SqL T.K H p (ns.map V.int) → Rp T H (.ref p) (.scr ns)
inductive Rps (T : Tb) (H : Hp) : List V → List D → Prop where
  | nil : Rps T H [] []
  | cons {v : V} {x : D} {vs : List V} {xs : List D} : Rp T H v x → Rps T H vs xs → Rps T H (v :: vs) (x :: xs)
inductive RpK (T : Tb) (H : Hp) : List (Key × V) → List (D × D) → Prop where
  | nil : RpK T H [] []
  | cons {k : Key} {q : D} {v : V} {x : D} {vs : List (Key × V)} {xs : List (D × D)} : KyR k q → Rp T H v x → RpK T H vs xs → RpK T H ((k, v) :: vs) ((q, x) :: xs)
inductive RpF (T : Tb) (H : Hp) : List (Str × V) → List (Nat × D) → Prop where
  | nil : RpF T H [] []
  | cons {f : Nat} {v : V} {x : D} {vs : List (Str × V)} {xs : List (Nat × D)} : Rp T H v x → RpF T H vs xs → RpF T H ((T.an f, v) :: vs) ((f, x) :: xs)
end
theorem Same.rd {H H' : Hp} (e : Same H H') {a : Addr} {u : HO} (h : Rd H a u) : Rd H' a u := by
  rcases h with h | ⟨o, h⟩
  · exact .inl (e _ _ h)
  · exact .inr ⟨o, e _ _ h⟩
theorem Same.sqT {K : PySem.W.Frag} {H H' : Hp} (e : Same H H') {a : Addr} {xs : List V} (h : SqT K H a xs) : SqT K H' a xs := by
  rcases h with h | h
  · exact .inl (Same.rd e h)
  · exact .inr h
theorem Same.sqL {K : PySem.W.Frag} {H H' : Hp} (e : Same H H') {a : Addr} {xs : List V} (h : SqL K H a xs) : SqL K H' a xs := Same.seq e h
section
variable {T : Tb} {H H' : Hp}
mutual
theorem Rp.mono (e : Same H H') {v : V} {x : D} (h : Rp T H v x) : Rp T H' v x := by
  cases h with
  | non => exact .non
  | bl b => exact .bl b
  | int i => exact .int i
  | str s => exact .str s
  | tup a b => exact .tup (Same.sqT e a) (Rps.mono e b)
  | lst a b => exact .lst (e _ _ a) (Rps.mono e b)
  | dic a b => exact .dic (e _ _ a) (RpK.mono e b)
  | ins a b => exact .ins (e _ _ a) (RpF.mono e b)
  | scr a => exact .scr (Same.sqL e a)
theorem Rps.mono (e : Same H H') {v : List V} {x : List D} (h : Rps T H v x) : Rps T H' v x := by
  cases h with
  | nil => exact .nil
  | cons a b => exact .cons (Rp.mono e a) (Rps.mono e b)
theorem RpK.mono (e : Same H H') {v : List (Key × V)} {x : List (D × D)} (h : RpK T H v x) : RpK T H' v x := by
  cases h with
  | nil => exact .nil
  | cons k a b => exact .cons k (Rp.mono e a) (RpK.mono e b)
theorem RpF.mono (e : Same H H') {v : List (Str × V)} {x : List (Nat × D)} (h : RpF T H v x) : RpF T H' v x := by
  cases h with
  | nil => exact .nil
  | cons a b => exact .cons (Rp.mono e a) (RpF.mono e b)
end
theorem Rps.length : ∀ {vs : List V} {xs : List D}, Rps T H vs xs → vs.length = xs.length
  | _, _, .nil => rfl
  | _, _, .cons _ r => by simp [r.length]
theorem Rps.append : ∀ {vs : List V} {xs : List D} {ws : List V} {ys : List D}, Rps T H vs xs → Rps T H ws ys → Rps T H (vs ++ ws) (xs ++ ys)
  | _, _, _, _, .nil, h => h
  | _, _, _, _, .cons a r, h => .cons a (r.append h)
theorem Rps.get : ∀ {vs : List V} {xs : List D} {k : Nat} {x : D}, Rps T H vs xs → xs[k]? = some x → ∃ v, vs[k]? = some v ∧ Rp T H v x
  | _, _, _, _, .nil, h => by simp at h
  | _, _, 0, _, .cons a r, h => by simp at h; subst h; exact ⟨_, rfl, a⟩
  | _, _, k + 1, _, .cons a r, h => by simp at h; simpa using r.get h
theorem Rps.get' : ∀ {vs : List V} {xs : List D} {k : Nat} {v : V}, Rps T H vs xs → vs[k]? = some v → ∃ x, xs[k]? = some x ∧ Rp T H v x
  | _, _, _, _, .nil, h => by simp at h
  | _, _, 0, _, .cons a r, h => by simp at h; subst h; exact ⟨_, rfl, a⟩
  | _, _, k + 1, _, .cons a r, h => by simp at h; simpa using r.get' h
theorem Rps.set : ∀ {vs : List V} {xs : List D} {k : Nat} {x : D} {v : V}, Rps T H vs xs → Rp T H v x → Rps T H (vs.set k v) (xs.set k x)
  | _, _, _, _, _, .nil, _ => .nil
  | _, _, 0, _, _, .cons _ r, h => .cons h r
  | _, _, k + 1, _, _, .cons a r, h => .cons a (r.set h)
theorem Rps.take : ∀ {vs : List V} {xs : List D} (k : Nat), Rps T H vs xs → Rps T H (vs.take k) (xs.take k)
  | _, _, 0, _ => by simp; exact .nil
  | _, _, k + 1, .nil => .nil
  | _, _, k + 1, .cons a r => .cons a (r.take k)
theorem Rps.drop : ∀ {vs : List V} {xs : List D} (k : Nat), Rps T H vs xs → Rps T H (vs.drop k) (xs.drop k)
  | _, _, 0, h => by simpa using h
  | _, _, k + 1, .nil => .nil
  | _, _, k + 1, .cons a r => by simpa using r.drop k
theorem Rps.reverse : ∀ {vs : List V} {xs : List D}, Rps T H vs xs → Rps T H vs.reverse xs.reverse
  | _, _, .nil => .nil
  | _, _, .cons a r => by simpa using r.reverse.append (.cons a .nil)
theorem Rps.dropLast {vs : List V} {xs : List D} (h : Rps T H vs xs) : Rps T H vs.dropLast xs.dropLast := by
  rw [List.dropLast_eq_take, List.dropLast_eq_take, h.length]
  exact h.take _
theorem Rps.rep {vs : List V} {xs : List D} (h : Rps T H vs xs) : ∀ k : Nat, Rps T H (List.replicate k vs).flatten (List.replicate k xs).flatten
  | 0 => .nil
  | k + 1 => by rw [List.replicate_succ, List.replicate_succ, List.flatten_cons, List.flatten_cons]; exact h.append (h.rep k)
theorem RpF.look : ∀ {vs : List (Str × V)} {fs : List (Nat × D)} {f : Nat} {x : D}, RpF T H vs fs → lookF fs f = some x → ∃ v, vs.lookup (T.an f) = some v ∧ Rp T H v x
  | _, _, _, _, .nil, h => by simp [lookF] at h
  | _, _, f, _, .cons (f := g) a r, h => by
    unfold lookF at h
    by_cases e : g = f
    · subst e
      simp at h
      subst h
      exact ⟨_, by simp [List.lookup_cons], a⟩
    · have ne : (T.an f == T.an g) = false := by
        rw [beq_eq_false_iff_ne]
        exact fun z => e (T.inj _ _ z.symm)
      have e' : (g == f) = false := by simpa using e
      rw [e'] at h
      simp at h
      obtain ⟨v, hv, hr⟩ := r.look h
      exact ⟨v, by rw [List.lookup_cons, ne]; exact hv, hr⟩
theorem RpF.none : ∀ {vs : List (Str × V)} {fs : List (Nat × D)} {f : Nat}, RpF T H vs fs → lookF fs f = none → vs.lookup (T.an f) = none
  | _, _, _, .nil, _ => rfl
  | _, _, f, .cons (f := g) a r, h => by
    unfold lookF at h
    by_cases e : g = f
    · subst e
      simp at h
    · have ne : (T.an f == T.an g) = false := by
        rw [beq_eq_false_iff_ne]
        exact fun z => e (T.inj _ _ z.symm)
      have e' : (g == f) = false := by simpa using e
      rw [e'] at h
      simp at h
      rw [List.lookup_cons, ne]
      exact r.none h
theorem RpF.put : ∀ {vs : List (Str × V)} {fs : List (Nat × D)} {f : Nat} {x : D} {v : V}, RpF T H vs fs → Rp T H v x → RpF T H (putF (T.an f) v vs) (putFs f x fs)
  | _, _, _, _, _, .nil, h => .cons h .nil
  | _, _, f, _, _, .cons (f := g) a r, h => by
    unfold putF putFs
    by_cases e : g = f
    · subst e
      simp
      exact .cons h r
    · have ne : ¬ T.an g = T.an f := fun z => e (T.inj _ _ z)
      rw [if_neg ne]
      have e' : (g == f) = false := by simpa using e
      rw [e']
      simp
      exact .cons a (r.put h)
theorem RpF.length : ∀ {vs : List (Str × V)} {fs : List (Nat × D)}, RpF T H vs fs → vs.length = fs.length
  | _, _, .nil => rfl
  | _, _, .cons _ r => by simp [r.length]
end
/-- at p stands the object; what is in it stands still in H0 -/
def ObR (T : Tb) (H0 H : Hp) (p : Addr) : Ob → Prop
  | .lst xs => ∃ vs, H p = some (.lst vs) ∧ Rps T H0 vs xs
  | .dic ks => ∃ vs, H p = some (.dK vs) ∧ RpK T H0 vs ks
  | .ins c fs => ∃ dx vs, H p = some (.ins (T.cA c) dx vs) ∧ RpF T H0 vs fs
theorem ObR.there {T : Tb} {H0 H : Hp} {p : Addr} {o : Ob} (h : ObR T H0 H p o) : ∃ u, H p = some u := by
  cases o with
  | lst xs => obtain ⟨_, h, _⟩ := h; exact ⟨_, h⟩
  | dic xs => obtain ⟨_, h, _⟩ := h; exact ⟨_, h⟩
  | ins c xs => obtain ⟨_, _, h, _⟩ := h; exact ⟨_, h⟩
theorem ObR.move {T : Tb} {H0 H H0' H' : Hp} {p : Addr} {o : Ob} (h : ObR T H0 H p o) (e : Same H0 H0') (k : H' p = H p) : ObR T H0' H' p o := by
  cases o with
  | lst xs => obtain ⟨vs, h, r⟩ := h; exact ⟨vs, k.trans h, r.mono e⟩
  | dic xs => obtain ⟨vs, h, r⟩ := h; exact ⟨vs, k.trans h, r.mono e⟩
  | ins c xs => obtain ⟨dx, vs, h, r⟩ := h; exact ⟨dx, vs, k.trans h, r.mono e⟩
theorem ObR.rp {T : Tb} {H0 H : Hp} {p : Addr} {o : Ob} (h : ObR T H0 H p o) (e : Same H0 H) : Rp T H (.ref p) o.d := by
  cases o with
  | lst xs => obtain ⟨vs, h, r⟩ := h; exact .lst h (r.mono e)
  | dic xs => obtain ⟨vs, h, r⟩ := h; exact .dic h (r.mono e)
  | ins c xs => obtain ⟨dx, vs, h, r⟩ := h; exact .ins h (r.mono e)
/-- a def's entry: the heap, what stood still in it, the caller's objects that it was lent (slot, place) -/
structure En where
  Hs : Hp
  H0 : Hp
  pas : List (Nat × Addr)
/-- a raised thing's own dict, standing still -/
def XR0 (T : Tb) (H0 : Hp) (x : Xc) (dd : Option Addr) : Prop :=
  (x.fs = [] ∧ dd = none) ∨ ∃ d vs, dd = some d ∧ H0 d = some (.xd vs) ∧ RpF T H0 vs x.fs
theorem XR0.mono {T : Tb} {H0 H0' : Hp} {x : Xc} {dd : Option Addr} (h : XR0 T H0 x dd) (e : Same H0 H0') : XR0 T H0' x dd := by
  rcases h with h | ⟨d, vs, a, b, c⟩
  · exact .inl h
  · exact .inr ⟨d, vs, a, e _ _ b, c.mono e⟩
def SlotR (T : Tb) (n : En) (H0 H : Hp) (i : Nat) (x : Option V) : Sl → Prop
  | .un => True
  | .xc y => ∃ a d, T.xa = some (a, d, .ref (T.cA y.cls)) ∧ x = some (.ref a) ∧ XR0 T H0 y d
  | .sh d => ∃ v, x = some v ∧ Rp T H0 v d
  | .ow o => ∃ p, x = some (.ref p) ∧ n.Hs p = none ∧ H0 p = none ∧ ObR T H0 H p o
  | .pa o => ∃ p, x = some (.ref p) ∧ (i, p) ∈ n.pas ∧ H0 p = none ∧ ObR T H0 H p o
def isOwn : Sl → Bool
  | .ow _ => true
  | .pa _ => true
  | _ => false
/-- slot i holds an object of one's own at p -/
def OwnAt (σ : L2.St) (ρ : Env) (i : Nat) (p : Addr) : Prop := σ[i]? = some (some (.ref p)) ∧ ∃ s, ρ[i]? = some s ∧ isOwn s = true
abbrev Tmp := V × Rs
def TmpR (T : Tb) (n : En) (H0 H : Hp) (σ : L2.St) (ρ : Env) (v : V) : Rs → Prop
  | .d x => Rp T H0 v x
  | .fr o => ∃ p, v = .ref p ∧ n.Hs p = none ∧ H0 p = none ∧ ObR T H0 H p o
  | .bo i => σ[i]? = some (some v) ∧ ∃ s, ρ[i]? = some s ∧ s ≠ .un
def tmpL : List Tmp → List Addr
  | [] => []
  | (.ref p, .fr _) :: l => p :: tmpL l
  | _ :: l => tmpL l
/-- the state of a def's body -/
structure ST (T : Tb) (n : En) (H0 H : Hp) (σ : L2.St) (ρ : Env) (ts : List Tmp) : Prop where
  sub : Same H0 H
  s0 : Same n.H0 H0
  len : σ.length = ρ.length
  slot : ∀ i s, ρ[i]? = some s → ∃ x, σ[i]? = some x ∧ SlotR T n H0 H i x s
  temp : ∀ t ∈ ts, TmpR T n H0 H σ ρ t.1 t.2
  dist : ∀ i j p, OwnAt σ ρ i p → OwnAt σ ρ j p → i = j
  dtt : (tmpL ts).Nodup
  dts : ∀ p ∈ tmpL ts, ∀ i, ¬ OwnAt σ ρ i p
  pak : ∀ q ∈ n.pas, σ[q.1]? = some (some (.ref q.2)) ∧ ∃ o, ρ[q.1]? = some (.pa o)
  keep : ∀ b o, n.Hs b = some o → b ∉ n.pas.map (·.2) → H b = some o
  dom : ∀ b o, n.Hs b = some o → ∃ o', H b = some o'
  new : ∀ b o, H0 b = some o → (∃ o', n.H0 b = some o') ∨ n.Hs b = none
theorem tmpL_cons_fr (p : Addr) (o : Ob) (l : List Tmp) : tmpL ((.ref p, .fr o) :: l) = p :: tmpL l := rfl
theorem tmpL_cons_d (v : V) (x : D) (l : List Tmp) : tmpL ((v, .d x) :: l) = tmpL l := by cases v <;> rfl
theorem tmpL_cons_bo (v : V) (i : Nat) (l : List Tmp) : tmpL ((v, .bo i) :: l) = tmpL l := by cases v <;> rfl
theorem mem_tmpL {p : Addr} : ∀ {ts : List Tmp}, p ∈ tmpL ts → ∃ o, (V.ref p, Rs.fr o) ∈ ts
  | [], h => by simp [tmpL] at h
  | (v, r) :: l, h => by
    have go : p ∈ tmpL l → ∃ o, (V.ref p, Rs.fr o) ∈ (v, r) :: l := fun h => by
      obtain ⟨o', h'⟩ := mem_tmpL h
      exact ⟨o', List.mem_cons_of_mem _ h'⟩
    cases r with
    | d x => rw [tmpL_cons_d] at h; exact go h
    | bo i => rw [tmpL_cons_bo] at h; exact go h
    | fr o =>
      cases v with
      | ref a =>
        rw [tmpL_cons_fr] at h
        rcases List.mem_cons.mp h with rfl | h
        · exact ⟨o, List.mem_cons_self ..⟩
        · exact go h
      | _ => exact go h
theorem tmpL_mem {p : Addr} {o : Ob} : ∀ {ts : List Tmp}, (V.ref p, Rs.fr o) ∈ ts → p ∈ tmpL ts
  | (v, r) :: l, h => by
    rcases List.mem_cons.mp h with h | h
    · cases h
      rw [tmpL_cons_fr]
      exact List.mem_cons_self ..
    · have z := tmpL_mem h
      cases r with
      | d x => rw [tmpL_cons_d]; exact z
      | bo i => rw [tmpL_cons_bo]; exact z
      | fr o =>
        cases v with
        | ref a => rw [tmpL_cons_fr]; exact List.mem_cons_of_mem _ z
        | _ => exact z
theorem tmpL_append : ∀ (a b : List Tmp), tmpL (a ++ b) = tmpL a ++ tmpL b
  | [], _ => rfl
  | (v, r) :: l, b => by
    have ih := tmpL_append l b
    cases r with
    | d x => rw [List.cons_append, tmpL_cons_d, tmpL_cons_d, ih]
    | bo x => rw [List.cons_append, tmpL_cons_bo, tmpL_cons_bo, ih]
    | fr o =>
      cases v with
      | ref p => rw [List.cons_append, tmpL_cons_fr, tmpL_cons_fr, ih, List.cons_append]
      | _ => exact ih
theorem tmpL_perm {a b : List Tmp} (h : a.Perm b) : (tmpL a).Perm (tmpL b) := by
  induction h with
  | nil => exact .nil
  | cons x _ ih =>
    have e : ∀ l, tmpL (x :: l) = tmpL [x] ++ tmpL l := fun l => tmpL_append [x] l
    have z := List.Perm.append_left (tmpL [x]) ih
    rw [← e, ← e] at z
    exact z
  | swap x y l =>
    have e : ∀ l, tmpL (y :: x :: l) = tmpL [y] ++ (tmpL [x] ++ tmpL l) := fun l => by rw [← tmpL_append, ← tmpL_append]; rfl
    have e' : ∀ l, tmpL (x :: y :: l) = tmpL [x] ++ (tmpL [y] ++ tmpL l) := fun l => by rw [← tmpL_append, ← tmpL_append]; rfl
    rw [e, e', ← List.append_assoc, ← List.append_assoc]
    exact List.Perm.append_right _ List.perm_append_comm
  | trans _ _ a b => exact a.trans b
section
variable {T : Tb} {n : En} {H0 H : Hp} {σ : L2.St} {ρ : Env} {ts ts' : List Tmp}
theorem ST.perm (S : ST T n H0 H σ ρ ts) (h : ts.Perm ts') : ST T n H0 H σ ρ ts' :=
  { S with
    temp := fun t ht => S.temp t (h.mem_iff.mpr ht)
    dtt := (tmpL_perm h).nodup_iff.mp S.dtt
    dts := fun p hp => S.dts p ((tmpL_perm h).mem_iff.mpr hp) }
theorem ST.drop {t : Tmp} (S : ST T n H0 H σ ρ (t :: ts)) : ST T n H0 H σ ρ ts :=
  { S with
    temp := fun u hu => S.temp u (List.mem_cons_of_mem _ hu)
    dtt := by
      have h := S.dtt
      rw [show t :: ts = [t] ++ ts from rfl, tmpL_append] at h
      exact (List.nodup_append.mp h).2.1
    dts := fun p hp => S.dts p (by rw [show t :: ts = [t] ++ ts from rfl, tmpL_append]; exact List.mem_append_right _ hp) }
theorem ST.dropA {us : List Tmp} (S : ST T n H0 H σ ρ (us ++ ts)) : ST T n H0 H σ ρ ts := by
  induction us with
  | nil => exact S
  | cons t us ih => exact ih S.drop
/-- data that stands still is one more temporary -/
theorem ST.addD {v : V} {x : D} (S : ST T n H0 H σ ρ ts) (r : Rp T H0 v x) : ST T n H0 H σ ρ ((v, .d x) :: ts) :=
  { S with
    temp := fun u hu => by
      rcases List.mem_cons.mp hu with rfl | hu
      · exact r
      · exact S.temp u hu
    dtt := by rw [tmpL_cons_d]; exact S.dtt
    dts := by rw [tmpL_cons_d]; exact S.dts }
theorem ST.addB {v : V} {i : Nat} {s : Sl} (S : ST T n H0 H σ ρ ts) (hv : σ[i]? = some (some v)) (hs : ρ[i]? = some s) (hu : s ≠ .un) : ST T n H0 H σ ρ ((v, .bo i) :: ts) :=
  { S with
    temp := fun u hu' => by
      rcases List.mem_cons.mp hu' with rfl | hu'
      · exact ⟨hv, s, hs, hu⟩
      · exact S.temp u hu'
    dtt := by rw [tmpL_cons_bo]; exact S.dtt
    dts := by rw [tmpL_cons_bo]; exact S.dts }
theorem ST.entry_free (S : ST T n H0 H σ ρ ts) {p : Addr} (h : H p = none) : n.Hs p = none := by
  cases e : n.Hs p with
  | none => rfl
  | some o => obtain ⟨o', z⟩ := S.dom p o e; rw [h] at z; cases z
theorem ST.still_free (S : ST T n H0 H σ ρ ts) {p : Addr} (h : H p = none) : H0 p = none := by
  cases e : H0 p with
  | none => rfl
  | some o => have z := S.sub p o e; rw [h] at z; cases z
/-- an own slot's object stands in H -/
theorem ST.own_there (S : ST T n H0 H σ ρ ts) {i : Nat} {p : Addr} (h : OwnAt σ ρ i p) : ∃ u, H p = some u ∧ H0 p = none := by
  obtain ⟨hv, s, hs, ho⟩ := h
  obtain ⟨x, hx, r⟩ := S.slot i s hs
  rw [hv] at hx
  cases hx
  cases s with
  | un => cases ho
  | xc _ => cases ho
  | sh d => cases ho
  | ow o =>
    obtain ⟨q, e, _, h0, hr⟩ := r
    cases e
    obtain ⟨u, hu⟩ := hr.there
    exact ⟨u, hu, h0⟩
  | pa o =>
    obtain ⟨q, e, _, h0, hr⟩ := r
    cases e
    obtain ⟨u, hu⟩ := hr.there
    exact ⟨u, hu, h0⟩
theorem ST.tmp_there (S : ST T n H0 H σ ρ ts) {p : Addr} (h : p ∈ tmpL ts) : ∃ u, H p = some u ∧ H0 p = none ∧ n.Hs p = none := by
  obtain ⟨o, ho⟩ := mem_tmpL h
  obtain ⟨q, e, hs, h0, hr⟩ := S.temp _ ho
  cases e
  obtain ⟨u, hu⟩ := hr.there
  exact ⟨u, hu, h0, hs⟩
/-- more objects -/
theorem ST.grow {H' : Hp} (S : ST T n H0 H σ ρ ts) (e : Same H H') : ST T n H0 H' σ ρ ts := by
  have mv : ∀ {p o}, ObR T H0 H p o → ObR T H0 H' p o := fun h => by
    obtain ⟨u, hu⟩ := h.there
    exact h.move (Same.refl H0) ((e _ _ hu).trans hu.symm)
  exact {
    sub := fun b o h => e b o (S.sub b o h)
    s0 := S.s0
    len := S.len
    slot := fun i s hs => by
      obtain ⟨x, hx, r⟩ := S.slot i s hs
      refine ⟨x, hx, ?_⟩
      cases s with
      | un => exact r
      | xc _ => exact r
      | sh d => exact r
      | ow o => obtain ⟨p, a, b, c, d⟩ := r; exact ⟨p, a, b, c, mv d⟩
      | pa o => obtain ⟨p, a, b, c, d⟩ := r; exact ⟨p, a, b, c, mv d⟩
    temp := fun t ht => by
      have r := S.temp t ht
      obtain ⟨v, q⟩ := t
      cases q with
      | d x => exact r
      | fr o => obtain ⟨p, a, b, c, d⟩ := r; exact ⟨p, a, b, c, mv d⟩
      | bo i => exact r
    dist := S.dist
    dtt := S.dtt
    dts := S.dts
    pak := S.pak
    keep := fun b o h k => e b o (S.keep b o h k)
    dom := fun b o h => by obtain ⟨o', z⟩ := S.dom b o h; exact ⟨o', e b o' z⟩
    new := S.new }
/-- a new object -/
theorem ST.alloc {H' : Hp} {p : Addr} {o : Ob} (S : ST T n H0 H σ ρ ts) (e : Same H H') (hp : H p = none) (r : ObR T H0 H' p o) : ST T n H0 H' σ ρ ((.ref p, .fr o) :: ts) :=
  { S.grow e with
    temp := fun t ht => by
      rcases List.mem_cons.mp ht with rfl | ht
      · exact ⟨p, rfl, S.entry_free hp, S.still_free hp, r⟩
      · exact (S.grow e).temp t ht
    dtt := by
      rw [tmpL_cons_fr]
      refine List.nodup_cons.mpr ⟨fun h => ?_, S.dtt⟩
      obtain ⟨u, hu, _⟩ := S.tmp_there h
      rw [hp] at hu
      cases hu
    dts := fun q hq i ho => by
      rw [tmpL_cons_fr] at hq
      rcases List.mem_cons.mp hq with rfl | hq
      · obtain ⟨u, hu, _⟩ := S.own_there ho
        rw [hp] at hu
        cases hu
      · exact S.dts q hq i ho }
theorem Same.new {H : Hp} {p : Addr} {o : HO} (h : H p = none) : Same H (upd H p o) := fun b u e => by
  rw [upd_ne (ne_of_none e h)]
  exact e
/-- an object at p stands still from now on -/
theorem ST.still {p : Addr} {u : HO} (S : ST T n H0 H σ ρ ts) (hu : H p = some u) (h0 : H0 p = none) (hs : n.Hs p = none) (ho : ∀ i, ¬ OwnAt σ ρ i p) (ht : p ∉ tmpL ts) : ST T n (upd H0 p u) H σ ρ ts := by
  have e : Same H0 (upd H0 p u) := Same.new h0
  exact {
    sub := fun b o h => by
      by_cases z : b = p
      · subst z; rw [upd_same] at h; cases h; exact hu
      · rw [upd_ne z] at h; exact S.sub b o h
    s0 := Same.trans S.s0 e
    len := S.len
    slot := fun i s hs' => by
      obtain ⟨x, hx, r⟩ := S.slot i s hs'
      refine ⟨x, hx, ?_⟩
      cases s with
      | un => exact r
      | xc _ => obtain ⟨a1, d1, h1, h2, h3⟩ := r; exact ⟨a1, d1, h1, h2, h3.mono e⟩
      | sh d => obtain ⟨v, a, b⟩ := r; exact ⟨v, a, b.mono e⟩
      | ow o =>
        obtain ⟨q, a, b, c, d⟩ := r
        subst a
        have ne : q ≠ p := fun z => ho i ⟨z ▸ hx, _, hs', rfl⟩
        exact ⟨q, rfl, b, by rw [upd_ne ne]; exact c, d.move e rfl⟩
      | pa o =>
        obtain ⟨q, a, b, c, d⟩ := r
        subst a
        have ne : q ≠ p := fun z => ho i ⟨z ▸ hx, _, hs', rfl⟩
        exact ⟨q, rfl, b, by rw [upd_ne ne]; exact c, d.move e rfl⟩
    temp := fun t ht' => by
      have r := S.temp t ht'
      obtain ⟨v, q⟩ := t
      cases q with
      | d x => exact Rp.mono e r
      | fr o =>
        obtain ⟨q, a, b, c, d⟩ := r
        have ne : q ≠ p := fun z => by
          have a' : v = .ref q := a
          subst a'
          subst z
          exact ht (tmpL_mem ht')
        exact ⟨q, a, b, by rw [upd_ne ne]; exact c, d.move e rfl⟩
      | bo i => exact r
    dist := S.dist
    dtt := S.dtt
    dts := S.dts
    pak := S.pak
    keep := S.keep
    dom := S.dom
    new := fun b o h => by
      by_cases z : b = p
      · subst z; exact .inr hs
      · rw [upd_ne z] at h; exact S.new b o h }
/-- a new object stands still from now on -/
theorem ST.hold {v : V} {o : Ob} (S : ST T n H0 H σ ρ ((v, .fr o) :: ts)) : ∃ H0', ST T n H0' H σ ρ ((v, .d o.d) :: ts) := by
  obtain ⟨p, e, hs, h0, r⟩ := S.temp _ (List.mem_cons_self ..)
  have e : v = .ref p := e
  subst e
  obtain ⟨u, hu⟩ := ObR.there r
  have nd := S.dtt
  rw [tmpL_cons_fr] at nd
  have S1 := S.drop.still hu h0 hs (S.dts p (by rw [tmpL_cons_fr]; exact List.mem_cons_self ..)) (List.nodup_cons.mp nd).1
  refine ⟨upd H0 p u, S1.addD ?_⟩
  have r1 : ObR T H0 (upd H0 p u) p o := ObR.move r (Same.refl H0) (upd_same.trans hu.symm)
  exact r1.rp (Same.new h0)
theorem get_set_same {α : Type} {l : List α} {i : Nat} {x : α} (h : i < l.length) : (l.set i x)[i]? = some x := by simp [h]
theorem get_set_ne {α : Type} {l : List α} {i j : Nat} {x : α} (h : i ≠ j) : (l.set i x)[j]? = l[j]? := by simp [h]
theorem lt_of_get {α : Type} {l : List α} {i : Nat} {x : α} (h : l[i]? = some x) : i < l.length := (List.getElem?_eq_some_iff.mp h).1
/-- slot i's object, one's own, stands still from now on -/
theorem ST.holdSlot {i : Nat} {o : Ob} (S : ST T n H0 H σ ρ ts) (hi : ρ[i]? = some (.ow o)) : ∃ H0' v, σ[i]? = some (some v) ∧ Rp T H0' v o.d ∧ ST T n H0' H σ (ρ.set i (.sh o.d)) ts := by
  have hl := lt_of_get hi
  obtain ⟨x, hx, p, e, hs, h0, r⟩ := S.slot i _ hi
  subst e
  obtain ⟨u, hu⟩ := ObR.there r
  have own : OwnAt σ ρ i p := ⟨hx, _, hi, rfl⟩
  have e : Same H0 (upd H0 p u) := Same.new h0
  have rr : Rp T (upd H0 p u) (.ref p) o.d := (ObR.move r (Same.refl H0) (upd_same.trans hu.symm) : ObR T H0 (upd H0 p u) p o).rp e
  have back : ∀ {j q}, OwnAt σ (ρ.set i (.sh o.d)) j q → OwnAt σ ρ j q ∧ j ≠ i := fun {j q} ⟨a, s, b, c⟩ => by
    by_cases z : i = j
    · subst z
      rw [get_set_same hl] at b
      cases b
      cases c
    · rw [get_set_ne z] at b
      exact ⟨⟨a, s, b, c⟩, fun y => z y.symm⟩
  refine ⟨upd H0 p u, .ref p, hx, rr, ?_⟩
  exact {
    sub := fun b o h => by
      by_cases z : b = p
      · subst z; rw [upd_same] at h; cases h; exact hu
      · rw [upd_ne z] at h; exact S.sub b o h
    s0 := Same.trans S.s0 e
    len := by rw [List.length_set]; exact S.len
    slot := fun j s hs' => by
      by_cases z : i = j
      · subst z
        rw [get_set_same hl] at hs'
        cases hs'
        exact ⟨_, hx, _, rfl, rr⟩
      · rw [get_set_ne z] at hs'
        obtain ⟨y, hy, q⟩ := S.slot j s hs'
        refine ⟨y, hy, ?_⟩
        cases s with
        | un => exact q
        | xc _ => obtain ⟨a1, d1, h1, h2, h3⟩ := q; exact ⟨a1, d1, h1, h2, h3.mono e⟩
        | sh d => obtain ⟨v, a, b⟩ := q; exact ⟨v, a, b.mono e⟩
        | ow o' =>
          obtain ⟨q, a, b, c, d⟩ := q
          subst a
          have ne : q ≠ p := fun w => z (S.dist i j p own ⟨w ▸ hy, _, hs', rfl⟩)
          exact ⟨q, rfl, b, by rw [upd_ne ne]; exact c, d.move e rfl⟩
        | pa o' =>
          obtain ⟨q, a, b, c, d⟩ := q
          subst a
          have ne : q ≠ p := fun w => z (S.dist i j p own ⟨w ▸ hy, _, hs', rfl⟩)
          exact ⟨q, rfl, b, by rw [upd_ne ne]; exact c, d.move e rfl⟩
    temp := fun t ht' => by
      have r := S.temp t ht'
      obtain ⟨v, q⟩ := t
      cases q with
      | d x => exact Rp.mono e r
      | fr o' =>
        obtain ⟨q, a, b, c, d⟩ := r
        have ne : q ≠ p := fun z => by
          have a' : v = .ref q := a
          subst a'
          subst z
          exact S.dts q (tmpL_mem ht') i own
        exact ⟨q, a, b, by rw [upd_ne ne]; exact c, d.move e rfl⟩
      | bo j =>
        obtain ⟨a, s, b, c⟩ := r
        by_cases z : i = j
        · subst z
          exact ⟨a, _, get_set_same hl, fun w => nomatch w⟩
        · exact ⟨a, s, by rw [get_set_ne z]; exact b, c⟩
    dist := fun a b q h1 h2 => S.dist a b q (back h1).1 (back h2).1
    dtt := S.dtt
    dts := fun q hq j h => S.dts q hq j (back h).1
    pak := fun q hq => by
      obtain ⟨a, o', b⟩ := S.pak q hq
      refine ⟨a, o', ?_⟩
      have z : i ≠ q.1 := fun z => by rw [← z, hi] at b; cases b
      rw [get_set_ne z]
      exact b
    keep := S.keep
    dom := S.dom
    new := fun b o h => by
      by_cases z : b = p
      · subst z; exact .inr hs
      · rw [upd_ne z] at h; exact S.new b o h }
/-- slot i's object is written -/
theorem ST.write {i : Nat} {s s' : Sl} {o o' : Ob} {p : Addr} {u : HO} (S : ST T n H0 H σ ρ ts) (hi : ρ[i]? = some s) (ho : (s = .ow o ∧ s' = .ow o') ∨ (s = .pa o ∧ s' = .pa o'))
    (hp : σ[i]? = some (some (.ref p))) (r : ObR T H0 (upd H p u) p o') : ST T n H0 (upd H p u) σ (ρ.set i s') ts := by
  have hl := lt_of_get hi
  have is : isOwn s = true := by rcases ho with ⟨rfl, _⟩ | ⟨rfl, _⟩ <;> rfl
  have is' : isOwn s' = true := by rcases ho with ⟨_, rfl⟩ | ⟨_, rfl⟩ <;> rfl
  have own : OwnAt σ ρ i p := ⟨hp, s, hi, is⟩
  obtain ⟨w, hw, h0⟩ := S.own_there own
  have back : ∀ {j q}, OwnAt σ (ρ.set i s') j q → OwnAt σ ρ j q := fun {j q} ⟨a, t, b, c⟩ => by
    by_cases z : i = j
    · subst z
      exact ⟨a, s, hi, is⟩
    · rw [get_set_ne z] at b
      exact ⟨a, t, b, c⟩
  have mv : ∀ {q o2}, q ≠ p → ObR T H0 H q o2 → ObR T H0 (upd H p u) q o2 := fun ne h => h.move (Same.refl H0) (upd_ne ne)
  exact {
    sub := fun b o h => by
      have ne : b ≠ p := fun z => by subst z; rw [h0] at h; cases h
      rw [upd_ne ne]
      exact S.sub b o h
    s0 := S.s0
    len := by rw [List.length_set]; exact S.len
    slot := fun j t ht => by
      by_cases z : i = j
      · subst z
        rw [get_set_same hl] at ht
        cases ht
        refine ⟨_, hp, ?_⟩
        obtain ⟨x, hx, q⟩ := S.slot i s hi
        rw [hp] at hx
        cases hx
        rcases ho with ⟨rfl, rfl⟩ | ⟨rfl, rfl⟩
        · obtain ⟨q, a, b, c, d⟩ := q
          cases a
          exact ⟨_, rfl, b, c, r⟩
        · obtain ⟨q, a, b, c, d⟩ := q
          cases a
          exact ⟨_, rfl, b, c, r⟩
      · rw [get_set_ne z] at ht
        obtain ⟨y, hy, q⟩ := S.slot j t ht
        refine ⟨y, hy, ?_⟩
        cases t with
        | un => exact q
        | xc _ => exact q
        | sh d => exact q
        | ow o2 =>
          obtain ⟨q, a, b, c, d⟩ := q
          subst a
          exact ⟨q, rfl, b, c, mv (fun w => z (S.dist i j p own ⟨w ▸ hy, _, ht, rfl⟩)) d⟩
        | pa o2 =>
          obtain ⟨q, a, b, c, d⟩ := q
          subst a
          exact ⟨q, rfl, b, c, mv (fun w => z (S.dist i j p own ⟨w ▸ hy, _, ht, rfl⟩)) d⟩
    temp := fun t ht' => by
      have r := S.temp t ht'
      obtain ⟨v, q⟩ := t
      cases q with
      | d x => exact r
      | fr o2 =>
        obtain ⟨q, a, b, c, d⟩ := r
        refine ⟨q, a, b, c, mv (fun z => ?_) d⟩
        have a' : v = .ref q := a
        subst a'
        subst z
        exact S.dts q (tmpL_mem ht') i own
      | bo j =>
        obtain ⟨a, t, b, c⟩ := r
        by_cases z : i = j
        · subst z
          refine ⟨a, _, get_set_same hl, fun w => ?_⟩
          rw [w] at is'
          cases is'
        · exact ⟨a, t, by rw [get_set_ne z]; exact b, c⟩
    dist := fun a b q h1 h2 => S.dist a b q (back h1) (back h2)
    dtt := S.dtt
    dts := fun q hq j h => S.dts q hq j (back h)
    pak := fun q hq => by
      obtain ⟨a, o2, b⟩ := S.pak q hq
      by_cases z : i = q.1
      · refine ⟨a, ?_⟩
        rw [← z] at b ⊢
        rw [hi] at b
        cases b
        rcases ho with ⟨e, _⟩ | ⟨e, rfl⟩
        · cases e
        · exact ⟨_, get_set_same hl⟩
      · exact ⟨a, o2, by rw [get_set_ne z]; exact b⟩
    keep := fun b o h k => by
      have ne : b ≠ p := fun z => by
        subst z
        obtain ⟨x, hx, q⟩ := S.slot i s hi
        rw [hp] at hx
        cases hx
        rcases ho with ⟨rfl, rfl⟩ | ⟨rfl, rfl⟩
        · obtain ⟨q, a, b, c, d⟩ := q
          cases a
          rw [b] at h
          cases h
        · obtain ⟨q, a, b, c, d⟩ := q
          cases a
          exact k (List.mem_map.mpr ⟨_, b, rfl⟩)
      rw [upd_ne ne]
      exact S.keep b o h k
    dom := fun b o h => by
      obtain ⟨o2, z⟩ := S.dom b o h
      by_cases y : b = p
      · subst y; exact ⟨_, upd_same⟩
      · exact ⟨o2, by rw [upd_ne y]; exact z⟩
    new := S.new }
/-- a name is stored -/
theorem ST.store {i : Nat} {v : V} {r : Rs} {s : Sl} (S : ST T n H0 H σ ρ ((v, r) :: ts)) (hm : mayPut ρ i = true) (hr : (∃ x, r = .d x ∧ s = .sh x) ∨ (∃ o, r = .fr o ∧ s = .ow o)) (nb : ∀ t ∈ ts, t.2 ≠ .bo i) :
    ST T n H0 H (σ.set i (some v)) (ρ.set i s) ts := by
  obtain ⟨s0, hi, hpa⟩ : ∃ s0, ρ[i]? = some s0 ∧ ∀ o, s0 ≠ .pa o := by
    unfold mayPut at hm
    split at hm
    · cases hm
    · rename_i a b; exact ⟨_, b, fun o z => a o z⟩
    · cases hm
  have hl := lt_of_get hi
  have hls : i < σ.length := by rw [S.len]; exact hl
  have S' := S.drop
  have q := S.temp _ (List.mem_cons_self ..)
  have own : ∀ {j p}, OwnAt (σ.set i (some v)) (ρ.set i s) j p → (j = i ∧ p ∈ tmpL [(v, r)]) ∨ (j ≠ i ∧ OwnAt σ ρ j p) := fun {j p} ⟨a, t, b, c⟩ => by
    by_cases z : i = j
    · subst z
      rw [get_set_same hl] at b
      rw [get_set_same hls] at a
      cases a
      cases b
      rcases hr with ⟨x, rfl, rfl⟩ | ⟨o, rfl, rfl⟩
      · cases c
      · exact .inl ⟨rfl, List.mem_cons_self ..⟩
    · rw [get_set_ne z] at a b
      exact .inr ⟨fun y => z y.symm, a, t, b, c⟩
  have nd := S.dtt
  rw [show (v, r) :: ts = [(v, r)] ++ ts from rfl, tmpL_append] at nd
  have sd : ∀ p, p ∈ tmpL [(v, r)] → p ∈ tmpL ((v, r) :: ts) := fun p h => by
    rw [show (v, r) :: ts = [(v, r)] ++ ts from rfl, tmpL_append]
    exact List.mem_append_left _ h
  exact {
    sub := S.sub
    s0 := S.s0
    len := by rw [List.length_set, List.length_set]; exact S.len
    slot := fun j t ht => by
      by_cases z : i = j
      · subst z
        rw [get_set_same hl] at ht
        cases ht
        refine ⟨_, get_set_same hls, ?_⟩
        rcases hr with ⟨x, rfl, rfl⟩ | ⟨o, rfl, rfl⟩
        · exact ⟨v, rfl, q⟩
        · obtain ⟨p, a, b, c, d⟩ := q
          exact ⟨p, by rw [show v = V.ref p from a], b, c, d⟩
      · rw [get_set_ne z] at ht ⊢
        exact S.slot j t ht
    temp := fun t ht => by
      have w := S'.temp t ht
      have k := nb t ht
      obtain ⟨u, q⟩ := t
      cases q with
      | d x => exact w
      | fr o => exact w
      | bo j =>
        have z : i ≠ j := fun z => k (by rw [z])
        obtain ⟨a, t, b, c⟩ := w
        exact ⟨by rw [get_set_ne z]; exact a, t, by rw [get_set_ne z]; exact b, c⟩
    dist := fun a b p h1 h2 => by
      rcases own h1 with ⟨rfl, m1⟩ | ⟨n1, o1⟩
      · rcases own h2 with ⟨rfl, m2⟩ | ⟨n2, o2⟩
        · rfl
        · exact absurd o2 (S.dts p (sd p m1) b)
      · rcases own h2 with ⟨rfl, m2⟩ | ⟨n2, o2⟩
        · exact absurd o1 (S.dts p (sd p m2) a)
        · exact S.dist a b p o1 o2
    dtt := S'.dtt
    dts := fun p hp j h => by
      rcases own h with ⟨rfl, m1⟩ | ⟨n1, o1⟩
      · exact (List.nodup_append.mp nd).2.2 p m1 p hp rfl
      · exact S'.dts p hp j o1
    pak := fun w hw => by
      obtain ⟨a, o, b⟩ := S.pak w hw
      have z : i ≠ w.1 := fun z => by
        rw [← z, hi] at b
        cases b
        exact hpa o rfl
      exact ⟨by rw [get_set_ne z]; exact a, o, by rw [get_set_ne z]; exact b⟩
    keep := S.keep
    dom := S.dom
    new := S.new }
end
end Mi
end
section
set_option maxHeartbeats 4000000
namespace Mi
open PySem PySem.Spec PyProof.Rows L2
/-- a raised thing's own dict -/
def XR (T : Tb) (n : En) (H0 H : Hp) (x : Xc) (dd : Option Addr) : Prop :=
  (x.fs = [] ∧ dd = none) ∨ ∃ d vs, dd = some d ∧ H d = some (.xd vs) ∧ n.Hs d = none ∧ H0 d = none ∧ RpF T H0 vs x.fs
theorem XR.out {T : Tb} {n n' : En} {H0 H : Hp} {x : Xc} {dd : Option Addr} (h : XR T n H0 H x dd) (k : ∀ p, n.Hs p = none → n'.Hs p = none) : XR T n' H0 H x dd := by
  rcases h with h | ⟨d, vs, a, b, c, e, f⟩
  · exact .inl h
  · exact .inr ⟨d, vs, a, b, k _ c, e, f⟩
section
variable (T : Tb) (W : WX)
/-- what is wanted behind an answer -/
def Post {α : Type} (n : En) (σ : L2.St) (ts : List Tmp) (o : Out α) (Q : α → Env → Hp → Hp → Prop) : Prop :=
  match o with
  | .ok a ρ' => ∀ H0' H', Q a ρ' H0' H'
  | .ex x ρ' => ∀ dd H0' H', ST T n H0' H' σ ρ' ts → XR T n H0' H' x dd → W (.ref (T.cA x.cls)) dd σ H'
  | .no => False
/-- an expression's reading -/
def rd (d : Env → Out Rs) : TE := fun σ H Q => ∃ n H0 ρ ts, ST T n H0 H σ ρ ts ∧ Post T W n σ ts (d ρ) fun r ρ' H0' H' => ∀ v, ST T n H0' H' σ ρ' ((v, r) :: ts) → Q v H'
def rdT (d : Env → Out Bool) : TT := fun σ H Q => ∃ n H0 ρ ts, ST T n H0 H σ ρ ts ∧ Post T W n σ ts (d ρ) fun b ρ' H0' H' => ST T n H0' H' σ ρ' ts → Q b H'
def rdA (d : Env → Out (List Rs)) : TA := fun σ H Q => ∃ n H0 ρ ts, ST T n H0 H σ ρ ts ∧ Post T W n σ ts (d ρ) fun rs ρ' H0' H' => ∀ vs, vs.length = rs.length → ST T n H0' H' σ ρ' (vs.zip rs ++ ts) → Q vs H'
def rdO (d : Env → Out (Option Int)) : TO := fun σ H Q => ∃ n H0 ρ ts, ST T n H0 H σ ρ ts ∧ Post T W n σ ts (d ρ) fun o ρ' H0' H' => ST T n H0' H' σ ρ' ts → Q o H'
end
theorem pe_imp {X : Cx} {e : Expr} {t t' : TE} (h : PE X e t) (k : ∀ σ H Q, t' σ H Q → t σ H Q) : PE X e t' := ⟨fun pins s σ H Q I q => h.run pins s σ H Q I (k σ H Q q)⟩
theorem pt_imp {X : Cx} {e : Expr} {t t' : TT} (h : PT X e t) (k : ∀ σ H Q, t' σ H Q → t σ H Q) : PT X e t' := ⟨fun pins s σ H Q I q => h.run pins s σ H Q I (k σ H Q q)⟩
theorem pw_imp {X : Cx} {e : Expr} {t t' : TT} (h : PW X e t) (k : ∀ σ H Q, t' σ H Q → t σ H Q) : PW X e t' := ⟨fun w pins s σ H Q I q => h.run w pins s σ H Q I (k σ H Q q)⟩
theorem pa_imp {X : Cx} {e : List Expr} {t t' : TA} (h : PA X e t) (k : ∀ σ H Q, t' σ H Q → t σ H Q) : PA X e t' := ⟨fun p pins s σ H Q I q => h.run p pins s σ H Q I (k σ H Q q)⟩
theorem po_imp {X : Cx} {e : Option Expr} {t t' : TO} (h : PO X e t) (k : ∀ σ H Q, t' σ H Q → t σ H Q) : PO X e t' := ⟨fun pins s σ H Q I q => h.run pins s σ H Q I (k σ H Q q)⟩
section
variable {T : Tb} {W : WX} {σ : L2.St} {H : Hp} {Q : VK}
/-- two expressions, then f -/
theorem rd_two {α : Type} {n : En} {H0 : Hp} {ρ : Env} {ts : List Tmp} {da db : Env → Out Rs} {f : Rs → Rs → Env → Out α} {P : α → Env → Hp → Hp → Prop} (S : ST T n H0 H σ ρ ts)
    (h : Post T W n σ ts ((da ρ).bind fun ra e1 => (db e1).bind fun rb e2 => f ra rb e2) P) :
    rd T W da σ H fun x H1 => rd T W db σ H1 fun y H2 => ∃ H0' ρ' ra rb, ST T n H0' H2 σ ρ' ((y, rb) :: (x, ra) :: ts) ∧ Post T W n σ ts (f ra rb ρ') P := by
  refine ⟨n, H0, ρ, ts, S, ?_⟩
  cases ea : da ρ with
  | no => rw [ea] at h; exact h.elim
  | ex x e => rw [ea] at h; exact h
  | ok ra e1 =>
    rw [ea] at h
    intro H0' H1 v S1
    refine ⟨n, H0', e1, (v, ra) :: ts, S1, ?_⟩
    have h : Post T W n σ ts ((db e1).bind fun rb e2 => f ra rb e2) P := h
    cases eb : db e1 with
    | no => rw [eb] at h; exact h.elim
    | ex x e => rw [eb] at h; exact fun dd h0 h1 s => h dd h0 h1 s.drop
    | ok rb e2 =>
      rw [eb] at h
      exact fun H0'' H2 w S2 => ⟨H0'', e2, ra, rb, S2, h⟩
theorem rd_one {α : Type} {n : En} {H0 : Hp} {ρ : Env} {ts : List Tmp} {da : Env → Out Rs} {f : Rs → Env → Out α} {P : α → Env → Hp → Hp → Prop} (S : ST T n H0 H σ ρ ts)
    (h : Post T W n σ ts ((da ρ).bind fun ra e1 => f ra e1) P) :
    rd T W da σ H fun x H1 => ∃ H0' ρ' ra, ST T n H0' H1 σ ρ' ((x, ra) :: ts) ∧ Post T W n σ ts (f ra ρ') P := by
  refine ⟨n, H0, ρ, ts, S, ?_⟩
  cases ea : da ρ with
  | no => rw [ea] at h; exact h.elim
  | ex x e => rw [ea] at h; exact h
  | ok ra e1 => rw [ea] at h; exact fun H0' H1 v S1 => ⟨H0', e1, ra, S1, h⟩
theorem rd_args {α : Type} {n : En} {H0 : Hp} {ρ : Env} {ts : List Tmp} {da : Env → Out (List Rs)} {f : List Rs → Env → Out α} {P : α → Env → Hp → Hp → Prop} (S : ST T n H0 H σ ρ ts)
    (h : Post T W n σ ts ((da ρ).bind fun ra e1 => f ra e1) P) :
    rdA T W da σ H fun vs H1 => ∃ H0' ρ' rs, vs.length = rs.length ∧ ST T n H0' H1 σ ρ' (vs.zip rs ++ ts) ∧ Post T W n σ ts (f rs ρ') P := by
  refine ⟨n, H0, ρ, ts, S, ?_⟩
  cases ea : da ρ with
  | no => rw [ea] at h; exact h.elim
  | ex x e => rw [ea] at h; exact h
  | ok ra e1 => rw [ea] at h; exact fun H0' H1 vs hl S1 => ⟨H0', e1, ra, hl, S1, h⟩
theorem rd_mono {d : Env → Out Rs} {Q Q' : VK} (h : rd T W d σ H Q) (k : ∀ v H', Q v H' → Q' v H') : rd T W d σ H Q' := by
  obtain ⟨n, H0, ρ, ts, S, p⟩ := h
  refine ⟨n, H0, ρ, ts, S, ?_⟩
  cases e : d ρ with
  | no => rw [e] at p; exact p.elim
  | ex x ρ' => rw [e] at p; exact p
  | ok r ρ' => rw [e] at p; exact fun H0' H' v s => k _ _ (p H0' H' v s)
/-! ### what a result shows -/
/-- a value and its data: the top in H, what is in it in H0 -/
inductive Rv (T : Tb) (H0 H : Hp) : V → D → Prop where
  | of {v : V} {x : D} : Rp T H0 v x → Rv T H0 H v x
  | ob {p : Addr} {o : Ob} : ObR T H0 H p o → Rv T H0 H (.ref p) o.d
theorem Rv.rp {H0 : Hp} {v : V} {x : D} (h : Rv T H0 H v x) (e : Same H0 H) : Rp T H v x := by
  cases h with
  | of r => exact r.mono e
  | ob r => exact r.rp e
section
variable {H0 : Hp} {v : V}
theorem Rv.non (h : Rv T H0 H v .non) : v = .non := by
  generalize e : D.non = y at h
  cases h with
  | of r => subst e; cases r; rfl
  | ob r => rename_i o; cases o <;> cases e
theorem Rv.bl {b : Bool} (h : Rv T H0 H v (.bl b)) : v = .bl b := by
  generalize e : D.bl b = y at h
  cases h with
  | of r => subst e; cases r; rfl
  | ob r => rename_i o; cases o <;> cases e
theorem Rv.int {i : Int} (h : Rv T H0 H v (.int i)) : v = .int i := by
  generalize e : D.int i = y at h
  cases h with
  | of r => subst e; cases r; rfl
  | ob r => rename_i o; cases o <;> cases e
theorem Rv.str {s : Tx} (h : Rv T H0 H v (.str s)) : v = .str ⟨s.toArray⟩ := by
  generalize e : D.str s = y at h
  cases h with
  | of r => subst e; cases r; rfl
  | ob r => rename_i o; cases o <;> cases e
theorem Rv.tup {xs : List D} (h : Rv T H0 H v (.tup xs)) : ∃ p vs, v = .ref p ∧ SqT T.K H0 p vs ∧ Rps T H0 vs xs := by
  generalize e : D.tup xs = y at h
  cases h with
  | of r => subst e; cases r with | tup a b => exact ⟨_, _, rfl, a, b⟩
  | ob r => rename_i o; cases o <;> cases e
theorem Rv.lst {xs : List D} (h : Rv T H0 H v (.lst xs)) (s : Same H0 H) : ∃ p vs, v = .ref p ∧ H p = some (.lst vs) ∧ Rps T H0 vs xs := by
  generalize e : D.lst xs = y at h
  cases h with
  | of r => subst e; cases r with | lst a b => exact ⟨_, _, rfl, s _ _ a, b⟩
  | ob r =>
    rename_i o
    cases o with
    | lst ys => cases e; obtain ⟨vs, a, b⟩ := r; exact ⟨_, vs, rfl, a, b⟩
    | dic ys => cases e
    | ins c ys => cases e
theorem Rv.dic {xs : List (D × D)} (h : Rv T H0 H v (.dic xs)) (s : Same H0 H) : ∃ p vs, v = .ref p ∧ H p = some (.dK vs) ∧ RpK T H0 vs xs := by
  generalize e : D.dic xs = y at h
  cases h with
  | of r => subst e; cases r with | dic a b => exact ⟨_, _, rfl, s _ _ a, b⟩
  | ob r =>
    rename_i o
    cases o with
    | dic ys => cases e; obtain ⟨vs, a, b⟩ := r; exact ⟨_, vs, rfl, a, b⟩
    | lst ys => cases e
    | ins c ys => cases e
theorem Rv.ins {c : Nat} {fs : List (Nat × D)} (h : Rv T H0 H v (.ins c fs)) (s : Same H0 H) : ∃ p dx vs, v = .ref p ∧ H p = some (.ins (T.cA c) dx vs) ∧ RpF T H0 vs fs := by
  generalize e : D.ins c fs = y at h
  cases h with
  | of r => subst e; cases r with | ins a b => exact ⟨_, _, _, rfl, s _ _ a, b⟩
  | ob r =>
    rename_i o
    cases o with
    | ins c' ys => cases e; obtain ⟨dx, vs, a, b⟩ := r; exact ⟨_, dx, vs, rfl, a, b⟩
    | lst ys => cases e
    | dic ys => cases e
theorem Rv.scr {ns : List Int} (h : Rv T H0 H v (.scr ns)) : ∃ p, v = .ref p ∧ SqL T.K H0 p (ns.map V.int) := by
  generalize e : D.scr ns = y at h
  cases h with
  | of r => subst e; cases r with | scr a => exact ⟨_, rfl, a⟩
  | ob r => rename_i o; cases o <;> cases e
end
section
variable {n : En} {H0 : Hp} {ρ : Env} {ts : List Tmp} {v : V} {r : Rs}
theorem ST.seeOf (S : ST T n H0 H σ ρ ts) (m : (v, r) ∈ ts) {x : D} (h : r.see ρ = some x) : Rv T H0 H v x := by
  have q := S.temp _ m
  cases r with
  | d y => cases h; exact .of q
  | fr o =>
    cases h
    obtain ⟨p, a, _, _, d⟩ := q
    have a : v = .ref p := a
    subst a
    exact .ob d
  | bo i =>
    obtain ⟨a, s, b, _⟩ := q
    obtain ⟨y, hy, w⟩ := S.slot i s b
    have a : σ[i]? = some (some v) := a
    rw [a] at hy
    cases hy
    have h : (match ρ[i]? with
      | some (.sh x) => some x
      | some (.ow o) => some o.d
      | some (.pa o) => some o.d
      | _ => none) = some x := h
    rw [b] at h
    cases s with
    | un => cases h
    | xc _ => cases h
    | sh d => cases h; obtain ⟨u, e, z⟩ := w; cases e; exact .of z
    | ow o => cases h; obtain ⟨p, e, _, _, z⟩ := w; cases e; exact .ob z
    | pa o => cases h; obtain ⟨p, e, _, _, z⟩ := w; cases e; exact .ob z
theorem ST.see (S : ST T n H0 H σ ρ ((v, r) :: ts)) {x : D} (h : r.see ρ = some x) : Rv T H0 H v x := S.seeOf (List.mem_cons_self ..) h
/-- a result is held: data that stands still -/
theorem ST.holdR (S : ST T n H0 H σ ρ ((v, r) :: ts)) {x : D} {ρ' : Env} (h : r.hold ρ = some (x, ρ')) : ∃ H0', ST T n H0' H σ ρ' ((v, .d x) :: ts) := by
  cases r with
  | d y => cases h; exact ⟨H0, S⟩
  | fr o => cases h; exact S.hold
  | bo i =>
    have h : (match ρ[i]? with
      | some (.sh x) => some (x, ρ)
      | some (.ow o) => some (o.d, ρ.set i (.sh o.d))
      | _ => none) = some (x, ρ') := h
    obtain ⟨a, s, b, _⟩ := S.temp _ (List.mem_cons_self ..)
    have a : σ[i]? = some (some v) := a
    rw [b] at h
    cases s with
    | un => cases h
    | xc _ => cases h
    | sh d =>
      cases h
      obtain ⟨y, hy, u, e, z⟩ := S.slot i _ b
      rw [a] at hy
      cases hy
      cases e
      exact ⟨H0, S.drop.addD z⟩
    | ow o =>
      cases h
      obtain ⟨H0', u, c, z, S'⟩ := S.drop.holdSlot b
      rw [a] at c
      cases c
      exact ⟨H0', S'.addD z⟩
    | pa o => cases h
theorem ST.swap {a b : Tmp} (S : ST T n H0 H σ ρ (a :: b :: ts)) : ST T n H0 H σ ρ (b :: a :: ts) := S.perm (List.Perm.swap ..)
/-- results are held, one behind another -/
theorem ST.holdsR : ∀ {rs : List Rs} {vs : List V} {n : En} {H0 : Hp} {ρ ρ' : Env} {ts : List Tmp} {xs : List D}, vs.length = rs.length → ST T n H0 H σ ρ (vs.zip rs ++ ts) → holds rs ρ = some (xs, ρ') →
    ∃ H0', ST T n H0' H σ ρ' ts ∧ Rps T H0' vs xs
  | [], [], _, H0, _, _, _, _, _, S, h => by cases h; exact ⟨H0, S, .nil⟩
  | [], _ :: _, _, _, _, _, _, _, e, _, _ => by cases e
  | _ :: _, [], _, _, _, _, _, _, e, _, _ => by cases e
  | r :: rs, v :: vs, n, H0, ρ, ρ', ts, xs, e, S, h => by
    unfold holds at h
    cases e1 : r.hold ρ with
    | none => rw [e1] at h; cases h
    | some q =>
      obtain ⟨x, ρ1⟩ := q
      rw [e1] at h
      have h : (match holds rs ρ1 with
        | some (xs, e2) => some (x :: xs, e2)
        | none => none) = some (xs, ρ') := h
      cases e2 : holds rs ρ1 with
      | none => rw [e2] at h; cases h
      | some q =>
        obtain ⟨ys, ρ2⟩ := q
        rw [e2] at h
        cases h
        obtain ⟨H1, S1⟩ := ST.holdR (ts := vs.zip rs ++ ts) S e1
        have S2 : ST T n H1 H σ ρ1 (vs.zip rs ++ ((v, .d x) :: ts)) := S1.perm List.perm_middle.symm
        obtain ⟨H2, S3, r3⟩ := ST.holdsR (by simpa using e) S2 e2
        exact ⟨H2, S3.drop, .cons (S3.temp _ (List.mem_cons_self ..)) r3⟩
/-- results are seen -/
theorem ST.seesR : ∀ {rs : List Rs} {vs : List V} {ts : List Tmp} {xs : List D}, vs.length = rs.length → ST T n H0 H σ ρ (vs.zip rs ++ ts) → sees ρ rs = some xs → xs.length = vs.length ∧ ∀ (i : Nat) (x : D) (v : V), xs[i]? = some x → vs[i]? = some v → Rv T H0 H v x
  | [], [], _, _, _, _, h => by cases h; exact ⟨rfl, fun i x v h => by simp at h⟩
  | [], _ :: _, _, _, e, _, _ => by cases e
  | _ :: _, [], _, _, e, _, _ => by cases e
  | r :: rs, v :: vs, ts, xs, e, S, h => by
    unfold sees at h
    cases e1 : r.see ρ with
    | none => rw [e1] at h; cases h
    | some x =>
      rw [e1] at h
      have h : (match sees ρ rs with
        | some xs => some (x :: xs)
        | none => none) = some xs := h
      cases e2 : sees ρ rs with
      | none => rw [e2] at h; cases h
      | some ys =>
        rw [e2] at h
        cases h
        have S' : ST T n H0 H σ ρ ((v, r) :: (vs.zip rs ++ ts)) := S
        obtain ⟨l, k⟩ := ST.seesR (by simpa using e) S'.drop e2
        refine ⟨by simp [l], fun i y u hy hu => ?_⟩
        cases i with
        | zero => cases hy; cases hu; exact S'.see e1
        | succ i => exact k i y u (by simpa using hy) (by simpa using hu)
end
end
end Mi
end
section
set_option maxHeartbeats 4000000
namespace Mi
open PySem PySem.Spec PyProof.Rows L2
/-- the interpreter's table of modules is known -/
def Sm (K : PySem.W.Frag) : Prop := ∃ o, K.lookup sysModules = some o ∧ o.cls = .type "dict"
/-- what is asked of a body's context -/
structure Ck (T : Tb) (X : Cx) : Prop where
  hK : X.K = T.K
  nd : X.N.Nodup
  un : X.A.units + 64 < cLine
  gd : X.A.guards = some []
  sm : Sm T.K
/-- .. where nothing is handled -/
structure Cok (T : Tb) (X : Cx) : Prop extends Ck T X where
  calm : X.calm = true
instance cokCk {T : Tb} {X : Cx} : Coe (Cok T X) (Ck T X) := ⟨Cok.toCk⟩
section
variable (T : Tb) (W : WX)
abbrev Wants (n : En) (σ : L2.St) (ts : List Tmp) (Q : VK) : Rs → Env → Hp → Hp → Prop := fun r ρ' H0' H' => ∀ v, ST T n H0' H' σ ρ' ((v, r) :: ts) → Q v H'
/-- an operation on two results, on one, on a row of them -/
def Two (g : Rs → Rs → Env → Out Rs) : R2 := fun x y H Q => ∃ σ n H0 ρ ts ra rb, ST T n H0 H σ ρ ((y, rb) :: (x, ra) :: ts) ∧ Post T W n σ ts (g ra rb ρ) (Wants T n σ ts Q)
def One (g : Rs → Env → Out Rs) : V → Hp → VK → Prop := fun x H Q => ∃ σ n H0 ρ ts ra, ST T n H0 H σ ρ ((x, ra) :: ts) ∧ Post T W n σ ts (g ra ρ) (Wants T n σ ts Q)
def Many (g : List Rs → Env → Out Rs) : List V → Hp → VK → Prop := fun xs H Q => ∃ σ n H0 ρ ts rs, xs.length = rs.length ∧ ST T n H0 H σ ρ (xs.zip rs ++ ts) ∧ Post T W n σ ts (g rs ρ) (Wants T n σ ts Q)
end
section
variable {T : Tb} {W : WX} {X : Cx} {n : En} {σ : L2.St} {H0 H : Hp} {ρ : Env} {ts : List Tmp} {Q : VK}
/-- an answer that is data -/
theorem Wants.data {v : V} {x : D} (h : ∀ H0' H', Wants T n σ ts Q (.d x) ρ H0' H') (r : Rp T H0 v x) (S : ST T n H0 H σ ρ ts) : Q v H := h H0 H v (S.addD r)
/-- an answer that is a new object -/
theorem Wants.fresh {o : Ob} {H' : Hp} {p : Addr} (h : ∀ H0' H', Wants T n σ ts Q (.fr o) ρ H0' H') (S : ST T n H0 H σ ρ ts) (e : Same H H') (hp : H p = none) (r : ObR T H0 H' p o) : Q (.ref p) H' := h H0 H' _ (S.alloc e hp r)
theorem pe_two {op : Operator} {g : Rs → Rs → Env → Out Rs} {a b : Expr} {pos : Pos} {da db : Env → Out Rs} (ho : OpR X (binaryOp op) (Two T W g)) (ha : PE X a (rd T W da)) (hb : PE X b (rd T W db)) :
    PE X (.BinOp a op b pos) (rd T W fun e => (da e).bind fun ra e1 => (db e1).bind fun rb e2 => g ra rb e2) :=
  pe_imp (pe_op ho ha hb) fun σ H Q ⟨n, H0, ρ, ts, S, P⟩ => rd_mono (rd_two S P) fun v H1 h => rd_mono h fun w H2 ⟨H0', ρ', ra, rb, S', P'⟩ => ⟨σ, n, H0', ρ', ts, ra, rb, S', P'⟩
theorem pe_twoC {op : CmpOp} {g : Rs → Rs → Env → Out Rs} {a b : Expr} {pos : Pos} {da db : Env → Out Rs} (ho : OpR X (compareOp op) (Two T W g)) (ha : PE X a (rd T W da)) (hb : PE X b (rd T W db)) (hm : behindInMarks op b = false) :
    PE X (.Compare a [op] [b] pos) (rd T W fun e => (da e).bind fun ra e1 => (db e1).bind fun rb e2 => g ra rb e2) :=
  pe_imp (pe_cmpR ho ha hb hm) fun σ H Q ⟨n, H0, ρ, ts, S, P⟩ => rd_mono (rd_two S P) fun v H1 h => rd_mono h fun w H2 ⟨H0', ρ', ra, rb, S', P'⟩ => ⟨σ, n, H0', ρ', ts, ra, rb, S', P'⟩
theorem pe_twoI {g : Rs → Rs → Env → Out Rs} {a b : Expr} {pos : Pos} {da db : Env → Out Rs} (ho : IxR X (Two T W g)) (ha : PE X a (rd T W da)) (hb : PE X b (rd T W db)) (hm : PlainIx b) :
    PE X (.Subscript a b pos) (rd T W fun e => (da e).bind fun ra e1 => (db e1).bind fun rb e2 => g ra rb e2) :=
  pe_imp (pe_ix ho ha hb hm) fun σ H Q ⟨n, H0, ρ, ts, S, P⟩ => rd_mono (rd_two S P) fun v H1 h => rd_mono h fun w H2 ⟨H0', ρ', ra, rb, S', P'⟩ => ⟨σ, n, H0', ρ', ts, ra, rb, S', P'⟩
theorem Two.sees {f : D → D → Option Rs} {x y : V} (h : Two T W (sees2 f) x y H Q) : ∃ σ n H0 ρ ts a b r, ST T n H0 H σ ρ ts ∧ Rv T H0 H x a ∧ Rv T H0 H y b ∧ f a b = some r ∧ ∀ H0' H', Wants T n σ ts Q r ρ H0' H' := by
  obtain ⟨σ, n, H0, ρ, ts, ra, rb, S, P⟩ := h
  unfold sees2 at P
  cases ea : ra.see ρ with
  | none => rw [ea] at P; exact P.elim
  | some a =>
    cases eb : rb.see ρ with
    | none => rw [ea, eb] at P; exact P.elim
    | some b =>
      rw [ea, eb] at P
      have P : Post T W n σ ts (Out.of ρ (f a b)) (Wants T n σ ts Q) := P
      cases ef : f a b with
      | none => rw [ef] at P; exact P.elim
      | some r =>
        rw [ef] at P
        exact ⟨σ, n, H0, ρ, ts, a, b, r, S.drop.drop, S.seeOf (by simp) ea, S.see eb, ef, P⟩
theorem sz_of {k : Nat} (h : szOk k = true) : k ≤ sizeLine := by
  have z : k ≤ 16000000 := of_decide_eq_true h
  have e : sizeLine = 16777216 := by decide
  omega
theorem sz_lt {k : Nat} (h : szOk k = true) : k < sizeLine := by
  have z : k ≤ 16000000 := of_decide_eq_true h
  have e : sizeLine = 16777216 := by decide
  omega
def opOf : Bop → Operator
  | .add => .Add
  | .sub => .Sub
  | .mul => .Mult
  | .fdiv => .FloorDiv
  | .mod => .Mod
  | .pow => .Pow
theorem str_app (x y : Tx) : ((⟨x.toArray⟩ : Str) ++ (⟨y.toArray⟩ : Str)) = ⟨(x ++ y).toArray⟩ := by
  show Str.mk (x.toArray ++ y.toArray) = _
  simp
theorem str_len (x : Tx) : (⟨x.toArray⟩ : Str).length = x.length := by
  show x.toArray.size = x.length
  simp
theorem bit_lt {i : Int} (h : i.natAbs < 18446744073709551616) : i.natAbs < 2 ^ 64 := by
  have e : (2 : Nat) ^ 64 = 18446744073709551616 := by decide
  omega
/-- a text no time, once -/
theorem op_mulS0 {pins : List (Addr × Obj)} {s : Shared} {σ : L2.St} {H : Hp} {z : Str} {v u : Value} {Q : VK} (I : Inv X pins σ H s) (rx : RelV (.str z) v) (ry : RelV (.int 0) u) (q : Q (.str Str.empty) H) :
    wpAny (model X.prog X.w) X.A (binaryOp .Mult v u) (EP X pins σ Q) X.xe s := by
  obtain ⟨t, rfl⟩ := rx
  obtain ⟨t', rfl⟩ := ry
  exact PySem.P.mul_str_none (by decide) (by decide) ⟨.str Str.empty, H, I.tok _, ⟨_, rfl⟩, q⟩
theorem op_mulS1 {pins : List (Addr × Obj)} {s : Shared} {σ : L2.St} {H : Hp} {z : Str} {v u : Value} {Q : VK} (I : Inv X pins σ H s) (rx : RelV (.str z) v) (ry : RelV (.int 1) u) (q : Q (.str z) H) :
    wpAny (model X.prog X.w) X.A (binaryOp .Mult v u) (EP X pins σ Q) X.xe s := by
  obtain ⟨t, rfl⟩ := rx
  obtain ⟨t', rfl⟩ := ry
  refine PySem.P.mul_str (by decide) (fun _ h => by cases h) (fun _ h => by cases h) ?_
  rw [if_neg (by decide), if_pos (by simp)]
  exact ⟨.str z, H, I, ⟨_, rfl⟩, q⟩
theorem opR_bin (ok : Ck T X) (op : Bop) : OpR X (binaryOp (opOf op)) (Two T W (sees2 (binD op))) := by
  intro pins s σ H x y v u Q I rx ry h
  obtain ⟨σ', n, H0, ρ, ts, a, b, r, S, va, vb, ef, P⟩ := h.sees
  have hK := ok.hK
  unfold binD at ef
  split at ef
  · cases ef
    have e1 := va.int
    have e2 := vb.int
    subst e1 e2
    exact op_add pins s σ H _ _ v u Q I rx ry ⟨_, _, rfl, rfl, Wants.data P (.int _) S⟩
  · split at ef
    · rename_i hz
      cases ef
      have e1 := va.str
      have e2 := vb.str
      subst e1 e2
      refine op_add_str pins s σ H _ _ v u Q I rx ry ⟨_, _, rfl, rfl, by rw [str_len, str_len]; exact sz_of hz, ?_⟩
      rw [str_app]
      exact Wants.data P (.str _) S
    · cases ef
  · split at ef
    · rename_i hz
      cases ef
      obtain ⟨p, vs, rfl, h1, r1⟩ := va.lst S.sub
      obtain ⟨q, ws, rfl, h2, r2⟩ := vb.lst S.sub
      exact op_cat pins s σ H _ _ v u Q I rx ry ⟨p, q, vs, ws, rfl, rfl, h1, h2, by rw [r1.length, r2.length]; exact sz_of hz, fun c hc => Wants.fresh P S (Same.new hc) hc ⟨_, upd_same, r1.append r2⟩⟩
    · cases ef
  · split at ef
    · rename_i hz
      cases ef
      obtain ⟨p, vs, rfl, h1, r1⟩ := va.tup
      obtain ⟨q, ws, rfl, h2, r2⟩ := vb.tup
      rw [← hK] at h1 h2
      refine op_catA pins s σ H _ _ v u Q I rx ry ⟨p, q, vs, ws, rfl, rfl, Same.sqT S.sub h1, Same.sqT S.sub h2, by rw [r1.length, r2.length]; exact sz_of hz, fun e => ?_, fun _ e => ?_, fun _ _ c hc => ?_⟩
      · subst e
        cases r1
        rw [hK] at h2
        exact Wants.data P (.tup h2 r2) S
      · subst e
        cases r2
        rw [hK] at h1
        exact Wants.data P (.tup h1 (by rw [List.append_nil]; exact r1)) S
      · refine P (upd H0 c (.tup (vs ++ ws))) _ _ (ST.addD ((S.grow (Same.new hc)).still upd_same (S.still_free hc) (S.entry_free hc) (fun i ho => ?_) (fun ht => ?_)) ?_)
        · obtain ⟨w, hw, _⟩ := S.own_there ho
          rw [hc] at hw
          cases hw
        · obtain ⟨w, hw, _⟩ := S.tmp_there ht
          rw [hc] at hw
          cases hw
        · exact .tup (.inl (.inl upd_same)) ((r1.append r2).mono (Same.new (S.still_free hc)))
    · cases ef
  · cases ef
    have e1 := va.int
    have e2 := vb.int
    subst e1 e2
    exact op_sub pins s σ H _ _ v u Q I rx ry ⟨_, _, rfl, rfl, Wants.data P (.int _) S⟩
  · split at ef
    · rename_i hz
      cases ef
      have e1 := va.int
      have e2 := vb.int
      subst e1 e2
      exact op_mulW pins s σ H _ _ v u Q I rx ry ⟨_, _, rfl, rfl, (show _ < 1000000 from of_decide_eq_true hz), Wants.data P (.int _) S⟩
    · cases ef
  · split at ef
    · rename_i hz
      cases ef
      rw [Bool.and_eq_true, Bool.and_eq_true] at hz
      have z0 := of_decide_eq_true hz.1.1
      have z1 := of_decide_eq_true hz.1.2
      obtain ⟨p, vs, rfl, h1, r1⟩ := va.lst S.sub
      have e2 := vb.int
      subst e2
      exact op_rep pins s σ H _ _ v u Q I rx ry ⟨p, _, vs, rfl, rfl, h1, by omega, by omega, by rw [r1.length]; exact sz_of hz.2, fun c hc => Wants.fresh P S (Same.new hc) hc ⟨_, upd_same, r1.rep _⟩⟩
    · cases ef
  · split at ef
    · rename_i hz
      cases ef
      rw [Bool.and_eq_true, Bool.and_eq_true, Bool.and_eq_true] at hz
      have z1 := of_decide_eq_true hz.1.1.2
      have z2 := of_decide_eq_true hz.1.2
      have z3 := of_decide_eq_true hz.2
      obtain ⟨p, vs, rfl, h1, r1⟩ := va.tup
      have e2 := vb.int
      subst e2
      rw [← hK] at h1
      refine op_repT pins s σ H _ _ v u Q I rx ry ⟨p, _, vs, rfl, rfl, Same.sqT S.sub h1, fun e => ?_, z1, z2, by rw [r1.length]; exact z3, fun c hc => ?_⟩
      · subst e
        cases r1
        simp at hz
      · refine P (upd H0 c (.tup (List.replicate _ vs).flatten)) _ _ (ST.addD ((S.grow (Same.new hc)).still upd_same (S.still_free hc) (S.entry_free hc) (fun i ho => ?_) (fun ht => ?_)) ?_)
        · obtain ⟨w, hw, _⟩ := S.own_there ho
          rw [hc] at hw
          cases hw
        · obtain ⟨w, hw, _⟩ := S.tmp_there ht
          rw [hc] at hw
          cases hw
        · exact .tup (.inl (.inl upd_same)) ((r1.rep _).mono (Same.new (S.still_free hc)))
    · cases ef
  · split at ef
    · rename_i hz
      cases ef
      have e1 := va.str
      have e2 := vb.int
      have e0 := eq_of_beq hz
      subst e0
      subst e1 e2
      exact op_mulS0 I rx ry (Wants.data P (.str []) S)
    · split at ef
      · rename_i hz
        cases ef
        have e1 := va.str
        have e2 := vb.int
        have e0 := eq_of_beq hz
        subst e0
        subst e1 e2
        exact op_mulS1 I rx ry (Wants.data P (.str _) S)
      · cases ef
  · split at ef
    · rename_i hz
      cases ef
      have e1 := va.int
      have e2 := vb.int
      subst e1 e2
      unfold divOk at hz
      rw [Bool.and_eq_true] at hz
      exact op_fdivW pins s σ H _ _ v u Q I rx ry ⟨_, _, rfl, rfl, ⟨of_decide_eq_true hz.1, of_decide_eq_true hz.2⟩, Wants.data P (.int _) S⟩
    · cases ef
  · split at ef
    · rename_i hz
      cases ef
      have e1 := va.int
      have e2 := vb.int
      subst e1 e2
      exact op_mod pins s σ H _ _ v u Q I rx ry ⟨_, _, rfl, rfl, of_decide_eq_true hz, Wants.data P (.int _) S⟩
    · cases ef
  · split at ef
    · rename_i hz
      cases ef
      have e1 := va.int
      have e2 := vb.int
      subst e1 e2
      rw [Bool.and_eq_true, Bool.and_eq_true] at hz
      exact op_pow pins s σ H _ _ v u Q I rx ry ⟨_, _, rfl, rfl, ⟨of_decide_eq_true hz.1.1, of_decide_eq_true hz.1.2, bit_lt (of_decide_eq_true hz.2)⟩, Wants.data P (.int _) S⟩
    · cases ef
  · cases ef
end
end Mi
end
section
set_option maxHeartbeats 4000000
namespace Mi
open PySem PySem.Spec PyProof.Rows L2
/-! ### == of data -/
def pyF : D → PyData
  | .bl b => .bool b
  | .int i => .int i
  | .str s => .str ⟨s.toArray⟩
  | _ => .none
mutual
def pyD : D → PyData
  | .non => .none
  | .bl b => .bool b
  | .int i => .int i
  | .str s => .str ⟨s.toArray⟩
  | .tup xs => .tuple (pyDs xs)
  | .lst xs => .list (pyDs xs)
  | .dic ks => .dict (ks.map fun p => (pyF p.1, pyF p.2))
  | .ins _ _ => .none
  | .scr _ => .none
def pyDs : List D → List PyData
  | [] => []
  | x :: xs => pyD x :: pyDs xs
end
theorem strEq (a b : Tx) : ((⟨a.toArray⟩ : Str) == ⟨b.toArray⟩) = (a == b) := by
  by_cases h : a = b
  · subst h
    simp
  · have e : (a == b) = false := by simpa using h
    rw [e]
    refine beq_eq_false_iff_ne.mpr fun z => h ?_
    have z : a.toArray = b.toArray := congrArg Str.cps z
    simpa using z
mutual
theorem plain_dp {T : Tb} {H : Hp} : ∀ {n : Nat} {x : D} {v : V}, plainD n x = true → Rp T H v x → Dp T.K H v (pyD x)
  | n, .non, _, _, r => by cases r; exact .non
  | n, .bl b, _, _, r => by cases r; exact .bl b
  | n, .int i, _, _, r => by cases r; exact .int i
  | n, .str s, _, _, r => by cases r; exact .str _
  | n + 1, .tup xs, _, h, r => by
    cases r with
    | tup a b => exact .tup a (plain_dps (n := n) (by simpa [plainD] using h) b)
  | n + 1, .lst xs, _, h, r => by
    cases r with
    | lst a b => exact .lst (.of a) (plain_dps (n := n) (by simpa [plainD] using h) b)
  | 0, .tup _, _, h, _ => by simp [plainD] at h
  | 0, .lst _, _, h, _ => by simp [plainD] at h
  | n, .dic _, _, h, _ => by simp [plainD] at h
  | n, .ins _ _, _, h, _ => by simp [plainD] at h
  | n, .scr _, _, h, _ => by simp [plainD] at h
theorem plain_dps {T : Tb} {H : Hp} : ∀ {n : Nat} {xs : List D} {vs : List V}, plainDs n xs = true → Rps T H vs xs → DpAll T.K H vs (pyDs xs)
  | n, [], _, _, r => by cases r; exact .nil
  | n, x :: xs, _, h, r => by
    cases r with
    | cons a b =>
      have h : (plainD n x && plainDs n xs) = true := by simpa [plainDs] using h
      rw [Bool.and_eq_true] at h
      exact .cons (plain_dp h.1 a) (plain_dps h.2 b)
end
mutual
theorem plain_can : ∀ {n : Nat} {x : D}, plainD n x = true → (pyD x).canLay0 = true ∧ (pyD x).depth ≤ n
  | n, .non, _ => ⟨rfl, Nat.zero_le _⟩
  | n, .bl b, _ => ⟨rfl, Nat.zero_le _⟩
  | n, .int i, _ => ⟨rfl, Nat.zero_le _⟩
  | n, .str s, h => ⟨by
      have h : s.all (fun c => decide (c < 1114112)) = true := by simpa [plainD] using h
      show (s.toArray).all (· < 0x110000) = true
      simpa using h, Nat.zero_le _⟩
  | n + 1, .tup xs, h => by
    obtain ⟨a, b⟩ := plain_cans (n := n) (xs := xs) (by simpa [plainD] using h)
    exact ⟨by simpa [pyD, PyData.canLay0] using a, by simpa [pyD, PyData.depth] using b⟩
  | n + 1, .lst xs, h => by
    obtain ⟨a, b⟩ := plain_cans (n := n) (xs := xs) (by simpa [plainD] using h)
    exact ⟨by simpa [pyD, PyData.canLay0] using a, by simpa [pyD, PyData.depth] using b⟩
  | 0, .tup _, h => by simp [plainD] at h
  | 0, .lst _, h => by simp [plainD] at h
  | n, .dic _, h => by simp [plainD] at h
  | n, .ins _ _, h => by simp [plainD] at h
  | n, .scr _, h => by simp [plainD] at h
theorem plain_cans : ∀ {n : Nat} {xs : List D}, plainDs n xs = true → PyData.canLayAll0 (pyDs xs) = true ∧ PyData.depthAll (pyDs xs) ≤ n
  | n, [], _ => ⟨rfl, Nat.zero_le _⟩
  | n, x :: xs, h => by
    have h : (plainD n x && plainDs n xs) = true := by simpa [plainDs] using h
    rw [Bool.and_eq_true] at h
    obtain ⟨a, b⟩ := plain_can h.1
    obtain ⟨c, d⟩ := plain_cans h.2
    refine ⟨by simp [pyDs, PyData.canLayAll0, a, c], ?_⟩
    simp only [pyDs, PyData.depthAll]
    omega
end
theorem plain_shaped {x : D} (h : plainD 40 x = true) : SeqAt.shaped (pyD x) = true := by
  obtain ⟨a, b⟩ := plain_can h
  unfold SeqAt.shaped
  rw [a, Bool.true_and]
  exact decide_eq_true (by omega)
mutual
theorem eqv_eq : ∀ {n m : Nat} {x y : D}, plainD n x = true → plainD m y = true → PyData.eqv (pyD x) (pyD y) = eqD x y
  | _ + 1, _ + 1, .tup xs, .tup ys, hx, hy => by
    simp only [pyD, PyData.eqv, eqD]
    exact eqvs_eq (by simpa [plainD] using hx) (by simpa [plainD] using hy)
  | _ + 1, _ + 1, .lst xs, .lst ys, hx, hy => by
    simp only [pyD, PyData.eqv, eqD]
    exact eqvs_eq (by simpa [plainD] using hx) (by simpa [plainD] using hy)
  | _, _, .str a, .str b, _, _ => by simp only [pyD, PyData.eqv, eqD]; exact strEq a b
  | _, _, .non, y, _, hy => by cases y <;> simp [pyD, PyData.eqv, eqD, plainD] at hy ⊢
  | _, _, .bl b, y, _, hy => by cases y <;> simp [pyD, PyData.eqv, eqD, plainD, b2i] at hy ⊢
  | _, _, .int i, y, _, hy => by cases y <;> simp [pyD, PyData.eqv, eqD, plainD, b2i] at hy ⊢
  | _, _, .str s, .non, _, _ => rfl
  | _, _, .str s, .bl _, _, _ => rfl
  | _, _, .str s, .int _, _, _ => rfl
  | _, _, .str s, .tup _, _, _ => rfl
  | _, _, .str s, .lst _, _, _ => rfl
  | _, _, .str s, .dic _, _, h => by simp [plainD] at h
  | _, _, .str s, .ins _ _, _, h => by simp [plainD] at h
  | _, _, .str s, .scr _, _, h => by simp [plainD] at h
  | _, _, .tup s, .non, _, _ => rfl
  | _, _, .tup s, .bl _, _, _ => rfl
  | _, _, .tup s, .int _, _, _ => rfl
  | _, _, .tup s, .str _, _, _ => rfl
  | _, _, .tup s, .lst _, _, _ => rfl
  | _, _, .tup s, .dic _, _, h => by simp [plainD] at h
  | _, _, .tup s, .ins _ _, _, h => by simp [plainD] at h
  | _, _, .tup s, .scr _, _, h => by simp [plainD] at h
  | _, _, .lst s, .non, _, _ => rfl
  | _, _, .lst s, .bl _, _, _ => rfl
  | _, _, .lst s, .int _, _, _ => rfl
  | _, _, .lst s, .str _, _, _ => rfl
  | _, _, .lst s, .tup _, _, _ => rfl
  | _, _, .lst s, .dic _, _, h => by simp [plainD] at h
  | _, _, .lst s, .ins _ _, _, h => by simp [plainD] at h
  | _, _, .lst s, .scr _, _, h => by simp [plainD] at h
  | 0, _, .tup _, .tup _, h, _ => by simp [plainD] at h
  | _ + 1, 0, .tup _, .tup _, _, h => by simp [plainD] at h
  | 0, _, .lst _, .lst _, h, _ => by simp [plainD] at h
  | _ + 1, 0, .lst _, .lst _, _, h => by simp [plainD] at h
  | _, _, .dic _, _, h, _ => by simp [plainD] at h
  | _, _, .ins _ _, _, h, _ => by simp [plainD] at h
  | _, _, .scr _, _, h, _ => by simp [plainD] at h
theorem eqvs_eq : ∀ {n m : Nat} {xs ys : List D}, plainDs n xs = true → plainDs m ys = true → PyData.eqvAll (pyDs xs) (pyDs ys) = eqDs xs ys
  | _, _, [], [], _, _ => rfl
  | _, _, [], _ :: _, _, _ => rfl
  | _, _, _ :: _, [], _, _ => rfl
  | n, m, x :: xs, y :: ys, hx, hy => by
    have hx : (plainD n x && plainDs n xs) = true := by simpa [plainDs] using hx
    have hy : (plainD m y && plainDs m ys) = true := by simpa [plainDs] using hy
    rw [Bool.and_eq_true] at hx hy
    simp only [pyDs, PyData.eqvAll, eqDs]
    rw [eqv_eq hx.1 hy.1, eqvs_eq hx.2 hy.2]
end
section
variable {T : Tb} {W : WX} {X : Cx} {n : En} {σ : L2.St} {H0 H : Hp} {ρ : Env} {ts : List Tmp} {Q : VK}
theorem decStr (a b : Tx) : decide (V.str ⟨a.toArray⟩ = V.str ⟨b.toArray⟩) = (a == b) := by rw [dec_str, strEq]
/-- == and != -/
theorem same_eq (ok : Ck T X) {pins : List (Addr × Obj)} {s : Shared} {x y : V} {v u : Value} {a b : D} {k : Bool} (I : Inv X pins σ H s) (rx : RelV x v) (ry : RelV y u) (va : Rv T H0 H x a) (vb : Rv T H0 H y b) (e : Same H0 H)
    (h : sameD a b = some k) (q : Q (.bl k) H) : wpAny (model X.prog X.w) X.A (compareOp .Eq v u) (EP X pins σ Q) X.xe s := by
  unfold sameD at h
  split at h
  · cases h
    have e1 := va.str
    have e2 := vb.str
    subst e1 e2
    exact op_eq pins s σ H _ _ v u Q I rx ry ⟨rfl, by rw [decStr]; exact q⟩
  · cases h
    have e1 := va.int
    have e2 := vb.int
    subst e1 e2
    exact op_eq pins s σ H _ _ v u Q I rx ry ⟨rfl, by rw [dec_int]; exact q⟩
  · split at h
    · rename_i hz
      cases h
      rw [Bool.and_eq_true] at hz
      have d1 := plain_dp hz.1 (va.rp e)
      have d2 := plain_dp hz.2 (vb.rp e)
      rw [← ok.hK] at d1 d2
      exact op_eqD ok.un pins s σ H _ _ v u Q I rx ry ⟨_, _, d1, d2, plain_shaped hz.1, plain_shaped hz.2, by rw [eqv_eq hz.1 hz.2]; exact q⟩
    · cases h
theorem same_ne (ok : Ck T X) {pins : List (Addr × Obj)} {s : Shared} {x y : V} {v u : Value} {a b : D} {k : Bool} (I : Inv X pins σ H s) (rx : RelV x v) (ry : RelV y u) (va : Rv T H0 H x a) (vb : Rv T H0 H y b) (e : Same H0 H)
    (h : sameD a b = some k) (q : Q (.bl (!k)) H) : wpAny (model X.prog X.w) X.A (compareOp .NotEq v u) (EP X pins σ Q) X.xe s := by
  unfold sameD at h
  split at h
  · cases h
    have e1 := va.str
    have e2 := vb.str
    subst e1 e2
    exact op_ne pins s σ H _ _ v u Q I rx ry ⟨rfl, by rw [decStr]; exact q⟩
  · cases h
    have e1 := va.int
    have e2 := vb.int
    subst e1 e2
    exact op_ne pins s σ H _ _ v u Q I rx ry ⟨rfl, by rw [dec_int]; exact q⟩
  · split at h
    · rename_i hz
      cases h
      rw [Bool.and_eq_true] at hz
      have d1 := plain_dp hz.1 (va.rp e)
      have d2 := plain_dp hz.2 (vb.rp e)
      rw [← ok.hK] at d1 d2
      exact op_neD ok.un pins s σ H _ _ v u Q I rx ry ⟨_, _, d1, d2, plain_shaped hz.1, plain_shaped hz.2, by rw [eqv_eq hz.1 hz.2]; exact q⟩
    · cases h
/-! ### x in .. -/
theorem flat_rp {v : V} {x : D} (r : Rp T H v x) (h : flatD x = true) : flatV v = true := by
  cases r <;> first | rfl | cases h
theorem eqV_eq {v w : V} {x y : D} (r : Rp T H0 v x) (q : Rp T H w y) (h : flatD x = true) (h' : flatD y = true) : eqV v w = eqD x y := by
  cases r <;> cases q <;> first | rfl | cases h | cases h' | skip
  all_goals first | exact strEq _ _ | skip
theorem flat_rps : ∀ {vs : List V} {xs : List D}, Rps T H vs xs → xs.all flatD = true → vs.all flatV = true
  | _, _, .nil, _ => rfl
  | _, _, .cons a r, h => by
    rw [List.all_cons, Bool.and_eq_true] at h
    rw [List.all_cons, Bool.and_eq_true]
    exact ⟨flat_rp a h.1, flat_rps r h.2⟩
theorem inV_eq {w : V} {y : D} (q : Rp T H w y) (h' : flatD y = true) : ∀ {vs : List V} {xs : List D}, Rps T H0 vs xs → xs.all flatD = true → inV w vs = xs.any fun z => eqD z y
  | _, _, .nil, _ => rfl
  | _, _, .cons a r, h => by
    rw [List.all_cons, Bool.and_eq_true] at h
    rw [List.any_cons, ← inV_eq q h' r h.2, ← eqV_eq a q h.1 h']
    rfl
theorem ky_of {v : V} {x : D} (r : Rp T H v x) (h : keyD x = true) : ∃ k, v = kV k ∧ KyR k x := by
  cases r with
  | int i => exact ⟨.inl i, rfl, .int i⟩
  | str s => exact ⟨.inr _, rfl, .str s⟩
  | _ => cases h
theorem ky_eq {k k' : Key} {x y : D} (r : KyR k x) (q : KyR k' y) : decide (k = k') = eqD x y := by
  cases r <;> cases q
  · simp only [eqD]; rw [Bool.eq_iff_iff]; simp
  · simp only [eqD]; simp
  · simp only [eqD]; simp
  · simp only [eqD]
    rename_i a b
    rw [← strEq, Bool.eq_iff_iff]
    simp
theorem look_rp : ∀ {vs : List (Key × V)} {ks : List (D × D)} {k : Key} {x : D}, RpK T H vs ks → KyR k x → (lookD ks x = none → valV vs k = none) ∧ ∀ y, lookD ks x = some y → ∃ v, valV vs k = some v ∧ Rp T H v y
  | _, _, _, _, .nil, _ => ⟨fun _ => rfl, fun y h => by cases h⟩
  | _, _, k, x, .cons (k := k') (q := q) kr a r, h => by
    obtain ⟨i1, i2⟩ := look_rp r h
    have e := ky_eq kr h
    unfold lookD
    cases z : eqD q x with
    | true =>
      rw [z] at e
      have e : k' = k := of_decide_eq_true e
      subst e
      refine ⟨fun h => by simp at h, fun y hy => ?_⟩
      simp at hy
      subst hy
      exact ⟨_, by simp [valV], a⟩
    | false =>
      rw [z] at e
      have e : ¬ k' = k := of_decide_eq_false e
      refine ⟨fun h => ?_, fun y hy => ?_⟩
      · simp at h
        have := i1 h
        simpa [valV, e] using this
      · simp at hy
        obtain ⟨v, hv, hr⟩ := i2 y hy
        exact ⟨v, by simpa [valV, e] using hv, hr⟩
end
end Mi
end
section
set_option maxHeartbeats 4000000
namespace Mi
open PySem PySem.Spec PyProof.Rows L2
section
variable {T : Tb} {W : WX} {X : Cx} {n : En} {σ : L2.St} {H0 H : Hp} {ρ : Env} {ts : List Tmp} {Q : VK}
theorem One.sees {f : D → Option Rs} {x : V} (h : One T W (sees1 f) x H Q) : ∃ σ n H0 ρ ts a r, ST T n H0 H σ ρ ts ∧ Rv T H0 H x a ∧ f a = some r ∧ ∀ H0' H', Wants T n σ ts Q r ρ H0' H' := by
  obtain ⟨σ, n, H0, ρ, ts, ra, S, P⟩ := h
  unfold sees1 at P
  cases ea : ra.see ρ with
  | none => rw [ea] at P; exact P.elim
  | some a =>
    rw [ea] at P
    have P : Post T W n σ ts (Out.of ρ (f a)) (Wants T n σ ts Q) := P
    cases ef : f a with
    | none => rw [ef] at P; exact P.elim
    | some r =>
      rw [ef] at P
      exact ⟨σ, n, H0, ρ, ts, a, r, S.drop, S.see ea, ef, P⟩
theorem rd_seeOne {d : Env → Out Rs} {g : Rs → Env → Out Rs} (h : rd T W (fun e => (d e).bind fun ra e1 => g ra e1) σ H Q) : rd T W d σ H fun x H1 => One T W g x H1 Q := by
  obtain ⟨n, H0, ρ, ts, S, P⟩ := h
  exact rd_mono (rd_one S P) fun v H1 ⟨H0', ρ', ra, S', P'⟩ => ⟨σ, n, H0', ρ', ts, ra, S', P'⟩
theorem rd_seeMany {d : Env → Out (List Rs)} {g : List Rs → Env → Out Rs} (h : rd T W (fun e => (d e).bind fun ra e1 => g ra e1) σ H Q) : rdA T W d σ H fun x H1 => Many T W g x H1 Q := by
  obtain ⟨n, H0, ρ, ts, S, P⟩ := h
  have z := rd_args S P
  obtain ⟨n', H0', ρ', ts', S', P'⟩ := z
  refine ⟨n', H0', ρ', ts', S', ?_⟩
  cases e : d ρ' with
  | no => rw [e] at P'; exact P'.elim
  | ex x e1 => rw [e] at P'; exact P'
  | ok r e1 =>
    rw [e] at P'
    exact fun h0 h1 vs l s => by
      obtain ⟨a, b, c, l', s', p⟩ := P' h0 h1 vs l s
      exact ⟨σ, n, a, b, ts, c, l', s', p⟩
/-! ### comparisons -/
def copOf : Cop → CmpOp
  | .eq => .Eq
  | .ne => .NotEq
  | .lt => .Lt
  | .le => .LtE
  | .gt => .Gt
  | .ge => .GtE
  | .isN => .Is
  | .notN => .IsNot
  | .isIn => .In
  | .notIn => .NotIn
theorem look_is {vs : List (Key × V)} {ks : List (D × D)} {k : Key} {x : D} (h : (lookD ks x = none → valV vs k = none) ∧ ∀ y, lookD ks x = some y → ∃ v, valV vs k = some v ∧ Rp T H v y) : (valV vs k).isSome = (lookD ks x).isSome := by
  cases z : lookD ks x with
  | none => rw [h.1 z]; rfl
  | some w => obtain ⟨w', hw, _⟩ := h.2 _ z; rw [hw]; rfl
theorem in_tx (c : Nat) (t : Tx) : decide (c ∈ (⟨t.toArray⟩ : Str).cps.toList) = t.contains c := by
  rw [Bool.eq_iff_iff]
  simp
theorem opR_cmp (ok : Ck T X) (op : Cop) : OpR X (compareOp (copOf op)) (Two T W (cmpS op)) := by
  intro pins s σ H x y v u Q I rx ry h
  obtain ⟨σ', n, H0, ρ, ts, a, b, r, S, va, vb, ef, P⟩ := h.sees
  cases ec : cmpD op a b with
  | none => rw [ec] at ef; cases ef
  | some k =>
    rw [ec] at ef
    cases ef
    have P : ∀ H0' H', Wants T n σ' ts Q (.d (.bl k)) ρ H0' H' := P
    have q : Q (.bl k) H := Wants.data P (.bl _) S
    have hK := ok.hK
    unfold cmpD at ec
    split at ec
    · exact same_eq ok I rx ry va vb S.sub ec q
    · cases es : sameD a b with
      | none => rw [es] at ec; cases ec
      | some k' =>
        rw [es] at ec
        cases ec
        exact same_ne ok I rx ry va vb S.sub es q
    · cases ec
      have e1 := va.int
      have e2 := vb.int
      subst e1 e2
      exact op_lt pins s σ H _ _ v u Q I rx ry ⟨_, _, rfl, rfl, q⟩
    · cases ec
      have e1 := va.int
      have e2 := vb.int
      subst e1 e2
      exact op_le pins s σ H _ _ v u Q I rx ry ⟨_, _, rfl, rfl, q⟩
    · cases ec
      have e1 := va.int
      have e2 := vb.int
      subst e1 e2
      exact op_gt pins s σ H _ _ v u Q I rx ry ⟨_, _, rfl, rfl, q⟩
    · cases ec
      have e1 := va.int
      have e2 := vb.int
      subst e1 e2
      exact op_ge pins s σ H _ _ v u Q I rx ry ⟨_, _, rfl, rfl, q⟩
    · cases ec
      have e2 := vb.non
      subst e2
      refine op_isN pins s σ H x _ v u Q I rx ry ⟨rfl, ?_⟩
      have e : decide (x = V.non) = isNonD a := by
        cases a with
        | non => rw [va.non]; rfl
        | bl b => rw [va.bl]; rfl
        | int b => rw [va.int]; rfl
        | str b => rw [va.str]; rfl
        | tup b => obtain ⟨p, _, e, _⟩ := va.tup; rw [e]; rfl
        | lst b => obtain ⟨p, _, e, _⟩ := va.lst S.sub; rw [e]; rfl
        | dic b => obtain ⟨p, _, e, _⟩ := va.dic S.sub; rw [e]; rfl
        | ins c b => obtain ⟨p, _, _, e, _⟩ := va.ins S.sub; rw [e]; rfl
        | scr b => obtain ⟨p, e, _⟩ := va.scr; rw [e]; rfl
      rw [e]
      exact q
    · cases ec
      have e2 := vb.non
      subst e2
      refine op_notN pins s σ H x _ v u Q I rx ry ⟨rfl, ?_⟩
      have e : (!decide (x = V.non)) = (!isNonD a) := by
        cases a with
        | non => rw [va.non]; rfl
        | bl b => rw [va.bl]; rfl
        | int b => rw [va.int]; rfl
        | str b => rw [va.str]; rfl
        | tup b => obtain ⟨p, _, e, _⟩ := va.tup; rw [e]; rfl
        | lst b => obtain ⟨p, _, e, _⟩ := va.lst S.sub; rw [e]; rfl
        | dic b => obtain ⟨p, _, e, _⟩ := va.dic S.sub; rw [e]; rfl
        | ins c b => obtain ⟨p, _, _, e, _⟩ := va.ins S.sub; rw [e]; rfl
        | scr b => obtain ⟨p, e, _⟩ := va.scr; rw [e]; rfl
      rw [e]
      exact q
    · -- in
      unfold inD at ec
      split at ec
      · split at ec
        · rename_i hz
          cases ec
          rw [Bool.and_eq_true] at hz
          obtain ⟨p, vs, rfl, h1, r1⟩ := vb.tup
          rw [← hK] at h1
          have ra := va.rp S.sub
          exact op_in_seq pins s σ H _ _ v u Q I rx ry ⟨p, vs, rfl, .inr (Same.sqT S.sub h1), flat_rp ra hz.1, flat_rps r1 hz.2, by rw [if_neg Bool.false_ne_true, inV_eq ra hz.1 r1 hz.2]; exact q⟩
        · cases ec
      · split at ec
        · rename_i hz
          cases ec
          rw [Bool.and_eq_true] at hz
          obtain ⟨p, vs, rfl, h1, r1⟩ := vb.lst S.sub
          have ra := va.rp S.sub
          exact op_in_seq pins s σ H _ _ v u Q I rx ry ⟨p, vs, rfl, .inl (.of h1), flat_rp ra hz.1, flat_rps r1 hz.2, by rw [if_neg Bool.false_ne_true, inV_eq ra hz.1 r1 hz.2]; exact q⟩
        · cases ec
      · split at ec
        · cases ec
          have e1 := va.str
          have e2 := vb.str
          subst e1 e2
          refine op_in_sign pins s σ H _ _ v u Q I rx ry ⟨_, _, rfl, rfl, ?_⟩
          rw [in_tx]
          exact q
        · cases ec
      · split at ec
        · rename_i hz
          cases ec
          obtain ⟨p, kvs, rfl, h1, r1⟩ := vb.dic S.sub
          obtain ⟨key, rfl, kr⟩ := ky_of (va.rp S.sub) hz
          obtain ⟨i1, i2⟩ := look_rp r1 kr
          obtain rfl : u = Value.ref p := ry
          have e := look_is ⟨i1, i2⟩
          refine d_in (by have := ok.un; omega) I (DGet.k (k := key) h1) rx fun s' I' => ⟨.bl _, H, I', rfl, ?_⟩
          rw [e]
          exact q
        · cases ec
      · cases ec
    · -- not in
      cases ei : inD a b with
      | none => rw [ei] at ec; cases ec
      | some k' =>
        rw [ei] at ec
        cases ec
        unfold inD at ei
        split at ei
        · split at ei
          · rename_i hz
            cases ei
            rw [Bool.and_eq_true] at hz
            obtain ⟨p, vs, rfl, h1, r1⟩ := vb.tup
            rw [← hK] at h1
            have ra := va.rp S.sub
            exact op_notIn_seq pins s σ H _ _ v u Q I rx ry ⟨p, vs, rfl, .inr (Same.sqT S.sub h1), flat_rp ra hz.1, flat_rps r1 hz.2, by rw [if_pos rfl, inV_eq ra hz.1 r1 hz.2]; exact q⟩
          · cases ei
        · split at ei
          · rename_i hz
            cases ei
            rw [Bool.and_eq_true] at hz
            obtain ⟨p, vs, rfl, h1, r1⟩ := vb.lst S.sub
            have ra := va.rp S.sub
            exact op_notIn_seq pins s σ H _ _ v u Q I rx ry ⟨p, vs, rfl, .inl (.of h1), flat_rp ra hz.1, flat_rps r1 hz.2, by rw [if_pos rfl, inV_eq ra hz.1 r1 hz.2]; exact q⟩
          · cases ei
        · split at ei
          · cases ei
            have e1 := va.str
            have e2 := vb.str
            subst e1 e2
            refine op_notIn_sign pins s σ H _ _ v u Q I rx ry ⟨_, _, rfl, rfl, ?_⟩
            rw [in_tx]
            exact q
          · cases ei
        · split at ei
          · rename_i hz
            cases ei
            obtain ⟨p, kvs, rfl, h1, r1⟩ := vb.dic S.sub
            obtain ⟨key, rfl, kr⟩ := ky_of (va.rp S.sub) hz
            obtain ⟨i1, i2⟩ := look_rp r1 kr
            obtain rfl : u = Value.ref p := ry
            have e := look_is ⟨i1, i2⟩
            refine d_notIn (by have := ok.un; omega) I (DGet.k (k := key) h1) rx fun s' I' => ⟨.bl _, H, I', rfl, ?_⟩
            rw [e]
            exact q
          · cases ei
        · cases ei
    · cases ec
/-! ### a place -/
theorem plc_ix (k : Nat) (i : Int) : plc k i = ixN k i := rfl
theorem at_of {α : Type} {xs : List α} {i : Int} {k : Nat} {v : α} (h : ixN xs.length i = some k) (hv : xs[k]? = some v) : atI xs i = some v := by
  unfold atI
  rw [h]
  exact hv
theorem opR_ix (ok : Ck T X) : IxR X (Two T W (sees2 fun x y => (idxD x y).map .d)) := by
  intro value slice pins s σ H x y v u Q I rx ry h hs
  obtain ⟨σ', n, H0, ρ, ts, a, b, r, S, va, vb, ef, P⟩ := h.sees
  cases ei : idxD a b with
  | none => rw [ei] at ef; cases ef
  | some z =>
    rw [ei] at ef
    cases ef
    have P : ∀ H0' H', Wants T n σ' ts Q (.d z) ρ H0' H' := P
    have hK := ok.hK
    unfold idxD at ei
    split at ei
    · obtain ⟨k, hk, hx⟩ := Option.bind_eq_some_iff.mp ei
      obtain ⟨p, vs, rfl, h1, r1⟩ := va.tup
      have e2 := vb.int
      subst e2
      obtain ⟨w, hw, rw'⟩ := r1.get hx
      have hl := hk
      rw [plc_ix, ← r1.length] at hl
      have q : Q w H := Wants.data P rw' S
      have h2 := Same.sqT S.sub h1
      rw [← hK] at h2
      exact ix_tup value slice pins s σ H _ _ v u Q I rx ry ⟨p, vs, _, w, rfl, rfl, h2, at_of hl hw, q⟩ hs
    · obtain ⟨k, hk, hx⟩ := Option.bind_eq_some_iff.mp ei
      obtain ⟨p, vs, rfl, h1, r1⟩ := va.lst S.sub
      have e2 := vb.int
      subst e2
      obtain ⟨w, hw, rw'⟩ := r1.get hx
      have hl := hk
      rw [plc_ix, ← r1.length] at hl
      have q : Q w H := Wants.data P rw' S
      exact ix_list value slice pins s σ H _ _ v u Q I rx ry ⟨p, vs, _, w, rfl, rfl, .of h1, at_of hl hw, q⟩ hs
    · obtain ⟨i0, hb, e0⟩ := Option.map_eq_some_iff.mp ei
      obtain ⟨k, hk, hx⟩ := Option.bind_eq_some_iff.mp hb
      subst e0
      obtain ⟨p, rfl, h1⟩ := va.scr
      have e2 := vb.int
      subst e2
      rename_i xs i
      have q : Q (.int i0) H := Wants.data P (.int _) S
      have h2 := Same.sqL S.sub h1
      rw [← hK] at h2
      exact ix_list value slice pins s σ H _ _ v u Q I rx ry ⟨p, _, _, .int i0, rfl, rfl, h2, at_of (k := k) (by rw [List.length_map]; exact hk) (by rw [List.getElem?_map, hx]; rfl), q⟩ hs
    · split at ei
      · rename_i hz
        obtain ⟨c, hb, e0⟩ := Option.map_eq_some_iff.mp ei
        obtain ⟨k, hk, hx⟩ := Option.bind_eq_some_iff.mp hb
        subst e0
        have e1 := va.str
        have e2 := vb.int
        subst e1 e2
        have q : Q (.str ⟨[c].toArray⟩) H := Wants.data P (.str [c]) S
        exact ix_str value slice pins s σ H _ _ v u Q I rx ry ⟨_, _, c, rfl, rfl, by rw [str_len]; exact sz_of hz, by simpa using at_of hk hx, q⟩ hs
      · cases ei
    · split at ei
      · rename_i hz
        obtain ⟨p, kvs, rfl, h1, r1⟩ := va.dic S.sub
        obtain ⟨key, rfl, kr⟩ := ky_of (vb.rp S.sub) hz
        obtain ⟨w, hw, rr⟩ := (look_rp r1 kr).2 _ ei
        have q : Q w H := Wants.data P rr S
        obtain rfl : v = Value.ref p := rx
        have g : DGet H p (kV key) (some w) := by
          have z := DGet.k (k := key) h1
          rw [hw] at z
          exact z
        exact tail_any (ops := [.ref p, u]) (dict_typeIs I g) PySem.F.slot_dict_getitem.lookup (d_getItem (by have := ok.un; omega) I g ry fun w' s3 I3 rw' => ⟨w, H, I3, rw', q⟩) hs
      · cases ei
    · cases ei
end
end Mi
end
section
set_option maxHeartbeats 4000000
namespace Mi
open PySem PySem.Spec PyProof.Rows L2
section
variable {T : Tb} {W : WX} {X : Cx} {n : En} {σ : L2.St} {H0 H : Hp} {ρ : Env} {ts : List Tmp} {Q : VK}
theorem unR_neg : UnR X (unaryOp .USub) (One T W (sees1 negD)) := by
  intro pins s σ H x v Q I rx h
  obtain ⟨σ', n, H0, ρ, ts, a, r, S, va, ef, P⟩ := h.sees
  unfold negD at ef
  split at ef
  · cases ef
    have e1 := va.int
    subst e1
    exact un_neg pins s σ H _ v Q I rx ⟨_, rfl, Wants.data P (.int _) S⟩
  · cases ef
theorem pe_neg {a : Expr} {pos : Pos} {d : Env → Out Rs} (ha : PE X a (rd T W d)) : PE X (.UnaryOp .USub a pos) (rd T W fun e => (d e).bind fun ra e1 => sees1 negD ra e1) :=
  pe_imp (pe_un (unR_neg (T := T) (W := W)) ha) fun _ _ _ h => rd_seeOne h
/-! ### kinds -/
def kdN : Kd → String
  | .int => "int"
  | .bool => "bool"
  | .str => "str"
  | .list => "list"
  | .tuple => "tuple"
  | .dict => "dict"
def dN (x : D) : String := match kdOf x with
  | some k => kdN k
  | none => "NoneType"
theorem kit_kd (q k : Kd) : kitB (kdN q) (kdN k) = some (q == k || (k == .int && q == .bool)) := by
  cases q <;> cases k <;> decide +kernel
theorem kit_non (k : Kd) : kitB "NoneType" (kdN k) = some false := by
  cases k <;> decide +kernel
theorem kit_d {K : PySem.W.Frag} (x : D) (k : Kd) : PySem.W.kitOne K (.type (dN x)) (.type (kdN k)) = some (isKd k x) := by
  refine kit_ty ?_
  unfold dN isKd
  cases kdOf x with
  | none => exact kit_non k
  | some q => exact kit_kd q k
theorem kit_any {K : PySem.W.Frag} (x : D) : ∀ ks : List Kd, PySem.W.kitAny K (.type (dN x)) (ks.map fun k => .type (kdN k)) = some (ks.any fun k => isKd k x)
  | [] => kitAny_nil
  | k :: ks => by
    refine kitAny_cons (kit_d x k) (fun h => ?_) fun h => ?_
    · rw [kit_any x ks, List.any_cons, h, Bool.false_or]
    · rw [List.any_cons, h, Bool.true_or]
/-- the type of data -/
theorem Rv.ty {v : V} {x : D} (h : Rv T H0 H v x) (e : Same H0 H) (hi : ∀ c fs, x ≠ .ins c fs) (hs : ∀ ns, x ≠ .scr ns) : TyX T.K H v (.type (dN x)) := by
  cases x with
  | non => rw [h.non]; exact .base .non
  | bl b => rw [h.bl]; exact .base (.bl b)
  | int i => rw [h.int]; exact .base (.int i)
  | str s => rw [h.str]; exact .base (.str _)
  | tup xs =>
    obtain ⟨p, vs, rfl, h1, _⟩ := h.tup
    rcases Same.sqT e h1 with (a | ⟨o, a⟩) | ⟨o, its, k, a, b, _⟩
    · exact .base (.tup a)
    · exact .fTuple a
    · exact .kTuple a b
  | lst xs => obtain ⟨p, vs, rfl, h1, _⟩ := h.lst e; exact .base (.lst h1)
  | dic xs => obtain ⟨p, vs, rfl, h1, _⟩ := h.dic e; exact .base (.dK h1)
  | ins c fs => exact absurd rfl (hi c fs)
  | scr ns => exact absurd rfl (hs ns)
theorem isk_ok {ks : List Kd} {x : D} {r : Rs} (h : iskD ks x = some r) : r = blR (ks.any fun k => isKd k x) ∧ (∀ c fs, x ≠ .ins c fs) ∧ ∀ ns, x ≠ .scr ns := by
  unfold iskD at h
  split at h
  · cases h
  · cases h
  · rename_i h1 h2
    cases h
    exact ⟨rfl, h1, h2⟩
/-- isinstance(a, T) -/
theorem pe_isk1 (ok : Ck T X) {a : Expr} {pos p p2 : Pos} {d : Env → Out Rs} {k : Kd} {nm : Str} (hg : Gl X "isinstance") (hm : X.mg "isinstance" = none) (hg2 : Gl X nm) (hm2 : X.mg nm = none) (hv : bootBuiltins nm = some (.type (kdN k)))
    (hn : nm ≠ "__name__") (hd : (nm == ("__debug__" : Str)) = false) (hs : starEach [a, .Name nm p2] X.env = (false, eval a X.env) :: starEach [.Name nm p2] X.env)
    (ha : PE X a (rd T W d)) : PE X (.Call (.Name "isinstance" p) [a, .Name nm p2] [] pos) (rd T W fun e => (d e).bind fun ra e1 => sees1 (iskD [k]) ra e1) := by
  refine pe_imp (pe_callB call_isi hg hm (by decide +kernel) (pa_cons ha (pa_cons (pe_bltn (v := .ty (kdN k)) hg2 hm2 hv rfl hn hd) pa_nil) hs) (by decide) (by decide) hs) fun σ H Q h => ?_
  refine rd_mono (rd_seeOne h) fun x H1 q => ?_
  obtain ⟨σ', n, H0, ρ, ts, b, r, S, va, ef, P⟩ := q.sees
  obtain ⟨rfl, z1, z2⟩ := isk_ok ef
  have ty := va.ty S.sub z1 z2
  rw [← ok.hK] at ty
  refine ⟨x, .ty (kdN k), _, _, _, rfl, .ty _, ty, kit_d b k, ?_⟩
  have q : Q (.bl ([k].any fun k => isKd k b)) H1 := Wants.data P (.bl _) S
  simpa using q
end
end Mi
end
section
set_option maxHeartbeats 4000000
namespace Mi
open PySem PySem.Spec PyProof.Rows L2
section
variable {T : Tb} {W : WX} {X : Cx} {n : En} {σ : L2.St} {H0 H : Hp} {ρ : Env} {ts : List Tmp} {Q : VK}
/-- values and their data -/
def Rvs (T : Tb) (H0 H : Hp) : List V → List D → Prop
  | [], [] => True
  | v :: vs, x :: xs => Rv T H0 H v x ∧ Rvs T H0 H vs xs
  | _, _ => False
theorem rvs_of : ∀ {vs : List V} {xs : List D}, xs.length = vs.length → (∀ (i : Nat) (x : D) (v : V), xs[i]? = some x → vs[i]? = some v → Rv T H0 H v x) → Rvs T H0 H vs xs
  | [], [], _, _ => trivial
  | [], _ :: _, e, _ => by cases e
  | _ :: _, [], e, _ => by cases e
  | v :: vs, x :: xs, e, h => ⟨h 0 x v rfl rfl, rvs_of (by simpa using e) fun i y w hy hw => h (i + 1) y w (by simpa using hy) (by simpa using hw)⟩
theorem Rvs.one {vs : List V} {x : D} (h : Rvs T H0 H vs [x]) : ∃ v, vs = [v] ∧ Rv T H0 H v x := by
  cases vs with
  | nil => exact h.elim
  | cons v vs => cases vs with
    | nil => exact ⟨v, rfl, h.1⟩
    | cons w vs => exact h.2.elim
theorem Rvs.two {vs : List V} {x y : D} (h : Rvs T H0 H vs [x, y]) : ∃ v w, vs = [v, w] ∧ Rv T H0 H v x ∧ Rv T H0 H w y := by
  cases vs with
  | nil => exact h.elim
  | cons v vs =>
    obtain ⟨w, rfl, hw⟩ := Rvs.one h.2
    exact ⟨v, w, rfl, h.1, hw⟩
theorem Many.sees {b : Blt} {xs : List V} (h : Many T W (bltS b) xs H Q) : ∃ σ n H0 ρ ts as r, ST T n H0 H σ ρ ts ∧ Rvs T H0 H xs as ∧ bltD b as = some r ∧ ∀ H0' H', Wants T n σ ts Q r ρ H0' H' := by
  obtain ⟨σ, n, H0, ρ, ts, rs, hl, S, P⟩ := h
  unfold bltS at P
  cases ea : Mi.sees ρ rs with
  | none => rw [ea] at P; exact P.elim
  | some as =>
    rw [ea] at P
    have P : Post T W n σ ts (Out.of ρ (bltD b as)) (Wants T n σ ts Q) := P
    cases ef : bltD b as with
    | none => rw [ef] at P; exact P.elim
    | some r =>
      rw [ef] at P
      obtain ⟨l, k⟩ := S.seesR hl ea
      exact ⟨σ, n, H0, ρ, ts, as, r, S.dropA, rvs_of l k, ef, P⟩
theorem ints_rp : ∀ {vs : List V} {xs : List D} {ns : List Int}, Rps T H vs xs → intsOf xs = some ns → vs = ns.map V.int
  | _, _, _, .nil, h => by cases h; rfl
  | _, _, ns, .cons (x := x) a r, h => by
    cases x with
    | int i =>
      cases a
      unfold intsOf at h
      split at h
      · rename_i l hl
        cases h
        rw [ints_rp r hl]
        rfl
      · cases h
    | _ => cases h
theorem bls_rp : ∀ {vs : List V} {xs : List D} {ns : List Bool}, Rps T H vs xs → blsOf xs = some ns → vs = ns.map V.bl
  | _, _, _, .nil, h => by cases h; rfl
  | _, _, ns, .cons (x := x) a r, h => by
    cases x with
    | bl i =>
      cases a
      unfold blsOf at h
      split at h
      · rename_i l hl
        cases h
        rw [bls_rp r hl]
        rfl
      · cases h
    | _ => cases h
theorem strs_rp : ∀ {vs : List V} {xs : List D} {ns : List Tx}, Rps T H vs xs → strsOf xs = some ns → vs = (ns.map fun s => (⟨s.toArray⟩ : Str)).map V.str
  | _, _, _, .nil, h => by cases h; rfl
  | _, _, ns, .cons (x := x) a r, h => by
    cases x with
    | str i =>
      cases a
      unfold strsOf at h
      split at h
      · rename_i l hl
        cases h
        rw [strs_rp r hl]
        rfl
      · cases h
    | _ => cases h
theorem foldl_max (l : List Int) : ∀ i : Int, i ≤ l.foldl max i ∧ (∀ y ∈ l, y ≤ l.foldl max i) ∧ (l.foldl max i = i ∨ l.foldl max i ∈ l) := by
  induction l with
  | nil => exact fun i => ⟨Int.le_refl _, fun y h => by simp at h, .inl rfl⟩
  | cons a l ih =>
    intro i
    obtain ⟨h1, h2, h3⟩ := ih (max i a)
    refine ⟨by show i ≤ l.foldl max (max i a); omega, fun y hy => ?_, ?_⟩
    · rcases List.mem_cons.mp hy with rfl | hy
      · show y ≤ l.foldl max (max i y); omega
      · exact h2 y hy
    · show l.foldl max (max i a) = i ∨ l.foldl max (max i a) ∈ a :: l
      rcases h3 with h3 | h3
      · rw [h3]
        by_cases z : i ≤ a
        · right; rw [Int.max_eq_right z]; exact List.mem_cons_self ..
        · left; exact Int.max_eq_left (by omega)
      · exact .inr (List.mem_cons_of_mem _ h3)
theorem foldl_min (l : List Int) : ∀ i : Int, l.foldl min i ≤ i ∧ (∀ y ∈ l, l.foldl min i ≤ y) ∧ (l.foldl min i = i ∨ l.foldl min i ∈ l) := by
  induction l with
  | nil => exact fun i => ⟨Int.le_refl _, fun y h => by simp at h, .inl rfl⟩
  | cons a l ih =>
    intro i
    obtain ⟨h1, h2, h3⟩ := ih (min i a)
    refine ⟨by show l.foldl min (min i a) ≤ i; omega, fun y hy => ?_, ?_⟩
    · rcases List.mem_cons.mp hy with rfl | hy
      · show l.foldl min (min i y) ≤ y; omega
      · exact h2 y hy
    · show l.foldl min (min i a) = i ∨ l.foldl min (min i a) ∈ a :: l
      rcases h3 with h3 | h3
      · rw [h3]
        by_cases z : i ≤ a
        · left; exact Int.min_eq_left z
        · right; rw [Int.min_eq_right (by omega)]; exact List.mem_cons_self ..
      · exact .inr (List.mem_cons_of_mem _ h3)
theorem max_is {l : List Int} {m m' : Int} (h : maxI l = some m) (h1 : m' ∈ l) (h2 : ∀ y, y ∈ l → y ≤ m') : m' = m := by
  cases l with
  | nil => cases h
  | cons i l =>
    cases h
    obtain ⟨a, b, c⟩ := foldl_max l i
    have x : l.foldl max i ≤ m' := by
      rcases c with c | c
      · rw [c]; exact h2 i (List.mem_cons_self ..)
      · exact h2 _ (List.mem_cons_of_mem _ c)
    rcases List.mem_cons.mp h1 with rfl | z
    · omega
    · have := b m' z; omega
theorem min_is {l : List Int} {m m' : Int} (h : minI l = some m) (h1 : m' ∈ l) (h2 : ∀ y, y ∈ l → m' ≤ y) : m' = m := by
  cases l with
  | nil => cases h
  | cons i l =>
    cases h
    obtain ⟨a, b, c⟩ := foldl_min l i
    have x : m' ≤ l.foldl min i := by
      rcases c with c | c
      · rw [c]; exact h2 i (List.mem_cons_self ..)
      · exact h2 _ (List.mem_cons_of_mem _ c)
    rcases List.mem_cons.mp h1 with rfl | z
    · omega
    · have := b m' z; omega
theorem max_pos {l : List Int} {m : Int} (h : maxI l = some m) : 0 < l.length := by
  cases l with
  | nil => cases h
  | cons => simp
theorem min_pos {l : List Int} {m : Int} (h : minI l = some m) : 0 < l.length := by
  cases l with
  | nil => cases h
  | cons => simp
/-- a new tuple of what stands still -/
theorem Wants.newTup {vs : List V} {xs : List D} {p : Addr} (h : ∀ H0' H', Wants T n σ ts Q (.d (.tup xs)) ρ H0' H') (S : ST T n H0 H σ ρ ts) (hp : H p = none) (r : Rps T H0 vs xs) : Q (.ref p) (upd H p (.tup vs)) := by
  refine h (upd H0 p (.tup vs)) _ _ (ST.addD ((S.grow (Same.new hp)).still upd_same (S.still_free hp) (S.entry_free hp) (fun i ho => ?_) (fun ht => ?_)) ?_)
  · obtain ⟨w, hw, _⟩ := S.own_there ho
    rw [hp] at hw
    cases hw
  · obtain ⟨w, hw, _⟩ := S.tmp_there ht
    rw [hp] at hw
    cases hw
  · exact .tup (.inl (.inl upd_same)) (r.mono (Same.new (S.still_free hp)))
theorem rpk_len : ∀ {vs : List (Key × V)} {xs : List (D × D)}, RpK T H vs xs → vs.length = xs.length
  | _, _, .nil => rfl
  | _, _, .cons _ _ r => by simp [rpk_len r]
theorem noPy {i j : Int} (h : divOk j = true) : CDivP i j := by
  unfold divOk at h
  rw [Bool.and_eq_true] at h
  exact ⟨of_decide_eq_true h.1, PyProof.noPylong_of_log2 (of_decide_eq_true h.2)⟩
/-- what the name of a built-in stands for -/
def bltV : Blt → Value
  | .len => .builtin "len"
  | .abs => .builtin "abs"
  | .max2 => .builtin "max"
  | .min2 => .builtin "min"
  | .divmod => .builtin "divmod"
  | .list => .type "list"
  | .tuple => .type "tuple"
  | .str => .type "str"
  | .int => .type "int"
  | .all => .builtin "all"
  | .any => .builtin "any"
  | .sum => .builtin "sum"
  | .maxl => .builtin "max"
  | .minl => .builtin "min"
  | .repr => .builtin "repr"
  | .sorted => .builtin "sorted"
/-! ### repr -/
def strO (t : Tx) : Str := ⟨t.toArray⟩
theorem strO_app (a b : Tx) : strO (a ++ b) = strO a ++ strO b := by
  show (⟨(a ++ b).toArray⟩ : Str) = ⟨a.toArray ++ b.toArray⟩
  simp
theorem printable_plain : ∀ c : Nat, c < 127 → 32 ≤ c → Unicode.isPrintable c = true := by decide +kernel
theorem char_plain {c : Nat} (h1 : 32 ≤ c) (h2 : c < 127) (h3 : c ≠ 39) (h4 : c ≠ 92) : Builtin.Str.reprChar 39 c = [c] := by
  have e3 : (c == 39) = false := by simpa using h3
  have e4 : (c == 92) = false := by simpa using h4
  have e5 : (c == 10) = false := by simp; omega
  have e6 : (c == 13) = false := by simp; omega
  have e7 : (c == 9) = false := by simp; omega
  unfold Builtin.Str.reprChar
  simp only [e3, e4, e5, e6, e7, printable_plain c h2 h1, Bool.or_self, Bool.false_eq_true, if_false, if_true]
theorem plainT_get {s : Tx} (h : plainT s = true) : ∀ c ∈ s, 32 ≤ c ∧ c < 127 ∧ c ≠ 39 ∧ c ≠ 92 := fun c hc => by
  have := List.all_eq_true.mp h c hc
  simp only [Bool.and_eq_true, decide_eq_true_eq, bne_iff_ne] at this
  exact ⟨this.1.1.1, this.1.1.2, this.1.2, this.2⟩
theorem fold_plain : ∀ (s : Tx) (acc : Array Nat), (∀ c ∈ s, 32 ≤ c ∧ c < 127 ∧ c ≠ 39 ∧ c ≠ 92) → s.foldl (fun out c => out ++ (Builtin.Str.reprChar 39 c).toArray) acc = acc ++ s.toArray
  | [], acc, _ => by simp
  | c :: s, acc, h => by
    obtain ⟨h1, h2, h3, h4⟩ := h c (List.mem_cons_self ..)
    rw [List.foldl_cons, char_plain h1 h2 h3 h4, fold_plain s _ fun d hd => h d (List.mem_cons_of_mem _ hd)]
    apply Array.ext'
    simp
theorem reprText_plain {s t : Tx} (h : reprS s = some t) : reprText (strO s) = strO t := by
  unfold reprS at h
  split at h
  · rename_i hp
    cases h
    have hg := plainT_get hp
    have hq : reprQuote (strO s) = 39 := by
      unfold reprQuote
      have e : (strO s).cps.contains 39 = false := by
        show s.toArray.contains 39 = false
        simp only [List.contains_toArray, List.contains_eq_mem, decide_eq_false_iff_not]
        exact fun z => (hg 39 z).2.2.1 rfl
      rw [e]
      rfl
    unfold reprText
    rw [hq]
    have e : (strO s).cps.foldl (fun out c => out ++ (Builtin.Str.reprChar 39 c).toArray) #[39] = s.foldl (fun out c => out ++ (Builtin.Str.reprChar 39 c).toArray) #[39] := by
      show s.toArray.foldl _ _ = _
      simp
    rw [e, fold_plain s _ hg]
    show (⟨_⟩ : Str) = ⟨_⟩
    congr 1
    apply Array.ext'
    simp
  · cases h
theorem sep_flat (sep : Tx) : ∀ (x : Tx) (l : List Tx), sepT sep (x :: l) = x ++ (l.map (sep ++ ·)).flatten
  | x, [] => by simp [sepT]
  | x, y :: l => by
    show x ++ sep ++ sepT sep (y :: l) = _
    rw [sep_flat sep y l]
    simp
theorem textFrom_succ : ∀ (ts : List Tx) (k : Nat) (a : Tx), textFrom (k + 1) (strO a) (ts.map strO) = strO (a ++ (ts.map ([44, 32] ++ ·)).flatten)
  | [], k, a => by simp [textFrom]
  | t :: ts, k, a => by
    rw [List.map_cons]
    unfold textFrom
    have e : (strO a ++ (if k + 1 > 0 then ", " else "" : String) ++ strO t : Str) = strO (a ++ [44, 32] ++ t) := by
      rw [if_pos (by omega), strO_app, strO_app]
      rfl
    rw [e, textFrom_succ ts (k + 1)]
    simp
theorem listText_str : ∀ ts : List Tx, listText (ts.map strO) = strO (lstT ts)
  | [] => by
    unfold listText lstT
    rfl
  | t :: ts => by
    unfold listText lstT
    rw [List.map_cons]
    unfold textFrom
    have e : (("[" : Str) ++ (if 0 > 0 then ", " else "" : String) ++ strO t : Str) = strO (91 :: t) := by
      rw [if_neg (by omega), show (91 :: t : Tx) = [91] ++ [] ++ t from rfl, strO_app, strO_app]
      rfl
    rw [e, textFrom_succ ts 0, sep_flat]
    have e2 : (91 :: t ++ (ts.map ([44, 32] ++ ·)).flatten : Tx) ++ [93] = 91 :: (t ++ (ts.map ([44, 32] ++ ·)).flatten) ++ [93] := by simp
    rw [← e2, strO_app (91 :: t ++ (ts.map ([44, 32] ++ ·)).flatten) [93]]
    rfl
theorem join_str : ∀ ts : List Tx, Str.join ", " (ts.map strO) = strO (sepT [44, 32] ts)
  | [] => rfl
  | [t] => rfl
  | t :: u :: ts => by
    have ih := join_str (u :: ts)
    show strO t ++ ", " ++ Str.join ", " ((u :: ts).map strO) = strO (t ++ [44, 32] ++ sepT [44, 32] (u :: ts))
    rw [ih, strO_app, strO_app]
    rfl
theorem tupleText_str (ts : List Tx) : tupleText (ts.map strO) = strO (tupT ts) := by
  unfold tupleText tupT
  rw [join_str, List.length_map]
  by_cases h : (ts.length == 1) = true
  · rw [if_pos h, if_pos h, show (40 :: sepT [44, 32] ts ++ [44, 41] : Tx) = [40] ++ sepT [44, 32] ts ++ [44, 41] from rfl, strO_app, strO_app]
    rfl
  · rw [if_neg h, if_neg h, show (40 :: sepT [44, 32] ts ++ [41] : Tx) = [40] ++ sepT [44, 32] ts ++ [41] from rfl, strO_app, strO_app]
    rfl
theorem dictText_str (ts : List Tx) : dictText (ts.map strO) = strO (dicT ts) := by
  unfold dictText dicT
  rw [join_str, show (123 :: sepT [44, 32] ts ++ [125] : Tx) = [123] ++ sepT [44, 32] ts ++ [125] from rfl, strO_app, strO_app]
  rfl
theorem flat_shown : ∀ {x : D} {t : Tx}, flatT x = some t → (pyF x).shown = strO t ∧ (pyF x).showable = true
  | .non, t, h => by
    simp only [flatT, Option.some.injEq] at h
    subst h
    exact ⟨by simp only [pyF, PyData.shown]; rfl, rfl⟩
  | .bl true, t, h => by
    simp only [flatT, Option.some.injEq] at h
    subst h
    exact ⟨by simp only [pyF, PyData.shown]; rfl, rfl⟩
  | .bl false, t, h => by
    simp only [flatT, Option.some.injEq] at h
    subst h
    exact ⟨by simp only [pyF, PyData.shown]; rfl, rfl⟩
  | .int i, t, h => by
    simp only [flatT] at h
    split at h
    · rename_i hz
      cases h
      refine ⟨?_, ?_⟩
      · simp only [pyF, PyData.shown]
        show Str.ofString (toString i) = _
        rw [Str.ofString_eq_toList]
        rfl
      · simp only [pyF, PyData.showable]
        exact hz
    · cases h
  | .str s, t, h => by
    simp only [flatT] at h
    exact ⟨by simp only [pyF, PyData.shown]; exact reprText_plain h, rfl⟩
  | .tup _, t, h => by simp [flatT] at h
  | .lst _, t, h => by simp [flatT] at h
  | .dic _, t, h => by simp [flatT] at h
  | .ins _ _, t, h => by simp [flatT] at h
  | .scr _, t, h => by simp [flatT] at h
theorem shown_kv : ∀ (ks : List (D × D)) {ts : List Tx}, kvT ks = some ts → PyData.shownKv (ks.map fun p => (pyF p.1, pyF p.2)) = ts.map strO ∧ PyData.showableKv (ks.map fun p => (pyF p.1, pyF p.2)) = true
  | [], ts, h => by
    simp only [kvT, Option.some.injEq] at h
    subst h
    exact ⟨by simp only [List.map_nil, PyData.shownKv], by simp only [List.map_nil, PyData.showableKv]⟩
  | p :: r, ts, h => by
    simp only [kvT] at h
    cases e1 : flatT p.1 with
    | none => rw [e1] at h; cases h
    | some a =>
      rw [e1] at h
      simp only at h
      cases e2 : flatT p.2 with
      | none => rw [e2] at h; cases h
      | some b =>
        rw [e2] at h
        simp only at h
        cases e3 : kvT r with
        | none => rw [e3] at h; cases h
        | some l =>
          rw [e3] at h
          cases h
          obtain ⟨a1, a2⟩ := flat_shown e1
          obtain ⟨b1, b2⟩ := flat_shown e2
          obtain ⟨c1, c2⟩ := shown_kv r e3
          refine ⟨?_, ?_⟩
          · simp only [List.map_cons, PyData.shownKv]
            rw [a1, b1, c1, strO_app, strO_app]
            rfl
          · simp [List.map_cons, PyData.showableKv, a2, b2, c2]
mutual
theorem shown_repr : ∀ {x : D} {t : Tx}, reprD x = some t → (pyD x).shown = strO t ∧ (pyD x).showable = true
  | .non, t, h => by
    simp only [reprD, Option.some.injEq] at h
    subst h
    exact ⟨by simp only [pyD, PyData.shown]; rfl, rfl⟩
  | .bl true, t, h => by
    simp only [reprD, Option.some.injEq] at h
    subst h
    exact ⟨by simp only [pyD, PyData.shown]; rfl, rfl⟩
  | .bl false, t, h => by
    simp only [reprD, Option.some.injEq] at h
    subst h
    exact ⟨by simp only [pyD, PyData.shown]; rfl, rfl⟩
  | .int i, t, h => by
    simp only [reprD] at h
    split at h
    · rename_i hz
      cases h
      refine ⟨?_, ?_⟩
      · simp only [pyD, PyData.shown]
        show Str.ofString (toString i) = _
        rw [Str.ofString_eq_toList]
        rfl
      · simp only [pyD, PyData.showable]
        exact hz
    · cases h
  | .str s, t, h => by
    simp only [reprD] at h
    exact ⟨by simp only [pyD, PyData.shown]; exact reprText_plain h, rfl⟩
  | .tup xs, t, h => by
    simp only [reprD] at h
    cases e : reprDs xs with
    | none => rw [e] at h; cases h
    | some ts =>
      rw [e] at h
      cases h
      obtain ⟨a, b⟩ := shown_reprs e
      exact ⟨by simp only [pyD, PyData.shown]; rw [a]; exact tupleText_str ts, by simpa [pyD, PyData.showable] using b⟩
  | .lst xs, t, h => by
    simp only [reprD] at h
    cases e : reprDs xs with
    | none => rw [e] at h; cases h
    | some ts =>
      rw [e] at h
      cases h
      obtain ⟨a, b⟩ := shown_reprs e
      exact ⟨by simp only [pyD, PyData.shown]; rw [a]; exact listText_str ts, by simpa [pyD, PyData.showable] using b⟩
  | .dic ks, t, h => by
    simp only [reprD] at h
    cases e : kvT ks with
    | none => rw [e] at h; cases h
    | some ts =>
      rw [e] at h
      cases h
      obtain ⟨a, b⟩ := shown_kv ks e
      exact ⟨by simp only [pyD, PyData.shown]; rw [a]; exact dictText_str ts, by simpa [pyD, PyData.showable] using b⟩
  | .ins _ _, t, h => by simp [reprD] at h
  | .scr _, t, h => by simp [reprD] at h
theorem shown_reprs : ∀ {xs : List D} {ts : List Tx}, reprDs xs = some ts → PyData.shownAll (pyDs xs) = ts.map strO ∧ PyData.showableAll (pyDs xs) = true
  | [], ts, h => by
    simp only [reprDs, Option.some.injEq] at h
    subst h
    exact ⟨by simp only [pyDs, PyData.shownAll, List.map_nil], by simp only [pyDs, PyData.showableAll]⟩
  | x :: xs, ts, h => by
    simp only [reprDs] at h
    cases e : reprD x with
    | none => rw [e] at h; cases h
    | some t =>
      rw [e] at h
      simp only at h
      cases e2 : reprDs xs with
      | none => rw [e2] at h; cases h
      | some us =>
        rw [e2] at h
        cases h
        obtain ⟨a, b⟩ := shown_repr e
        obtain ⟨c, d⟩ := shown_reprs e2
        exact ⟨by simp only [pyDs, PyData.shownAll, List.map_cons]; rw [a, c], by simp [pyDs, PyData.showableAll, b, d]⟩
end
theorem thin_readss {T : Tb} {pins : List (Addr × Obj)} {s : Shared} {n : Nat} (one : ∀ {x : D} {v : V} {u : Value}, thinD n x = true → Rp T H v x → RelV v u → ∃ as, Reads s.heap u (pyD x) as ∧ sysModules ∉ as ∧ (pyD x).depth ≤ n) :
    ∀ (xs : List D) (vs : List V) (us : List Value), thinDs n xs = true → Rps T H vs xs → Vals vs us → ∃ as, ReadsAll s.heap us (pyDs xs) as ∧ sysModules ∉ as ∧ PyData.depthAll (pyDs xs) ≤ n
  | [], _, _, _, r, rv => by
    cases r
    cases rv
    exact ⟨[], ReadsAll.nil, by simp, by simp [pyDs, PyData.depthAll]⟩
  | x :: xs, _, _, h, r, rv => by
    cases r with
    | cons a b =>
      cases rv with
      | cons r1 r2 =>
        have h : (thinD n x && thinDs n xs) = true := by simpa [thinDs] using h
        rw [Bool.and_eq_true] at h
        obtain ⟨as, q1, q2, q3⟩ := one h.1 a r1
        obtain ⟨bs, p1, p2, p3⟩ := thin_readss (pins := pins) one xs _ _ h.2 b r2
        refine ⟨as ++ bs, ReadsAll.cons q1 p1, ?_, ?_⟩
        · intro hm
          rcases List.mem_append.mp hm with hm | hm
          · exact q2 hm
          · exact p2 hm
        · simp only [pyDs, PyData.depthAll]
          omega
theorem thin_reads {T : Tb} {X : L2.Cx} {pins : List (Addr × Obj)} {σ : L2.St} {H : Hp} {s : Shared} (I : Inv X pins σ H s) (hK : X.K = T.K) : ∀ (n : Nat) {x : D} {v : V} {u : Value}, thinD n x = true → Rp T H v x → RelV v u → ∃ as, Reads s.heap u (pyD x) as ∧ sysModules ∉ as ∧ (pyD x).depth ≤ n := by
  intro n
  induction n with
  | zero =>
    intro x v u h r rv
    cases r with
    | non => cases rv; exact ⟨[], Reads.none, by simp, Nat.zero_le _⟩
    | bl b => cases rv; exact ⟨[], Reads.bool b, by simp, Nat.zero_le _⟩
    | int i => obtain ⟨t, rfl⟩ := rv; exact ⟨[], Reads.int i t, by simp, Nat.zero_le _⟩
    | str y => obtain ⟨t, rfl⟩ := rv; exact ⟨[], Reads.str _ t, by simp, Nat.zero_le _⟩
    | tup a b => simp [thinD] at h
    | lst a b => simp [thinD] at h
    | dic a b => simp [thinD] at h
    | ins a b => simp [thinD] at h
    | scr a => simp [thinD] at h
  | succ n ih =>
    intro x v u h r rv
    cases r with
    | non => cases rv; exact ⟨[], Reads.none, by simp, Nat.zero_le _⟩
    | bl b => cases rv; exact ⟨[], Reads.bool b, by simp, Nat.zero_le _⟩
    | int i => obtain ⟨t, rfl⟩ := rv; exact ⟨[], Reads.int i t, by simp, Nat.zero_le _⟩
    | str y => obtain ⟨t, rfl⟩ := rv; exact ⟨[], Reads.str _ t, by simp, Nat.zero_le _⟩
    | tup a b =>
      cases rv
      rw [← hK] at a
      obtain ⟨its, rvs, ⟨o, ho, hc, m, hd⟩, _⟩ := I.tuple a
      obtain ⟨as, hr, hn, hp⟩ := thin_readss (pins := pins) ih _ _ _ (by simpa [thinD] using h) b rvs
      exact ⟨as, Reads.tuple ho hc hd hr, hn, by simpa [pyD, PyData.depth] using hp⟩
    | lst a b => simp [thinD] at h
    | dic a b =>
      cases b with
      | cons _ _ _ => simp [thinD] at h
      | nil =>
        cases rv
        obtain ⟨_, hsys, vs, kv, o, es, ep, ho, hx, hd, hk, hp, _⟩ := I.hok _ _ a
        cases kv
        have he : es.toList = [] := by
          have := hp
          generalize es.toList = l at this
          cases this
          rfl
        refine ⟨_, Reads.dict (as := []) (bs := []) (kvs := []) ho hx.1 hd (by rw [he]; exact ReadsAll.nil) (by rw [he]; exact ReadsAll.nil), ?_, ?_⟩
        · simp only [List.append_nil, List.mem_singleton]
          exact fun z => by rw [← z] at hsys; simp at hsys
        · simp [pyD, PyData.depth, PyData.depthKv]
    | ins a b => simp [thinD] at h
    | scr a => simp [thinD] at h
/-! any data: lists and dicts mixed -/
theorem flat_read {T : Tb} {H : Hp} {h : Heap} {x : D} {v : V} {u : Value} (hf : flatB x = true) (r : Rp T H v x) (rv : RelV v u) : Reads h u (pyF x) [] := by
  cases r with
  | non => cases rv; exact Reads.none
  | bl b => cases rv; exact Reads.bool b
  | int i => obtain ⟨t, rfl⟩ := rv; exact Reads.int i t
  | str y => obtain ⟨t, rfl⟩ := rv; exact Reads.str _ t
  | _ => cases hf
theorem key_read {h : Heap} {k : Key} {q : D} {u : Value} (r : KyR k q) (rv : keyIs k u = true) : Reads h u (pyF q) [] := by
  cases r with
  | int i =>
    rcases keyIs_shape rv with ⟨j, t, e1, e2⟩ | ⟨x, t, e1, e2⟩
    · injection e1 with e
      subst e
      subst e2
      exact Reads.int _ t
    · cases e1
  | str s =>
    rcases keyIs_shape rv with ⟨j, t, e1, e2⟩ | ⟨x, t, e1, e2⟩
    · cases e1
    · injection e1 with e
      subst e2
      rw [← e]
      exact Reads.str _ t
theorem kv_read {T : Tb} {H : Hp} {h : Heap} {P : Program} {w : World} : ∀ {es : List DictEntry} {xs : List (D × D)} {vs : List (Key × V)} {us : List (Key × Value)}, (xs.all fun p => flatB p.1 && flatB p.2) = true → RpK T H vs xs → KV vs us → Pairs (mixKind P w) es us →
    ReadsAll h (es.map (·.key)) ((xs.map fun p => (pyF p.1, pyF p.2)).map (·.1)) [] ∧ ReadsAll h (es.map (·.val)) ((xs.map fun p => (pyF p.1, pyF p.2)).map (·.2)) []
  | _, _, _, _, _, .nil, kv, pr => by
    cases kv
    cases pr
    exact ⟨ReadsAll.nil, ReadsAll.nil⟩
  | _, _, _, _, hf, .cons kr r rr, kv, pr => by
    cases kv with
    | cons a ar =>
      cases pr with
      | cons p1 p2 p3 =>
        simp only [List.all_cons, Bool.and_eq_true] at hf
        obtain ⟨h1, h2⟩ := kv_read (h := h) hf.2 rr ar p3
        obtain ⟨a1, a2⟩ := a
        rw [← a1] at p1
        rw [← p2] at a2
        have q1 : Reads h _ _ [] := key_read (h := h) kr p1
        have q2 : Reads h _ _ [] := flat_read (h := h) hf.1.2 r a2
        exact ⟨ReadsAll.cons (as := []) (bs := []) q1 h1, ReadsAll.cons (as := []) (bs := []) q2 h2⟩
theorem mix_readss {T : Tb} {pins : List (Addr × Obj)} {s : Shared} {n : Nat} (one : ∀ {x : D} {v : V} {u : Value}, mixD n x = true → Rp T H v x → RelV v u → ∃ as, Reads s.heap u (pyD x) as ∧ sysModules ∉ as ∧ (pyD x).depth ≤ n) :
    ∀ (xs : List D) (vs : List V) (us : List Value), mixDs n xs = true → Rps T H vs xs → Vals vs us → ∃ as, ReadsAll s.heap us (pyDs xs) as ∧ sysModules ∉ as ∧ PyData.depthAll (pyDs xs) ≤ n
  | [], _, _, _, r, rv => by
    cases r
    cases rv
    exact ⟨[], ReadsAll.nil, by simp, by simp [pyDs, PyData.depthAll]⟩
  | x :: xs, _, _, h, r, rv => by
    cases r with
    | cons a b =>
      cases rv with
      | cons r1 r2 =>
        have h : (mixD n x && mixDs n xs) = true := by simpa [mixDs] using h
        rw [Bool.and_eq_true] at h
        obtain ⟨as, q1, q2, q3⟩ := one h.1 a r1
        obtain ⟨bs, p1, p2, p3⟩ := mix_readss (pins := pins) one xs _ _ h.2 b r2
        refine ⟨as ++ bs, ReadsAll.cons q1 p1, ?_, ?_⟩
        · intro hm
          rcases List.mem_append.mp hm with hm | hm
          · exact q2 hm
          · exact p2 hm
        · simp only [pyDs, PyData.depthAll]
          omega
theorem depthKv_flat : ∀ ks : List (D × D), PyData.depthKv (ks.map fun p => (pyF p.1, pyF p.2)) = 0
  | [] => rfl
  | p :: r => by
    have ih := depthKv_flat r
    have e : ∀ x : D, (pyF x).depth = 0 := fun x => by cases x <;> rfl
    simp only [List.map_cons, PyData.depthKv, e, ih]
    rfl
theorem mix_reads {T : Tb} {X : L2.Cx} {pins : List (Addr × Obj)} {σ : L2.St} {H : Hp} {s : Shared} (I : Inv X pins σ H s) (hK : X.K = T.K) (hsm : Sm T.K) : ∀ (n : Nat) {x : D} {v : V} {u : Value}, mixD n x = true → Rp T H v x → RelV v u → ∃ as, Reads s.heap u (pyD x) as ∧ sysModules ∉ as ∧ (pyD x).depth ≤ n := by
  obtain ⟨ob, hlk, hcl⟩ := hsm
  rw [← hK] at hlk
  have hb := I.kIn _ _ hlk
  intro n
  induction n with
  | zero =>
    intro x v u h r rv
    cases r with
    | non => cases rv; exact ⟨[], Reads.none, by simp, Nat.zero_le _⟩
    | bl b => cases rv; exact ⟨[], Reads.bool b, by simp, Nat.zero_le _⟩
    | int i => obtain ⟨t, rfl⟩ := rv; exact ⟨[], Reads.int i t, by simp, Nat.zero_le _⟩
    | str y => obtain ⟨t, rfl⟩ := rv; exact ⟨[], Reads.str _ t, by simp, Nat.zero_le _⟩
    | tup a b => simp [mixD] at h
    | lst a b => simp [mixD] at h
    | dic a b => simp [mixD] at h
    | ins a b => simp [mixD] at h
    | scr a => simp [mixD] at h
  | succ n ih =>
    intro x v u h r rv
    cases r with
    | non => cases rv; exact ⟨[], Reads.none, by simp, Nat.zero_le _⟩
    | bl b => cases rv; exact ⟨[], Reads.bool b, by simp, Nat.zero_le _⟩
    | int i => obtain ⟨t, rfl⟩ := rv; exact ⟨[], Reads.int i t, by simp, Nat.zero_le _⟩
    | str y => obtain ⟨t, rfl⟩ := rv; exact ⟨[], Reads.str _ t, by simp, Nat.zero_le _⟩
    | tup a b =>
      cases rv
      rw [← hK] at a
      obtain ⟨its, rvs, ⟨o, ho, hc, m, hd⟩, _⟩ := I.tuple a
      obtain ⟨as, hr, hn, hp⟩ := mix_readss (pins := pins) ih _ _ _ (by simpa [mixD] using h) b rvs
      exact ⟨as, Reads.tuple ho hc hd hr, hn, by simpa [pyD, PyData.depth] using hp⟩
    | lst a b =>
      cases rv
      obtain ⟨_, its, m, rvs, ho⟩ := I.hok _ _ a
      obtain ⟨as, hr, hn, hp⟩ := mix_readss (pins := pins) ih _ _ _ (by simpa [mixD] using h) b rvs
      refine ⟨_, Reads.list ho rfl rfl (by simpa using hr), ?_, by simpa [pyD, PyData.depth] using hp⟩
      intro hm
      rcases List.mem_cons.mp hm with hm | hm
      · rw [← hm, hb] at ho
        have ho := Option.some.inj ho
        rw [ho] at hcl
        injection hcl with e
        exact absurd e (by decide)
      · exact hn hm
    | dic a b =>
      cases n with
      | zero => simp [mixD] at h
      | succ n =>
        cases rv
        obtain ⟨_, hsys, vs, kv, o, es, ep, ho, hx, hd, hk, hp, _⟩ := I.hok _ _ a
        obtain ⟨q1, q2⟩ := kv_read (h := s.heap) (by simp only [mixD] at h; exact h) b kv hp
        refine ⟨_, Reads.dict (as := []) (bs := []) ho hx.1 hd q1 q2, ?_, ?_⟩
        · simp only [List.append_nil, List.mem_singleton]
          exact fun z => by rw [← z] at hsys; simp at hsys
        · simp [pyD, PyData.depth, depthKv_flat]
    | ins a b => simp [mixD] at h
    | scr a => simp [mixD] at h
theorem call_reprX {T : Tb} (hK : X.K = T.K) (hsm : Sm T.K) (gd : X.A.guards = some []) (un : X.A.units + 64 < cLine) {pins : List (Addr × Obj)} {s : Shared} {v : V} {u : Value} {x : D} {t : Tx} (I : Inv X pins σ H s) (rv : RelV v u) (rp : Rp T H v x) (hx : rokD x = true) (ht : reprX x = some t)
    (q : Q (.str ⟨t.toArray⟩) H) : wpAny (model X.prog X.w) X.A (call (.builtin "repr") [u]) (EP X pins σ Q) X.xe s := by
  unfold reprX at ht
  cases e : reprD x with
  | none => rw [e] at ht; cases ht
  | some t' =>
    rw [e] at ht
    have ht : (if szOk t'.length then some t' else none) = some t := ht
    split at ht
    · rename_i hz
      cases ht
      obtain ⟨sh, sb⟩ := shown_repr e
      have len : (strO t).length ≤ sizeLine := by rw [show (strO t).length = t.length from str_len _]; exact sz_of hz
      obtain ⟨as, rd, hnd, dep⟩ : ∃ as, Reads s.heap u (pyD x) as ∧ ((pyD x).hasDict = true → sysModules ∉ as) ∧ (pyD x).depth ≤ 40 := by
        unfold rokD at hx
        rw [Bool.or_eq_true, Bool.or_eq_true] at hx
        rcases hx with (hx | hx) | hx
        · obtain ⟨can, dep⟩ := plain_can hx
          have dp := plain_dp hx rp
          rw [← hK] at dp
          obtain ⟨as, rd⟩ := Dp.reads I (pyD x) v u dp rv
          exact ⟨as, rd, PyData.noDict_hsm (PyData.hasDict_of_canLay _ can), dep⟩
        · obtain ⟨as, rd, ns, dep⟩ := thin_reads I hK _ hx rp rv
          exact ⟨as, rd, fun _ => ns, dep⟩
        · obtain ⟨as, rd, ns, dep⟩ := mix_reads I hK hsm _ hx rp rv
          exact ⟨as, rd, fun _ => ns, dep⟩
      have fin : ∀ h' u' tk, (∀ b o, s.heap.get? b = some o → h'.get? b = some o) → EP X pins σ Q (.str (pyD x).shown u') { s with heap := h', toks := tk } := fun h' u' tk kp => by
        rw [sh]
        exact ⟨.str (strO t), H, I.kept kp, ⟨_, rfl⟩, q⟩
      have fin' : ∀ u' tk, EP X pins σ Q (.str (pyD x).shown u') { s with toks := tk } := fun u' tk => fin s.heap u' tk fun _ _ z => z
      have len' : (pyD x).shown.length ≤ sizeLine := by rw [sh]; exact len
      generalize hgd : pyD x = pd at rd sb fin fin' len' hnd dep sh
      cases rd with
      | none => exact PySem.P.repr_of_none (fin' _ _)
      | bool b => exact PySem.P.repr_of_bool (fin' _ _)
      | int i t => exact PySem.P.repr_of_int (by simpa [PyData.showable] using sb) (fin' _ _)
      | str y t => exact PySem.P.repr_of_str (fin' _ _) len'
      | list h1 h2 h3 h4 => exact repr_of_reads' (.list h1 h2 h3 h4) sb hnd gd (by omega) (fun _ _ z => z) fin len'
      | tuple h1 h2 h3 h4 => exact repr_of_reads' (.tuple h1 h2 h3 h4) sb hnd gd (by omega) (fun _ _ z => z) fin len'
      | dict h1 h2 h3 h4 h5 => exact repr_of_reads' (.dict h1 h2 h3 h4 h5) sb hnd gd (by omega) (fun _ _ z => z) fin len'
    · cases ht
/-! ### sorted -/
theorem rps_ints : ∀ l : List Int, Rps T H (l.map V.int) (l.map D.int)
  | [] => .nil
  | i :: l => .cons (.int i) (rps_ints l)
theorem insI_perm (x : Int) : ∀ l : List Int, (insI x l).Perm (x :: l)
  | [] => .refl _
  | y :: l => by
    unfold insI
    split
    · exact .refl _
    · exact ((insI_perm x l).cons y).trans (.swap x y l)
theorem sortI_perm : ∀ l : List Int, (sortI l).Perm l
  | [] => .refl _
  | x :: l => (insI_perm x (sortI l)).trans ((sortI_perm l).cons x)
theorem insI_sorted (x : Int) : ∀ l : List Int, l.Pairwise (· ≤ ·) → (insI x l).Pairwise (· ≤ ·)
  | [], _ => List.pairwise_singleton ..
  | y :: l, h => by
    obtain ⟨h1, h2⟩ := List.pairwise_cons.mp h
    unfold insI
    split
    · rename_i c
      refine List.pairwise_cons.mpr ⟨fun z hz => ?_, h⟩
      rcases List.mem_cons.mp hz with rfl | hz
      · exact c
      · exact Int.le_trans c (h1 z hz)
    · refine List.pairwise_cons.mpr ⟨fun z hz => ?_, insI_sorted x l h2⟩
      rcases List.mem_cons.mp ((insI_perm x l).mem_iff.mp hz) with rfl | hz
      · omega
      · exact h1 z hz
theorem sortI_sorted : ∀ l : List Int, (sortI l).Pairwise (· ≤ ·)
  | [] => .nil
  | x :: l => insI_sorted x _ (sortI_sorted l)
theorem sorted_one : ∀ {a b : List Int}, a.Perm b → a.Pairwise (· ≤ ·) → b.Pairwise (· ≤ ·) → a = b
  | [], b, p, _, _ => (List.nil_perm.mp p).symm
  | x :: a, [], p, _, _ => nomatch (List.perm_nil.mp p)
  | x :: a, y :: b, p, ha, hb => by
    obtain ⟨a1, a2⟩ := List.pairwise_cons.mp ha
    obtain ⟨b1, b2⟩ := List.pairwise_cons.mp hb
    have e : x = y := by
      have m1 : x ∈ y :: b := p.mem_iff.mp (List.mem_cons_self ..)
      have m2 : y ∈ x :: a := p.mem_iff.mpr (List.mem_cons_self ..)
      rcases List.mem_cons.mp m1 with e | m1
      · exact e
      · rcases List.mem_cons.mp m2 with e | m2
        · exact e.symm
        · exact Int.le_antisymm (a1 y m2) (b1 x m1)
    subst e
    rw [sorted_one p.cons_inv a2 b2]
theorem callR_blt (ok : Ck T X) (b : Blt) (calm : calmB b = true → X.calm = true) : CallR X (bltV b) (Many T W (bltS b)) := by
  intro pins s σ H xs us Q I rs h
  obtain ⟨σ', n, H0, ρ, ts, as, r, S, va, ef, P⟩ := h.sees
  have hK := ok.hK
  unfold bltD at ef
  split at ef
  · cases ef
    obtain ⟨v, rfl, h1⟩ := va.one
    obtain ⟨p, vs, rfl, h2, r2⟩ := h1.tup
    rw [← hK] at h2
    exact call_len_seq pins s σ H _ us Q I rs ⟨p, vs, rfl, .inr (Same.sqT S.sub h2), by rw [r2.length]; exact Wants.data P (.int _) S⟩
  · cases ef
    obtain ⟨v, rfl, h1⟩ := va.one
    obtain ⟨p, vs, rfl, h2, r2⟩ := h1.lst S.sub
    exact call_len_seq pins s σ H _ us Q I rs ⟨p, vs, rfl, .inl (.of h2), by rw [r2.length]; exact Wants.data P (.int _) S⟩
  · cases ef
    obtain ⟨v, rfl, h1⟩ := va.one
    obtain ⟨p, rfl, h2⟩ := h1.scr
    rw [← hK] at h2
    exact call_len_seq pins s σ H _ us Q I rs ⟨p, _, rfl, .inl (Same.sqL S.sub h2), by rw [List.length_map]; exact Wants.data P (.int _) S⟩
  · split at ef
    · rename_i hz
      cases ef
      obtain ⟨v, rfl, h1⟩ := va.one
      have e1 := h1.str
      subst e1
      exact call_len_str pins s σ H _ us Q I rs ⟨_, rfl, by rw [str_len]; exact sz_of hz, by rw [str_len]; exact Wants.data P (.int _) S⟩
    · cases ef
  · cases ef
    obtain ⟨v, rfl, h1⟩ := va.one
    obtain ⟨p, vs, rfl, h2, r2⟩ := h1.dic S.sub
    exact call_lenD pins s σ H _ us Q I rs ⟨p, vs, rfl, h2, by rw [rpk_len r2]; exact Wants.data P (.int _) S⟩
  · cases ef
    obtain ⟨v, rfl, h1⟩ := va.one
    have e1 := h1.int
    subst e1
    exact call_abs pins s σ H _ us Q I rs ⟨_, rfl, Wants.data P (.int _) S⟩
  · cases ef
    obtain ⟨v, w, rfl, h1, h2⟩ := va.two
    have e1 := h1.int
    have e2 := h2.int
    subst e1 e2
    exact call_max2 (calm rfl) pins s σ H _ us Q I rs ⟨_, _, rfl, Wants.data P (.int _) S⟩
  · cases ef
    obtain ⟨v, w, rfl, h1, h2⟩ := va.two
    have e1 := h1.int
    have e2 := h2.int
    subst e1 e2
    exact call_min2 (calm rfl) pins s σ H _ us Q I rs ⟨_, _, rfl, Wants.data P (.int _) S⟩
  · split at ef
    · rename_i hz
      cases ef
      obtain ⟨v, w, rfl, h1, h2⟩ := va.two
      have e1 := h1.int
      have e2 := h2.int
      subst e1 e2
      exact call_divmodW pins s σ H _ us Q I rs ⟨_, _, rfl, noPy hz, fun p hp => Wants.newTup P S hp (.cons (.int _) (.cons (.int _) .nil))⟩
    · cases ef
  · cases ef
    obtain ⟨v, rfl, h1⟩ := va.one
    obtain ⟨p, vs, rfl, h2, r2⟩ := h1.tup
    rw [← hK] at h2
    exact call_list_of pins s σ H _ us Q I rs ⟨p, vs, rfl, .inr (Same.sqT S.sub h2), fun l hl => Wants.fresh P S (Same.new hl) hl ⟨vs, upd_same, r2⟩⟩
  · cases ef
    obtain ⟨v, rfl, h1⟩ := va.one
    obtain ⟨p, vs, rfl, h2, r2⟩ := h1.lst S.sub
    exact call_list_of pins s σ H _ us Q I rs ⟨p, vs, rfl, .inl (.of h2), fun l hl => Wants.fresh P S (Same.new hl) hl ⟨vs, upd_same, r2⟩⟩
  · cases ef
    obtain ⟨v, rfl, h1⟩ := va.one
    obtain ⟨p, vs, rfl, h2, r2⟩ := h1.tup
    have h3 := h2
    rw [← hK] at h3
    exact call_tuple_of pins s σ H _ us Q I rs ⟨p, vs, rfl, .inr ⟨Same.sqT S.sub h3, Wants.data P (.tup h2 r2) S⟩⟩
  · cases ef
    obtain ⟨v, rfl, h1⟩ := va.one
    obtain ⟨p, vs, rfl, h2, r2⟩ := h1.lst S.sub
    exact call_tuple_of pins s σ H _ us Q I rs ⟨p, vs, rfl, .inl ⟨.of h2, fun l hl => Wants.newTup P S hl r2⟩⟩
  · split at ef
    · rename_i hz
      cases ef
      obtain ⟨v, rfl, h1⟩ := va.one
      have e1 := h1.int
      subst e1
      refine call_str_int pins s σ H _ us Q I rs ⟨_, rfl, of_decide_eq_true hz, ?_⟩
      rw [Str.ofString_eq_toList]
      exact Wants.data P (.str _) S
    · cases ef
  · cases ef
    obtain ⟨v, rfl, h1⟩ := va.one
    have e1 := h1.str
    subst e1
    exact SkE.call_str_str pins s σ H _ us Q I rs ⟨_, rfl, Wants.data P (.str _) S⟩
  · cases ef
    obtain ⟨v, rfl, h1⟩ := va.one
    have e1 := h1.int
    subst e1
    exact call_int1 pins s σ H _ us Q I rs (.inl ⟨_, rfl, Wants.data P (.int _) S⟩)
  · cases ef
    obtain ⟨v, rfl, h1⟩ := va.one
    have e1 := h1.bl
    subst e1
    exact call_int1 pins s σ H _ us Q I rs (.inr ⟨_, rfl, Wants.data P (.int _) S⟩)
  · split at ef
    · rename_i l hz
      cases ef
      obtain ⟨v, rfl, h1⟩ := va.one
      obtain ⟨p, vs, rfl, h2, r2⟩ := h1.lst S.sub
      rw [bls_rp r2 hz] at h2
      exact cr_all (calm rfl) pins s σ H _ us Q I rs ⟨p, l, rfl, .of h2, Wants.data P (.bl _) S⟩
    · cases ef
  · split at ef
    · rename_i l hz
      cases ef
      obtain ⟨v, rfl, h1⟩ := va.one
      obtain ⟨p, vs, rfl, h2, r2⟩ := h1.lst S.sub
      rw [bls_rp r2 hz] at h2
      exact cr_any (calm rfl) pins s σ H _ us Q I rs ⟨p, l, rfl, .of h2, Wants.data P (.bl _) S⟩
    · cases ef
  · split at ef
    · rename_i l hz
      cases ef
      obtain ⟨v, rfl, h1⟩ := va.one
      obtain ⟨p, vs, rfl, h2, r2⟩ := h1.lst S.sub
      rw [ints_rp r2 hz] at h2
      exact cr_sum (calm rfl) pins s σ H _ us Q I rs ⟨p, l, rfl, .of h2, Wants.data P (.int _) S⟩
    · cases ef
  · split at ef
    · rename_i l hz
      obtain ⟨m, hm, e⟩ := Option.map_eq_some_iff.mp ef
      subst e
      obtain ⟨v, rfl, h1⟩ := va.one
      obtain ⟨p, vs, rfl, h2, r2⟩ := h1.lst S.sub
      rw [ints_rp r2 hz] at h2
      exact cr_max (calm rfl) pins s σ H _ us Q I rs ⟨p, l, rfl, .of h2, max_pos hm, fun m' a b => by rw [max_is hm a b]; exact Wants.data P (.int _) S⟩
    · cases ef
  · split at ef
    · rename_i l hz
      obtain ⟨m, hm, e⟩ := Option.map_eq_some_iff.mp ef
      subst e
      obtain ⟨v, rfl, h1⟩ := va.one
      obtain ⟨p, vs, rfl, h2, r2⟩ := h1.lst S.sub
      rw [ints_rp r2 hz] at h2
      exact cr_min (calm rfl) pins s σ H _ us Q I rs ⟨p, l, rfl, .of h2, min_pos hm, fun m' a b => by rw [min_is hm a b]; exact Wants.data P (.int _) S⟩
    · cases ef
  · split at ef
    · rename_i hp
      obtain ⟨t, ht, e⟩ := Option.map_eq_some_iff.mp ef
      subst e
      obtain ⟨v, rfl, h1⟩ := va.one
      obtain ⟨u, rfl, rv⟩ := vals1 rs
      exact call_reprX hK ok.sm ok.gd ok.un I rv (h1.rp S.sub) hp ht (Wants.data P (.str _) S)
    · cases ef
  · split at ef
    · rename_i l hz
      cases ef
      obtain ⟨v, rfl, h1⟩ := va.one
      obtain ⟨p, vs, rfl, h2, r2⟩ := h1.lst S.sub
      rw [ints_rp r2 hz] at h2
      refine cr_sortedI pins s σ H _ us Q I rs ⟨p, l, rfl, .inl (.inl h2), fun ns q hp hs hq => ?_⟩
      have e := sorted_one (hp.trans (sortI_perm l).symm) hs (sortI_sorted l)
      subst e
      exact Wants.fresh P S (Same.new hq) hq ⟨_, upd_same, rps_ints _⟩
    · cases ef
  · cases ef
end
end Mi
end
section
set_option maxHeartbeats 4000000
namespace Mi
open PySem PySem.Spec PyProof.Rows L2
section
variable {T : Tb} {W : WX} {X : Cx} {n : En} {σ : L2.St} {H0 H : Hp} {ρ : Env} {ts : List Tmp} {Q : VK}
/-! ### slices -/
def slcG (r : Rs) (lo hi : Option Int) (e : Env) : Out Rs := match r.see e with
  | some x => Out.of e (slcD x lo hi)
  | none => .no
def Slc (T : Tb) (W : WX) : V → Option Int → Option Int → Hp → VK → Prop := fun x lo hi H Q => ∃ σ n H0 ρ ts ra, ST T n H0 H σ ρ ((x, ra) :: ts) ∧ Post T W n σ ts (slcG ra lo hi ρ) (Wants T n σ ts Q)
theorem bnd_eq (k d : Nat) (o : Option Int) : bnd k d o = HT.sIx k d o := by
  cases o <;> rfl
theorem cut_rps {vs : List V} {xs : List D} (r : Rps T H vs xs) (lo hi : Option Int) : Rps T H (cutV vs lo hi) (cut xs lo hi) := by
  unfold cutV cut
  rw [bnd_eq, bnd_eq, r.length]
  exact (r.drop _).take _
theorem slR (ok : Ck T X) : SlR X (Slc T W) := by
  intro pins s σ H x v vl vu lo hi sl Q I rx hs pl pu h
  obtain ⟨σ', n, H0, ρ, ts, ra, S, P⟩ := h
  unfold slcG at P
  cases ea : ra.see ρ with
  | none => rw [ea] at P; exact P.elim
  | some a =>
    rw [ea] at P
    replace P : Post T W n σ' ts (Out.of ρ (slcD a lo hi)) (Wants T n σ' ts Q) := P
    have va := S.see ea
    replace S := S.drop
    have hK := ok.hK
    cases ef : slcD a lo hi with
    | none => rw [ef] at P; exact P.elim
    | some r =>
      rw [ef] at P
      have P : ∀ H0' H', Wants T n σ' ts Q r ρ H0' H' := P
      unfold slcD at ef
      split at ef
      · cases ef
        obtain ⟨p, vs, rfl, h1, r1⟩ := va.tup
        have h2 := h1
        rw [← hK] at h2
        refine sl_tupA pins s σ H _ v vl vu _ _ sl Q I rx hs pl pu ⟨p, vs, rfl, Same.sqT S.sub h2, fun e => ?_, fun _ c hc => Wants.newTup P S hc (cut_rps r1 _ _)⟩
        refine Wants.data P (.tup h1 ?_) S
        have z := cut_rps r1 lo hi
        unfold cutV at z
        rw [e.1, e.2, List.drop_zero, Nat.sub_zero, List.take_length] at z
        exact z
      · cases ef
        obtain ⟨p, vs, rfl, h1, r1⟩ := va.lst S.sub
        exact sl_list pins s σ H _ v vl vu _ _ sl Q I rx hs pl pu ⟨p, vs, rfl, .of h1, fun c hc => Wants.fresh P S (Same.new hc) hc ⟨_, upd_same, cut_rps r1 _ _⟩⟩
      · split at ef
        · rename_i hz
          cases ef
          have e1 := va.str
          subst e1
          refine sl_str pins s σ H _ v vl vu _ _ sl Q I rx hs pl pu ⟨_, rfl, by rw [str_len]; exact sz_of hz, ?_⟩
          have e : ∀ t : Tx, cutS ⟨t.toArray⟩ lo hi = ⟨(cut t lo hi).toArray⟩ := fun t => by
            unfold cutS cut
            rw [bnd_eq, bnd_eq, str_len]
          rw [e]
          exact Wants.data P (.str _) S
        · cases ef
      · cases ef
theorem po_part {e : Option Expr} {d : Env → Out (Option Int)} (h : PO X e (rdO T W d)) : PO X e (rdO T W d) := h
theorem po_no : PO X none (rdO T W fun e => .ok none e) := po_imp po_none fun σ H Q ⟨n, H0, ρ, ts, S, P⟩ => P H0 H S
theorem po_yes {a : Expr} {d : Env → Out Rs} (ha : PE X a (rd T W d)) : PO X (some a) (rdO T W fun e => (d e).bind fun r e1 => (partO e1 r).bind fun i e2 => .ok (some i) e2) := by
  refine po_imp (po_some ha) fun σ H Q ⟨n, H0, ρ, ts, S, P⟩ => ?_
  refine rd_mono (rd_one S P) fun v H1 ⟨H0', ρ', ra, S', P'⟩ => ?_
  cases ra with
  | d x =>
    cases x with
    | int i =>
      have r := S'.temp _ (List.mem_cons_self ..)
      have r : Rp T H0' v (.int i) := r
      cases r
      exact ⟨i, rfl, P' H0' H1 S'.drop⟩
    | _ => exact P'.elim
  | fr o => exact P'.elim
  | bo j => exact P'.elim
theorem pe_slc (ok : Ck T X) {a : Expr} {lo hi : Option Expr} {pos p2 : Pos} {d : Env → Out Rs} {dl dh : Env → Out (Option Int)} (ha : PE X a (rd T W d)) (hl : PO X lo (rdO T W dl)) (hh : PO X hi (rdO T W dh)) :
    PE X (.Subscript a (.Slice lo hi none p2) pos) (rd T W fun e => (d e).bind fun ra e1 => (dl e1).bind fun l e2 => (dh e2).bind fun h e3 => slcG ra l h e3) := by
  refine pe_imp (pe_slice (slR (W := W) ok) ha hl hh) fun σ H Q ⟨n, H0, ρ, ts, S, P⟩ => ?_
  refine rd_mono (rd_one S P) fun v H1 ⟨H0', ρ', ra, S', P'⟩ => ?_
  refine ⟨n, H0', ρ', (v, ra) :: ts, S', ?_⟩
  cases el : dl ρ' with
  | no => rw [el] at P'; exact P'.elim
  | ex x e => rw [el] at P'; exact fun dd h0 h1 s => P' dd h0 h1 s.drop
  | ok l e2 =>
    rw [el] at P'
    intro H0'' H2 S2
    refine ⟨n, H0'', e2, (v, ra) :: ts, S2, ?_⟩
    have P' : Post T W n σ ts ((dh e2).bind fun h e3 => slcG ra l h e3) (Wants T n σ ts Q) := P'
    cases eh : dh e2 with
    | no => rw [eh] at P'; exact P'.elim
    | ex x e => rw [eh] at P'; exact fun dd h0 h1 s => P' dd h0 h1 s.drop
    | ok h e3 =>
      rw [eh] at P'
      exact fun H03 H3 S3 => ⟨σ, n, H03, e3, ts, ra, S3, P'⟩
/-! ### attributes -/
/-- what the classes' places have: the names that no class of it has -/
structure ClsOk (T : Tb) (G : Gs) : Prop where
  cls : ∀ c f, G.free c f = true → Cls T.K (T.cA c)
  att : ∀ c f, G.free c f = true → NoAttr T.K (T.cA c) (T.an f)
theorem pe_fldG (ok : Ck T X) {G : Gs} (hc : ClsOk T G) {o : Expr} {f : Nat} {pos : Pos} {d : Env → Out Rs} (ho : PE X o (rd T W d)) (hb : attributeBase o (T.an f) X.env (eval o X.env) = eval o X.env) :
    PE X (.Attribute o (T.an f) pos) (rd T W fun e => (d e).bind fun ro e1 => sees1 (fldD G f) ro e1) := by
  refine pe_imp (pe_fld ho hb) fun σ H Q h => ?_
  refine rd_mono (rd_seeOne h) fun x H1 q => ?_
  obtain ⟨σ', n, H0, ρ, ts, b, r, S, va, ef, P⟩ := q.sees
  unfold fldD at ef
  split at ef
  · split at ef
    · rename_i c fs hf
      obtain ⟨y, hy, e⟩ := Option.map_eq_some_iff.mp ef
      subst e
      obtain ⟨p, dx, vs, rfl, h1, r1⟩ := va.ins S.sub
      obtain ⟨w, hw, rw'⟩ := r1.look hy
      rw [ok.hK]
      exact ⟨p, _, dx, vs, w, rfl, h1, hc.cls c f hf, hc.att c f hf, hw, Wants.data P rw' S⟩
    · cases ef
  · cases ef
end
end Mi
end
section
set_option maxHeartbeats 4000000
namespace Mi
open PySem PySem.Spec PyProof.Rows L2
section
variable {T : Tb} {W : WX} {X : Cx} {n : En} {σ : L2.St} {H0 H : Hp} {ρ : Env} {ts : List Tmp} {Q : VK}
def frz : Rs → Rs
  | .fr o => .d o.d
  | r => r
theorem ST.holdFr : ∀ {rs : List Rs} {vs : List V} {H0 : Hp} {ts : List Tmp}, vs.length = rs.length → ST T n H0 H σ ρ (vs.zip rs ++ ts) → ∃ H0', ST T n H0' H σ ρ (vs.zip (rs.map frz) ++ ts)
  | [], [], H0, _, _, S => ⟨H0, S⟩
  | [], _ :: _, _, _, e, _ => by cases e
  | _ :: _, [], _, _, e, _ => by cases e
  | r :: rs, v :: vs, H0, ts, e, S => by
    have S1 : ∃ H0', ST T n H0' H σ ρ ((v, frz r) :: (vs.zip rs ++ ts)) := by
      cases r with
      | d x => exact ⟨H0, S⟩
      | bo i => exact ⟨H0, S⟩
      | fr o => exact ST.hold (ts := vs.zip rs ++ ts) S
    obtain ⟨H1, S1⟩ := S1
    have S2 : ST T n H1 H σ ρ (vs.zip rs ++ ((v, frz r) :: ts)) := S1.perm List.perm_middle.symm
    obtain ⟨H2, S3⟩ := ST.holdFr (by simpa using e) S2
    exact ⟨H2, S3.perm List.perm_middle⟩
theorem passS_frz (e : Env) (r : Rs) : passS e (frz r) = passS e r := by cases r <;> rfl
/-- what was lent, by places -/
def pasOf : Nat → List V → List Sl → List (Nat × Addr)
  | k, .ref p :: vs, .pa _ :: ls => (k, p) :: pasOf (k + 1) vs ls
  | k, _ :: vs, _ :: ls => pasOf (k + 1) vs ls
  | _, _, _ => []
theorem pasOf_mem : ∀ {vs : List V} {ls : List Sl} {k j : Nat} {p : Addr}, (j, p) ∈ pasOf k vs ls → k ≤ j ∧ vs[j - k]? = some (.ref p) ∧ ∃ o, ls[j - k]? = some (.pa o)
  | [], _, _, _, _, h => by simp [pasOf] at h
  | _ :: _, [], _, _, _, h => by simp [pasOf] at h
  | v :: vs, s :: ls, k, j, p, h => by
    have go : (j, p) ∈ pasOf (k + 1) vs ls → k ≤ j ∧ (v :: vs)[j - k]? = some (.ref p) ∧ ∃ o, (s :: ls)[j - k]? = some (.pa o) := fun h => by
      obtain ⟨a, b, c⟩ := pasOf_mem h
      have e : j - k = (j - (k + 1)) + 1 := by omega
      rw [e]
      exact ⟨by omega, by simpa using b, by simpa using c⟩
    unfold pasOf at h
    split at h
    · rename_i p' vs' o ls' e1 e2
      cases e1
      cases e2
      rcases List.mem_cons.mp h with h | h
      · cases h
        simp
      · exact go h
    · rename_i e1 e2
      cases e1
      cases e2
      exact go h
    · rename_i e3
      exact (e3 _ _ _ _ rfl rfl).elim
theorem pasOf_get : ∀ {vs : List V} {ls : List Sl} {k j : Nat} {p : Addr} {o : Ob}, vs[j]? = some (.ref p) → ls[j]? = some (.pa o) → (k + j, p) ∈ pasOf k vs ls
  | [], _, _, _, _, _, h, _ => by simp at h
  | _ :: _, [], _, _, _, _, _, h => by simp at h
  | v :: vs, s :: ls, k, 0, p, o, h1, h2 => by
    simp at h1 h2
    subst h1 h2
    simp [pasOf]
  | v :: vs, s :: ls, k, j + 1, p, o, h1, h2 => by
    have z := pasOf_get (k := k + 1) (j := j) (by simpa using h1) (by simpa using h2)
    have e : k + 1 + j = k + (j + 1) := by omega
    rw [e] at z
    unfold pasOf
    split
    · rename_i e1 e2
      cases e1
      cases e2
      exact List.mem_cons_of_mem _ z
    · rename_i e1 e2
      cases e1
      cases e2
      exact z
    · rename_i e3
      exact (e3 _ _ _ _ rfl rfl).elim
/-- the answers of passAll, one by one -/
theorem passAll_get {e : Env} : ∀ {rs : List Rs} {ls : List Sl}, passAll e rs = some ls → ls.length = rs.length ∧ ∀ (j : Nat) (s : Sl), ls[j]? = some s → ∃ r, rs[j]? = some r ∧ passS e r = some s
  | [], _, h => by cases h; exact ⟨rfl, fun j s h => by simp at h⟩
  | r :: rs, ls, h => by
    unfold passAll at h
    cases e1 : passS e r with
    | none => rw [e1] at h; cases h
    | some s =>
      rw [e1] at h
      have h : (match passAll e rs with
        | some l => some (s :: l)
        | none => none) = some ls := h
      cases e2 : passAll e rs with
      | none => rw [e2] at h; cases h
      | some l =>
        rw [e2] at h
        cases h
        obtain ⟨a, b⟩ := passAll_get e2
        refine ⟨by simp [a], fun j s' hj => ?_⟩
        cases j with
        | zero => simp at hj; subst hj; exact ⟨r, rfl, e1⟩
        | succ j => obtain ⟨r', h1, h2⟩ := b j s' (by simpa using hj); exact ⟨r', by simpa using h1, h2⟩
theorem lent_mem : ∀ {rs : List Rs} {i : Nat}, i ∈ lent rs ↔ Rs.bo i ∈ rs
  | [], i => by simp [lent]
  | r :: rs, i => by
    cases r with
    | d x => simp [lent, lent_mem (rs := rs)]
    | fr x => simp [lent, lent_mem (rs := rs)]
    | bo k => simp [lent, lent_mem (rs := rs)]
theorem noTwice_get : ∀ {rs : List Rs}, noTwice (lent rs) = true → ∀ (j k i : Nat), rs[j]? = some (.bo i) → rs[k]? = some (.bo i) → j = k
  | [], _, j, _, _, h, _ => by simp at h
  | r :: rs, h, j, k, i, hj, hk => by
    have step : ∀ {r' : Rs}, r = r' → noTwice (lent rs) = true ∧ ((∃ m, r' = .bo m) → ∀ m, r' = .bo m → m ∉ lent rs) := fun {r'} e => by
      subst e
      cases r with
      | d x => exact ⟨h, fun ⟨m, z⟩ => nomatch z⟩
      | fr x => exact ⟨h, fun ⟨m, z⟩ => nomatch z⟩
      | bo m =>
        have h : (!(lent rs).contains m && noTwice (lent rs)) = true := h
        rw [Bool.and_eq_true] at h
        refine ⟨h.2, fun _ m' z => ?_⟩
        cases z
        intro z
        have h1 := h.1
        rw [List.contains_iff_mem.mpr z] at h1
        cases h1
    cases j with
    | zero =>
      simp at hj
      obtain ⟨h1, h2⟩ := step hj
      cases k with
      | zero => rfl
      | succ k =>
        have : i ∈ lent rs := lent_mem.mpr (List.mem_of_getElem? (by simpa using hk))
        exact absurd this (h2 ⟨i, rfl⟩ i rfl)
    | succ j =>
      cases k with
      | zero =>
        simp at hk
        obtain ⟨h1, h2⟩ := step hk
        have : i ∈ lent rs := lent_mem.mpr (List.mem_of_getElem? (by simpa using hj))
        exact absurd this (h2 ⟨i, rfl⟩ i rfl)
      | succ k =>
        have z := noTwice_get (step rfl).1 j k i (by simpa using hj) (by simpa using hk)
        omega
/-- the callee's entry -/
theorem ST.lend {rs : List Rs} {vs : List V} {ls : List Sl} (hl : vs.length = rs.length) (S : ST T n H0 H σ ρ (vs.zip (rs.map frz) ++ ts)) (hp : passAll ρ rs = some ls) (ht : noTwice (lent rs) = true) :
    ST T ⟨H, H0, pasOf 0 vs ls⟩ H0 H (vs.map some) ls [] := by
  obtain ⟨l1, g⟩ := passAll_get hp
  have at_ : ∀ (j : Nat) (s : Sl), ls[j]? = some s → ∃ v r, vs[j]? = some v ∧ rs[j]? = some r ∧ passS ρ r = some s ∧ (v, frz r) ∈ vs.zip (rs.map frz) := fun j s h => by
    obtain ⟨r, h1, h2⟩ := g j s h
    have hj : j < vs.length := by rw [hl]; exact lt_of_get h1
    refine ⟨vs[j], r, List.getElem?_eq_getElem hj, h1, h2, ?_⟩
    apply List.mem_of_getElem? (i := j)
    rw [List.getElem?_zip_eq_some]
    exact ⟨List.getElem?_eq_getElem hj, by rw [List.getElem?_map, h1]; rfl⟩
  have slot : ∀ (j : Nat) (s : Sl), ls[j]? = some s → ∃ v, vs[j]? = some v ∧ ((∃ d, s = .sh d ∧ Rp T H0 v d) ∨ ∃ o p i, s = .pa o ∧ v = .ref p ∧ H0 p = none ∧ ObR T H0 H p o ∧ OwnAt σ ρ i p ∧ rs[j]? = some (.bo i)) := fun j s h => by
    obtain ⟨v, r, h1, h2, h3, h4⟩ := at_ j s h
    refine ⟨v, h1, ?_⟩
    have q := S.temp _ (List.mem_append_left ts h4)
    cases r with
    | d x => cases h3; exact .inl ⟨_, rfl, q⟩
    | fr o => cases h3; exact .inl ⟨_, rfl, q⟩
    | bo i =>
      obtain ⟨a, t, b, _⟩ := q
      have a : σ[i]? = some (some v) := a
      have h3 : (match ρ[i]? with
        | some (.sh x) => some (Sl.sh x)
        | some (.ow o) => some (.pa o)
        | some (.pa o) => some (.pa o)
        | _ => none) = some s := h3
      rw [b] at h3
      obtain ⟨y, hy, w⟩ := S.slot i t b
      rw [a] at hy
      cases hy
      cases t with
      | un => cases h3
      | xc _ => cases h3
      | sh d => cases h3; obtain ⟨u, e, z⟩ := w; cases e; exact .inl ⟨_, rfl, z⟩
      | ow o => cases h3; obtain ⟨p, e, _, c, z⟩ := w; cases e; exact .inr ⟨o, p, i, rfl, rfl, c, z, ⟨a, _, b, rfl⟩, h2⟩
      | pa o => cases h3; obtain ⟨p, e, _, c, z⟩ := w; cases e; exact .inr ⟨o, p, i, rfl, rfl, c, z, ⟨a, _, b, rfl⟩, h2⟩
  have own : ∀ {j p}, OwnAt (vs.map some) ls j p → ∃ i, OwnAt σ ρ i p ∧ rs[j]? = some (.bo i) := fun {j p} ⟨a, s, b, c⟩ => by
    obtain ⟨v, h1, h2⟩ := slot j s b
    rw [List.getElem?_map, h1] at a
    cases a
    rcases h2 with ⟨d, rfl, _⟩ | ⟨o, p', i, rfl, e, _, _, w, z⟩
    · cases c
    · cases e
      exact ⟨i, w, z⟩
  exact {
    sub := S.sub
    s0 := Same.refl _
    len := by rw [List.length_map, hl, l1]
    slot := fun j s h => by
      obtain ⟨v, h1, h2⟩ := slot j s h
      refine ⟨some v, by rw [List.getElem?_map, h1]; rfl, ?_⟩
      rcases h2 with ⟨d, rfl, r⟩ | ⟨o, p, i, rfl, rfl, c, z, _⟩
      · exact ⟨v, rfl, r⟩
      · refine ⟨p, rfl, ?_, c, z⟩
        have q := pasOf_get (k := 0) h1 h
        rwa [Nat.zero_add] at q
    temp := fun t h => by simp at h
    dist := fun j k p h1 h2 => by
      obtain ⟨i, a, b⟩ := own h1
      obtain ⟨i', a', b'⟩ := own h2
      have e := S.dist i i' p a a'
      subst e
      exact noTwice_get ht j k i b b'
    dtt := by simp [tmpL]
    dts := fun p h => by simp [tmpL] at h
    pak := fun q h => by
      obtain ⟨j, p⟩ := q
      obtain ⟨a, b, o, c⟩ := pasOf_mem h
      exact ⟨by rw [List.getElem?_map, show (vs[j]? = _) from b]; rfl, o, c⟩
    keep := fun b o h _ => h
    dom := fun b o h => ⟨o, h⟩
    new := fun b o h => .inl ⟨o, h⟩ }
/-- what an own slot has, told by the entry -/
theorem ST.own_slot (S : ST T n H0 H σ ρ ts) {i : Nat} {p : Addr} (h : OwnAt σ ρ i p) : ∃ o, (ρ[i]? = some (.ow o) ∨ ρ[i]? = some (.pa o)) ∧ ObR T H0 H p o ∧ H0 p = none := by
  obtain ⟨a, s, b, c⟩ := h
  obtain ⟨x, hx, q⟩ := S.slot i s b
  rw [a] at hx
  cases hx
  cases s with
  | un => cases c
  | xc _ => cases c
  | sh d => cases c
  | ow o => obtain ⟨p', e, _, h0, r⟩ := q; cases e; exact ⟨o, .inl b, r, h0⟩
  | pa o => obtain ⟨p', e, _, h0, r⟩ := q; cases e; exact ⟨o, .inr b, r, h0⟩
/-- of one kind, with another object at most -/
def Kin (s s' : Sl) : Prop := s' = s ∨ (∃ o o', s = .ow o ∧ s' = .ow o') ∨ ∃ o o', s = .pa o ∧ s' = .pa o'
theorem Kin.refl (s : Sl) : Kin s s := .inl rfl
theorem Kin.trans {a b c : Sl} (h : Kin a b) (k : Kin b c) : Kin a c := by
  rcases h with rfl | ⟨o, o', rfl, rfl⟩ | ⟨o, o', rfl, rfl⟩
  · exact k
  · rcases k with rfl | ⟨p, p', e, rfl⟩ | ⟨p, p', e, rfl⟩
    · exact .inr (.inl ⟨_, _, rfl, rfl⟩)
    · exact .inr (.inl ⟨_, _, rfl, rfl⟩)
    · cases e
  · rcases k with rfl | ⟨p, p', e, rfl⟩ | ⟨p, p', e, rfl⟩
    · exact .inr (.inr ⟨_, _, rfl, rfl⟩)
    · cases e
    · exact .inr (.inr ⟨_, _, rfl, rfl⟩)
theorem Kin.own {s s' : Sl} (h : Kin s s') : isOwn s' = isOwn s := by
  rcases h with rfl | ⟨o, o', rfl, rfl⟩ | ⟨o, o', rfl, rfl⟩ <;> rfl
theorem Kin.un {s s' : Sl} (h : Kin s s') (k : s ≠ .un) : s' ≠ .un := by
  rcases h with rfl | ⟨o, o', rfl, rfl⟩ | ⟨o, o', rfl, rfl⟩
  · exact k
  · exact fun z => nomatch z
  · exact fun z => nomatch z
theorem backS_len (e : Env) (r : Rs) (s : Sl) : (backS e r s).length = e.length := by
  unfold backS
  split
  · split <;> simp
  · rfl
theorem backS_kin (e : Env) (r : Rs) (s : Sl) (i : Nat) {t : Sl} (h : e[i]? = some t) : ∃ t', (backS e r s)[i]? = some t' ∧ Kin t t' := by
  unfold backS
  split
  · rename_i k o
    split
    · rename_i o' hk
      by_cases z : k = i
      · subst z
        rw [hk] at h
        cases h
        exact ⟨_, get_set_same (lt_of_get hk), .inr (.inl ⟨_, _, rfl, rfl⟩)⟩
      · exact ⟨t, by rw [get_set_ne z]; exact h, .refl _⟩
    · rename_i o' hk
      by_cases z : k = i
      · subst z
        rw [hk] at h
        cases h
        exact ⟨_, get_set_same (lt_of_get hk), .inr (.inr ⟨_, _, rfl, rfl⟩)⟩
      · exact ⟨t, by rw [get_set_ne z]; exact h, .refl _⟩
    · exact ⟨t, h, .refl _⟩
  · exact ⟨t, h, .refl _⟩
theorem backS_other (e : Env) (r : Rs) (s : Sl) (i : Nat) (h : r ≠ .bo i) : (backS e r s)[i]? = e[i]? := by
  unfold backS
  split
  · rename_i k o
    have z : k ≠ i := fun z => h (by rw [z])
    split
    · rw [get_set_ne z]
    · rw [get_set_ne z]
    · rfl
  · rfl
theorem backS_val (o : Ob) (i : Nat) (e : Env) : (backS e (.bo i) (.pa o))[i]? = (match e[i]? with
    | some (.ow _) => some (.ow o)
    | some (.pa _) => some (.pa o)
    | x => x) := by
  show (match e[i]? with
    | some (.ow _) => e.set i (.ow o)
    | some (.pa _) => e.set i (.pa o)
    | _ => e)[i]? = _
  cases z : e[i]? with
  | none => exact z
  | some t =>
    have hl := lt_of_get z
    cases t with
    | un => exact z
    | xc _ => exact z
    | sh d => exact z
    | ow o' => exact get_set_same hl
    | pa o' => exact get_set_same hl
theorem backS_at {e e' : Env} {i : Nat} {s : Sl} (h : e[i]? = e'[i]?) : (backS e (.bo i) s)[i]? = (backS e' (.bo i) s)[i]? := by
  cases s with
  | pa o => rw [backS_val, backS_val, h]
  | un => exact h
  | xc _ => exact h
  | sh d => exact h
  | ow o => exact h
theorem backAll_len : ∀ (rs : List Rs) (ls : List Sl) (e : Env), (backAll e rs ls).length = e.length
  | [], _, _ => by simp [backAll]
  | _ :: _, [], _ => by simp [backAll]
  | r :: rs, s :: ls, e => by simp [backAll, backAll_len rs ls, backS_len]
theorem backAll_kin : ∀ (rs : List Rs) (ls : List Sl) (e : Env) (i : Nat) {t : Sl}, e[i]? = some t → ∃ t', (backAll e rs ls)[i]? = some t' ∧ Kin t t'
  | [], _, _, _, t, h => ⟨t, by simpa [backAll] using h, .refl _⟩
  | _ :: _, [], _, _, t, h => ⟨t, by simpa [backAll] using h, .refl _⟩
  | r :: rs, s :: ls, e, i, t, h => by
    obtain ⟨t1, h1, k1⟩ := backS_kin e r s i h
    obtain ⟨t2, h2, k2⟩ := backAll_kin rs ls _ i h1
    exact ⟨t2, by simpa [backAll] using h2, k1.trans k2⟩
theorem backAll_out : ∀ (rs : List Rs) (ls : List Sl) (e : Env) (i : Nat), i ∉ lent rs → (backAll e rs ls)[i]? = e[i]?
  | [], _, _, _, _ => by simp [backAll]
  | _ :: _, [], _, _, _ => by simp [backAll]
  | r :: rs, s :: ls, e, i, h => by
    have h1 : r ≠ .bo i := fun z => h (lent_mem.mpr (by rw [z]; exact List.mem_cons_self ..))
    have h2 : i ∉ lent rs := fun z => h (lent_mem.mpr (List.mem_cons_of_mem _ (lent_mem.mp z)))
    show (backAll (backS e r s) rs ls)[i]? = _
    rw [backAll_out rs ls _ i h2, backS_other e r s i h1]
theorem noTwice_tail {r : Rs} {rs : List Rs} (h : noTwice (lent (r :: rs)) = true) : noTwice (lent rs) = true ∧ ∀ i, r = .bo i → i ∉ lent rs := by
  cases r with
  | d x => exact ⟨h, fun i z => nomatch z⟩
  | fr x => exact ⟨h, fun i z => nomatch z⟩
  | bo m =>
    have h : (!(lent rs).contains m && noTwice (lent rs)) = true := h
    rw [Bool.and_eq_true] at h
    refine ⟨h.2, fun i z w => ?_⟩
    cases z
    have h1 := h.1
    rw [List.contains_iff_mem.mpr w] at h1
    cases h1
theorem backAll_in : ∀ (rs : List Rs) (ls : List Sl) (e : Env) (j i : Nat) (s : Sl), noTwice (lent rs) = true → rs[j]? = some (.bo i) → ls[j]? = some s → (backAll e rs ls)[i]? = (backS e (.bo i) s)[i]?
  | [], _, _, j, _, _, _, h, _ => by simp at h
  | _ :: _, [], _, j, _, _, _, _, h => by simp at h
  | r :: rs, s0 :: ls, e, 0, i, s, ht, h1, h2 => by
    simp at h1 h2
    subst h1 h2
    obtain ⟨_, z⟩ := noTwice_tail ht
    show (backAll (backS e (.bo i) s0) rs ls)[i]? = _
    rw [backAll_out rs ls _ i (z i rfl)]
  | r :: rs, s0 :: ls, e, j + 1, i, s, ht, h1, h2 => by
    obtain ⟨a, z⟩ := noTwice_tail ht
    have h1' : rs[j]? = some (.bo i) := by simpa using h1
    have ne : r ≠ .bo i := fun w => z i w (lent_mem.mpr (List.mem_of_getElem? h1'))
    show (backAll (backS e r s0) rs ls)[i]? = _
    rw [backAll_in rs ls _ j i s a h1' (by simpa using h2)]
    exact backS_at (backS_other e r s0 i ne)
/-- behind a call: the caller's state -/
theorem ST.back {rs : List Rs} {vs : List V} {ls ls' : List Sl} {H0' H' : Hp} {us : List Tmp} (hl : vs.length = rs.length) (S : ST T n H0 H σ ρ (vs.zip (rs.map frz) ++ ts)) (hp : passAll ρ rs = some ls) (ht : noTwice (lent rs) = true)
    (C : ST T ⟨H, H0, pasOf 0 vs ls⟩ H0' H' (vs.map some) ls' us) : ST T n H0' H' σ (backAll ρ rs ls') ts := by
  obtain ⟨l1, g⟩ := passAll_get hp
  have S1 := S.dropA
  -- a lent object belongs to a slot that is lent
  have lentAt : ∀ {j p}, (j, p) ∈ pasOf 0 vs ls → ∃ i, OwnAt σ ρ i p ∧ rs[j]? = some (.bo i) := fun {j p} h => by
    obtain ⟨_, hv, o, ho⟩ := pasOf_mem h
    have hv : vs[j]? = some (.ref p) := hv
    have ho : ls[j]? = some (.pa o) := ho
    obtain ⟨r, h1, h2⟩ := g j _ ho
    cases r with
    | d x => cases h2
    | fr x => cases h2
    | bo i =>
      have q := S.temp (.ref p, .bo i) (List.mem_append_left ts (List.mem_of_getElem? (i := j) (by
        rw [List.getElem?_zip_eq_some]
        exact ⟨hv, by rw [List.getElem?_map, h1]; rfl⟩)))
      obtain ⟨a, t, b, _⟩ := q
      refine ⟨i, ⟨a, t, b, ?_⟩, h1⟩
      have h2 : (match ρ[i]? with
        | some (.sh x) => some (Sl.sh x)
        | some (.ow o) => some (.pa o)
        | some (.pa o) => some (.pa o)
        | _ => none) = some (.pa o) := h2
      rw [b] at h2
      cases t with
      | un => cases h2
      | xc _ => cases h2
      | sh d => cases h2
      | ow o => rfl
      | pa o => rfl
  have keepC : ∀ {p u}, H p = some u → (∀ i, OwnAt σ ρ i p → i ∉ lent rs) → H' p = some u := fun {p u} h k => by
    refine C.keep p u h fun m => ?_
    obtain ⟨q, hq, e⟩ := List.mem_map.mp m
    obtain ⟨j, p'⟩ := q
    have e : p' = p := e
    subst e
    obtain ⟨i, a, b⟩ := lentAt hq
    exact k i a (lent_mem.mpr (List.mem_of_getElem? b))
  have freeC : ∀ {p u}, H p = some u → H0 p = none → H0' p = none := fun {p u} h h0 => by
    cases e : H0' p with
    | none => rfl
    | some o =>
      rcases C.new p o e with ⟨o', z⟩ | z
      · have z : H0 p = some o' := z
        rw [h0] at z
        cases z
      · have z : H p = none := z
        rw [h] at z
        cases z
  have kin : ∀ {i : Nat} {s : Sl}, (backAll ρ rs ls')[i]? = some s → ∃ t : Sl, ρ[i]? = some t ∧ Kin t s := fun {i s} h => by
    cases e : ρ[i]? with
    | none =>
      have z1 := lt_of_get h
      rw [backAll_len] at z1
      have z2 := List.getElem?_eq_none_iff.mp e
      omega
    | some t =>
      obtain ⟨t', a, b⟩ := backAll_kin rs ls' ρ i e
      rw [a] at h
      cases h
      exact ⟨t, rfl, b⟩
  have ownB : ∀ {i : Nat} {p : Addr}, OwnAt σ (backAll ρ rs ls') i p → OwnAt σ ρ i p := fun {i p} ⟨a, s, b, c⟩ => by
    obtain ⟨t, h1, h2⟩ := kin b
    exact ⟨a, t, h1, by rw [← h2.own]; exact c⟩
  exact {
    sub := C.sub
    s0 := Same.trans S.s0 C.s0
    len := by rw [backAll_len]; exact S.len
    slot := fun i s hs => by
      obtain ⟨t, h1, h2⟩ := kin hs
      obtain ⟨x, hx, q⟩ := S.slot i t h1
      refine ⟨x, hx, ?_⟩
      by_cases hi : i ∈ lent rs
      · obtain ⟨j, hj⟩ := List.getElem?_of_mem (lent_mem.mp hi)
        have jl : j < ls'.length := by
          have := C.len
          rw [List.length_map, hl] at this
          rw [← this]
          exact lt_of_get hj
        have e := backAll_in rs ls' ρ j i _ ht hj (List.getElem?_eq_getElem jl)
        rw [hs] at e
        -- the value at the callee's slot j
        have hv : ∃ v, vs[j]? = some v ∧ σ[i]? = some (some v) := by
          have jv : j < vs.length := by rw [hl]; exact lt_of_get hj
          refine ⟨vs[j], List.getElem?_eq_getElem jv, ?_⟩
          exact (S.temp (vs[j], .bo i) (List.mem_append_left ts (List.mem_of_getElem? (i := j) (by
            rw [List.getElem?_zip_eq_some]
            exact ⟨List.getElem?_eq_getElem jv, by rw [List.getElem?_map, hj]; rfl⟩)))).1
        obtain ⟨v, hv1, hv2⟩ := hv
        rw [hx] at hv2
        cases hv2
        cases t with
        | un =>
          rcases h2 with rfl | ⟨o, o', e1, _⟩ | ⟨o, o', e1, _⟩
          · trivial
          · cases e1
          · cases e1
        | xc y =>
          rcases h2 with rfl | ⟨o, o', e1, _⟩ | ⟨o, o', e1, _⟩
          · obtain ⟨a1, d1, h1, h2, h3⟩ := q; exact ⟨a1, d1, h1, h2, h3.mono C.s0⟩
          · cases e1
          · cases e1
        | sh d =>
          rcases h2 with rfl | ⟨o, o', e1, _⟩ | ⟨o, o', e1, _⟩
          · obtain ⟨w, a, b⟩ := q; exact ⟨w, a, b.mono C.s0⟩
          · cases e1
          · cases e1
        | ow o =>
          obtain ⟨p, a, b, c, d⟩ := q
          cases a
          obtain ⟨u, hu⟩ := d.there
          -- slot j was lent
          obtain ⟨s0, hs0⟩ : ∃ s0, ls[j]? = some s0 := by
            have : j < ls.length := by rw [l1]; exact lt_of_get hj
            exact ⟨_, List.getElem?_eq_getElem this⟩
          obtain ⟨r, hr1, hr2⟩ := g j s0 hs0
          rw [hj] at hr1
          cases hr1
          have hr2 : (match ρ[i]? with
            | some (.sh x) => some (Sl.sh x)
            | some (.ow o) => some (.pa o)
            | some (.pa o) => some (.pa o)
            | _ => none) = some s0 := hr2
          rw [h1] at hr2
          cases hr2
          have m := pasOf_get (k := 0) hv1 hs0
          rw [Nat.zero_add] at m
          obtain ⟨_, o', ho'⟩ := C.pak _ m
          have ho' : ls'[j]? = some (.pa o') := ho'
          obtain ⟨y, hy, w⟩ := C.slot j _ ho'
          rw [List.getElem?_map, hv1] at hy
          cases hy
          have eo : ls'[j] = .pa o' := Option.some.inj ((List.getElem?_eq_getElem jl).symm.trans ho')
          rw [eo] at e
          obtain ⟨p', a', _, c', d'⟩ := w
          cases a'
          have e : some s = (match ρ[i]? with
            | some (.ow _) => ρ.set i (.ow o')
            | some (.pa _) => ρ.set i (.pa o')
            | _ => ρ)[i]? := e
          rw [h1] at e
          have e : some s = (ρ.set i (.ow o'))[i]? := e
          rw [get_set_same (lt_of_get h1)] at e
          cases e
          exact ⟨p, rfl, b, c', d'⟩
        | pa o =>
          obtain ⟨p, a, b, c, d⟩ := q
          cases a
          obtain ⟨u, hu⟩ := d.there
          obtain ⟨s0, hs0⟩ : ∃ s0, ls[j]? = some s0 := by
            have : j < ls.length := by rw [l1]; exact lt_of_get hj
            exact ⟨_, List.getElem?_eq_getElem this⟩
          obtain ⟨r, hr1, hr2⟩ := g j s0 hs0
          rw [hj] at hr1
          cases hr1
          have hr2 : (match ρ[i]? with
            | some (.sh x) => some (Sl.sh x)
            | some (.ow o) => some (.pa o)
            | some (.pa o) => some (.pa o)
            | _ => none) = some s0 := hr2
          rw [h1] at hr2
          cases hr2
          have m := pasOf_get (k := 0) hv1 hs0
          rw [Nat.zero_add] at m
          obtain ⟨_, o', ho'⟩ := C.pak _ m
          have ho' : ls'[j]? = some (.pa o') := ho'
          obtain ⟨y, hy, w⟩ := C.slot j _ ho'
          rw [List.getElem?_map, hv1] at hy
          cases hy
          have eo : ls'[j] = .pa o' := Option.some.inj ((List.getElem?_eq_getElem jl).symm.trans ho')
          rw [eo] at e
          obtain ⟨p', a', _, c', d'⟩ := w
          cases a'
          have e : some s = (match ρ[i]? with
            | some (.ow _) => ρ.set i (.ow o')
            | some (.pa _) => ρ.set i (.pa o')
            | _ => ρ)[i]? := e
          rw [h1] at e
          have e : some s = (ρ.set i (.pa o'))[i]? := e
          rw [get_set_same (lt_of_get h1)] at e
          cases e
          exact ⟨p, rfl, b, c', d'⟩
      · rw [backAll_out rs ls' ρ i hi, h1] at hs
        cases hs
        cases s with
        | un => trivial
        | xc _ => obtain ⟨a1, d1, h1, h2, h3⟩ := q; exact ⟨a1, d1, h1, h2, h3.mono C.s0⟩
        | sh d => obtain ⟨w, a, b⟩ := q; exact ⟨w, a, b.mono C.s0⟩
        | ow o =>
          obtain ⟨p, a, b, c, d⟩ := q
          subst a
          obtain ⟨u, hu⟩ := d.there
          have k := keepC hu fun i' w z => hi (S.dist i' i p w ⟨hx, _, h1, rfl⟩ ▸ z)
          exact ⟨p, rfl, b, freeC hu c, d.move C.s0 (k.trans hu.symm)⟩
        | pa o =>
          obtain ⟨p, a, b, c, d⟩ := q
          subst a
          obtain ⟨u, hu⟩ := d.there
          have k := keepC hu fun i' w z => hi (S.dist i' i p w ⟨hx, _, h1, rfl⟩ ▸ z)
          exact ⟨p, rfl, b, freeC hu c, d.move C.s0 (k.trans hu.symm)⟩
    temp := fun t ht' => by
      have q := S1.temp t ht'
      obtain ⟨w, r⟩ := t
      cases r with
      | d x => exact Rp.mono C.s0 q
      | fr o =>
        obtain ⟨p, a, b, c, d⟩ := q
        have a' : w = .ref p := a
        subst a'
        obtain ⟨u, hu⟩ := d.there
        have k := keepC hu fun i' w' _ => S1.dts p (tmpL_mem ht') i' w'
        exact ⟨p, rfl, b, freeC hu c, d.move C.s0 (k.trans hu.symm)⟩
      | bo i =>
        obtain ⟨a, t, b, c⟩ := q
        obtain ⟨t', b', k⟩ := backAll_kin rs ls' ρ i b
        exact ⟨a, t', b', k.un c⟩
    dist := fun i j p h1 h2 => S.dist i j p (ownB h1) (ownB h2)
    dtt := S1.dtt
    dts := fun p hp i h => S1.dts p hp i (ownB h)
    pak := fun q hq => by
      obtain ⟨a, o, b⟩ := S.pak q hq
      obtain ⟨t', b', k⟩ := backAll_kin rs ls' ρ q.1 b
      refine ⟨a, ?_⟩
      rcases k with rfl | ⟨_, _, e, _⟩ | ⟨_, o', _, rfl⟩
      · exact ⟨o, b'⟩
      · cases e
      · exact ⟨o', b'⟩
    keep := fun b o h k => by
      refine keepC (S.keep b o h k) fun i w _ => ?_
      obtain ⟨a, s, c, d⟩ := w
      obtain ⟨x, hx, q⟩ := S.slot i s c
      rw [a] at hx
      cases hx
      cases s with
      | un => cases d
      | xc _ => cases d
      | sh y => cases d
      | ow y => obtain ⟨p, e, z, _⟩ := q; cases e; rw [h] at z; cases z
      | pa y => obtain ⟨p, e, z, _⟩ := q; cases e; exact k (List.mem_map.mpr ⟨_, z, rfl⟩)
    dom := fun b o h => by
      obtain ⟨o', z⟩ := S.dom b o h
      exact C.dom b o' z
    new := fun b o h => by
      rcases C.new b o h with ⟨o', z⟩ | z
      · exact S.new b o' z
      · exact .inr (S.entry_free z) }
end
end Mi
end
section
set_option maxHeartbeats 4000000
namespace Mi
open PySem PySem.Spec PyProof.Rows L2
section
variable {T : Tb} {W : WX} {X : Cx} {n : En} {σ : L2.St} {H0 H : Hp} {ρ : Env} {ts : List Tmp} {Q : VK}
/-- a new object is one more temporary -/
theorem ST.addF {p : Addr} {o : Ob} (S : ST T n H0 H σ ρ ts) (hs : n.Hs p = none) (h0 : H0 p = none) (r : ObR T H0 H p o) (ho : ∀ i, ¬ OwnAt σ ρ i p) (ht : p ∉ tmpL ts) : ST T n H0 H σ ρ ((.ref p, .fr o) :: ts) where
  sub := S.sub
  s0 := S.s0
  len := S.len
  slot := S.slot
  temp := fun t h => by
    rcases List.mem_cons.mp h with rfl | h
    · exact ⟨p, rfl, hs, h0, r⟩
    · exact S.temp t h
  dist := S.dist
  dtt := by
    rw [tmpL_cons_fr]
    exact List.nodup_cons.mpr ⟨ht, S.dtt⟩
  dts := fun q hq i h => by
    rw [tmpL_cons_fr] at hq
    rcases List.mem_cons.mp hq with rfl | hq
    · exact ho i h
    · exact S.dts q hq i h
  pak := S.pak
  keep := S.keep
  dom := S.dom
  new := S.new
theorem own_back {rs : List Rs} {ls : List Sl} {i : Nat} {p : Addr} (h : OwnAt σ (backAll ρ rs ls) i p) : OwnAt σ ρ i p := by
  obtain ⟨a, s, b, c⟩ := h
  cases e : ρ[i]? with
  | none =>
    have z1 := lt_of_get b
    rw [backAll_len] at z1
    have z2 := List.getElem?_eq_none_iff.mp e
    omega
  | some t =>
    obtain ⟨t', a', b'⟩ := backAll_kin rs ls ρ i e
    rw [a'] at b
    cases b
    exact ⟨a, t, e, by rw [← b'.own]; exact c⟩
/-- behind a call, with its result -/
theorem ST.backV {rs : List Rs} {vs : List V} {ls ls' : List Sl} {H0' H' : Hp} {v : V} {r : Rs} (hl : vs.length = rs.length) (S : ST T n H0 H σ ρ (vs.zip (rs.map frz) ++ ts)) (hp : passAll ρ rs = some ls) (ht : noTwice (lent rs) = true)
    (C : ST T ⟨H, H0, pasOf 0 vs ls⟩ H0' H' (vs.map some) ls' [(v, r)]) (nb : ∀ i, r ≠ .bo i) : ST T n H0' H' σ (backAll ρ rs ls') ((v, r) :: ts) := by
  have B := S.back hl hp ht C
  have q := C.temp (v, r) (List.mem_cons_self ..)
  cases r with
  | d x => exact B.addD q
  | bo i => exact (nb i rfl).elim
  | fr o =>
    obtain ⟨p, a, b, c, d⟩ := q
    have a : v = .ref p := a
    have b : H p = none := b
    subst a
    refine B.addF (S.entry_free b) c d (fun i w => ?_) fun w => ?_
    · obtain ⟨u, hu, _⟩ := S.own_there (own_back w)
      rw [b] at hu
      cases hu
    · obtain ⟨u, hu, _⟩ := S.dropA.tmp_there w
      rw [b] at hu
      cases hu
/-- what a def keeps, by what it is worth -/
def SpF (T : Tb) (np : Nat) (F : Env → Out Rs) : Sp := fun vs H Q E => vs.length = np ∧ ∃ H0 ls, ls.length = np ∧ (∀ s ∈ ls, (∃ d, s = .sh d) ∨ ∃ o, s = .pa o) ∧ ST T ⟨H, H0, pasOf 0 vs ls⟩ H0 H (vs.map some) ls [] ∧
  Post T (fun c dd _ H' => E c dd H') ⟨H, H0, pasOf 0 vs ls⟩ (vs.map some) [] (F ls) fun r ls' H0' H' => ∀ v, (∀ i, r ≠ .bo i) → ST T ⟨H, H0, pasOf 0 vs ls⟩ H0' H' (vs.map some) ls' [(v, r)] → Q v H'
theorem SpF.len {np : Nat} {F : Env → Out Rs} : ∀ vs H Q E, SpF T np F vs H Q E → vs.length = np := fun _ _ _ _ h => h.1
theorem passS_kind {e : Env} {r : Rs} {s : Sl} (h : passS e r = some s) : (∃ d, s = .sh d) ∨ ∃ o, s = .pa o := by
  cases r with
  | d x => cases h; exact .inl ⟨_, rfl⟩
  | fr o => cases h; exact .inl ⟨_, rfl⟩
  | bo i =>
    have h : (match e[i]? with
      | some (.sh x) => some (Sl.sh x)
      | some (.ow o) => some (.pa o)
      | some (.pa o) => some (.pa o)
      | _ => none) = some s := h
    split at h
    · cases h; exact .inl ⟨_, rfl⟩
    · cases h; exact .inr ⟨_, rfl⟩
    · cases h; exact .inr ⟨_, rfl⟩
    · cases h
/-- the arguments are handed over -/
theorem call_sp {G : Gs} {f np : Nat} {rs : List Rs} {vs : List V} (hn : ∀ l : List Sl, l.length ≠ np → G.fn f l = .no) (hl : vs.length = rs.length) (S : ST T n H0 H σ ρ (vs.zip rs ++ ts))
    (h : Post T W n σ ts (callS G f rs ρ) (Wants T n σ ts Q)) : SpF T np (G.fn f) vs H Q (WE W σ) := by
  unfold callS at h
  split at h
  · rename_i ht
    cases e : passAll ρ rs with
    | none => rw [e] at h; exact h.elim
    | some ls =>
      rw [e] at h
      obtain ⟨l1, g⟩ := passAll_get e
      obtain ⟨H0a, S1⟩ := S.holdFr hl
      have C := S1.lend hl e ht
      have h : Post T W n σ ts (match G.fn f ls with
        | .ok (.d x) l' => Out.ok (Rs.d x) (backAll ρ rs l')
        | .ok (.fr o) l' => .ok (.fr o) (backAll ρ rs l')
        | .ok (.bo _) _ => .no
        | .ex x l' => .ex x (backAll ρ rs l')
        | .no => .no) (Wants T n σ ts Q) := h
      have len : ls.length = np := by
        by_cases z : ls.length = np
        · exact z
        · rw [hn ls z] at h
          exact h.elim
      refine ⟨by rw [hl, ← l1]; exact len, H0a, ls, len, fun s hs => ?_, C, ?_⟩
      · obtain ⟨j, hj⟩ := List.getElem?_of_mem hs
        obtain ⟨r, _, z⟩ := g j s hj
        exact passS_kind z
      · cases ef : G.fn f ls with
        | no => rw [ef] at h; exact h.elim
        | ex x l' =>
          rw [ef] at h
          exact fun dd H0' H' C' xr => h dd H0' H' (S1.back hl e ht C') (xr.out fun p hp => S1.entry_free hp)
        | ok r l' =>
          rw [ef] at h
          cases r with
          | d x => exact fun H0' H' v nb C' => h H0' H' v (S1.backV hl e ht C' nb)
          | fr x => exact fun H0' H' v nb C' => h H0' H' v (S1.backV hl e ht C' nb)
          | bo i => exact h.elim
  · exact h.elim
/-- f(..) -/
theorem pe_callF {CX : CXT} {G : Gs} {f np k : Nat} {fa : Addr} {fd : FuncData} {ps : List Str} {x : Str} {p pos : Pos} {e : Expr} {es : List Expr} {d : Env → Out (List Rs)}
    (F : FnOk X.prog X.w X.K X.mg X.base CX k fa fd ps (SpF T np (G.fn f))) (hr : Room k X.A) (hg : Gl X x) (hm : X.mg x = some (.ref fa)) (hk : PySem.W.keepIn X.K (.ref fa) = true) (hb : Binds X.K fd ps []) (hx : ∀ σ, PassesAt CX X σ (WE W σ))
    (hn : ∀ l : List Sl, l.length ≠ np → G.fn f l = .no) (ha : PA X (e :: es) (rdA T W d)) (hdb : (x == ("__debug__" : Str)) = false) (he : starEach (e :: es) X.env = (false, eval e X.env) :: starEach es X.env) (hpl : (backTo pos (starEach es X.env)).any (·.1) = false) :
    PE X (.Call (.Name x p) (e :: es) [] pos) (rd T W fun e => (d e).bind fun rs e1 => callS G f rs e1) := by
  refine pe_imp (pe_callS (E := WE W) F hr hg hm hk hb hx ha hdb he hpl) fun σ H Q h => ?_
  obtain ⟨n, H0, ρ, ts, S, h⟩ := h
  obtain ⟨n', H0', ρ', ts', S', h'⟩ := rd_args S h
  refine ⟨n', H0', ρ', ts', S', ?_⟩
  revert h'
  cases d ρ' <;> first | exact fun z => z | skip
  intro h' H0'' H'' vs hl hS
  obtain ⟨H0b, ρb, rs, hl', S'', h''⟩ := h' H0'' H'' vs hl hS
  exact call_sp hn hl' S'' h''
end
end Mi
end
section
set_option maxHeartbeats 4000000
namespace Mi
open PySem PySem.Spec PyProof.Rows L2
/-! ### lists and tuples that are walked by enumerate, zip -/
inductive Bs where
  | lst (a : Addr) | tup (a : Addr)
def Bs.addr : Bs → Addr
  | .lst a => a
  | .tup a => a
def Bs.has (K : PySem.W.Frag) (H : Hp) (xs : List V) : Bs → Prop
  | .lst a => SqL K H a xs
  | .tup a => SqT K H a xs
def Bs.its (h : Heap) (its : Array Value) : Bs → Prop
  | .lst a => h.IsList a its
  | .tup a => h.IsTuple a its
def Bs.iter (h : Heap) (it : Addr) (i : Nat) : Bs → Prop
  | .lst a => h.IsListIter it a i
  | .tup a => h.IsTupleIter it a i
def Bs.obj : Bs → Obj
  | .lst a => { cls := .type "list_iterator", data := .fields #[.ref a, .int 0 0] }
  | .tup a => { cls := .type "tuple_iterator", data := .fields #[.ref a, .int 0 0] }
theorem Bs.draws {prog : Program} {w : World} {A : Around} (hh : A.handled = none) (b : Bs) (it : Addr) (hne : b.addr ≠ it) (items : Array Value) :
    Draws prog w A it [it, b.addr] items.size (fun i v => items[i]? = some v) (fun i h => b.iter h it i ∧ b.its h items) := by
  cases b with
  | lst a => exact Draws.list hh it a hne items
  | tup a => exact Draws.tuple hh it a hne items
theorem Bs.begins (b : Bs) (items : Array Value) : Begins (.ref b.addr) b.obj fun h => b.its h items := by
  cases b with
  | lst a => exact begins_list a items
  | tup a => exact begins_tuple a items
theorem Bs.fresh (b : Bs) {h : Heap} {it : Addr} (e : h.get? it = some b.obj) : b.iter h it 0 := by
  cases b with
  | lst a => exact ⟨_, e, rfl, rfl⟩
  | tup a => exact ⟨_, e, rfl, rfl⟩
theorem Bs.iter_obj {b : Bs} {h : Heap} {it : Addr} {i : Nat} (st : b.iter h it i) : ∃ o fs, h.get? it = some o ∧ o.data = .fields fs := by
  cases b with
  | lst a => obtain ⟨o, e, _, d⟩ := st; exact ⟨o, _, e, d⟩
  | tup a => obtain ⟨o, e, _, d⟩ := st; exact ⟨o, _, e, d⟩
theorem Bs.its_obj {b : Bs} {h : Heap} {its : Array Value} (st : b.its h its) : ∃ o n, h.get? b.addr = some o ∧ o.data = .seq its n := by
  cases b with
  | lst a => obtain ⟨o, e, _, n, d⟩ := st; exact ⟨o, n, e, d⟩
  | tup a => obtain ⟨o, e, _, n, d⟩ := st; exact ⟨o, n, e, d⟩
theorem Bs.iter_at {b : Bs} {h h' : Heap} {it : Addr} {i : Nat} (st : b.iter h it i) (k : ∀ o, h.get? it = some o → h'.get? it = some o) : b.iter h' it i := by
  cases b with
  | lst a => exact Heap.IsListIter.at st k
  | tup a => exact Heap.IsTupleIter.at st k
/-- what is walked is no record of fields -/
theorem Bs.ne_fields {b : Bs} {h : Heap} {its : Array Value} {e : Addr} {o : Obj} {fs : Array Value} (st : b.its h its) (he : h.get? e = some o) (hd : o.data = .fields fs) : e ≠ b.addr := fun z => by
  obtain ⟨o', n, e', d⟩ := Bs.its_obj st
  rw [← z, he] at e'
  cases e'
  rw [hd] at d
  cases d
section
variable {X : Cx} {pins : List (Addr × Obj)} {σ : L2.St} {H : Hp} {s : Shared}
theorem Bs.read {b : Bs} {xs : List V} (I : Inv X pins σ H s) (h : b.has X.K H xs) : ∃ its : List Value, Vals xs its ∧ b.its s.heap its.toArray := by
  cases b with
  | lst a => obtain ⟨its, rv, p, _⟩ := I.list h; exact ⟨its, rv, p.isList⟩
  | tup a => obtain ⟨its, rv, p, _⟩ := I.tuple h; exact ⟨its, rv, p⟩
theorem Bs.inj {b : Bs} {xs ys : List V} (I : Inv X pins σ H s) (h : b.has X.K H xs) (h' : b.has X.K H ys) : xs = ys := by
  cases b with
  | lst a => exact I.list_inj h h'
  | tup a => exact I.tuple_inj h h'
end
def ItE (K : PySem.W.Frag) (b : Bs) : L2.It :=
  ⟨fun i H => ∃ xs x, b.has K H xs ∧ xs[i]? = some x, fun i H v H' => ∃ Tp x, v = .ref Tp ∧ H Tp = none ∧ H' = upd H Tp (.tup [.int (i : Nat), x]) ∧ ∀ xs, b.has K H xs → xs[i]? = some x, fun i H => ∃ xs, b.has K H xs ∧ xs.length = i⟩
theorem turn_enumB {P : Program} {w : World} {K : PySem.W.Frag} {elts : List Expr} {kk : Nat} {tpos : Pos} (b : Bs) (e it : Addr) :
    Turn P w K (.Tuple elts kk tpos) (ItE K b) [e, it] e (fun i h => (∃ old, IsEnum h e it ((i : Nat) : Int) old) ∧ b.iter h it i ∧ e ≠ it) where
  mem := by simp
  obj := fun i h st c hb => by
    obtain ⟨⟨old, he⟩, hi, _⟩ := st
    obtain ⟨o, fs, ho, hd⟩ := Bs.iter_obj hi
    have e' : c = e ∨ c = it := by simpa using hb
    rcases e' with z | z
    · rw [z]; exact ⟨_, he, fun v q => nomatch q⟩
    · rw [z]; exact ⟨o, ho, fun v q => by rw [hd] at q; cases q⟩
  keep := fun i h h' st k => let ⟨⟨old, he⟩, hi, hne⟩ := st; ⟨⟨old, k e (by simp) _ he⟩, Bs.iter_at hi fun o q => k it (by simp) o q, hne⟩
  item := by
    intro X hP hw hK hc i pins s σ H E I hf st hg
    subst hP hw hK
    obtain ⟨⟨old, he⟩, hit, hne⟩ := st
    obtain ⟨xs, x, hq, hx⟩ := hg
    obtain ⟨its, rv, p⟩ := Bs.read I hq
    obtain ⟨u, hu, ru⟩ := rv.get hx
    obtain ⟨oi, fi, hoi, hdi⟩ := Bs.iter_obj hit
    have hel : e < s.heap.objs.size := Heap.lt_size he
    have hil : it < s.heap.objs.size := Heap.lt_size hoi
    have n1 : it ≠ b.addr := Bs.ne_fields p hoi hdi
    have n2 : e ≠ b.addr := Bs.ne_fields p he rfl
    have hu' : its.toArray[i]? = some u := by simpa using hu
    have hlt : i < its.toArray.size := by
      rcases Array.getElem?_eq_some_iff.mp hu' with ⟨a, _⟩
      exact a
    refine wpAny_pyNext_enum_itemD (b.draws (A := X.A.in1) (I.ok.hd hc) it (Ne.symm n1) its.toArray) he ⟨hit, p⟩ hlt hne (by simp [hne, n2]) fun u' h' tk hP ho hst' hT hsz hk => ?_
    have hP : its.toArray[i]? = some u' := hP
    rw [hu'] at hP
    cases hP
    refine ⟨_, rfl, wpAny_letOwnedTupleGo_enum (s := { s with heap := h', toks := tk + 1 }) ho fun h'' he' sb => ?_⟩
    have hT2 : h''.get? s.heap.objs.size = some { cls := .type "tuple", data := .seq #[.int i tk, u] } := (sb.2 _ (Nat.ne_of_gt hel)).trans hT
    have new : ObjOk X.prog X.w (upd H s.heap.objs.size (.tup [.int (i : Nat), x])) h'' s.heap.objs.size (.tup [.int (i : Nat), x]) :=
      ⟨by show 2 ≤ sizeLine; decide, [.int i tk, u], .cons ⟨_, rfl⟩ (.cons ru .nil), ⟨_, hT2, rfl, _, rfl⟩⟩
    have I1 : Inv X pins σ (upd H s.heap.objs.size (.tup [.int (i : Nat), x])) { s with heap := h'', toks := tk + 1 } :=
      I.turnedNew (ch := [e, it]) (fun c ob hb q => (sb.2 c (fun z => hb (by simp [z]))).trans (hk c ob (fun z => hb (by simp [z])) (fun z => hb (by simp [z])) q)) hf (Nat.le_refl _) new
    refine ⟨.ref s.heap.objs.size, _, I1, rfl, ⟨_, x, rfl, I.hok.fresh (Nat.le_refl _), rfl, fun ys hy => by rw [Bs.inj I hy hq]; exact hx⟩, ⟨⟨u, ?_⟩, Bs.iter_at hst'.1 fun o q => (sb.2 it (Ne.symm hne)).trans q, hne⟩, fun c hb => ?_⟩
    · have e1 : ((i + 1 : Nat) : Int) = (i : Int) + 1 := by omega
      rw [e1]; exact he'
    · have hb' : c < s.heap.objs.size := by
        have e' : c = e ∨ c = it := by simpa using hb
        rcases e' with z | z
        · rw [z]; exact hel
        · rw [z]; exact hil
      rw [upd_ne (Nat.ne_of_lt hb')]
      exact (hf c hb).1
  done := by
    intro X hP hw hK hc i pins s σ H E I hf st hg
    subst hP hw hK
    obtain ⟨⟨old, he⟩, hit, hne⟩ := st
    obtain ⟨xs, hq, hx⟩ := hg
    obtain ⟨its, rv, p⟩ := Bs.read I hq
    obtain ⟨oi, fi, hoi, hdi⟩ := Bs.iter_obj hit
    have n1 : it ≠ b.addr := Bs.ne_fields p hoi hdi
    obtain ⟨f0, f1, f2, f3, f4, f5⟩ := hf it (by simp)
    have hl := rv.length
    have e1 : i = its.toArray.size := by simp; omega
    refine wpAny_pyNext_enum_endD (n := its.toArray.size) (b.draws (A := X.A.in1) (I.ok.hd hc) it (Ne.symm n1) its.toArray) he ⟨by rw [← e1]; exact hit, p⟩ fun h' eb => ⟨rfl, I.turned (t' := s.toks) (fun c o hb q => eb c o hb q) f0 f1 f3 f4 f5⟩
  self := fun A i s Q E st h => let ⟨⟨_, he⟩, _⟩ := st; wpAny_pyIter_enum he h
/-- a pair of each turn -/
def ItZ (K : PySem.W.Frag) (a b : Bs) : L2.It :=
  ⟨fun i H => ∃ (xs ys : List V) (x y : V), a.has K H xs ∧ b.has K H ys ∧ xs[i]? = some x ∧ ys[i]? = some y,
    fun i H v H' => ∃ Tp x y, v = .ref Tp ∧ H Tp = none ∧ H' = upd H Tp (.tup [x, y]) ∧ (∀ xs, a.has K H xs → xs[i]? = some x) ∧ ∀ ys, b.has K H ys → ys[i]? = some y,
    fun i H => ∃ xs ys : List V, a.has K H xs ∧ b.has K H ys ∧ i ≤ xs.length ∧ i ≤ ys.length ∧ (i = xs.length ∨ i = ys.length)⟩
theorem turn_zipB {P : Program} {w : World} {K : PySem.W.Frag} {elts : List Expr} {kk : Nat} {tpos : Pos} {a b : Bs} {z TI TO i1 i2 : Addr} (D : ZipSep2 z TI TO i1 i2 [i1, a.addr] [i2, b.addr]) :
    Turn P w K (.Tuple elts kk tpos) (ItZ K a b) [z, TI, TO, i1, i2] z (fun i h => IsZip h z TI TO .none ∧ IsTupOf2 h TI (.ref i1) (.ref i2) ∧ (∃ x y, IsTupOf2 h TO x y) ∧ a.iter h i1 i ∧ b.iter h i2 i) where
  mem := by simp
  obj := fun i h st c hc => by
    obtain ⟨hz, hTI, ⟨x, y, hTO⟩, h1, h2⟩ := st
    obtain ⟨o1, f1, e1, d1⟩ := Bs.iter_obj h1
    obtain ⟨o2, f2, e2, d2⟩ := Bs.iter_obj h2
    have e' : c = z ∨ c = TI ∨ c = TO ∨ c = i1 ∨ c = i2 := by simpa using hc
    rcases e' with q | q | q | q | q
    · rw [q]; exact ⟨_, hz, fun v q => nomatch q⟩
    · rw [q]; exact ⟨_, hTI, fun v q => nomatch q⟩
    · rw [q]; exact ⟨_, hTO, fun v q => nomatch q⟩
    · rw [q]; exact ⟨o1, e1, fun v q => by rw [d1] at q; cases q⟩
    · rw [q]; exact ⟨o2, e2, fun v q => by rw [d2] at q; cases q⟩
  keep := fun i h h' st k => by
    obtain ⟨hz, hTI, ⟨x, y, hTO⟩, h1, h2⟩ := st
    exact ⟨k z (by simp) _ hz, k TI (by simp) _ hTI, ⟨x, y, k TO (by simp) _ hTO⟩, Bs.iter_at h1 fun o q => k i1 (by simp) o q, Bs.iter_at h2 fun o q => k i2 (by simp) o q⟩
  item := by
    intro X hP hw hK hc i pins s σ H E I hf st hg
    subst hP hw hK
    obtain ⟨hz, hTI, ⟨x0, y0, hTO⟩, h1, h2⟩ := st
    obtain ⟨xs, ys, x, y, hqx, hqy, hx, hy⟩ := hg
    obtain ⟨its, rv, p⟩ := Bs.read I hqx
    obtain ⟨its2, rv2, p2⟩ := Bs.read I hqy
    obtain ⟨u, hu, ru⟩ := rv.get hx
    obtain ⟨u2, hu2, ru2⟩ := rv2.get hy
    obtain ⟨o1, f1, e1, d1⟩ := Bs.iter_obj h1
    obtain ⟨o2, f2, e2, d2⟩ := Bs.iter_obj h2
    have hzl : z < s.heap.objs.size := Heap.lt_size hz
    have hu' : its.toArray[i]? = some u := by simpa using hu
    have hu2' : its2.toArray[i]? = some u2 := by simpa using hu2
    have l1 : i < its.toArray.size := by
      rcases Array.getElem?_eq_some_iff.mp hu' with ⟨a, _⟩
      exact a
    have l2 : i < its2.toArray.size := by
      rcases Array.getElem?_eq_some_iff.mp hu2' with ⟨a, _⟩
      exact a
    refine wpAny_pyNext_zipD2_item D (a.draws (A := X.A.in1) (I.ok.hd hc) i1 (Ne.symm (Bs.ne_fields p e1 d1)) its.toArray) (b.draws (A := X.A.in1) (I.ok.hd hc) i2 (Ne.symm (Bs.ne_fields p2 e2 d2)) its2.toArray) hz hTI hTO ⟨h1, p⟩ ⟨h2, p2⟩ l1 l2
      fun w1 w2 h' tk hP1 hP2 z' TO' h1' h2' hT hsz hk => ?_
    have hP1 : its.toArray[i]? = some w1 := hP1
    have hP2 : its2.toArray[i]? = some w2 := hP2
    rw [hu'] at hP1
    rw [hu2'] at hP2
    cases hP1
    cases hP2
    refine ⟨_, rfl, wpAny_letOwnedTupleGo_zip (s := { s with heap := h', toks := tk }) z' fun h'' z'' sb => ?_⟩
    have hT2 : h''.get? s.heap.objs.size = some { cls := .type "tuple", data := .seq #[u, u2] } := (sb.2 _ (Nat.ne_of_gt hzl)).trans hT
    have new : ObjOk X.prog X.w (upd H s.heap.objs.size (.tup [x, y])) h'' s.heap.objs.size (.tup [x, y]) :=
      ⟨by show 2 ≤ sizeLine; decide, [u, u2], .cons ru (.cons ru2 .nil), ⟨_, hT2, rfl, _, rfl⟩⟩
    have I1 : Inv X pins σ (upd H s.heap.objs.size (.tup [x, y])) { s with heap := h'', toks := tk } :=
      I.turnedNew (ch := [z, TI, TO, i1, i2]) (fun c o hb q => (sb.2 c (fun q' => hb (by simp [q']))).trans (hk c o (fun q' => hb (by simp [q'])) (fun q' => hb (by simp [q'])) (fun q' => hb (by simp [q'])) (fun q' => hb (by simp [q'])) q)) hf (Nat.le_refl _) new
    have i1z : i1 ≠ z := fun q => D.zf1 (by simp [q])
    have i2z : i2 ≠ z := fun q => D.zf2 (by simp [q])
    refine ⟨.ref s.heap.objs.size, _, I1, rfl, ⟨_, x, y, rfl, I.hok.fresh (Nat.le_refl _), rfl, fun l hl => by rw [Bs.inj I hl hqx]; exact hx, fun l hl => by rw [Bs.inj I hl hqy]; exact hy⟩, ⟨z'', ?_, ⟨u, u2, ?_⟩, ?_, ?_⟩, fun c hcm => ?_⟩
    · exact (sb.2 _ D.TIz).trans (hk _ _ D.TIz D.TITO D.TIi1 D.TIi2 hTI)
    · exact (sb.2 _ D.TOz).trans TO'
    · exact Bs.iter_at h1'.1 fun o q => (sb.2 _ i1z).trans q
    · exact Bs.iter_at h2'.1 fun o q => (sb.2 _ i2z).trans q
    · have hlt : c < s.heap.objs.size := by
        have e' : c = z ∨ c = TI ∨ c = TO ∨ c = i1 ∨ c = i2 := by simpa using hcm
        rcases e' with q | q | q | q | q
        · rw [q]; exact hzl
        · rw [q]; exact Heap.lt_size hTI
        · rw [q]; exact Heap.lt_size hTO
        · rw [q]; exact Heap.lt_size e1
        · rw [q]; exact Heap.lt_size e2
      rw [upd_ne (Nat.ne_of_lt hlt)]
      exact (hf c hcm).1
  done := by
    intro X hP hw hK hc i pins s σ H E I hf st hg
    subst hP hw hK
    obtain ⟨hz, hTI, ⟨x0, y0, hTO⟩, h1, h2⟩ := st
    obtain ⟨xs, ys, hqx, hqy, g1, g2, hend⟩ := hg
    obtain ⟨its, rv, p⟩ := Bs.read I hqx
    obtain ⟨its2, rv2, p2⟩ := Bs.read I hqy
    obtain ⟨o1, f1, e1, d1⟩ := Bs.iter_obj h1
    obtain ⟨o2, f2, e2, d2⟩ := Bs.iter_obj h2
    have l1 := rv.length
    have l2 := rv2.length
    have m1 : its.toArray.size = xs.length := by simp; omega
    have m2 : its2.toArray.size = ys.length := by simp; omega
    refine wpAny_pyNext_zipD2_end D (a.draws (A := X.A.in1) (I.ok.hd hc) i1 (Ne.symm (Bs.ne_fields p e1 d1)) its.toArray) (b.draws (A := X.A.in1) (I.ok.hd hc) i2 (Ne.symm (Bs.ne_fields p2 e2 d2)) its2.toArray) hz hTI hTO ⟨h1, p⟩ ⟨h2, p2⟩ (by omega) (by omega) (by omega)
      fun h' tk hk => ⟨rfl, I.turnedL (ch := [z, TI, TO, i1, i2]) (fun c o hb q => hk c o (fun q' => hb (by simp [q'])) (fun q' => hb (by simp [q'])) (fun q' => hb (by simp [q'])) (fun q' => hb (by simp [q'])) q) hf⟩
  self := fun A i s Q E st h => wpAny_pyIter_zip st.1 h
section
variable {X : Cx}
/-- enumerate(..) of a list, a tuple -/
def iEnumB (K : PySem.W.Frag) (te : TE) : TI := fun σ H R => te σ H fun v H1 => ∃ (b : Bs) (xs : List V), v = .ref b.addr ∧ b.has K H1 xs ∧ R (ItE K b) H1
theorem Bs.lt {b : Bs} {h : Heap} {its : Array Value} (st : b.its h its) : b.addr < h.objs.size := by
  obtain ⟨o, n, e, _⟩ := Bs.its_obj st
  exact Heap.lt_size e
end
end Mi
end
section
set_option maxHeartbeats 4000000
namespace Mi
open PySem PySem.Spec PyProof.Rows L2
section
variable {T : Tb} {W : WX} {X : Cx} {n : En} {σ : L2.St} {H0 H : Hp} {ρ : Env} {ts : List Tmp} {Q : VK}
/-! ### what a loop walks, by the data -/
structure Sw (T : Tb) (b : Bs) (u : Tmp) (s : Src) : Prop where
  has : ∀ {n : En} {H0 H : Hp} {σ : L2.St} {ρ : Env} {ts : List Tmp}, ST T n H0 H σ ρ ts → u ∈ ts → ((∃ k x, s.at_ k ρ = some x) ∨ s.fine ρ = true) →
    ∃ vs, b.has T.K H vs ∧ (∀ k x, s.at_ k ρ = some x → ∃ v, vs[k]? = some v ∧ Rp T H0 v x) ∧ (s.fine ρ = true → vs.length = s.len)
structure Walk (T : Tb) (J : L2.It) (us : List Tmp) (w : It) : Prop where
  go : ∀ {n : En} {H0 H : Hp} {σ : L2.St} {ρ : Env} {ts : List Tmp} {k : Nat} {x : D}, ST T n H0 H σ ρ ts → (∀ u ∈ us, u ∈ ts) → k < w.len → w.at_ k ρ = some x → J.go k H
  yld : ∀ {n : En} {H0 H H' : Hp} {σ : L2.St} {ρ : Env} {ts : List Tmp} {k : Nat} {x : D} {v : V}, ST T n H0 H σ ρ ts → (∀ u ∈ us, u ∈ ts) → k < w.len → w.at_ k ρ = some x → J.yld k H v H' → ∃ H0', ST T n H0' H' σ ρ ((v, .d x) :: ts)
  stop : ∀ {n : En} {H0 H : Hp} {σ : L2.St} {ρ : Env} {ts : List Tmp}, ST T n H0 H σ ρ ts → (∀ u ∈ us, u ∈ ts) → w.fine ρ = true → J.stop w.len H
def Bs.it (K : PySem.W.Frag) : Bs → L2.It
  | .lst a => Itl K a
  | .tup a => Itt K a
theorem Sw.snapL {p : Addr} {xs : List D} : Sw T (.lst p) (.ref p, .d (.lst xs)) (.snap xs) where
  has := fun S hu _ => by
    have r : Rp T _ (.ref p) (.lst xs) := S.temp _ hu
    cases r with
    | lst h r => exact ⟨_, .of (S.sub _ _ h), fun k x e => r.get e, fun _ => r.length⟩
theorem Sw.snapT {p : Addr} {xs : List D} : Sw T (.tup p) (.ref p, .d (.tup xs)) (.snap xs) where
  has := fun S hu _ => by
    have r : Rp T _ (.ref p) (.tup xs) := S.temp _ hu
    cases r with
    | tup h r => exact ⟨_, Same.sqT S.sub h, fun k x e => r.get e, fun _ => r.length⟩
theorem Sw.slot {p : Addr} {i m : Nat} : Sw T (.lst p) (.ref p, .bo i) (.slot i m) where
  has := fun {n H0 H σ ρ ts} S hu hv => by
    obtain ⟨a, s, b, c⟩ := S.temp _ hu
    have a : σ[i]? = some (some (.ref p)) := a
    -- the slot holds a list
    have hx : ∃ xs, obAt ρ i = some (.lst xs) := by
      cases e : obAt ρ i with
      | none =>
        rcases hv with ⟨k, x, z⟩ | z
        · have z : (match obAt ρ i with
            | some (.lst xs) => xs[k]?
            | _ => none) = some x := z
          rw [e] at z
          cases z
        · have z : (match obAt ρ i with
            | some (.lst xs) => xs.length == m
            | _ => false) = true := z
          rw [e] at z
          cases z
      | some o =>
        cases o with
        | lst xs => exact ⟨xs, rfl⟩
        | dic ks =>
          rcases hv with ⟨k, x, z⟩ | z
          · have z : (match obAt ρ i with
              | some (.lst xs) => xs[k]?
              | _ => none) = some x := z
            rw [e] at z
            cases z
          · have z : (match obAt ρ i with
              | some (.lst xs) => xs.length == m
              | _ => false) = true := z
            rw [e] at z
            cases z
        | ins q fs =>
          rcases hv with ⟨k, x, z⟩ | z
          · have z : (match obAt ρ i with
              | some (.lst xs) => xs[k]?
              | _ => none) = some x := z
            rw [e] at z
            cases z
          · have z : (match obAt ρ i with
              | some (.lst xs) => xs.length == m
              | _ => false) = true := z
            rw [e] at z
            cases z
    obtain ⟨xs, ex⟩ := hx
    have own : OwnAt σ ρ i p := by
      refine ⟨a, s, b, ?_⟩
      have ex : (match ρ[i]? with
        | some (.ow o) => some o
        | some (.pa o) => some o
        | _ => none) = some (Ob.lst xs) := ex
      rw [b] at ex
      cases s with
      | un => cases ex
      | xc _ => cases ex
      | sh d => cases ex
      | ow o => rfl
      | pa o => rfl
    obtain ⟨o, ho, r, h0⟩ := S.own_slot own
    have eo : o = .lst xs := by
      have ex : (match ρ[i]? with
        | some (.ow o) => some o
        | some (.pa o) => some o
        | _ => none) = some (Ob.lst xs) := ex
      rcases ho with ho | ho
      · rw [ho] at ex; exact Option.some.inj ex
      · rw [ho] at ex; exact Option.some.inj ex
    subst eo
    obtain ⟨vs, h1, h2⟩ := r
    refine ⟨vs, .of h1, fun k x e => ?_, fun e => ?_⟩
    · have e : (match obAt ρ i with
        | some (.lst xs) => xs[k]?
        | _ => none) = some x := e
      rw [ex] at e
      exact h2.get e
    · have e : (match obAt ρ i with
        | some (.lst xs) => xs.length == m
        | _ => false) = true := e
      rw [ex] at e
      rw [h2.length]
      exact eq_of_beq e
theorem src_walk {v : V} {r : Rs} {s : Src} (S : ST T n H0 H σ ρ ((v, r) :: ts)) (h : srcL ρ r = some s) : ∃ H0' u b, ST T n H0' H σ ρ (u :: ts) ∧ v = .ref (Bs.addr b) ∧ Sw T b u s ∧ ∀ i, u.2 = .bo i → i ∈ s.slots := by
  cases r with
  | d x =>
    cases x with
    | lst xs =>
      cases h
      have r : Rp T _ v (.lst xs) := S.temp _ (List.mem_cons_self ..)
      cases r with
      | lst h r => exact ⟨H0, _, .lst _, S, rfl, Sw.snapL, fun i e => nomatch e⟩
    | tup xs =>
      cases h
      have r : Rp T _ v (.tup xs) := S.temp _ (List.mem_cons_self ..)
      cases r with
      | tup h r => exact ⟨H0, _, .tup _, S, rfl, Sw.snapT, fun i e => nomatch e⟩
    | non => cases h
    | bl _ => cases h
    | int _ => cases h
    | str _ => cases h
    | dic _ => cases h
    | ins _ _ => cases h
    | scr _ => cases h
  | fr o =>
    cases o with
    | lst xs =>
      cases h
      obtain ⟨H0', S'⟩ := S.hold
      have r : Rp T _ v (.lst xs) := S'.temp _ (List.mem_cons_self ..)
      cases r with
      | lst h r => exact ⟨H0', _, .lst _, S', rfl, Sw.snapL, fun i e => nomatch e⟩
    | dic _ => cases h
    | ins _ _ => cases h
  | bo i =>
    have h : (match obAt ρ i with
      | some (.lst xs) => some (Src.slot i xs.length)
      | _ => none) = some s := h
    obtain ⟨a, t, b, c⟩ := S.temp _ (List.mem_cons_self ..)
    have a : σ[i]? = some (some v) := a
    cases e : obAt ρ i with
    | none => rw [e] at h; cases h
    | some o =>
      rw [e] at h
      cases o with
      | dic _ => cases h
      | ins _ _ => cases h
      | lst xs =>
        cases h
        have e : (match ρ[i]? with
          | some (.ow o) => some o
          | some (.pa o) => some o
          | _ => none) = some (Ob.lst xs) := e
        rw [b] at e
        obtain ⟨x, hx, q⟩ := S.slot i t b
        rw [a] at hx
        cases hx
        cases t with
        | un => cases e
        | xc _ => cases e
        | sh d => cases e
        | ow o =>
          obtain ⟨p, ep, _⟩ := q
          cases ep
          exact ⟨H0, _, .lst p, S, rfl, Sw.slot, fun j z => by cases z; exact List.mem_singleton.mpr rfl⟩
        | pa o =>
          obtain ⟨p, ep, _⟩ := q
          cases ep
          exact ⟨H0, _, .lst p, S, rfl, Sw.slot, fun j z => by cases z; exact List.mem_singleton.mpr rfl⟩
theorem Walk.one {b : Bs} {u : Tmp} {s : Src} (w : Sw T b u s) : Walk T (b.it T.K) [u] (.one s) where
  go := fun {n H0 H σ ρ ts k x} S hu hk hx => by
    obtain ⟨vs, h1, h2, _⟩ := w.has S (hu u (List.mem_singleton.mpr rfl)) (.inl ⟨k, x, hx⟩)
    obtain ⟨v, h3, _⟩ := h2 k x hx
    cases b with
    | lst a => exact ⟨vs, v, h1, h3⟩
    | tup a => exact ⟨vs, v, h1, h3⟩
  yld := fun {n H0 H H' σ ρ ts k x v} S hu hk hx hy => by
    obtain ⟨vs, h1, h2, _⟩ := w.has S (hu u (List.mem_singleton.mpr rfl)) (.inl ⟨k, x, hx⟩)
    obtain ⟨v', h3, r⟩ := h2 k x hx
    have e : H' = H ∧ vs[k]? = some v := by
      cases b with
      | lst a => exact ⟨hy.1, hy.2 vs h1⟩
      | tup a => exact ⟨hy.1, hy.2 vs h1⟩
    obtain ⟨e1, e2⟩ := e
    subst e1
    rw [h3] at e2
    cases e2
    exact ⟨H0, S.addD r⟩
  stop := fun {n H0 H σ ρ ts} S hu hf => by
    obtain ⟨vs, h1, _, h2⟩ := w.has S (hu u (List.mem_singleton.mpr rfl)) (.inr hf)
    have e := h2 hf
    cases b with
    | lst a => exact ⟨vs, h1, Nat.le_of_eq e⟩
    | tup a => exact ⟨vs, h1, Nat.le_of_eq e⟩
/-- the signs of a text -/
theorem Walk.str {s : Tx} : Walk T (Its ⟨s.toArray⟩) [] (.one (.snap (s.map fun c => .str [c]))) where
  go := fun {n H0 H σ ρ ts k x} S hu hk hx => by
    show k < (⟨s.toArray⟩ : Str).cps.size
    have hk : k < (s.map fun c => D.str [c]).length := hk
    simpa using hk
  yld := fun {n H0 H H' σ ρ ts k x v} S hu hk hx hy => by
    obtain ⟨e1, c, e2, e3⟩ := hy
    subst e1 e3
    have hx : (s.map fun c => D.str [c])[k]? = some x := hx
    have e2 : s.toArray[k]? = some c := e2
    rw [List.getElem?_map] at hx
    rw [List.getElem?_toArray] at e2
    rw [e2] at hx
    cases hx
    exact ⟨H0, S.addD (.str [c])⟩
  stop := fun {n H0 H σ ρ ts} S hu hf => by
    show (⟨s.toArray⟩ : Str).cps.size ≤ (s.map fun c => D.str [c]).length
    simp
theorem Walk.rng {lo : Int} {m : Nat} : Walk T (Itr lo m) [] (.rng lo m) where
  go := fun S hu hk hx => hk
  yld := fun {n H0 H H' σ ρ ts k x v} S hu hk hx hy => by
    obtain ⟨e1, e2⟩ := hy
    subst e1 e2
    cases hx
    exact ⟨H0, S.addD (.int _)⟩
  stop := fun S hu hf => Nat.le_refl m
/-- a new tuple is one more temporary -/
theorem ST.newTup {vs : List V} {xs : List D} {p : Addr} (S : ST T n H0 H σ ρ ts) (hp : H p = none) (r : Rps T H0 vs xs) : ∃ H0', ST T n H0' (upd H p (.tup vs)) σ ρ ((.ref p, .d (.tup xs)) :: ts) := by
  refine ⟨upd H0 p (.tup vs), ST.addD ((S.grow (Same.new hp)).still upd_same (S.still_free hp) (S.entry_free hp) (fun i ho => ?_) (fun ht => ?_)) ?_⟩
  · obtain ⟨w, hw, _⟩ := S.own_there ho
    rw [hp] at hw
    cases hw
  · obtain ⟨w, hw, _⟩ := S.tmp_there ht
    rw [hp] at hw
    cases hw
  · exact .tup (.inl (.inl upd_same)) (r.mono (Same.new (S.still_free hp)))
theorem Walk.enum {b : Bs} {u : Tmp} {s : Src} (w : Sw T b u s) : Walk T (ItE T.K b) [u] (.enum s) where
  go := fun {n H0 H σ ρ ts k x} S hu hk hx => by
    have hx : (s.at_ k ρ).map (fun x => D.tup [.int (k : Nat), x]) = some x := hx
    cases e : s.at_ k ρ with
    | none => rw [e] at hx; cases hx
    | some y =>
      obtain ⟨vs, h1, h2, _⟩ := w.has S (hu u (List.mem_singleton.mpr rfl)) (.inl ⟨k, y, e⟩)
      obtain ⟨v, h3, _⟩ := h2 k y e
      exact ⟨vs, v, h1, h3⟩
  yld := fun {n H0 H H' σ ρ ts k x v} S hu hk hx hy => by
    have hx : (s.at_ k ρ).map (fun x => D.tup [.int (k : Nat), x]) = some x := hx
    cases e : s.at_ k ρ with
    | none => rw [e] at hx; cases hx
    | some y =>
      rw [e] at hx
      cases hx
      obtain ⟨vs, h1, h2, _⟩ := w.has S (hu u (List.mem_singleton.mpr rfl)) (.inl ⟨k, y, e⟩)
      obtain ⟨v', h3, r⟩ := h2 k y e
      obtain ⟨Tp, z, rfl, hn, rfl, hz⟩ := hy
      have e2 := hz vs h1
      rw [h3] at e2
      cases e2
      exact S.newTup hn (.cons (.int _) (.cons r .nil))
  stop := fun {n H0 H σ ρ ts} S hu hf => by
    obtain ⟨vs, h1, _, h2⟩ := w.has S (hu u (List.mem_singleton.mpr rfl)) (.inr hf)
    exact ⟨vs, h1, h2 hf⟩
theorem Walk.zip {a b : Bs} {u1 u2 : Tmp} {s1 s2 : Src} (w1 : Sw T a u1 s1) (w2 : Sw T b u2 s2) : Walk T (ItZ T.K a b) [u1, u2] (.zip s1 s2) where
  go := fun {n H0 H σ ρ ts k x} S hu hk hx => by
    have hx : ((s1.at_ k ρ).bind fun x => (s2.at_ k ρ).map fun y => D.tup [x, y]) = some x := hx
    cases e1 : s1.at_ k ρ with
    | none => rw [e1] at hx; cases hx
    | some y1 =>
      cases e2 : s2.at_ k ρ with
      | none => rw [e1, e2] at hx; cases hx
      | some y2 =>
        obtain ⟨vs, h1, h2, _⟩ := w1.has S (hu u1 (by simp)) (.inl ⟨k, y1, e1⟩)
        obtain ⟨ws, g1, g2, _⟩ := w2.has S (hu u2 (by simp)) (.inl ⟨k, y2, e2⟩)
        obtain ⟨v, h3, _⟩ := h2 k y1 e1
        obtain ⟨w, g3, _⟩ := g2 k y2 e2
        exact ⟨vs, ws, v, w, h1, g1, h3, g3⟩
  yld := fun {n H0 H H' σ ρ ts k x v} S hu hk hx hy => by
    have hx : ((s1.at_ k ρ).bind fun x => (s2.at_ k ρ).map fun y => D.tup [x, y]) = some x := hx
    cases e1 : s1.at_ k ρ with
    | none => rw [e1] at hx; cases hx
    | some y1 =>
      cases e2 : s2.at_ k ρ with
      | none => rw [e1, e2] at hx; cases hx
      | some y2 =>
        rw [e1, e2] at hx
        cases hx
        obtain ⟨vs, h1, h2, _⟩ := w1.has S (hu u1 (by simp)) (.inl ⟨k, y1, e1⟩)
        obtain ⟨ws, g1, g2, _⟩ := w2.has S (hu u2 (by simp)) (.inl ⟨k, y2, e2⟩)
        obtain ⟨v1, h3, r1⟩ := h2 k y1 e1
        obtain ⟨v2, g3, r2⟩ := g2 k y2 e2
        obtain ⟨Tp, z1, z2, rfl, hn, rfl, hz1, hz2⟩ := hy
        have q1 := hz1 vs h1
        have q2 := hz2 ws g1
        rw [h3] at q1
        rw [g3] at q2
        cases q1
        cases q2
        exact S.newTup hn (.cons r1 (.cons r2 .nil))
  stop := fun {n H0 H σ ρ ts} S hu hf => by
    have hf : (s1.fine ρ && s2.fine ρ) = true := hf
    rw [Bool.and_eq_true] at hf
    obtain ⟨vs, h1, _, h2⟩ := w1.has S (hu u1 (by simp)) (.inr hf.1)
    obtain ⟨ws, g1, _, g2⟩ := w2.has S (hu u2 (by simp)) (.inr hf.2)
    have q1 := h2 hf.1
    have q2 := g2 hf.2
    have e : (It.zip s1 s2).len = min s1.len s2.len := rfl
    rw [e]
    exact ⟨vs, ws, h1, g1, by omega, by omega, by omega⟩
end
end Mi
end
section
set_option maxHeartbeats 4000000
namespace PySem
set_option maxHeartbeats 1000000 in
theorem meets_enumerate_new1 {v : Value} {o : Obj} {H : Heap → Prop} (B : Begins v o H) :
    Meets (Builtin.«enumerate.__new__» ⟨[.type "enumerate", v], []⟩) (fun _ R s => H s.heap ∧
      R (.ok (.ret (.ref (s.heap.push o).objs.size))) { s with heap := (s.heap.push o).push { cls := .type "enumerate", data := .fields #[.none, .bool false, .ref s.heap.objs.size, rawInt 0, .none, .none] } }) :=
  .of_wp fun prog w A R s h => by
    obtain ⟨hp, g, d, tk, os⟩ := s
    obtain ⟨h1, h⟩ := h
    have hsub := sub_enumerate
    have q1 : ∀ {A' : Around} {E : Value → Shared → Prop} {Q : Value → Shared → Prop}, Q (.ref hp.objs.size) ⟨hp.push o, g, d, tk, os⟩ → wpAny (model prog w) A' (pyIter v) Q E ⟨hp, g, d, tk, os⟩ :=
      fun q => B.iter prog w _ _ ⟨hp, g, d, tk, os⟩ _ h1 q
    wp_walk using q1
    refine wpAny_stack_any fun st => wpAny_pure ?_
    split
    · rename_i c _ _ _ _ _
      cases (c == Value.type "enumerate")
      · wp_walk using q1
        exact ⟨_, rfl, h⟩
      · wp_walk using q1
        exact ⟨_, rfl, h⟩
    · wp_walk using q1
      exact ⟨_, rfl, h⟩
section
variable {prog : Program} {w : World} {A : Around} {E : Value → Shared → Prop} {s : Shared}
theorem enum_begins1 {v : Value} {o : Obj} {H : Heap → Prop} {Q : Value → Shared → Prop} (B : Begins v o H) (h1 : H s.heap)
    (h : ∀ h', IsEnum h' (s.heap.objs.size + 1) s.heap.objs.size 0 .none → h'.get? s.heap.objs.size = some o → h'.objs.size = s.heap.objs.size + 2 →
      (∀ b o, s.heap.get? b = some o → h'.get? b = some o) → Q (.ref (s.heap.objs.size + 1)) { s with heap := h' }) :
    wpAny (model prog w) A (call (.type "enumerate") [v]) Q E s := by
  refine callType_new F.called_enumerate (by decide) (F.typeCall_enumerate_1 _) (F.newCall_enumerate_1 _) (fun obj => F.args_object_init_2 obj _) F.entry_enumerate_new
    (meets_enumerate_new1 B) ⟨h1, ?_⟩
  have hz : (s.heap.push o).objs.size = s.heap.objs.size + 1 := Heap.size_push ..
  show _ ∧ _
  rw [hz]
  have he : IsEnum ((s.heap.push o).push { cls := .type "enumerate", data := .fields #[.none, .bool false, .ref s.heap.objs.size, rawInt 0, .none, .none] }) (s.heap.objs.size + 1) s.heap.objs.size 0 .none := by
    have := Heap.get?_push_size (s.heap.push o) (o := { cls := .type "enumerate", data := .fields #[.none, .bool false, .ref s.heap.objs.size, rawInt 0, .none, .none] }) rfl
    rw [hz] at this; exact this
  refine ⟨⟨_, he, rfl⟩, h _ he (Heap.get?_push_of_some _ (Heap.get?_push_size _ B.free)) (by rw [Heap.size_push, hz]) fun b o x => Heap.get?_push_of_some _ (Heap.get?_push_of_some _ x)⟩
end
end PySem
namespace Mi
open PySem PySem.Spec PyProof.Rows L2
section
variable {T : Tb} {W : WX} {X : Cx} {n : En} {σ : L2.St} {H0 H : Hp} {ρ : Env} {ts : List Tmp} {Q : VK}
theorem pi_imp {tg e : Expr} {t t' : TI} (h : PI X tg e t) (k : ∀ σ H R, t' σ H R → t σ H R) : PI X tg e t' := ⟨fun pins s σ H R I q => h.run pins s σ H R I (k σ H R q)⟩
/-- a list, a tuple, a text -/
def iSeq (K : PySem.W.Frag) (t : TE) : TI := fun σ H R => t σ H fun v H1 => (∃ b vs, v = .ref (Bs.addr b) ∧ b.has K H1 vs ∧ R (Bs.it K b) H1) ∨ ∃ x, v = .str x ∧ R (Its x) H1
theorem pi_seqB {tg e : Expr} {t : TE} (he : PE X e t) : PI X tg e (iSeq X.K t) := by
  refine ⟨fun pins s σ H R I h => ?_⟩
  refine thn (he.run pins s σ H _ I h) fun v s1 ⟨y, H1, I1, r1, q1⟩ => ?_
  rcases q1 with ⟨b, vs, ey, hb, q⟩ | ⟨x, ex, q⟩
  · cases b with
    | lst a =>
      have ey : y = .ref a := ey
      subst ey
      cases r1
      obtain ⟨its, rv, p, hz⟩ := I1.list (show SqL X.K H1 a vs from hb)
      exact wpAny_pyIter_list p.isList (pi_one (tk := s1.toks) I1 _ (turn_list a _) ⟨_, Heap.get?_push_size _ rfl, rfl, rfl⟩ q)
    | tup a =>
      have ey : y = .ref a := ey
      subst ey
      cases r1
      obtain ⟨its, rv, p, hz⟩ := I1.tuple (show SqT X.K H1 a vs from hb)
      exact wpAny_pyIter_tuple (show s1.heap.IsTuple a its.toArray from p) (pi_one (tk := s1.toks) I1 _ (turn_tuple a _) ⟨_, Heap.get?_push_size _ rfl, rfl, rfl⟩ q)
  · subst ex
    obtain ⟨t, rfl⟩ := r1
    cases ha : x.cps.all (· < 128)
    · exact wpAny_pyIter_wide ha (pi_one (tk := s1.toks) I1 _ (turn_str _ x t "str_iterator" (.inr rfl)) ⟨_, Heap.get?_push_size _ rfl, rfl, rfl⟩ q)
    · exact wpAny_pyIter_ascii ha (pi_one (tk := s1.toks) I1 _ (turn_str _ x t "str_ascii_iterator" (.inl rfl)) ⟨_, Heap.get?_push_size _ rfl, rfl, rfl⟩ q)
theorem pi_enumB {e : Expr} {te : TE} {p pos tpos : Pos} {elts : List Expr} {kk : Nat} (hg : Gl X "enumerate") (hm : X.mg "enumerate" = none) (he : PE X e te) (hs : starEach [e] X.env = [(false, eval e X.env)]) :
    PI X (.Tuple elts kk tpos) (.Call (.Name "enumerate" p) [e] [] pos) (iEnumB X.K te) := by
  refine ⟨fun pins s σ H R I h => ?_⟩
  refine Call_ (ld_blt I hg hm boot_enumerate (PyProof.Rows.callWith_type1 (thn ((pa_cons he pa_nil hs).run pos pins s σ H (fun vs H1 => match vs with
    | [v] => ∃ (b : Bs) (xs : List V), v = .ref b.addr ∧ b.has X.K H1 xs ∧ R (ItE X.K b) H1
    | _ => False) I h) fun us s1 ⟨vs, H1, I1, r1, q1⟩ => ?_) hs rfl))
  cases r1 with
  | nil => exact q1.elim
  | cons r rr =>
    cases rr with
    | cons r2 r3 => exact q1.elim
    | nil =>
      obtain ⟨b, xs, ex, hq, q⟩ := q1
      subst ex
      cases r
      obtain ⟨its, rv, p'⟩ := Bs.read I1 hq
      refine enum_begins1 (b.begins its.toArray) p' fun h' he hit hsz hk => wpAny_pyIter_enum he ?_
      have I2 : Inv X pins σ H1 { s1 with heap := h' } := I1.kept (t' := s1.toks) hk
      refine ⟨s1.heap.objs.size + 1, [s1.heap.objs.size + 1, s1.heap.objs.size], _, _, H1, rfl, I2, turn_enumB b (s1.heap.objs.size + 1) s1.heap.objs.size, ⟨⟨.none, he⟩, b.fresh hit, Nat.succ_ne_self _⟩, fun c hb => ?_, q⟩
      have e' : c = s1.heap.objs.size + 1 ∨ c = s1.heap.objs.size := by simpa using hb
      have hle : s1.heap.objs.size ≤ c := by
        rcases e' with z | z
        · rw [z]; exact Nat.le_add_right _ _
        · rw [z]; exact Nat.le_refl _
      exact I1.fpOk hle (I1.hok.fresh hle)
def iZipB (K : PySem.W.Frag) (ta tb : TE) : TI := fun σ H R => ta σ H fun v H1 => tb σ H1 fun w H2 => ∃ (a b : Bs) (xs ys : List V), v = .ref a.addr ∧ w = .ref b.addr ∧ a.has K H2 xs ∧ b.has K H2 ys ∧ R (ItZ K a b) H2
theorem pi_zipB {e e2 : Expr} {ta tb : TE} {p pos tpos : Pos} {elts : List Expr} {kk : Nat} (hg : Gl X "zip") (hm : X.mg "zip" = none) (he : PE X e ta) (he2 : PE X e2 tb)
    (hs : starEach [e, e2] X.env = (false, eval e X.env) :: starEach [e2] X.env) (hs2 : starEach [e2] X.env = (false, eval e2 X.env) :: starEach [] X.env) (hpl : (backTo pos (starEach [e2] X.env)).any (·.1) = false) :
    PI X (.Tuple elts kk tpos) (.Call (.Name "zip" p) [e, e2] [] pos) (iZipB X.K ta tb) := by
  refine ⟨fun pins s σ H R I h => ?_⟩
  refine Call_ (ld_blt I hg hm PyProof.Rows.boot_zip (PyProof.Rows.callWith_type1 (thn ((pa_cons he (pa_cons he2 pa_nil hs2) hs).run pos pins s σ H (fun vs H1 => match vs with
    | [v, w] => ∃ (a b : Bs) (xs ys : List V), v = .ref a.addr ∧ w = .ref b.addr ∧ a.has X.K H1 xs ∧ b.has X.K H1 ys ∧ R (ItZ X.K a b) H1
    | _ => False) I h) fun us s1 ⟨vs, H1, I1, r1, q1⟩ => ?_) hs hpl))
  cases r1 with
  | nil => exact q1.elim
  | cons r rr =>
  cases rr with
  | nil => exact q1.elim
  | cons r' rr =>
  cases rr with
  | cons _ _ => exact q1.elim
  | nil =>
    obtain ⟨a, b, xs, ys, ex, ey, hqx, hqy, q⟩ := q1
    subst ex ey
    cases r
    cases r'
    obtain ⟨its, rv, p1⟩ := Bs.read I1 hqx
    obtain ⟨its2, rv2, p2⟩ := Bs.read I1 hqy
    have la := Bs.lt p1
    have lb := Bs.lt p2
    refine zip_begins2 (a.begins its.toArray) (b.begins its2.toArray) p1 p2 fun h' hz hTI hTO h1 h2 hsz hk => wpAny_pyIter_zip hz ?_
    have I2 : Inv X pins σ H1 { s1 with heap := h' } := I1.kept (t' := s1.toks) hk
    refine ⟨s1.heap.objs.size + 4, [s1.heap.objs.size + 4, s1.heap.objs.size + 2, s1.heap.objs.size + 3, s1.heap.objs.size, s1.heap.objs.size + 1], _, _, H1, rfl, I2,
      turn_zipB (zip_sep2 (fun c hc => by rw [List.mem_singleton.mp hc]; exact la) fun c hc => by rw [List.mem_singleton.mp hc]; exact lb), ⟨hz, hTI, ⟨_, _, hTO⟩, a.fresh h1, b.fresh h2⟩, fun c hcm => ?_, q⟩
    have e' : c = s1.heap.objs.size + 4 ∨ c = s1.heap.objs.size + 2 ∨ c = s1.heap.objs.size + 3 ∨ c = s1.heap.objs.size ∨ c = s1.heap.objs.size + 1 := by simpa using hcm
    have hle : s1.heap.objs.size ≤ c := by
      rcases e' with z | z | z | z | z
      · rw [z]; exact Nat.le_add_right _ _
      · rw [z]; exact Nat.le_add_right _ _
      · rw [z]; exact Nat.le_add_right _ _
      · rw [z]; exact Nat.le_refl _
      · rw [z]; exact Nat.le_add_right _ _
    exact I1.fpOk hle (I1.hok.fresh hle)
/-! ### by the readings -/
section
variable (T : Tb) (W : WX)
def rdI (d : Env → Out It) : TI := fun σ H R => ∃ n H0 ρ ts, ST T n H0 H σ ρ ts ∧ Post T W n σ ts (d ρ) fun w ρ' H0' H' => ∀ J us, Walk T J us w → ST T n H0' H' σ ρ' (us ++ ts) → (∀ u ∈ us, ∀ i, u.2 = .bo i → i ∈ w.slots) → R J H'
end
theorem srcL_of {e : Env} {r : Rs} {s : Src} (h : srcOf e r = some s) (k : ∀ x, r ≠ .d (.str x)) : srcL e r = some s := by
  unfold srcL
  split
  · rename_i x
    exact (k _ rfl).elim
  · exact h
theorem srcOf_fine {e : Env} {r : Rs} {s : Src} (h : srcOf e r = some s) : s.fine e = true := by
  cases r with
  | d x => cases x <;> first | (cases h; rfl) | (cases h)
  | fr o => cases o <;> first | (cases h; rfl) | (cases h)
  | bo i =>
    have h : (match obAt e i with
      | some (.lst xs) => some (Src.slot i xs.length)
      | _ => none) = some s := h
    cases eo : obAt e i with
    | none => rw [eo] at h; cases h
    | some o =>
      rw [eo] at h
      cases o with
      | dic _ => cases h
      | ins _ _ => cases h
      | lst xs =>
        cases h
        show (match obAt e i with
          | some (.lst ys) => ys.length == xs.length
          | _ => false) = true
        rw [eo]
        exact beq_self_eq_true _
theorem srcL_src {e : Env} {r : Rs} {s : Src} (h : srcL e r = some s) : srcOf e r = some s := by
  unfold srcL at h
  split at h
  · cases h
  · exact h
theorem src_now {v : V} {r : Rs} {s : Src} (S : ST T n H0 H σ ρ ((v, r) :: ts)) (h : srcL ρ r = some s) : ∃ H0' u b vs, ST T n H0' H σ ρ (u :: ts) ∧ v = .ref (Bs.addr b) ∧ Sw T b u s ∧ (∀ i, u.2 = .bo i → i ∈ s.slots) ∧ b.has T.K H vs := by
  obtain ⟨H0', u, b, S', ev, w, hs⟩ := src_walk S h
  obtain ⟨vs, hv, _⟩ := w.has S' (List.mem_cons_self ..) (.inr (srcOf_fine (srcL_src h)))
  exact ⟨H0', u, b, vs, S', ev, w, hs, hv⟩
theorem pi_one_rd (ok : Ck T X) {tg e : Expr} {d : Env → Out Rs} (he : PE X e (rd T W d)) : PI X tg e (rdI T W fun e => (d e).bind fun r e1 => Out.of e1 ((srcOf e1 r).map .one)) := by
  refine pi_imp (pi_seqB he) fun σ H R h => ?_
  obtain ⟨n, H0, ρ, ts, S, P⟩ := h
  refine rd_mono (rd_one S P) fun v H1 h => ?_
  obtain ⟨H0', ρ', ra, S', P'⟩ := h
  cases es : srcOf ρ' ra with
  | none => rw [es] at P'; exact P'.elim
  | some s =>
    rw [es] at P'
    by_cases k : ∃ x, ra = .d (.str x)
    · obtain ⟨x, rfl⟩ := k
      cases es
      have r : Rp T _ v (.str x) := S'.temp _ (List.mem_cons_self ..)
      cases r
      exact .inr ⟨_, rfl, P' _ _ _ [] Walk.str S'.drop fun u h => by simp at h⟩
    · obtain ⟨H0'', u, b, vs, S'', ev, w, hs, hv⟩ := src_now S' (srcL_of es fun x z => k ⟨x, z⟩)
      subst ev
      rw [ok.hK]
      exact .inl ⟨b, vs, rfl, hv, P' _ _ _ [u] (Walk.one w) S'' fun q hq i z => by
        rw [List.mem_singleton.mp hq] at z
        exact hs i z⟩
theorem pi_enum_rd (ok : Ck T X) {e : Expr} {d : Env → Out Rs} {p pos tpos : Pos} {elts : List Expr} {kk : Nat} (hg : Gl X "enumerate") (hm : X.mg "enumerate" = none) (he : PE X e (rd T W d)) (hs : starEach [e] X.env = [(false, eval e X.env)]) :
    PI X (.Tuple elts kk tpos) (.Call (.Name "enumerate" p) [e] [] pos) (rdI T W fun e => (d e).bind fun r e1 => Out.of e1 ((srcL e1 r).map .enum)) := by
  refine pi_imp (pi_enumB hg hm he hs) fun σ H R h => ?_
  obtain ⟨n, H0, ρ, ts, S, P⟩ := h
  refine rd_mono (rd_one S P) fun v H1 h => ?_
  obtain ⟨H0', ρ', ra, S', P'⟩ := h
  cases es : srcL ρ' ra with
  | none => rw [es] at P'; exact P'.elim
  | some s =>
    rw [es] at P'
    obtain ⟨H0'', u, b, vs, S'', ev, w, hs, hv⟩ := src_now S' es
    subst ev
    rw [ok.hK]
    exact ⟨b, vs, rfl, hv, P' _ _ _ [u] (Walk.enum w) S'' fun q hq i z => by
      rw [List.mem_singleton.mp hq] at z
      exact hs i z⟩
theorem pi_zip_rd (ok : Ck T X) {e e2 : Expr} {da db : Env → Out Rs} {p pos tpos : Pos} {elts : List Expr} {kk : Nat} (hg : Gl X "zip") (hm : X.mg "zip" = none) (he : PE X e (rd T W da)) (he2 : PE X e2 (rd T W db))
    (hs : starEach [e, e2] X.env = (false, eval e X.env) :: starEach [e2] X.env) (hs2 : starEach [e2] X.env = (false, eval e2 X.env) :: starEach [] X.env) (hpl : (backTo pos (starEach [e2] X.env)).any (·.1) = false) :
    PI X (.Tuple elts kk tpos) (.Call (.Name "zip" p) [e, e2] [] pos) (rdI T W fun e => (da e).bind fun q e1 => (db e1).bind fun r e2 => match srcL e2 q, srcL e2 r with
      | some x, some y => .ok (.zip x y) e2
      | _, _ => .no) := by
  refine pi_imp (pi_zipB hg hm he he2 hs hs2 hpl) fun σ H R h => ?_
  obtain ⟨n, H0, ρ, ts, S, P⟩ := h
  refine rd_mono (rd_two S P) fun v H1 h => rd_mono h fun y H2 h => ?_
  obtain ⟨H0', ρ', ra, rb, S', P'⟩ := h
  cases es : srcL ρ' ra with
  | none => rw [es] at P'; exact P'.elim
  | some s =>
    cases es2 : srcL ρ' rb with
    | none => rw [es, es2] at P'; exact P'.elim
    | some s2 =>
      rw [es, es2] at P'
      obtain ⟨Ha, u2, b2, ys, S2, ev2, w2, hs2, hv2⟩ := src_now S' es2
      obtain ⟨Hb, u1, b1, xs, S1, ev1, w1, hs1, hv1⟩ := src_now S2.swap es
      subst ev1 ev2
      rw [ok.hK]
      refine ⟨b1, b2, xs, ys, rfl, rfl, hv1, hv2, P' _ _ _ [u1, u2] (Walk.zip w1 w2) S1 fun q hq i z => ?_⟩
      rcases List.mem_cons.mp hq with rfl | hq
      · exact List.mem_append_left _ (hs1 i z)
      · rw [List.mem_singleton.mp hq] at z
        exact List.mem_append_right _ (hs2 i z)
theorem rng_b {j : Int} (h : decide (j.natAbs ≤ 4000000000000000000) = true) : -(2 ^ 62) ≤ j ∧ j < 2 ^ 62 := by
  have h := of_decide_eq_true h
  constructor <;> omega
theorem pi_rng1_rd {tg e : Expr} {d : Env → Out Rs} {p pos : Pos} (hg : Gl X "range") (hm : X.mg "range" = none) (he : PE X e (rd T W d)) (hs : starEach [e] X.env = [(false, eval e X.env)]) :
    PI X tg (.Call (.Name "range" p) [e] [] pos) (rdI T W fun e => (d e).bind fun r e1 => (partO e1 r).bind fun j e2 => if rngOk 0 j then .ok (.rng 0 j.toNat) e2 else .no) := by
  refine pi_imp (pi_range1 hg hm (pa_cons he pa_nil hs) hs) fun σ H R h => ?_
  obtain ⟨n, H0, ρ, ts, S, P⟩ := h
  show rd T W d σ H _
  refine rd_mono (rd_one S P) fun v H1 h => ?_
  obtain ⟨H0', ρ', ra, S', P'⟩ := h
  show ∃ j, _
  cases ra with
  | fr _ => exact P'.elim
  | bo _ => exact P'.elim
  | d x =>
    cases x with
    | int j =>
      have r : Rp T _ v (.int j) := S'.temp _ (List.mem_cons_self ..)
      cases r
      have P' : Post T W n σ ts (if rngOk 0 j then Out.ok (It.rng 0 j.toNat) ρ' else .no) _ := P'
      split at P'
      · rename_i hr
        unfold rngOk at hr
        simp only [Bool.and_eq_true] at hr
        obtain ⟨q1, q2⟩ := rng_b hr.2
        exact ⟨j, rfl, q1, q2, P' _ _ _ [] Walk.rng S'.drop fun u h => by simp at h⟩
      · exact P'.elim
    | non => exact P'.elim
    | bl _ => exact P'.elim
    | str _ => exact P'.elim
    | tup _ => exact P'.elim
    | lst _ => exact P'.elim
    | dic _ => exact P'.elim
    | ins _ _ => exact P'.elim
    | scr _ => exact P'.elim
theorem pi_rng2_rd {tg e e2 : Expr} {da db : Env → Out Rs} {p pos : Pos} (hg : Gl X "range") (hm : X.mg "range" = none) (he : PE X e (rd T W da)) (he2 : PE X e2 (rd T W db))
    (hs : starEach [e, e2] X.env = [(false, eval e X.env), (false, eval e2 X.env)]) (hs2 : starEach [e2] X.env = [(false, eval e2 X.env)]) :
    PI X tg (.Call (.Name "range" p) [e, e2] [] pos) (rdI T W fun e => (da e).bind fun q e1 => (partO e1 q).bind fun i e2 => (db e2).bind fun r e3 => (partO e3 r).bind fun j e4 => if rngOk i j then .ok (.rng i (j - i).toNat) e4 else .no) := by
  refine pi_imp (pi_range2 hg hm (pa_cons he (pa_cons he2 pa_nil hs2) (by rw [hs, hs2])) hs hs2) fun σ H R h => ?_
  obtain ⟨n, H0, ρ, ts, S, P⟩ := h
  show rd T W da σ H _
  refine rd_mono (rd_one S P) fun v H1 h => ?_
  obtain ⟨H0', ρ', ra, S', P'⟩ := h
  cases ra with
  | fr _ => exact P'.elim
  | bo _ => exact P'.elim
  | d x =>
    cases x with
    | int i =>
      have r : Rp T _ v (.int i) := S'.temp _ (List.mem_cons_self ..)
      cases r
      have S' := S'.drop
      show rd T W db σ H1 _
      refine rd_mono (rd_one S' P') fun w H2 h => ?_
      obtain ⟨H0'', ρ'', rb, S'', P''⟩ := h
      cases rb with
      | fr _ => exact P''.elim
      | bo _ => exact P''.elim
      | d y =>
        cases y with
        | int j =>
          have r : Rp T _ w (.int j) := S''.temp _ (List.mem_cons_self ..)
          cases r
          have P'' : Post T W n σ ts (if rngOk i j then Out.ok (It.rng i (j - i).toNat) ρ'' else .no) _ := P''
          split at P''
          · rename_i hr
            unfold rngOk at hr
            simp only [Bool.and_eq_true] at hr
            obtain ⟨q1, q2⟩ := rng_b hr.2
            obtain ⟨q3, q4⟩ := rng_b hr.1
            exact ⟨i, j, rfl, ⟨q3, q4, q1, q2⟩, P'' _ _ _ [] Walk.rng S''.drop fun u h => by simp at h⟩
          · exact P''.elim
        | non => exact P''.elim
        | bl _ => exact P''.elim
        | str _ => exact P''.elim
        | tup _ => exact P''.elim
        | lst _ => exact P''.elim
        | dic _ => exact P''.elim
        | ins _ _ => exact P''.elim
        | scr _ => exact P''.elim
    | non => exact P'.elim
    | bl _ => exact P'.elim
    | str _ => exact P'.elim
    | tup _ => exact P'.elim
    | lst _ => exact P'.elim
    | dic _ => exact P'.elim
    | ins _ _ => exact P'.elim
    | scr _ => exact P'.elim
end
end Mi
end
section
set_option maxHeartbeats 4000000
namespace Mi
open PySem PySem.Spec PyProof.Rows L2
/-! ### statements -/
section
variable (T : Tb) (W : WX)
def PostS (n : En) (ts : List Tmp) (o : SOut) (D : Ends) : Prop :=
  match o with
  | .nx ρ' => ∀ σ' H0' H', ST T n H0' H' σ' ρ' ts → D.nx σ' H'
  | .rt r ρ' => ∀ v σ' H0' H', (∀ i, r ≠ .bo i) → ST T n H0' H' σ' ρ' [(v, r)] → D.rt v H'
  | .ex x ρ' => ∀ dd σ' H0' H', ST T n H0' H' σ' ρ' [] → XR T n H0' H' x dd → W (.ref (T.cA x.cls)) dd σ' H'
  | .no => False
/-- a statement's reading; A: the names that it stores -/
def rdS (A : List Nat) (d : Env → SOut) : TS := fun D σ H => ∃ n H0 ρ ts, ST T n H0 H σ ρ ts ∧ (∀ t ∈ ts, ∀ i, t.2 = .bo i → i ∉ A) ∧ PostS T W n ts (d ρ) D
end
section
variable {T : Tb} {W : WX} {X : Cx} {n : En} {σ : L2.St} {H0 H : Hp} {ρ : Env} {ts us vs : List Tmp} {Q : VK} {Z : Ends} {A B : List Nat}
theorem ps_imp {s : Stmt} {t t' : TS} (h : PS X s t) (k : ∀ D σ H, t' D σ H → t D σ H) : PS X s t' := ⟨fun pins s σ H D I q => h.run pins s σ H D I (k D σ H q)⟩
theorem pss_imp {s : List Stmt} {t t' : TS} (h : PSs X s t) (k : ∀ D σ H, t' D σ H → t D σ H) : PSs X s t' := ⟨fun pins s σ H D I q => h.run pins s σ H D I (k D σ H q)⟩
theorem ST.none_ (S : ST T n H0 H σ ρ ts) : ST T n H0 H σ ρ [] := ST.dropA (us := ts) (ts := []) (by rw [List.append_nil]; exact S)
theorem ST.only {t : Tmp} (S : ST T n H0 H σ ρ (t :: ts)) : ST T n H0 H σ ρ [t] := ST.dropA (us := ts) (S.perm (List.perm_append_singleton t ts).symm)
theorem PostS.more {o : SOut} (h : PostS T W n ts o Z) : PostS T W n (us ++ ts) o Z := by
  cases o with
  | nx ρ' => exact fun σ' H0' H' S => h σ' H0' H' S.dropA
  | rt r ρ' => exact h
  | ex x ρ' => exact h
  | no => exact h
theorem thn_one {da : Env → Out Rs} {f : Rs → Env → SOut} (S : ST T n H0 H σ ρ vs) (h : PostS T W n ts ((da ρ).thn fun r e1 => f r e1) Z) :
    rd T W da σ H fun x H1 => ∃ H0' ρ' ra, ST T n H0' H1 σ ρ' ((x, ra) :: vs) ∧ PostS T W n ts (f ra ρ') Z := by
  refine ⟨n, H0, ρ, vs, S, ?_⟩
  cases ea : da ρ with
  | no => rw [ea] at h; exact h.elim
  | ex x e => rw [ea] at h; exact fun dd H0' H' S' xr => h dd σ H0' H' S'.none_ xr
  | ok ra e1 => rw [ea] at h; exact fun H0' H1 v S1 => ⟨H0', e1, ra, S1, h⟩
theorem thn_t {da : Env → Out Bool} {f : Bool → Env → SOut} (S : ST T n H0 H σ ρ vs) (h : PostS T W n ts ((da ρ).thn fun r e1 => f r e1) Z) :
    rdT T W da σ H fun b H1 => ∃ H0' ρ', ST T n H0' H1 σ ρ' vs ∧ PostS T W n ts (f b ρ') Z := by
  refine ⟨n, H0, ρ, vs, S, ?_⟩
  cases ea : da ρ with
  | no => rw [ea] at h; exact h.elim
  | ex x e => rw [ea] at h; exact fun dd H0' H' S' xr => h dd σ H0' H' S'.none_ xr
  | ok ra e1 => rw [ea] at h; exact fun H0' H1 S1 => ⟨H0', e1, S1, h⟩
theorem rdT_mono {d : Env → Out Bool} {Q Q' : Bool → Hp → Prop} (h : rdT T W d σ H Q) (k : ∀ v H', Q v H' → Q' v H') : rdT T W d σ H Q' := by
  obtain ⟨n, H0, ρ, ts, S, p⟩ := h
  refine ⟨n, H0, ρ, ts, S, ?_⟩
  cases e : d ρ with
  | no => rw [e] at p; exact p.elim
  | ex x ρ' => rw [e] at p; exact p
  | ok r ρ' => rw [e] at p; exact fun H0' H' s => k _ _ (p H0' H' s)
theorem rdA_mono {d : Env → Out (List Rs)} {Q Q' : List V → Hp → Prop} (h : rdA T W d σ H Q) (k : ∀ v H', Q v H' → Q' v H') : rdA T W d σ H Q' := by
  obtain ⟨n, H0, ρ, ts, S, p⟩ := h
  refine ⟨n, H0, ρ, ts, S, ?_⟩
  cases e : d ρ with
  | no => rw [e] at p; exact p.elim
  | ex x ρ' => rw [e] at p; exact p
  | ok r ρ' => rw [e] at p; exact fun H0' H' v hl s => k _ _ (p H0' H' v hl s)
theorem rdI_mono {d : Env → Out It} {R R' : L2.It → Hp → Prop} (h : rdI T W d σ H R) (k : ∀ v H', R v H' → R' v H') : rdI T W d σ H R' := by
  obtain ⟨n, H0, ρ, ts, S, p⟩ := h
  refine ⟨n, H0, ρ, ts, S, ?_⟩
  cases e : d ρ with
  | no => rw [e] at p; exact p.elim
  | ex x ρ' => rw [e] at p; exact p
  | ok r ρ' => rw [e] at p; exact fun H0' H' J us w s c => k _ _ (p H0' H' J us w s c)
theorem thn_it {da : Env → Out It} {f : It → Env → SOut} (S : ST T n H0 H σ ρ vs) (h : PostS T W n ts ((da ρ).thn fun r e1 => f r e1) Z) :
    rdI T W da σ H fun J H1 => ∃ H0' ρ' w us, Walk T J us w ∧ ST T n H0' H1 σ ρ' (us ++ vs) ∧ (∀ u ∈ us, ∀ i, u.2 = .bo i → i ∈ w.slots) ∧ PostS T W n ts (f w ρ') Z := by
  refine ⟨n, H0, ρ, vs, S, ?_⟩
  cases ea : da ρ with
  | no => rw [ea] at h; exact h.elim
  | ex x e => rw [ea] at h; exact fun dd H0' H' S' xr => h dd σ H0' H' S'.none_ xr
  | ok w e1 => rw [ea] at h; exact fun H0' H1 J us wk S1 c => ⟨H0', e1, w, us, wk, S1, c, h⟩
/-! ### blocks -/
theorem pss_nilR : PSs X [] (rdS T W [] fun e => .nx e) := pss_imp pss_nil fun D σ H ⟨n, H0, ρ, ts, S, _, P⟩ => P σ H0 H S
theorem pss_consR {s : Stmt} {ss : List Stmt} {da db : Env → SOut} (h1 : PS X s (rdS T W A da)) (h2 : PSs X ss (rdS T W B db)) : PSs X (s :: ss) (rdS T W (A ++ B) fun e => (da e).seq db) := by
  refine pss_imp (pss_cons h1 h2) fun D σ H h => ?_
  obtain ⟨n, H0, ρ, ts, S, k, P⟩ := h
  have kB : ∀ t ∈ ts, ∀ i, t.2 = .bo i → i ∉ B := fun t ht i e z => k t ht i e (List.mem_append_right _ z)
  refine ⟨n, H0, ρ, ts, S, fun t ht i e z => k t ht i e (List.mem_append_left _ z), ?_⟩
  have P : PostS T W n ts ((da ρ).seq db) D := P
  cases ea : da ρ with
  | no => rw [ea] at P; exact P.elim
  | ex x e => rw [ea] at P; exact P
  | rt r e => rw [ea] at P; exact P
  | nx ρ1 => rw [ea] at P; exact fun σ' H0' H' S' => ⟨n, H0', ρ1, ts, S', kB, P⟩
/-! ### stores -/
theorem hold_may {i : Nat} {r : Rs} {x : D} {ρ' : Env} (h : mayPut ρ i = true) (hr : r.hold ρ = some (x, ρ')) : mayPut ρ' i = true := by
  cases r with
  | d y => cases hr; exact h
  | fr o => cases hr; exact h
  | bo j =>
    have hr : (match ρ[j]? with
      | some (.sh x) => some (x, ρ)
      | some (.ow o) => some (o.d, ρ.set j (.sh o.d))
      | _ => none) = some (x, ρ') := hr
    split at hr
    · cases hr; exact h
    · rename_i o ho
      cases hr
      by_cases e : j = i
      · subst e
        unfold mayPut
        rw [get_set_same (lt_of_get ho)]
      · unfold mayPut
        rw [get_set_ne e]
        exact h
    · cases hr
theorem putR_st {own : Bool} {i : Nat} {v : V} {r : Rs} {ρ' : Env} (S : ST T n H0 H σ ρ ((v, r) :: ts)) (h : putR own i r ρ = some ρ') (nb : ∀ t ∈ ts, t.2 ≠ .bo i) : ∃ H0', ST T n H0' H (σ.set i (some v)) ρ' ts := by
  unfold putR at h
  split at h
  · rename_i hm
    cases r with
    | d x => cases h; exact ⟨H0, S.store hm (.inl ⟨x, rfl, rfl⟩) nb⟩
    | fr o =>
      cases own with
      | true => cases h; exact ⟨H0, S.store hm (.inr ⟨o, rfl, rfl⟩) nb⟩
      | false =>
        cases h
        obtain ⟨H0', S'⟩ := S.hold
        exact ⟨H0', S'.store hm (.inl ⟨_, rfl, rfl⟩) nb⟩
    | bo j =>
      have h : (match (Rs.bo j).hold ρ with
        | some (x, e1) => some (e1.set i (.sh x))
        | none => none) = some ρ' := h
      cases er : (Rs.bo j).hold ρ with
      | none => rw [er] at h; cases h
      | some p =>
        obtain ⟨x, e1⟩ := p
        rw [er] at h
        cases h
        obtain ⟨H0', S'⟩ := S.holdR er
        exact ⟨H0', S'.store (hold_may hm er) (.inl ⟨_, rfl, rfl⟩) nb⟩
  · cases h
theorem unbo_st {v : V} {r r' : Rs} {ρ' : Env} (S : ST T n H0 H σ ρ ((v, r) :: ts)) (h : unbo r ρ = some (r', ρ')) : ∃ H0', ST T n H0' H σ ρ' ((v, r') :: ts) ∧ ∀ i, r' ≠ .bo i := by
  cases r with
  | d x => cases h; exact ⟨H0, S, fun i z => nomatch z⟩
  | fr o => cases h; exact ⟨H0, S, fun i z => nomatch z⟩
  | bo j =>
    have h : (match (Rs.bo j).hold ρ with
      | some (x, e1) => some (Rs.d x, e1)
      | none => none) = some (r', ρ') := h
    cases er : (Rs.bo j).hold ρ with
    | none => rw [er] at h; cases h
    | some p =>
      obtain ⟨x, e1⟩ := p
      rw [er] at h
      cases h
      obtain ⟨H0', S'⟩ := S.holdR er
      exact ⟨H0', S', fun i z => nomatch z⟩
theorem lock_ne {i : Nat} (k : ∀ t ∈ ts, ∀ i, t.2 = .bo i → i ∉ A) (h : i ∈ A) : ∀ t ∈ ts, t.2 ≠ .bo i := fun t ht e => k t ht i e h
theorem ps_setR {i : Nat} {x : Str} {e : Expr} {own : Bool} {d : Env → Out Rs} {pos pos' : Pos} (hN : X.N.Nodup) (hi : X.N[i]? = some x) (hx : Loc X.env.scope x) (he : PE X e (rd T W d)) (hs : swapsWith e (some (.Name x pos')) pos.line X.env = pure false)
    (hf : X.fn x = true ∨ X.env.scope.names.lookup x = some .local) : PS X (.Assign [.Name x pos'] e pos) (rdS T W [i] fun e => (d e).thn fun r e1 => SOut.of (putR own i r e1)) := by
  refine ps_imp (ps_set hN hi hx he hs hf) fun D σ H h => ?_
  obtain ⟨n, H0, ρ, ts, S, k, P⟩ := h
  refine rd_mono (thn_one S P) fun v H1 h => ?_
  obtain ⟨H0', ρ', ra, S', P'⟩ := h
  cases ep : putR own i ra ρ' with
  | none => rw [ep] at P'; exact P'.elim
  | some ρ2 =>
    rw [ep] at P'
    obtain ⟨H0'', S''⟩ := putR_st S' ep (lock_ne k (List.mem_singleton.mpr rfl))
    exact P' _ _ _ S''
theorem ps_expR {e : Expr} {d : Env → Out Rs} {pos : Pos} (he : PE X e (rd T W d)) (hs : swapsWith e none pos.line X.env = pure false) : PS X (.Expr e pos) (rdS T W [] fun e => (d e).thn fun _ e1 => .nx e1) := by
  refine ps_imp (ps_expr he hs) fun D σ H h => ?_
  obtain ⟨n, H0, ρ, ts, S, k, P⟩ := h
  refine rd_mono (thn_one S P) fun v H1 h => ?_
  obtain ⟨H0', ρ', ra, S', P'⟩ := h
  exact P' _ _ _ S'.drop
/-- slot i's object, one's own, is handed back -/
theorem ST.takeSlot {v : V} {i : Nat} {o : Ob} (S : ST T n H0 H σ ρ [(v, .bo i)]) (h : ρ[i]? = some (.ow o)) : ST T n H0 H σ (ρ.set i .un) [(v, .fr o)] := by
  obtain ⟨a, s, b, _⟩ := S.temp _ (List.mem_cons_self ..)
  have a : σ[i]? = some (some v) := a
  rw [h] at b
  cases b
  obtain ⟨y, hy, p, ep, hn, h0, r⟩ := S.slot i _ h
  rw [a] at hy
  cases hy
  cases ep
  have own : OwnAt σ ρ i p := ⟨a, _, h, rfl⟩
  have il := lt_of_get h
  have back : ∀ {j q}, OwnAt σ (ρ.set i .un) j q → OwnAt σ ρ j q ∧ j ≠ i := fun {j q} ⟨x1, s, x2, x3⟩ => by
    by_cases e : i = j
    · subst e
      rw [get_set_same il] at x2
      cases x2
      cases x3
    · rw [get_set_ne e] at x2
      exact ⟨⟨x1, s, x2, x3⟩, fun z => e z.symm⟩
  exact {
    sub := S.sub
    s0 := S.s0
    len := by rw [List.length_set]; exact S.len
    slot := fun j s hj => by
      by_cases e : i = j
      · subst e
        rw [get_set_same il] at hj
        cases hj
        exact ⟨_, a, True.intro⟩
      · rw [get_set_ne e] at hj
        exact S.slot j s hj
    temp := fun t ht => by
      rw [List.mem_singleton.mp ht]
      exact ⟨p, rfl, hn, h0, r⟩
    dist := fun j k q h1 h2 => S.dist j k q (back h1).1 (back h2).1
    dtt := by simp [tmpL]
    dts := fun q hq j hj => by
      rw [tmpL_cons_fr] at hq
      have hq : q = p := by simpa [tmpL] using hq
      subst hq
      obtain ⟨h1, h2⟩ := back hj
      exact h2 (S.dist j i q h1 own)
    pak := fun q hq => by
      obtain ⟨x1, o', x2⟩ := S.pak q hq
      have e : i ≠ q.1 := fun e => by
        rw [← e, h] at x2
        cases x2
      exact ⟨x1, o', by rw [get_set_ne e]; exact x2⟩
    keep := S.keep
    dom := S.dom
    new := S.new }
theorem retR_st {v : V} {r : Rs} (S : ST T n H0 H σ ρ ((v, r) :: ts)) (P : PostS T W n ts (retR r ρ) Z) : Z.rt v H := by
  have S := S.only
  cases r with
  | d x => exact P v σ H0 H (fun i z => nomatch z) S
  | fr o => exact P v σ H0 H (fun i z => nomatch z) S
  | bo i =>
    have P : PostS T W n ts (match ρ[i]? with
      | some (.ow o) => .rt (.fr o) (ρ.set i .un)
      | some (.sh x) => .rt (.d x) ρ
      | _ => .no) Z := P
    split at P
    · rename_i o ho
      exact P v σ H0 H (fun i z => nomatch z) (S.takeSlot ho)
    · rename_i x hx
      obtain ⟨a, s, b, _⟩ := S.temp _ (List.mem_cons_self ..)
      have a : σ[i]? = some (some v) := a
      obtain ⟨y, hy, w, e, r⟩ := S.slot i _ hx
      rw [a] at hy
      cases hy
      cases e
      exact P v σ H0 H (fun i z => nomatch z) (S.drop.addD r)
    · exact P.elim
theorem ps_retR {e : Expr} {d : Env → Out Rs} {pos : Pos} (he : PE X e (rd T W d)) : PS X (.Return (some e) pos) (rdS T W [] fun e => (d e).thn fun r e1 => retR r e1) := by
  refine ps_imp (ps_ret he) fun D σ H h => ?_
  obtain ⟨n, H0, ρ, ts, S, k, P⟩ := h
  refine rd_mono (thn_one S P) fun v H1 h => ?_
  obtain ⟨H0', ρ', ra, S', P'⟩ := h
  exact retR_st S' P'
theorem ps_retNR {pos : Pos} : PS X (.Return none pos) (rdS T W [] fun e => .rt (.d .non) e) := by
  refine ps_imp ps_retN fun D σ H h => ?_
  obtain ⟨n, H0, ρ, ts, S, k, P⟩ := h
  exact P _ _ _ _ (fun i z => nomatch z) (S.none_.addD .non)
theorem ps_passR {pos : Pos} : PS X (.Pass pos) (rdS T W [] fun e => .nx e) := ps_imp ps_pass fun D σ H ⟨n, H0, ρ, ts, S, _, P⟩ => P σ H0 H S
theorem ps_noR {s : Stmt} : PS X s (rdS T W [] fun _ => .no) := ps_imp ps_never fun D σ H ⟨n, H0, ρ, ts, S, _, P⟩ => P.elim
theorem ps_iteR {c : Expr} {a b : List Stmt} {pos : Pos} {dc : Env → Out Bool} {da db : Env → SOut} (hc : PT X c (rdT T W dc)) (ha : PSs X a (rdS T W A da)) (hb : PSs X b (rdS T W B db)) :
    PS X (.If c a b pos) (rdS T W (A ++ B) fun e => (dc e).thn fun k e1 => if k then da e1 else db e1) := by
  refine ps_imp (ps_if hc ha hb) fun D σ H h => ?_
  obtain ⟨n, H0, ρ, ts, S, k, P⟩ := h
  refine rdT_mono (thn_t S P) fun v H1 h => ?_
  obtain ⟨H0', ρ', S', P'⟩ := h
  cases v with
  | true => exact ⟨n, H0', ρ', ts, S', fun t ht i e z => k t ht i e (List.mem_append_left _ z), P'⟩
  | false => exact ⟨n, H0', ρ', ts, S', fun t ht i e z => k t ht i e (List.mem_append_right _ z), P'⟩
theorem ps_whlR {c : Expr} {a : List Stmt} {pos : Pos} {fuel : Nat} {dc : Env → Out Bool} {da : Env → SOut} (hp : PassesOwn (model X.prog X.w) X.A X.env X.xe) (hc : PT X c (rdT T W dc)) (ha : PSs X a (rdS T W A da)) :
    PS X (.While c a [] pos) (rdS T W A fun e => whlLoop dc da fuel e) := by
  refine ps_imp (ps_while hp hc ha) fun D σ H h => ?_
  refine ⟨fun m σ H => rdS T W A (fun e => whlLoop dc da m e) D σ H, ⟨fuel, h⟩, fun m σ H h => ?_⟩
  obtain ⟨n, H0, ρ, ts, S, k, P⟩ := h
  cases m with
  | zero => exact P.elim
  | succ m =>
    refine rdT_mono (thn_t S P) fun v H1 h => ?_
    obtain ⟨H0', ρ', S', P'⟩ := h
    cases v with
    | false => exact P' _ _ _ S'
    | true =>
      refine ⟨fun σ' H' => rdS T W A (fun e => whlLoop dc da m e) D σ' H', fun σ' H' q => ⟨m, Nat.lt_succ_self m, q⟩, n, H0', ρ', ts, S', k, ?_⟩
      have P' : PostS T W n ts ((da ρ').seq fun e2 => whlLoop dc da m e2) D := P'
      cases ea : da ρ' with
      | no => rw [ea] at P'; exact P'.elim
      | ex x e => rw [ea] at P'; exact P'
      | rt r e => rw [ea] at P'; exact P'
      | nx ρ1 => rw [ea] at P'; exact fun σ' H0'' H' S'' => ⟨n, H0'', ρ1, ts, S'', k, P'⟩
end
end Mi
end
section
set_option maxHeartbeats 4000000
namespace Mi
open PySem PySem.Spec PyProof.Rows L2
/-- alike beside some slots -/
def Wq (is : List Nat) (σ σ' : L2.St) : Prop := σ'.length = σ.length ∧ ∀ j, j ∉ is → σ'[j]? = σ[j]?
section
variable (T : Tb)
/-- a plain target's reading -/
def rdG (t : Tgt) : TG := fun v σ H Q => ∃ n H0 ρ ts x ρ', ST T n H0 H σ ρ ts ∧ Rp T H0 v x ∧ t.put x ρ = some ρ' ∧ (∀ u ∈ ts, ∀ i, u.2 = .bo i → i ∉ t.is) ∧ ∀ σ', Wq t.is σ σ' → ST T n H0 H σ' ρ' ts → Q σ' H
def rdGs (is : List Nat) : TGs := fun vs σ H Q => ∃ n H0 ρ ts xs ρ', ST T n H0 H σ ρ ts ∧ Rps T H0 vs xs ∧ putNs is xs ρ = some ρ' ∧ (∀ u ∈ ts, ∀ i, u.2 = .bo i → i ∉ is) ∧ ∀ σ', Wq is σ σ' → ST T n H0 H σ' ρ' ts → Q σ' H
end
section
variable {T : Tb} {W : WX} {X : Cx} {n : En} {σ : L2.St} {H0 H : Hp} {ρ : Env} {ts us : List Tmp} {Q : VK} {A B : List Nat}
theorem pg_imp {e : Expr} {t t' : TG} (h : PG X e t) (k : ∀ v σ H Q, t' v σ H Q → t v σ H Q) : PG X e t' := ⟨fun pins s σ H v u Q I r q => h.run pins s σ H v u Q I r (k v σ H Q q)⟩
theorem pgs_imp {e : List Expr} {t t' : TGs} (h : PGs X e t) (k : ∀ v σ H Q, t' v σ H Q → t v σ H Q) : PGs X e t' := ⟨fun pins s σ H v u Q I r q => h.run pins s σ H v u Q I r (k v σ H Q q)⟩
theorem pg_nmR {i : Nat} {x : Str} {pos : Pos} (hN : X.N.Nodup) (hi : X.N[i]? = some x) (hx : Loc X.env.scope x) (hf : X.fn x = true ∨ X.env.scope.names.lookup x = some .local) : PG X (.Name x pos) (rdG T (.nm i)) := by
  refine pg_imp (pg_name hN hi hx hf) fun v σ H Q h => ?_
  obtain ⟨n, H0, ρ, ts, x, ρ', S, r, hp, k, q⟩ := h
  have hp : (if mayPut ρ i then some (ρ.set i (.sh x)) else none) = some ρ' := hp
  split at hp
  · rename_i hm
    cases hp
    exact q _ ⟨by rw [List.length_set], fun j hj => get_set_ne fun e => hj (by rw [← e]; exact List.mem_singleton.mpr rfl)⟩ ((S.addD r).store hm (.inl ⟨x, rfl, rfl⟩) (lock_ne k (List.mem_singleton.mpr rfl)))
  · cases hp
theorem pgs_nilR : PGs X [] (rdGs T []) := by
  refine pgs_imp pgs_nil fun vs σ H Q h => ?_
  obtain ⟨n, H0, ρ, ts, xs, ρ', S, r, hp, k, q⟩ := h
  cases r with
  | cons _ _ => cases hp
  | nil => cases hp; exact ⟨rfl, q σ ⟨rfl, fun j _ => rfl⟩ S⟩
theorem pgs_consR {i : Nat} {is : List Nat} {e : Expr} {es : List Expr} (h1 : PG X e (rdG T (.nm i))) (h2 : PGs X es (rdGs T is)) (hs : (assignEach (e :: es) X.env).map (·.2) = assign e X.env :: (assignEach es X.env).map (·.2)) : PGs X (e :: es) (rdGs T (i :: is)) := by
  refine pgs_imp (pgs_cons h1 h2 hs) fun vs σ H Q h => ?_
  obtain ⟨n, H0, ρ, ts, xs, ρ', S, r, hp, k, q⟩ := h
  cases r with
  | nil => cases hp
  | @cons v x vs xs r rr =>
    have hp : (if mayPut ρ i then putNs is xs (ρ.set i (.sh x)) else none) = some ρ' := hp
    split at hp
    · rename_i hm
      refine ⟨v, vs, rfl, n, H0, ρ, ts, x, ρ.set i (.sh x), S, r, ?_, fun u hu j e z => ?_, fun σ' w S' => ⟨n, H0, _, ts, xs, ρ', S', rr, hp, fun u hu j e z => k u hu j e (List.mem_cons_of_mem _ z), fun σ2 w2 => q σ2 ⟨w2.1.trans w.1, fun j hj => (w2.2 j fun z => hj (List.mem_cons_of_mem _ z)).trans (w.2 j fun z => hj (by rw [List.mem_singleton.mp z]; exact List.mem_cons_self ..))⟩⟩⟩
      · show (if mayPut ρ i then some (ρ.set i (.sh x)) else none) = _
        rw [if_pos hm]
      · have z : j ∈ [i] := z
        rw [List.mem_singleton.mp z] at e
        exact k u hu i e (List.mem_cons_self ..)
    · cases hp
theorem pg_tpR (ok : Cok T X) {is : List Nat} {es : List Expr} {kk : Nat} {pos : Pos} (h : PGs X es (rdGs T is)) (hn : (assignEach es X.env).length = is.length) (hst : (assignEach es X.env).findIdx? (·.1) = none) : PG X (.Tuple es kk pos) (rdG T (.tp is)) := by
  refine pg_imp (pg_tup ok.calm h hn hst) fun v σ H Q h => ?_
  obtain ⟨n, H0, ρ, ts, x, ρ', S, r, hp, k, q⟩ := h
  have hp : (match tupD x with
    | some xs => putNs is xs ρ
    | none => none) = some ρ' := hp
  cases x with
  | tup xs =>
    have hp : putNs is xs ρ = some ρ' := hp
    cases r with
    | @tup p vs _ h1 h2 =>
      have len : ∀ {is : List Nat} {xs : List D} {ρ : Env}, putNs is xs ρ = some ρ' → xs.length = is.length := fun {is} => by
        induction is with
        | nil => intro xs ρ h; cases xs with
          | nil => rfl
          | cons _ _ => cases h
        | cons i is ih =>
          intro xs ρ h
          cases xs with
          | nil => cases h
          | cons x xs =>
            have h : (if mayPut ρ i then putNs is xs (ρ.set i (.sh x)) else none) = some ρ' := h
            split at h
            · simp [ih h]
            · cases h
      rw [ok.hK]
      exact ⟨p, vs, rfl, Same.sqT S.sub h1, by rw [h2.length, len hp], n, H0, ρ, ts, xs, ρ', S, h2, hp, k, q⟩
  | non => cases hp
  | bl _ => cases hp
  | int _ => cases hp
  | str _ => cases hp
  | lst _ => cases hp
  | dic _ => cases hp
  | ins _ _ => cases hp
  | scr _ => cases hp
/-- for -/
theorem ps_forR (ok : Cok T X) {tg iter : Expr} {body : List Stmt} {pos : Pos} {t : Tgt} {dw : Env → Out It} {db : Env → SOut} (hp : PassesOwn (model X.prog X.w) X.A X.env X.xe) (hi : PI X tg iter (rdI T W dw)) (hg : PG X tg (rdG T t)) (hb : PSs X body (rdS T W B db))
    (hs : ∀ x, foldedSetIterable iter X.env x = pure x) :
    PS X (.For tg iter body [] pos) (rdS T W (t.is ++ B) fun e => (dw e).thn fun w e1 => if w.slots.all (fun i => !(t.is ++ B).contains i) then forLoop w t db w.len 0 e1 else .no) := by
  refine ps_imp (ps_for hp ok.calm hi hg hb hs) fun D σ H h => ?_
  obtain ⟨n, H0, ρ, ts, S, k, P⟩ := h
  refine rdI_mono (thn_it S P) fun J H1 h => ?_
  obtain ⟨H0', ρ', w, us, wk, S', ks, P'⟩ := h
  split at P'
  · rename_i hw
    have lock : ∀ u ∈ us ++ ts, ∀ i, u.2 = .bo i → i ∉ t.is ++ B := fun u hu i e => by
      rcases List.mem_append.mp hu with hu | hu
      · have z := List.all_eq_true.mp hw i (ks u hu i e)
        intro m
        rw [List.contains_iff_mem.mpr m] at z
        cases z
      · exact k u hu i e
    refine ⟨fun i m σ H => i + m = w.len ∧ ∃ H0 ρ, ST T n H0 H σ ρ (us ++ ts) ∧ PostS T W n (us ++ ts) (forLoop w t db m i ρ) D, ⟨w.len, by omega, H0', ρ', S', P'.more⟩, fun i m σ H h => ?_⟩
    obtain ⟨hl, H0a, ρa, Sa, Pa⟩ := h
    cases m with
    | zero =>
      have hl : i = w.len := by omega
      subst hl
      have Pa : PostS T W n (us ++ ts) (if w.fine ρa then .nx ρa else .no) D := Pa
      split at Pa
      · rename_i hf
        exact .inl ⟨wk.stop Sa (fun u hu => List.mem_append_left _ hu) hf, Pa _ _ _ Sa⟩
      · exact Pa.elim
    | succ m =>
      have Pa : PostS T W n (us ++ ts) (match w.at_ i ρa with
        | some x => match t.put x ρa with
          | some e1 => (db e1).seq fun e2 => forLoop w t db m (i + 1) e2
          | none => .no
        | none => .no) D := Pa
      cases ex : w.at_ i ρa with
      | none => rw [ex] at Pa; exact Pa.elim
      | some x =>
        rw [ex] at Pa
        have Pa : PostS T W n (us ++ ts) (match t.put x ρa with
          | some e1 => (db e1).seq fun e2 => forLoop w t db m (i + 1) e2
          | none => .no) D := Pa
        cases ep : t.put x ρa with
        | none => rw [ep] at Pa; exact Pa.elim
        | some ρb =>
          rw [ep] at Pa
          have Pa : PostS T W n (us ++ ts) ((db ρb).seq fun e2 => forLoop w t db m (i + 1) e2) D := Pa
          have hu : ∀ u ∈ us, u ∈ us ++ ts := fun u hu => List.mem_append_left _ hu
          have hk : i < w.len := by omega
          refine .inr ⟨wk.go Sa hu hk ex, fun σ' H' => i + 1 + m = w.len ∧ ∃ H0 ρ, ST T n H0 H' σ' ρ (us ++ ts) ∧ PostS T W n (us ++ ts) (forLoop w t db m (i + 1) ρ) D, fun σ' H' q => ⟨m, Nat.lt_succ_self m, q⟩, fun v H' y => ?_⟩
          obtain ⟨H0b, Sb⟩ := wk.yld Sa hu hk ex y
          refine ⟨n, H0b, ρa, us ++ ts, x, ρb, Sb.drop, Sb.temp _ (List.mem_cons_self ..), ep, fun u hu i e z => lock u hu i e (List.mem_append_left _ z), fun σ' _ Sc => ?_⟩
          refine ⟨n, H0b, ρb, us ++ ts, Sc, fun u hu i e z => lock u hu i e (List.mem_append_right _ z), ?_⟩
          cases ed : db ρb with
          | no => rw [ed] at Pa; exact Pa.elim
          | ex x e => rw [ed] at Pa; exact Pa
          | rt r e => rw [ed] at Pa; exact Pa
          | nx ρc => rw [ed] at Pa; exact fun σ2 H02 H2 S2 => ⟨by omega, H02, ρc, S2, Pa⟩
  · exact P'.elim
/-- a, b = x, y -/
theorem ps_parR (ok : Cok T X) {i j : Nat} {x y : Str} {a b : Expr} {own1 own2 : Bool} {da db : Env → Out Rs} {px py pt pos : Pos} {kt k2 : Nat} {pt2 : Pos} (hN : X.N.Nodup) (hi : X.N[i]? = some x) (hj : X.N[j]? = some y) (hij : i ≠ j)
    (hx : X.env.scope.names.lookup x = some .local) (hy : X.env.scope.names.lookup y = some .local) (ha : PE X a (rd T W da)) (hb : PE X b (rd T W db)) (hst : starEach [a, b] X.env = (false, eval a X.env) :: starEach [b] X.env) (hst2 : starEach [b] X.env = (false, eval b X.env) :: starEach [] X.env)
    (hw : swappedStores [.Tuple [.Name x px, .Name y py] kt pt] (.Tuple [a, b] k2 pt2) X.env = pure (some [x, y])) (hs : swapsWithSole [.Tuple [.Name x px, .Name y py] kt pt] (.Tuple [a, b] k2 pt2) pos.line X.env = pure false) :
    PS X (.Assign [.Tuple [.Name x px, .Name y py] kt pt] (.Tuple [a, b] k2 pt2) pos) (rdS T W [i, j] fun e => (da e).thn fun r e1 => (db e1).thn fun q e2 => match unbo r e2 with
      | some (r', e3) => match unbo q e3 with
        | some (q', e4) => match putR own1 i r' e4 with
          | some e5 => SOut.of (putR own2 j q' e5)
          | none => .no
        | none => .no
      | none => .no) := by
  refine ps_imp (ps_par ok.calm hN hi hj hij hx hy (pa_cons ha (pa_cons hb pa_nil hst2) hst) hw hs) fun D σ H h => ?_
  obtain ⟨n, H0, ρ, ts, S, k, P⟩ := h
  show rd T W da σ H _
  refine rd_mono (thn_one S P) fun v H1 h => ?_
  obtain ⟨H01, ρ1, r, S1, P1⟩ := h
  show rd T W db σ H1 _
  refine rd_mono (thn_one S1 P1) fun w H2 h => ?_
  obtain ⟨H02, ρ2, q, S2, P2⟩ := h
  refine ⟨v, w, rfl, ?_⟩
  cases e1 : unbo r ρ2 with
  | none => rw [e1] at P2; exact P2.elim
  | some p =>
    obtain ⟨r', ρ3⟩ := p
    rw [e1] at P2
    obtain ⟨H03, S3, nb⟩ := unbo_st S2.swap e1
    have P2 : PostS T W n ts (match unbo q ρ3 with
        | some (q', e4) => match putR own1 i r' e4 with
          | some e5 => SOut.of (putR own2 j q' e5)
          | none => .no
        | none => .no) D := P2
    cases e2 : unbo q ρ3 with
    | none => rw [e2] at P2; exact P2.elim
    | some p =>
      obtain ⟨q', ρ4⟩ := p
      rw [e2] at P2
      obtain ⟨H04, S4, nb2⟩ := unbo_st S3.swap e2
      have P2 : PostS T W n ts (match putR own1 i r' ρ4 with
          | some e5 => SOut.of (putR own2 j q' e5)
          | none => .no) D := P2
      cases e3 : putR own1 i r' ρ4 with
      | none => rw [e3] at P2; exact P2.elim
      | some ρ5 =>
        rw [e3] at P2
        obtain ⟨H05, S5⟩ := putR_st S4.swap e3 fun t ht => by
          rcases List.mem_cons.mp ht with rfl | ht
          · exact nb2 i
          · exact lock_ne k (by simp) t ht
        have P2 : PostS T W n ts (SOut.of (putR own2 j q' ρ5)) D := P2
        cases e4 : putR own2 j q' ρ5 with
        | none => rw [e4] at P2; exact P2.elim
        | some ρ6 =>
          rw [e4] at P2
          obtain ⟨H06, S6⟩ := putR_st S5 e4 (lock_ne k (by simp))
          exact P2 _ _ _ S6
end
end Mi
end
section
set_option maxHeartbeats 4000000
namespace Mi
open PySem PySem.Spec PyProof.Rows L2
section
variable {T : Tb} {W : WX} {X : Cx} {n : En} {σ : L2.St} {H0 H : Hp} {ρ : Env} {ts us : List Tmp} {Q : VK} {A B : List Nat}
theorem rpk_any : ∀ {vs : List (Key × V)} {ks : List (D × D)} {k : Key} {q : D}, RpK T H vs ks → KyR k q → (vs.any fun kv => decide (kv.1 = k)) = ks.any fun p => eqD p.1 q
  | _, _, _, _, .nil, _ => rfl
  | _, _, k, q, .cons r _ rr, h => by
    simp only [List.any_cons]
    rw [ky_eq r h, rpk_any rr h]
theorem rpk_map : ∀ {vs : List (Key × V)} {ks : List (D × D)} {k : Key} {q : D} {v : V} {x : D}, RpK T H vs ks → KyR k q → Rp T H v x → RpK T H (vs.map fun kv => if kv.1 = k then (kv.1, v) else kv) (ks.map fun p => if eqD p.1 q then (p.1, x) else p)
  | _, _, _, _, _, _, .nil, _, _ => .nil
  | _, _, k, q, v, x, .cons (k := k1) (q := q1) r r2 rr, h, hv => by
    simp only [List.map_cons]
    have e := ky_eq r h
    have ih := rpk_map rr h hv
    by_cases z : k1 = k
    · rw [if_pos z]
      have e : eqD q1 q = true := by rw [← e]; exact decide_eq_true z
      rw [if_pos e]
      exact .cons r hv ih
    · rw [if_neg z]
      have e : eqD q1 q = false := by rw [← e]; exact decide_eq_false z
      rw [e]
      exact .cons r r2 ih
theorem rpk_app : ∀ {vs ws : List (Key × V)} {ks ls : List (D × D)}, RpK T H vs ks → RpK T H ws ls → RpK T H (vs ++ ws) (ks ++ ls)
  | _, _, _, _, .nil, h => h
  | _, _, _, _, .cons a b c, h => .cons a b (rpk_app c h)
theorem rpk_put {vs : List (Key × V)} {ks : List (D × D)} {k : Key} {q : D} {v : V} {x : D} (h : RpK T H vs ks) (hk : KyR k q) (hv : Rp T H v x) : RpK T H (putK vs k v) (putD q x ks) := by
  unfold putK putD
  rw [rpk_any h hk]
  split
  · exact rpk_map h hk hv
  · exact rpk_app h (.cons hk hv .nil)
/-- an own object, by its slot -/
theorem ob_at {v : V} {j : Nat} {o : Ob} (S : ST T n H0 H σ ρ ts) (m : (v, Rs.bo j) ∈ ts) (h : obAt ρ j = some o) : ∃ p, v = .ref p ∧ ObR T H0 H p o ∧ σ[j]? = some (some (.ref p)) ∧ (ρ[j]? = some (.ow o) ∨ ρ[j]? = some (.pa o)) := by
  obtain ⟨a, s, b, c⟩ := S.temp _ m
  have a : σ[j]? = some (some v) := a
  have h : (match ρ[j]? with
    | some (.ow o) => some o
    | some (.pa o) => some o
    | _ => none) = some o := h
  obtain ⟨y, hy, q⟩ := S.slot j s b
  rw [a] at hy
  cases hy
  rw [b] at h
  cases s with
  | un => cases h
  | xc _ => cases h
  | sh d => cases h
  | ow o' => cases h; obtain ⟨p, ep, _, _, r⟩ := q; cases ep; exact ⟨p, rfl, r, a, .inl b⟩
  | pa o' => cases h; obtain ⟨p, ep, _, _, r⟩ := q; cases ep; exact ⟨p, rfl, r, a, .inr b⟩
theorem putOb_st {v : V} {j : Nat} {o o' : Ob} {ρ' : Env} (S : ST T n H0 H σ ρ ts) (m : (v, Rs.bo j) ∈ ts) (h : obAt ρ j = some o) (h2 : putOb ρ j o' = some ρ') :
    ∃ p, v = .ref p ∧ ObR T H0 H p o ∧ ∀ u, ObR T H0 (upd H p u) p o' → ST T n H0 (upd H p u) σ ρ' ts := by
  obtain ⟨p, e, r, a, b⟩ := ob_at S m h
  refine ⟨p, e, r, fun u ru => ?_⟩
  have h2 : (match ρ[j]? with
    | some (.ow _) => some (ρ.set j (.ow o'))
    | some (.pa _) => some (ρ.set j (.pa o'))
    | _ => none) = some ρ' := h2
  rcases b with b | b
  · rw [b] at h2
    cases h2
    exact S.write b (.inl ⟨rfl, rfl⟩) a ru
  · rw [b] at h2
    cases h2
    exact S.write b (.inr ⟨rfl, rfl⟩) a ru
/-! ### o[i] = v -/
def rSet : TSet := fun o i v H Q => rSetL o i v H Q ∨ rSetD o i v H Q
theorem set_any (ok : Ck T X) : PSet X rSet := fun pins s σ H o i v ov iv u Q I ro ri rv h => h.elim (set_list pins s σ H o i v ov iv u Q I ro ri rv) (set_dict (Nat.lt_of_le_of_lt (Nat.add_le_add_left (by decide) _) ok.un) pins s σ H o i v ov iv u Q I ro ri rv)
theorem setSub_st {ov iv v : V} {ro ri : Rs} {k x : D} {ρ' : Env} (S : ST T n H0 H σ ρ ((iv, ri) :: (ov, ro) :: (v, .d x) :: ts)) (hk : ri.see ρ = some k) (h : setSubS ro k x ρ = some ρ') {P : Hp → Prop} (q : ∀ H', ST T n H0 H' σ ρ' ts → P H') : rSet ov iv v H P := by
  cases ro with
  | d _ => cases h
  | fr _ => cases h
  | bo j =>
    have rv := S.seeOf (List.mem_cons_self ..) hk
    have rx : Rp T H0 v x := S.temp (v, .d x) (by simp)
    have h : (match obAt ρ j with
      | some (.lst xs) => (match (generalizing := false) k with
        | .int k => (plc xs.length k).bind fun n => putOb ρ j (.lst (xs.set n x))
        | _ => none)
      | some (.dic ks) => if keyD k && szOk ks.length then putOb ρ j (.dic (putD k x ks)) else none
      | _ => none) = some ρ' := h
    cases eo : obAt ρ j with
    | none => rw [eo] at h; cases h
    | some o =>
      rw [eo] at h
      cases o with
      | ins _ _ => cases h
      | lst xs =>
        have h : (match (generalizing := false) k with
          | .int k => (plc xs.length k).bind fun n => putOb ρ j (.lst (xs.set n x))
          | _ => none) = some ρ' := h
        cases k with
        | int k =>
          have h : ((plc xs.length k).bind fun n => putOb ρ j (.lst (xs.set n x))) = some ρ' := h
          cases ep : plc xs.length k with
          | none => rw [ep] at h; cases h
          | some m =>
            rw [ep] at h
            obtain ⟨p, e, ⟨vs, h1, h2⟩, w⟩ := putOb_st (v := ov) (j := j) S (by simp) eo h
            subst e
            obtain rfl := rv.int
            refine .inl ⟨p, vs, k, m, rfl, rfl, h1, by rw [h2.length, ← plc_ix]; exact ep, q _ (w _ ⟨_, upd_same, h2.set rx⟩).drop.drop.drop⟩
        | non => cases h
        | bl _ => cases h
        | str _ => cases h
        | tup _ => cases h
        | lst _ => cases h
        | dic _ => cases h
        | ins _ _ => cases h
        | scr _ => cases h
      | dic ks =>
        have h : (if keyD k && szOk ks.length then putOb ρ j (.dic (putD k x ks)) else none) = some ρ' := h
        split at h
        · rename_i hc
          rw [Bool.and_eq_true] at hc
          obtain ⟨p, e, ⟨vs, h1, h2⟩, w⟩ := putOb_st (v := ov) (j := j) S (by simp) eo h
          subst e
          obtain ⟨kk, ek, hk2⟩ := ky_of (rv.rp S.sub) hc.1
          subst ek
          refine .inr ⟨p, _, rfl, .k h1 (by rw [rpk_len h2]; exact sz_lt hc.2), q _ (w _ ⟨_, upd_same, rpk_put h2 hk2 rx⟩).drop.drop.drop⟩
        · cases h
/-- a target of any kind -/
def rdTg (T : Tb) (W : WX) (A : List Nat) (d : D → Env → SOut) : TG := fun v σ H Q => ∃ n H0 ρ ts x, ST T n H0 H σ ρ ((v, .d x) :: ts) ∧ (∀ u ∈ ts, ∀ i, u.2 = .bo i → i ∉ A) ∧ PostS T W n ts (d x ρ) { nx := Q, rt := fun _ _ => False }
theorem tg_nm {i : Nat} {x : Str} {pos : Pos} (hN : X.N.Nodup) (hi : X.N[i]? = some x) (hx : Loc X.env.scope x) (hf : X.fn x = true ∨ X.env.scope.names.lookup x = some .local) : PG X (.Name x pos) (rdTg T W [i] fun x e => SOut.of (if mayPut e i then some (e.set i (.sh x)) else none)) := by
  refine pg_imp (pg_name hN hi hx hf) fun v σ H Q h => ?_
  obtain ⟨n, H0, ρ, ts, x, S, k, P⟩ := h
  have P : PostS T W n ts (SOut.of (if mayPut ρ i then some (ρ.set i (.sh x)) else none)) _ := P
  split at P
  · rename_i hm
    exact P _ _ _ (S.store hm (.inl ⟨x, rfl, rfl⟩) (lock_ne k (List.mem_singleton.mpr rfl)))
  · exact P.elim
theorem tg_sub (ok : Ck T X) {o i : Expr} {pos : Pos} {od id : Env → Out Rs} (ho : PE X o (rd T W od)) (hi : PE X i (rd T W id))
    (ha : ∀ v, assign (.Subscript o i pos) X.env v = (do
      let ov ← holding [v] (eval o X.env)
      let iv ← holding [v, ov] (eval i X.env)
      standAt pos
      holding [v, ov, iv] (setItem ov iv v)
      release [v, ov, iv] [])) : PG X (.Subscript o i pos) (rdTg T W [] fun x e => (od e).thn fun ro e1 => (id e1).thn fun ri e2 => match ri.see e2 with
    | some k => SOut.of (setSubS ro k x e2)
    | none => .no) := by
  refine pg_imp (pg_sub ho hi (set_any ok) ha) fun v σ H Q h => ?_
  obtain ⟨n, H0, ρ, ts, x, S, k, P⟩ := h
  refine rd_mono (thn_one S P) fun ov H1 h => ?_
  obtain ⟨H01, ρ1, ro, S1, P1⟩ := h
  refine rd_mono (thn_one S1 P1) fun iv H2 h => ?_
  obtain ⟨H02, ρ2, ri, S2, P2⟩ := h
  cases ek : ri.see ρ2 with
  | none => rw [ek] at P2; exact P2.elim
  | some kk =>
    rw [ek] at P2
    have P2 : PostS T W n ts (SOut.of (setSubS ro kk x ρ2)) _ := P2
    cases es : setSubS ro kk x ρ2 with
    | none => rw [es] at P2; exact P2.elim
    | some ρ3 =>
      rw [es] at P2
      exact setSub_st S2 ek es fun H' S' => P2 _ _ _ S'
theorem of_nort {o : Option Env} {r : Rs} {e : Env} : SOut.of o ≠ .rt r e := by
  cases o <;> exact fun z => nomatch z
theorem thn_nort {α : Type} {o : Out α} {f : α → Env → SOut} {r : Rs} {e : Env} (h : ∀ a e', f a e' ≠ .rt r e) : o.thn f ≠ .rt r e := by
  cases o with
  | ok a e' => exact h a e'
  | ex x e' => exact fun z => nomatch z
  | no => exact fun z => nomatch z
/-- a value goes to a target -/
theorem ps_asgR {tg e : Expr} {d : Env → Out Rs} {f : D → Env → SOut} {pos : Pos} (he : PE X e (rd T W d)) (hg : PG X tg (rdTg T W A f)) (hs : swapsWithSole [tg] e pos.line X.env = pure false) (hw : swappedStores [tg] e X.env = pure none)
    (h1 : (assignEach [tg] X.env).map (·.2) = [assign tg X.env]) (hf : ∀ x e r e', f x e ≠ .rt r e') : PS X (.Assign [tg] e pos) (rdS T W A fun e => (d e).thn fun r e1 => match r.hold e1 with
    | some (x, e2) => f x e2
    | none => .no) := by
  refine ps_imp (ps_asg he hg hs hw h1) fun D σ H h => ?_
  obtain ⟨n, H0, ρ, ts, S, k, P⟩ := h
  refine rd_mono (thn_one S P) fun v H1 h => ?_
  obtain ⟨H01, ρ1, r, S1, P1⟩ := h
  cases er : r.hold ρ1 with
  | none => rw [er] at P1; exact P1.elim
  | some p =>
    obtain ⟨x, ρ2⟩ := p
    rw [er] at P1
    obtain ⟨H02, S2⟩ := S1.holdR er
    refine ⟨n, H02, ρ2, ts, x, S2, k, ?_⟩
    have P1 : PostS T W n ts (f x ρ2) D := P1
    revert P1
    cases ef : f x ρ2 with
    | no => exact fun z => z
    | nx ρ3 => exact fun z => z
    | ex _ _ => exact fun z => z
    | rt r ρ3 => exact (hf _ _ _ _ ef).elim
theorem ps_setSubR (ok : Ck T X) {o i e : Expr} {pos' pos : Pos} {d od id : Env → Out Rs} (he : PE X e (rd T W d)) (ho : PE X o (rd T W od)) (hi : PE X i (rd T W id))
    (ha : ∀ v, assign (.Subscript o i pos') X.env v = (do
      let ov ← holding [v] (eval o X.env)
      let iv ← holding [v, ov] (eval i X.env)
      standAt pos'
      holding [v, ov, iv] (setItem ov iv v)
      release [v, ov, iv] [])) (hs : swapsWithSole [.Subscript o i pos'] e pos.line X.env = pure false) (hw : swappedStores [.Subscript o i pos'] e X.env = pure none)
    (h1 : (assignEach [.Subscript o i pos'] X.env).map (·.2) = [assign (.Subscript o i pos') X.env]) :
    PS X (.Assign [.Subscript o i pos'] e pos) (rdS T W [] fun e => (d e).thn fun r e1 => match r.hold e1 with
    | some (x, e2) => (od e2).thn fun ro e3 => (id e3).thn fun ri e4 => match ri.see e4 with
      | some k => SOut.of (setSubS ro k x e4)
      | none => .no
    | none => .no) :=
  ps_asgR he (tg_sub ok ho hi ha) hs hw h1 fun x e r e' => thn_nort fun ro e1 => thn_nort fun ri e2 => by
    split
    · exact of_nort
    · exact fun z => nomatch z
/-- o.f = e -/
theorem ps_setFldR (ok : Ck T X) {G : Gs} (hc : ClsOk T G) {o e : Expr} {f : Nat} {pos' pos : Pos} {d od : Env → Out Rs} (he : PE X e (rd T W d)) (ho : PE X o (rd T W od)) (hs : swapsWith e (some (.Attribute o (T.an f) pos')) pos.line X.env = pure false) :
    PS X (.Assign [.Attribute o (T.an f) pos'] e pos) (rdS T W [] fun e => (d e).thn fun r e1 => match r.hold e1 with
    | some (x, e2) => (od e2).thn fun ro e3 => SOut.of (setFldS G ro f x e3)
    | none => .no) := by
  refine ps_imp (ps_fld ho he hs) fun D σ H h => ?_
  obtain ⟨n, H0, ρ, ts, S, k, P⟩ := h
  refine rd_mono (thn_one S P) fun v H1 h => ?_
  obtain ⟨H01, ρ1, r, S1, P1⟩ := h
  cases er : r.hold ρ1 with
  | none => rw [er] at P1; exact P1.elim
  | some p =>
    obtain ⟨x, ρ2⟩ := p
    rw [er] at P1
    obtain ⟨H02, S2⟩ := S1.holdR er
    refine rd_mono (thn_one S2 P1) fun ov H2 h => ?_
    obtain ⟨H03, ρ3, ro, S3, P3⟩ := h
    cases es : setFldS G ro f x ρ3 with
    | none => rw [es] at P3; exact P3.elim
    | some ρ4 =>
      rw [es] at P3
      cases ro with
      | d _ => cases es
      | fr _ => cases es
      | bo j =>
        have rx : Rp T H03 v x := S3.temp (v, .d x) (by simp)
        have es : (match obAt ρ3 j with
          | some (.ins c fs) => if G.free c f && decide (fs.length < 1000) then putOb ρ3 j (.ins c (putFs f x fs)) else none
          | _ => none) = some ρ4 := es
        cases eo : obAt ρ3 j with
        | none => rw [eo] at es; cases es
        | some ob =>
          rw [eo] at es
          cases ob with
          | lst _ => cases es
          | dic _ => cases es
          | ins c fs =>
            have es : (if G.free c f && decide (fs.length < 1000) then putOb ρ3 j (.ins c (putFs f x fs)) else none) = some ρ4 := es
            split at es
            · rename_i hcond
              rw [Bool.and_eq_true] at hcond
              obtain ⟨p, ep, ⟨dx, vs, h1, h2⟩, w⟩ := putOb_st (v := ov) (j := j) S3 (by simp) eo es
              subst ep
              rw [ok.hK]
              exact ⟨p, _, dx, vs, rfl, h1, hc.cls _ _ hcond.1, hc.att _ _ hcond.1, by rw [h2.length]; exact of_decide_eq_true hcond.2, P3 _ _ _ (w _ ⟨dx, _, upd_same, h2.put rx⟩).drop.drop⟩
            · cases es
/-- name op= e -/
theorem ps_augR {i : Nat} {x : Str} {e : Expr} {op : Bop} {pos pos' : Pos} {d : Env → Out Rs} (hop : op = .add ∨ op = .sub) (hN : X.N.Nodup) (hi : X.N[i]? = some x) (hx : Loc X.env.scope x) (he : PE X e (rd T W d)) (hf : X.fn x = true ∨ X.env.scope.names.lookup x = some .local) :
    PS X (.AugAssign (.Name x pos') (opOf op) e pos) (rdS T W [i] fun e => match e[i]? with
      | some (.sh (.int n)) => (d e).thn fun r e1 => match r with
        | .d (.int k) => match (generalizing := false) op with
          | .add => SOut.of (putR false i (.d (.int (n + k))) e1)
          | .sub => SOut.of (putR false i (.d (.int (n - k))) e1)
          | _ => .no
        | _ => .no
      | _ => .no) := by
  have main : ∀ (g : Int → Int → Int), PIp X (opOf op) (ipI g) → PS X (.AugAssign (.Name x pos') (opOf op) e pos) (rdS T W [i] fun e => match e[i]? with
      | some (.sh (.int n)) => (d e).thn fun r e1 => match r with
        | .d (.int k) => SOut.of (putR false i (.d (.int (g n k))) e1)
        | _ => .no
      | _ => .no) := fun g hip => by
    refine ps_imp (ps_aug hN hi hx he hip hf) fun D σ H h => ?_
    obtain ⟨n, H0, ρ, ts, S, k, P⟩ := h
    cases ei : ρ[i]? with
    | none => simp only [ei] at P; exact P.elim
    | some s =>
      cases s with
      | un => simp only [ei] at P; exact P.elim
      | xc _ => simp only [ei] at P; exact P.elim
      | ow _ => simp only [ei] at P; exact P.elim
      | pa _ => simp only [ei] at P; exact P.elim
      | sh y =>
        cases y with
        | int m =>
          simp only [ei] at P
          obtain ⟨w, hw, u, eu, ru⟩ := S.slot i _ ei
          subst eu
          cases ru
          refine ⟨_, hw, rd_mono (thn_one S P) fun v H1 h => ?_⟩
          obtain ⟨H01, ρ1, r, S1, P1⟩ := h
          cases r with
          | fr _ => exact P1.elim
          | bo _ => exact P1.elim
          | d z =>
            cases z with
            | int q =>
              have r : Rp T _ v (.int q) := S1.temp _ (List.mem_cons_self ..)
              cases r
              have P1 : PostS T W n ts (SOut.of (putR false i (.d (.int (g m q))) ρ1)) D := P1
              cases ep : putR false i (.d (.int (g m q))) ρ1 with
              | none => rw [ep] at P1; exact P1.elim
              | some ρ2 =>
                rw [ep] at P1
                obtain ⟨H02, S2⟩ := putR_st (S1.drop.addD (.int (g m q))) ep (lock_ne k (List.mem_singleton.mpr rfl))
                exact ⟨m, q, rfl, rfl, P1 _ _ _ S2⟩
            | non => exact P1.elim
            | bl _ => exact P1.elim
            | str _ => exact P1.elim
            | tup _ => exact P1.elim
            | lst _ => exact P1.elim
            | dic _ => exact P1.elim
            | ins _ _ => exact P1.elim
            | scr _ => exact P1.elim
        | non => simp only [ei] at P; exact P.elim
        | bl _ => simp only [ei] at P; exact P.elim
        | str _ => simp only [ei] at P; exact P.elim
        | tup _ => simp only [ei] at P; exact P.elim
        | lst _ => simp only [ei] at P; exact P.elim
        | dic _ => simp only [ei] at P; exact P.elim
        | ins _ _ => simp only [ei] at P; exact P.elim
        | scr _ => simp only [ei] at P; exact P.elim
  rcases hop with rfl | rfl
  · exact main (fun a b => a + b) ip_add
  · exact main (fun a b => a - b) ip_sub
end
end Mi
end
section
set_option maxHeartbeats 4000000
namespace Mi
open PySem PySem.Spec PyProof.Rows L2
section
variable {T : Tb} {W : WX} {X : Cx} {n : En} {σ : L2.St} {H0 H : Hp} {ρ : Env} {ts us : List Tmp} {Q : VK} {A B : List Nat}
/-- a new object that is a temporary is written -/
theorem ST.writeT {p : Addr} {o o' : Ob} {u : HO} (S : ST T n H0 H σ ρ ((.ref p, .fr o) :: ts)) (r : ObR T H0 (upd H p u) p o') : ST T n H0 (upd H p u) σ ρ ((.ref p, .fr o') :: ts) := by
  obtain ⟨q, eq, hn, h0, rr⟩ := S.temp _ (List.mem_cons_self ..)
  have eq : V.ref p = .ref q := eq
  cases eq
  have nd := S.dtt
  rw [tmpL_cons_fr] at nd
  obtain ⟨nd1, nd2⟩ := List.nodup_cons.mp nd
  have own : ∀ i, ¬ OwnAt σ ρ i p := S.dts p (by rw [tmpL_cons_fr]; exact List.mem_cons_self ..)
  have mv : ∀ {q o2}, q ≠ p → ObR T H0 H q o2 → ObR T H0 (upd H p u) q o2 := fun ne h => h.move (Same.refl H0) (upd_ne ne)
  exact {
    sub := fun b o h => by
      have ne : b ≠ p := fun z => by subst z; rw [h0] at h; cases h
      rw [upd_ne ne]
      exact S.sub b o h
    s0 := S.s0
    len := S.len
    slot := fun j t ht => by
      obtain ⟨y, hy, q⟩ := S.slot j t ht
      refine ⟨y, hy, ?_⟩
      cases t with
      | un => exact q
      | xc _ => exact q
      | sh d => exact q
      | ow o2 =>
        obtain ⟨q, a, b, c, d⟩ := q
        subst a
        exact ⟨q, rfl, b, c, mv (fun w => own j ⟨w ▸ hy, _, ht, rfl⟩) d⟩
      | pa o2 =>
        obtain ⟨q, a, b, c, d⟩ := q
        subst a
        exact ⟨q, rfl, b, c, mv (fun w => own j ⟨w ▸ hy, _, ht, rfl⟩) d⟩
    temp := fun t ht' => by
      rcases List.mem_cons.mp ht' with rfl | ht'
      · exact ⟨p, rfl, hn, h0, r⟩
      · have r := S.temp t (List.mem_cons_of_mem _ ht')
        obtain ⟨v, q⟩ := t
        cases q with
        | d x => exact r
        | bo j => exact r
        | fr o2 =>
          obtain ⟨q, a, b, c, d⟩ := r
          have a' : v = .ref q := a
          subst a'
          exact ⟨q, rfl, b, c, mv (fun z => nd1 (z ▸ tmpL_mem ht')) d⟩
    dist := S.dist
    dtt := by rw [tmpL_cons_fr]; exact nd
    dts := fun q hq i h => S.dts q (by rw [tmpL_cons_fr] at hq ⊢; exact hq) i h
    pak := S.pak
    keep := fun b o h k => by
      have ne : b ≠ p := fun z => by subst z; rw [hn] at h; cases h
      rw [upd_ne ne]
      exact S.keep b o h k
    dom := fun b o h => by
      have ne : b ≠ p := fun z => by subst z; rw [hn] at h; cases h
      rw [upd_ne ne]
      exact S.dom b o h
    new := S.new }
/-! ### a comprehension's own names -/
theorem wipe_get (σ : L2.St) : ∀ (is : List Nat) (j : Nat), (wipe σ is)[j]? = if j ∈ is then (if j < σ.length then some none else none) else σ[j]?
  | [], j => by simp [wipe]
  | i :: is, j => by
    show ((wipe σ is).set i none)[j]? = _
    by_cases e : i = j
    · subst e
      rw [if_pos (List.mem_cons_self ..)]
      by_cases hl : i < σ.length
      · rw [if_pos hl, get_set_same (by rw [wipe_length]; exact hl)]
      · rw [if_neg hl, List.getElem?_eq_none (by rw [List.length_set, wipe_length]; omega)]
    · rw [get_set_ne e, wipe_get σ is j]
      have z : j ∈ i :: is ↔ j ∈ is := by
        constructor
        · intro h
          rcases List.mem_cons.mp h with h | h
          · exact (e h.symm).elim
          · exact h
        · exact List.mem_cons_of_mem _
      simp only [z]
theorem wipeE_len (ρ : Env) : ∀ is : List Nat, (wipeE ρ is).length = ρ.length
  | [] => rfl
  | i :: is => by
    show ((wipeE ρ is).set i .un).length = _
    rw [List.length_set, wipeE_len ρ is]
theorem wipeE_get (ρ : Env) : ∀ (is : List Nat) (j : Nat), (wipeE ρ is)[j]? = if j ∈ is then (if j < ρ.length then some .un else none) else ρ[j]?
  | [], j => by simp [wipeE]
  | i :: is, j => by
    show ((wipeE ρ is).set i .un)[j]? = _
    by_cases e : i = j
    · subst e
      rw [if_pos (List.mem_cons_self ..)]
      by_cases hl : i < ρ.length
      · rw [if_pos hl, get_set_same (by rw [wipeE_len]; exact hl)]
      · rw [if_neg hl, List.getElem?_eq_none (by rw [List.length_set, wipeE_len]; omega)]
    · rw [get_set_ne e, wipeE_get ρ is j]
      have z : j ∈ i :: is ↔ j ∈ is := by
        constructor
        · intro h
          rcases List.mem_cons.mp h with h | h
          · exact (e h.symm).elim
          · exact h
        · exact List.mem_cons_of_mem _
      simp only [z]
theorem wipe_eq {is : List Nat} {σ σ' : L2.St} (h : Wq is (wipe σ is) σ') : wipe σ' is = wipe σ is := by
  apply List.ext_getElem?
  intro j
  rw [wipe_get, wipe_get]
  have hl : σ'.length = σ.length := by rw [h.1, wipe_length]
  by_cases z : j ∈ is
  · rw [if_pos z, if_pos z, hl]
  · rw [if_neg z, if_neg z, h.2 j z, wipe_get, if_neg z]
/-- some slots are forgotten -/
theorem ST.forget {is : List Nat} (S : ST T n H0 H σ ρ ts) (hp : ∀ q ∈ n.pas, q.1 ∉ is) (ht : ∀ t ∈ ts, ∀ i ∈ is, t.2 ≠ .bo i) : ST T n H0 H (wipe σ is) (wipeE ρ is) ts := by
  have back : ∀ {j q}, OwnAt (wipe σ is) (wipeE ρ is) j q → OwnAt σ ρ j q := fun {j q} ⟨a, s, b, c⟩ => by
    by_cases z : j ∈ is
    · rw [wipeE_get, if_pos z] at b
      split at b
      · cases b; cases c
      · cases b
    · rw [wipeE_get, if_neg z] at b
      rw [wipe_get, if_neg z] at a
      exact ⟨a, s, b, c⟩
  exact {
    sub := S.sub
    s0 := S.s0
    len := by rw [wipe_length, wipeE_len]; exact S.len
    slot := fun j s hj => by
      by_cases z : j ∈ is
      · rw [wipeE_get, if_pos z] at hj
        split at hj
        · rename_i hl
          cases hj
          exact ⟨none, by rw [wipe_get, if_pos z, if_pos (by rw [S.len]; exact hl)], True.intro⟩
        · cases hj
      · rw [wipeE_get, if_neg z] at hj
        obtain ⟨x, hx, q⟩ := S.slot j s hj
        exact ⟨x, by rw [wipe_get, if_neg z]; exact hx, q⟩
    temp := fun t h => by
      have q := S.temp t h
      obtain ⟨v, r⟩ := t
      cases r with
      | d x => exact q
      | fr o => exact q
      | bo j =>
        have z : j ∉ is := fun z => ht _ h j z rfl
        obtain ⟨a, s, b, c⟩ := q
        exact ⟨by rw [wipe_get, if_neg z]; exact a, s, by rw [wipeE_get, if_neg z]; exact b, c⟩
    dist := fun i j p h1 h2 => S.dist i j p (back h1) (back h2)
    dtt := S.dtt
    dts := fun p hp i h => S.dts p hp i (back h)
    pak := fun q hq => by
      obtain ⟨a, o, b⟩ := S.pak q hq
      have z := hp q hq
      exact ⟨by rw [wipe_get, if_neg z]; exact a, o, by rw [wipeE_get, if_neg z]; exact b⟩
    keep := S.keep
    dom := S.dom
    new := S.new }
def isBo (i : Nat) : Rs → Bool
  | .bo j => i == j
  | _ => false
theorem isBo_ne {i : Nat} {r : Rs} (h : (!isBo i r) = true) : r ≠ .bo i := fun z => by
  subst z
  have h : (!(i == i)) = true := h
  rw [beq_self_eq_true] at h
  cases h
theorem tmpL_filter (i : Nat) : ∀ ts : List Tmp, tmpL (ts.filter fun t => !isBo i t.2) = tmpL ts
  | [] => rfl
  | (v, r) :: ts => by
    cases r with
    | d x =>
      rw [List.filter_cons_of_pos (by rfl), tmpL_cons_d, tmpL_cons_d, tmpL_filter i ts]
    | fr o =>
      rw [List.filter_cons_of_pos (by rfl)]
      cases v <;> first
        | (rw [tmpL_cons_fr, tmpL_cons_fr, tmpL_filter i ts])
        | (show tmpL (ts.filter _) = tmpL ts; exact tmpL_filter i ts)
    | bo j =>
      rw [tmpL_cons_bo]
      by_cases e : i = j
      · subst e
        rw [List.filter_cons_of_neg (by show ¬ (!(i == i)) = true; rw [beq_self_eq_true]; exact fun z => nomatch z), tmpL_filter i ts]
      · rw [List.filter_cons_of_pos (by show (!(i == j)) = true; rw [beq_false_of_ne e]; rfl), tmpL_cons_bo, tmpL_filter i ts]
theorem tmpL_data : ∀ {ks : List Tmp}, (∀ u ∈ ks, ∃ d, u.2 = Rs.d d) → tmpL ks = []
  | [], _ => rfl
  | (v, r) :: ks, h => by
    obtain ⟨d, e⟩ := h (v, r) (List.mem_cons_self ..)
    have e : r = .d d := e
    subst e
    rw [tmpL_cons_d]
    exact tmpL_data fun u hu => h u (List.mem_cons_of_mem _ hu)
/-- one slot is forgotten, and comes back -/
theorem ST.wipe1 {i : Nat} (S : ST T n H0 H σ ρ ts) (h : ρ[i]? = some .un ∨ ∃ d, ρ[i]? = some (.sh d)) :
    ∃ ks : List Tmp, (∀ u ∈ ks, ∃ d, u.2 = .d d) ∧ ST T n H0 H (wipe σ [i]) (wipeE ρ [i]) (ks ++ ts.filter fun t => !isBo i t.2) ∧
      ∀ H0' H' ρ' us, ST T n H0' H' (wipe σ [i]) ρ' (us ++ (ks ++ ts.filter fun t => !isBo i t.2)) → (∀ u ∈ us, u.2 ≠ .bo i) → ST T n H0' H' σ (ρ'.set i (ρ[i]?.getD .un)) (us ++ ts) := by
  obtain ⟨s0, hs0, hs⟩ : ∃ s0, ρ[i]? = some s0 ∧ (s0 = .un ∨ ∃ d, s0 = .sh d) := by
    rcases h with h | ⟨d, h⟩
    · exact ⟨_, h, .inl rfl⟩
    · exact ⟨_, h, .inr ⟨d, rfl⟩⟩
  have il := lt_of_get hs0
  have hp : ∀ q ∈ n.pas, q.1 ≠ i := fun q hq e => by
    obtain ⟨_, o, b⟩ := S.pak q hq
    rw [e, hs0] at b
    rcases hs with rfl | ⟨d, rfl⟩ <;> cases b
  -- what stands there, kept as a temporary
  obtain ⟨ks, hk, Sk, hkv⟩ : ∃ ks : List Tmp, (∀ u ∈ ks, ∃ d, u.2 = .d d) ∧ ST T n H0 H σ ρ (ks ++ ts) ∧ (∀ d, s0 = .sh d → ∃ v, σ[i]? = some (some v) ∧ (v, Rs.d d) ∈ ks) := by
    rcases hs with rfl | ⟨d, rfl⟩
    · exact ⟨[], fun u hu => by simp at hu, S, fun d e => nomatch e⟩
    · obtain ⟨x, hx, v, ev, rv⟩ := S.slot i _ hs0
      subst ev
      exact ⟨[(v, .d d)], fun u hu => ⟨d, by rw [List.mem_singleton.mp hu]⟩, S.addD rv, fun d' e => by cases e; exact ⟨v, hx, List.mem_singleton.mpr rfl⟩⟩
  have Sf : ST T n H0 H σ ρ (ks ++ ts.filter fun t => !isBo i t.2) := {
    Sk with
    temp := fun t ht => Sk.temp t (by
      rcases List.mem_append.mp ht with ht | ht
      · exact List.mem_append_left _ ht
      · exact List.mem_append_right _ (List.mem_filter.mp ht).1)
    dtt := by rw [tmpL_append, tmpL_filter, ← tmpL_append]; exact Sk.dtt
    dts := fun p hp j hj => Sk.dts p (by rw [tmpL_append, tmpL_filter, ← tmpL_append] at hp; exact hp) j hj }
  refine ⟨ks, hk, Sf.forget (fun q hq z => hp q hq (List.mem_singleton.mp z)) (fun t ht j hj => ?_), fun H0' H' ρ' us S' hu => ?_⟩
  · rw [List.mem_singleton.mp hj]
    rcases List.mem_append.mp ht with ht | ht
    · obtain ⟨d, e⟩ := hk t ht
      rw [e]
      exact fun z => nomatch z
    · exact isBo_ne (List.mem_filter.mp ht).2
  · have e0 : ρ[i]?.getD .un = s0 := by rw [hs0]; rfl
    rw [e0]
    have hl : σ.length = ρ'.length := by have := S'.len; rw [wipe_length] at this; exact this
    have il' : i < ρ'.length := by rw [← hl, S.len]; exact il
    have gw : ∀ j, j ≠ i → (wipe σ [i])[j]? = σ[j]? := fun j hj => by rw [wipe_get, if_neg (by simpa using hj)]
    have no0 : isOwn s0 = false := by rcases hs with rfl | ⟨d, rfl⟩ <;> rfl
    have back : ∀ {j q}, OwnAt σ (ρ'.set i s0) j q → OwnAt (wipe σ [i]) ρ' j q := fun {j q} ⟨a, s, b, c⟩ => by
      by_cases e : i = j
      · subst e
        rw [get_set_same il'] at b
        cases b
        rw [no0] at c
        cases c
      · rw [get_set_ne e] at b
        exact ⟨by rw [gw j (Ne.symm e)]; exact a, s, b, c⟩
    have etl : tmpL (us ++ (ks ++ ts.filter fun t => !isBo i t.2)) = tmpL (us ++ ts) := by
      rw [tmpL_append, tmpL_append, tmpL_filter, tmpL_data hk, List.nil_append, ← tmpL_append]
    exact {
      sub := S'.sub
      s0 := S'.s0
      len := by rw [List.length_set]; exact hl
      slot := fun j s hj => by
        by_cases e : i = j
        · subst e
          rw [get_set_same il'] at hj
          cases hj
          obtain ⟨x, hx, _⟩ := S.slot i _ hs0
          rcases hs with rfl | ⟨d, rfl⟩
          · exact ⟨x, hx, True.intro⟩
          · obtain ⟨v, hv, m⟩ := hkv d rfl
            exact ⟨_, hv, v, rfl, S'.temp (v, .d d) (List.mem_append_right _ (List.mem_append_left _ m))⟩
        · rw [get_set_ne e] at hj
          obtain ⟨x, hx, q⟩ := S'.slot j s hj
          rw [gw j (Ne.symm e)] at hx
          exact ⟨x, hx, q⟩
      temp := fun t ht => by
        have other : ∀ {t}, t ∈ us ++ (ks ++ ts.filter fun t => !isBo i t.2) → t.2 ≠ .bo i → TmpR T n H0' H' σ (ρ'.set i s0) t.1 t.2 := fun {t} ht ne => by
          have q := S'.temp t ht
          obtain ⟨v, r⟩ := t
          cases r with
          | d x => exact q
          | fr o => exact q
          | bo j =>
            have z : j ≠ i := fun z => ne (by rw [z])
            obtain ⟨a, s, b, c⟩ := q
            exact ⟨by rw [← gw j z]; exact a, s, by rw [get_set_ne (Ne.symm z)]; exact b, c⟩
        rcases List.mem_append.mp ht with ht | ht
        · exact other (List.mem_append_left _ ht) (hu t ht)
        · by_cases e : (!isBo i t.2) = true
          · exact other (List.mem_append_right _ (List.mem_append_right _ (List.mem_filter.mpr ⟨ht, e⟩))) (isBo_ne e)
          · have q := S.temp t ht
            obtain ⟨v, r⟩ := t
            cases r with
            | d x => exact (e rfl).elim
            | fr o => exact (e rfl).elim
            | bo j =>
              have z : i = j := by
                by_cases z : i = j
                · exact z
                · exact (e (by show (!(i == j)) = true; rw [beq_false_of_ne z]; rfl)).elim
              subst z
              obtain ⟨a, s, b, c⟩ := q
              rw [hs0] at b
              cases b
              exact ⟨a, s0, get_set_same il', c⟩
      dist := fun a b p h1 h2 => S'.dist a b p (back h1) (back h2)
      dtt := by rw [← etl]; exact S'.dtt
      dts := fun p hp j hj => S'.dts p (by rw [etl]; exact hp) j (back hj)
      pak := fun q hq => by
        obtain ⟨a, o, b⟩ := S'.pak q hq
        have z := hp q hq
        exact ⟨by rw [← gw q.1 z]; exact a, o, by rw [get_set_ne (Ne.symm z)]; exact b⟩
      keep := S'.keep
      dom := S'.dom
      new := S'.new }
theorem wipeOk_at {e : Env} : ∀ {is : List Nat}, wipeOk e is = true → ∀ i ∈ is, e[i]? = some .un ∨ ∃ d, e[i]? = some (.sh d)
  | [], _, i, h => by simp at h
  | k :: is, h, i, hi => by
    have h : ((match e[k]? with
      | some .un => true
      | some (.sh _) => true
      | _ => false) && wipeOk e is) = true := h
    rw [Bool.and_eq_true] at h
    rcases List.mem_cons.mp hi with rfl | hi
    · have h1 := h.1
      split at h1
      · rename_i z; exact .inl z
      · rename_i d z; exact .inr ⟨d, z⟩
      · cases h1
    · exact wipeOk_at h.2 i hi
/-- a comprehension's own names are forgotten, and come back -/
theorem ST.wipeN : ∀ (is : List Nat), ST T n H0 H σ ρ ts → wipeOk ρ is = true → ∃ vs : List Tmp, ST T n H0 H (wipe σ is) (wipeE ρ is) vs ∧ (∀ t ∈ ts, (∀ i ∈ is, t.2 ≠ .bo i) → t ∈ vs) ∧ (∀ t ∈ vs, ∀ i ∈ is, t.2 ≠ .bo i) ∧
    ∀ H0' H' ρ' us, ST T n H0' H' (wipe σ is) ρ' (us ++ vs) → (∀ u ∈ us, ∀ i ∈ is, u.2 ≠ .bo i) → ST T n H0' H' σ (unwipe ρ ρ' is) (us ++ ts)
  | [], S, _ => ⟨ts, S, fun t h _ => h, fun t h i hi => by simp at hi, fun H0' H' ρ' us S' _ => S'⟩
  | i :: is, S, h => by
    have h2 : wipeOk ρ is = true := by
      have h : ((match ρ[i]? with
        | some .un => true
        | some (.sh _) => true
        | _ => false) && wipeOk ρ is) = true := h
      rw [Bool.and_eq_true] at h
      exact h.2
    obtain ⟨vs, S1, m1, m2, b1⟩ := ST.wipeN is S h2
    have hi : (wipeE ρ is)[i]? = some .un ∨ ∃ d, (wipeE ρ is)[i]? = some (.sh d) := by
      rw [wipeE_get]
      have z := wipeOk_at h i (List.mem_cons_self ..)
      by_cases e : i ∈ is
      · rw [if_pos e]
        have il : i < ρ.length := by
          rcases z with z | ⟨d, z⟩ <;> exact lt_of_get z
        rw [if_pos il]
        exact .inl rfl
      · rw [if_neg e]
        exact z
    obtain ⟨ks, hk, S2, b2⟩ := S1.wipe1 hi
    refine ⟨ks ++ vs.filter fun t => !isBo i t.2, S2, fun t ht ne => ?_, fun t ht j hj => ?_, fun H0' H' ρ' us S' hu => ?_⟩
    · refine List.mem_append_right _ (List.mem_filter.mpr ⟨m1 t ht fun j hj => ne j (List.mem_cons_of_mem _ hj), ?_⟩)
      have z := ne i (List.mem_cons_self ..)
      obtain ⟨v, r⟩ := t
      cases r with
      | d x => rfl
      | fr o => rfl
      | bo j =>
        show (!(i == j)) = true
        rw [beq_false_of_ne fun e => z (by rw [e])]
        rfl
    · rcases List.mem_append.mp ht with ht | ht
      · obtain ⟨d, e⟩ := hk t ht
        rw [e]
        exact fun z => nomatch z
      · obtain ⟨a, b⟩ := List.mem_filter.mp ht
        rcases List.mem_cons.mp hj with rfl | hj
        · exact isBo_ne b
        · exact m2 t a j hj
    · have S3 := b2 H0' H' ρ' us S' fun u h => hu u h i (List.mem_cons_self ..)
      exact b1 H0' H' _ us S3 fun u h j hj => hu u h j (List.mem_cons_of_mem _ hj)
end
end Mi
end
section
set_option maxHeartbeats 4000000
namespace Mi
open PySem PySem.Spec PyProof.Rows L2
/-- no exception -/
abbrev W0 : WX := fun _ _ _ _ => False
section
variable {T : Tb} {W : WX} {X : Cx} {n : En} {σ : L2.St} {H0 H : Hp} {ρ : Env} {ts us : List Tmp} {Q : VK} {A B : List Nat}
def compD (t : Tgt) (dw : Env → Out It) (dt : Env → Out Bool) (de : Env → Out Rs) : Env → Out Rs := fun e => (dw e).bind fun w e1 =>
  if wipeOk e1 t.is && w.slots.all (fun i => !t.is.contains i) then
    match compLoop w t dt de w.len 0 [] (wipeE e1 t.is) with
    | .ok xs e2 => .ok (.fr (.lst xs)) (unwipe e1 e2 t.is)
    | _ => .no
  else .no
theorem rd_it {α : Type} {da : Env → Out It} {f : It → Env → Out α} {P : α → Env → Hp → Hp → Prop} (S : ST T n H0 H σ ρ ts) (h : Post T W n σ ts ((da ρ).bind fun ra e1 => f ra e1) P) :
    rdI T W da σ H fun J H1 => ∃ H0' ρ' w us, Walk T J us w ∧ ST T n H0' H1 σ ρ' (us ++ ts) ∧ (∀ u ∈ us, ∀ i, u.2 = .bo i → i ∈ w.slots) ∧ Post T W n σ ts (f w ρ') P := by
  refine ⟨n, H0, ρ, ts, S, ?_⟩
  cases ea : da ρ with
  | no => rw [ea] at h; exact h.elim
  | ex x e => rw [ea] at h; exact h
  | ok ra e1 => rw [ea] at h; exact fun H0' H1 J us wk S1 k => ⟨H0', e1, ra, us, wk, S1, k, h⟩
theorem lc_rd {t : Tgt} {dw : Env → Out It} {dt : Env → Out Bool} {de : Env → Out Rs} (h : rd T W (compD t dw dt de) σ H Q) : tLc (rdI T W dw) (rdG T t) (rdT T W0 dt) (rd T W0 de) t.is σ H Q := by
  obtain ⟨n, H0, ρ, ts, S, P⟩ := h
  refine rdI_mono (rd_it S P) fun J H1 h D hD => ?_
  obtain ⟨H01, e1, w, us, wk, S1, ks, P1⟩ := h
  split at P1
  · rename_i hc
    rw [Bool.and_eq_true] at hc
    obtain ⟨hw, hs⟩ := hc
    obtain ⟨vs, S2, m1, m2, back⟩ := S1.wipeN t.is hw
    have hp : ∀ q ∈ n.pas, q.1 ∉ t.is := fun q hq z => by
      obtain ⟨_, o, b⟩ := S1.pak q hq
      rcases wipeOk_at hw _ z with e | ⟨d, e⟩ <;> rw [e] at b <;> cases b
    have hus : ∀ u ∈ us, u ∈ vs := fun u hu => m1 u (List.mem_append_left _ hu) fun i hi e => by
      have z := List.all_eq_true.mp hs i (ks u hu i e)
      rw [List.contains_iff_mem.mpr hi] at z
      cases z
    have S3 : ST T n H01 (upd H1 D (.lst [])) (wipe σ t.is) (wipeE e1 t.is) ((.ref D, .fr (.lst [])) :: vs) := S2.alloc (Same.new hD) hD ⟨[], upd_same, .nil⟩
    have nb : ∀ {acc : List Mi.D}, ∀ t' ∈ ((V.ref D, Rs.fr (.lst acc)) :: vs), ∀ i ∈ t.is, t'.2 ≠ .bo i := fun {acc} t' ht i hi => by
      rcases List.mem_cons.mp ht with rfl | ht
      · exact fun z => nomatch z
      · exact m2 t' ht i hi
    refine ⟨fun i m H => i + m = w.len ∧ ∃ H0 ρ acc, ST T n H0 H (wipe σ t.is) ρ ((.ref D, .fr (.lst acc)) :: vs) ∧ Post T W n σ ts (match compLoop w t dt de m i acc ρ with
      | .ok xs e2 => Out.ok (Rs.fr (.lst xs)) (unwipe e1 e2 t.is)
      | _ => .no) (Wants T n σ ts Q), ⟨w.len, by omega, H01, _, [], S3, P1⟩, fun i m H h => ?_⟩
    obtain ⟨hl, H0a, ρa, acc, Sa, Pa⟩ := h
    cases m with
    | zero =>
      have hl : i = w.len := by omega
      subst hl
      have Pa : Post T W n σ ts (match (if w.fine ρa then Out.ok acc ρa else .no) with
        | .ok xs e2 => Out.ok (Rs.fr (.lst xs)) (unwipe e1 e2 t.is)
        | _ => .no) (Wants T n σ ts Q) := Pa
      by_cases hf : w.fine ρa = true
      · rw [if_pos hf] at Pa
        refine .inl ⟨wk.stop Sa (fun u hu => List.mem_cons_of_mem _ (hus u hu)) hf, Pa H0a H (.ref D) ?_⟩
        have Sb := back H0a H ρa [(.ref D, .fr (.lst acc))] Sa fun u hu i _ => by
          rw [List.mem_singleton.mp hu]
          exact fun z => nomatch z
        exact ST.dropA (us := us) (ST.perm (ts := (V.ref D, Rs.fr (.lst acc)) :: (us ++ ts)) Sb List.perm_middle.symm)
      · rw [if_neg hf] at Pa
        exact Pa.elim
    | succ m =>
      have Pa : Post T W n σ ts (match (match w.at_ i ρa with
        | some x => match t.put x ρa with
          | some e1 => match dt e1 with
            | .ok true e2 => match de e2 with
              | .ok r e3 => match r.hold e3 with
                | some (y, e4) => if szOk acc.length then compLoop w t dt de m (i + 1) (acc ++ [y]) (wipeE e4 t.is) else .no
                | none => .no
              | _ => .no
            | .ok false e2 => compLoop w t dt de m (i + 1) acc (wipeE e2 t.is)
            | _ => .no
          | none => .no
        | none => .no : Out (List Mi.D)) with
        | .ok xs e2 => Out.ok (Rs.fr (.lst xs)) (unwipe e1 e2 t.is)
        | _ => .no) (Wants T n σ ts Q) := Pa
      cases ex : w.at_ i ρa with
      | none => simp only [ex] at Pa; exact Pa.elim
      | some x =>
        cases ep : t.put x ρa with
        | none => simp only [ex, ep] at Pa; exact Pa.elim
        | some ρb =>
          simp only [ex, ep] at Pa
          have hu : ∀ u ∈ us, u ∈ ((V.ref D, Rs.fr (.lst acc)) :: vs) := fun u hu => List.mem_cons_of_mem _ (hus u hu)
          have hk : i < w.len := by omega
          refine .inr ⟨wk.go Sa hu hk ex, fun H' => i + 1 + m = w.len ∧ ∃ H0 ρ acc, ST T n H0 H' (wipe σ t.is) ρ ((.ref D, .fr (.lst acc)) :: vs) ∧ Post T W n σ ts (match compLoop w t dt de m (i + 1) acc ρ with
            | .ok xs e2 => Out.ok (Rs.fr (.lst xs)) (unwipe e1 e2 t.is)
            | _ => .no) (Wants T n σ ts Q), fun H' q => ⟨m, Nat.lt_succ_self m, q⟩, fun v H' y => ?_⟩
          obtain ⟨H0b, Sb⟩ := wk.yld Sa hu hk ex y
          refine ⟨n, H0b, ρa, _, x, ρb, Sb.drop, Sb.temp _ (List.mem_cons_self ..), ep, fun u hu i e z => nb u hu i z e, fun σ2 wq Sc => ?_⟩
          refine ⟨wipe_eq wq, n, H0b, ρb, _, Sc, ?_⟩
          have wpe : wipe σ2 t.is = wipe σ t.is := wipe_eq wq
          cases ed : dt ρb with
          | no => simp only [ed] at Pa; exact Pa.elim
          | ex x e => simp only [ed] at Pa; exact Pa.elim
          | ok b ρc =>
            intro H0c Hc Sd
            cases b with
            | false =>
              simp only [ed] at Pa
              show i + 1 + m = w.len ∧ _
              have Se := Sd.forget hp nb
              rw [wpe] at Se
              exact ⟨by omega, H0c, _, acc, Se, Pa⟩
            | true =>
              simp only [ed] at Pa
              refine ⟨n, H0c, ρc, _, Sd, ?_⟩
              cases ee : de ρc with
              | no => simp only [ee] at Pa; exact Pa.elim
              | ex x e => simp only [ee] at Pa; exact Pa.elim
              | ok r ρd =>
                simp only [ee] at Pa
                intro H0d Hd yv Se
                cases eh : r.hold ρd with
                | none => simp only [eh] at Pa; exact Pa.elim
                | some p =>
                  obtain ⟨yd, ρe⟩ := p
                  simp only [eh] at Pa
                  by_cases hz : szOk acc.length = true
                  · rw [if_pos hz] at Pa
                    obtain ⟨H0e, Sf⟩ := Se.holdR eh
                    have ry : Rp T H0e yv yd := Sf.temp _ (List.mem_cons_self ..)
                    have Sg := Sf.drop
                    obtain ⟨pp, epp, _, _, vl, hvl, rvl⟩ := Sg.temp _ (List.mem_cons_self ..)
                    have epp : V.ref D = .ref pp := epp
                    cases epp
                    refine ⟨vl, hvl, by rw [rvl.length]; exact sz_lt hz, by omega, H0e, _, acc ++ [yd], ?_, Pa⟩
                    have Sh := (Sg.writeT (u := .lst (vl ++ [yv])) (o' := .lst (acc ++ [yd])) ⟨_, upd_same, rvl.append (.cons ry .nil)⟩).forget hp nb
                    rw [wpe] at Sh
                    exact Sh
                  · rw [if_neg hz] at Pa
                    exact Pa.elim
  · exact P1.elim
theorem pts_none {T : Tb} {W : WX} {X : Cx} : PTs X [] (rdT T W fun e => .ok true e) := ⟨fun pins s σ H Q I h => by
  obtain ⟨n, H0, ρ, ts, S, P⟩ := h
  exact pts_nil.run pins s σ H Q I (P H0 H S)⟩
theorem pe_comp (ok : Cok T X) {elt tg iter : Expr} {ifs : List Expr} {scope : Scope} {own : List (Str × Nat)} {pos : Pos} {t : Tgt} {dw : Env → Out It} {dt : Env → Out Bool} {de : Env → Out Rs} (hi : PI X tg iter (rdI T W dw)) (bk : BlkOk X.N X.env.scope scope own) (ho : own.map (·.2) = t.is)
    (hg : ∀ (s : Shared) (H : Hp) (C : Addr) (cl : List (Str × Addr)) (fp : List Addr), PG (X.blk s H scope (compEnvC scope cl C X.env) fp) tg (rdG T t)) (ht : ∀ (s : Shared) (H : Hp) (C : Addr) (cl : List (Str × Addr)) (fp : List Addr), PTs (X.blk s H scope (compEnvC scope cl C X.env) fp) ifs (rdT T W0 dt))
    (he : ∀ (s : Shared) (H : Hp) (C : Addr) (cl : List (Str × Addr)) (fp : List Addr), PE (X.blk s H scope (compEnvC scope cl C X.env) fp) elt (rd T W0 de)) (hs : ∀ x, foldedSetIterable iter X.env x = pure x) :
    PE X (.ListComp elt [⟨tg, iter, ifs, 0⟩] scope pos) (rd T W (compD t dw dt de)) :=
  pe_imp (pe_lc ok.calm ok.nd hi bk hg ht he hs) fun σ H Q h => by
    rw [ho]
    exact lc_rd h
theorem ps_setComp (ok : Cok T X) {own1 : Bool} {i : Nat} {y : Str} {py : Pos} {elt tg iter : Expr} {ifs : List Expr} {scope : Scope} {own : List (Str × Nat)} {pos spos : Pos} {t : Tgt} {dw : Env → Out It} {dt : Env → Out Bool} {de : Env → Out Rs} (hy : X.N[i]? = some y) (hyl : X.env.scope.names.lookup y = some .local)
    (hsw : swapsWith (.ListComp elt [⟨tg, iter, ifs, 0⟩] scope pos) (some (.Name y py)) spos.line X.env = pure true) (hi : PI X tg iter (rdI T W dw)) (bk : BlkOk X.N X.env.scope scope own) (ho : own.map (·.2) = t.is)
    (hg : ∀ (s : Shared) (H : Hp) (C : Addr) (cl : List (Str × Addr)) (fp : List Addr), PG (X.blk s H scope (compEnvC scope cl C X.env) fp) tg (rdG T t)) (ht : ∀ (s : Shared) (H : Hp) (C : Addr) (cl : List (Str × Addr)) (fp : List Addr), PTs (X.blk s H scope (compEnvC scope cl C X.env) fp) ifs (rdT T W0 dt))
    (he : ∀ (s : Shared) (H : Hp) (C : Addr) (cl : List (Str × Addr)) (fp : List Addr), PE (X.blk s H scope (compEnvC scope cl C X.env) fp) elt (rd T W0 de)) (hs : ∀ x, foldedSetIterable iter X.env x = pure x) :
    PS X (.Assign [.Name y py] (.ListComp elt [⟨tg, iter, ifs, 0⟩] scope pos) spos) (rdS T W [i] fun e => (compD t dw dt de e).thn fun r e1 => SOut.of (putR own1 i r e1)) := by
  refine ps_imp (ps_setLc ok.calm ok.nd hy hyl hsw hi bk hg ht he hs) fun D σ H h => ?_
  obtain ⟨n, H0, ρ, ts, S, k, P⟩ := h
  rw [ho]
  refine lc_rd (rd_mono (thn_one S P) fun v H1 h => ?_)
  obtain ⟨H0', ρ', ra, S', P'⟩ := h
  cases ep : putR own1 i ra ρ' with
  | none => rw [ep] at P'; exact P'.elim
  | some ρ2 =>
    rw [ep] at P'
    obtain ⟨H0'', S''⟩ := putR_st S' ep (lock_ne k (List.mem_singleton.mpr rfl))
    exact P' _ _ _ S''
end
end Mi
end
section
set_option maxHeartbeats 4000000
namespace Mi
open PySem PySem.Spec PyProof.Rows L2
section
variable {T : Tb} {W : WX} {X : Cx} {G : Gs} {n : En} {σ : L2.St} {H0 H : Hp} {ρ : Env} {ts us : List Tmp} {Q : VK} {A B : List Nat}
/-! ### the rules by the texts: names, constants -/
theorem r_var {i : Nat} {x : Str} {pos : Pos} (hN : X.N[i]? = some x := by rfl) (hv : Vis X.env.scope x := by first | exact Or.inl rfl | exact Or.inr (Or.inl rfl) | exact Or.inr (Or.inr rfl)) (hd : (x == ("__debug__" : Str)) = false := by decide)
    (hcd : (x == ("__classdict__" : Str)) = false := by decide) : PE X (.Name x pos) (rd T W (ev G (.var i))) := by
  refine pe_imp (pe_var hN hv hd hcd) fun σ H Q h => ?_
  obtain ⟨n, H0, ρ, ts, S, P⟩ := h
  have P : Post T W n σ ts (match ρ[i]? with
    | some (.sh x) => .ok (.d x) ρ
    | some (.ow _) => .ok (.bo i) ρ
    | some (.pa _) => .ok (.bo i) ρ
    | _ => .no) (Wants T n σ ts Q) := P
  cases e : ρ[i]? with
  | none => rw [e] at P; exact P.elim
  | some s =>
    rw [e] at P
    obtain ⟨y, hy, q⟩ := S.slot i s e
    cases s with
    | un => exact P.elim
    | xc _ => exact P.elim
    | sh d =>
      obtain ⟨v, ev, r⟩ := q
      subst ev
      exact ⟨v, hy, P H0 H v (S.addD r)⟩
    | ow o =>
      obtain ⟨p, ev, _⟩ := q
      subst ev
      exact ⟨_, hy, P H0 H _ (S.addB hy e fun z => nomatch z)⟩
    | pa o =>
      obtain ⟨p, ev, _⟩ := q
      subst ev
      exact ⟨_, hy, P H0 H _ (S.addB hy e fun z => nomatch z)⟩
theorem r_c {v : V} {d : D} {e : Expr} (h : PE X e (tC v)) (r : ∀ H0, Rp T H0 v d) : PE X e (rd T W (ev G (.cst d))) := pe_imp h fun σ H Q ⟨n, H0, ρ, ts, S, P⟩ => P H0 H v (S.addD (r H0))
theorem r_int {i : Int} {j pos} : PE X (.Constant (.int i) j pos) (rd T W (ev G (.cst (.int i)))) := r_c pe_int fun _ => .int i
theorem r_bl {i : Bool} {j pos} : PE X (.Constant (.bool i) j pos) (rd T W (ev G (.cst (.bl i)))) := r_c pe_bl fun _ => .bl i
theorem r_non {j pos} : PE X (.Constant .none j pos) (rd T W (ev G (.cst .non))) := r_c pe_non fun _ => .non
theorem r_str {x : Str} {s : Tx} {j pos} (h : x.cps.toList = s) : PE X (.Constant (.str x) j pos) (rd T W (ev G (.cst (.str s)))) := r_c pe_str fun _ => by
  subst h
  exact .str x.cps.toList
/-! ### rows of expressions -/
theorem a_nil : PA X [] (rdA T W (evs G [])) := pa_imp pa_nil fun σ H Q ⟨n, H0, ρ, ts, S, P⟩ => P H0 H [] rfl S
theorem a_cons {a : Expr} {as : List Expr} {m : MExp} {ms : List MExp} (ha : PE X a (rd T W (ev G m))) (hs : PA X as (rdA T W (evs G ms))) (hst : starEach (a :: as) X.env = (false, eval a X.env) :: starEach as X.env := by rfl) : PA X (a :: as) (rdA T W (evs G (m :: ms))) := by
  refine pa_imp (pa_cons ha hs hst) fun σ H Q h => ?_
  obtain ⟨n, H0, ρ, ts, S, P⟩ := h
  have P : Post T W n σ ts ((ev G m ρ).bind fun r e1 => (evs G ms e1).bind fun rs e2 => .ok (r :: rs) e2) fun rs ρ' H0' H' => ∀ vs, vs.length = rs.length → ST T n H0' H' σ ρ' (vs.zip rs ++ ts) → Q vs H' := P
  refine rd_mono (rd_one S P) fun v H1 h => ?_
  obtain ⟨H01, ρ1, r, S1, P1⟩ := h
  refine ⟨n, H01, ρ1, (v, r) :: ts, S1, ?_⟩
  cases es : evs G ms ρ1 with
  | no => rw [es] at P1; exact P1.elim
  | ex x e => rw [es] at P1; exact fun dd H0' H' S' xr => P1 dd H0' H' S'.drop xr
  | ok rs e2 =>
    rw [es] at P1
    exact fun H0' H' vs hl S' => P1 H0' H' (v :: vs) (by simp [hl]) (S'.perm List.perm_middle)
theorem evs_len : ∀ {ms : List MExp} {e e' : Env} {rs : List Rs}, evs G ms e = .ok rs e' → rs.length = ms.length
  | [], e, e', rs, h => by
    have h : Out.ok [] e = .ok rs e' := h
    cases h
    rfl
  | m :: ms, e, e', rs, h => by
    have h : ((ev G m e).bind fun r e1 => (evs G ms e1).bind fun rs e2 => .ok (r :: rs) e2) = .ok rs e' := h
    cases ea : ev G m e with
    | no => rw [ea] at h; cases h
    | ex x e1 => rw [ea] at h; cases h
    | ok r e1 =>
      rw [ea] at h
      have h : ((evs G ms e1).bind fun rs e2 => .ok (r :: rs) e2) = .ok rs e' := h
      cases eb : evs G ms e1 with
      | no => rw [eb] at h; cases h
      | ex x e2 => rw [eb] at h; cases h
      | ok rs2 e2 =>
        rw [eb] at h
        cases h
        simp [evs_len eb]
theorem rd_args_len {α : Type} {ms : List MExp} {f : List Rs → Env → Out α} {P : α → Env → Hp → Hp → Prop} (S : ST T n H0 H σ ρ ts)
    (h : Post T W n σ ts ((evs G ms ρ).bind fun ra e1 => f ra e1) P) :
    rdA T W (evs G ms) σ H fun vs H1 => ∃ H0' ρ' rs, vs.length = rs.length ∧ rs.length = ms.length ∧ ST T n H0' H1 σ ρ' (vs.zip rs ++ ts) ∧ Post T W n σ ts (f rs ρ') P := by
  refine ⟨n, H0, ρ, ts, S, ?_⟩
  cases ea : evs G ms ρ with
  | no => rw [ea] at h; exact h.elim
  | ex x e => rw [ea] at h; exact h
  | ok ra e1 => rw [ea] at h; exact fun H0' H1 vs hl S1 => ⟨H0', e1, ra, hl, evs_len ea, S1, h⟩
theorem r_tup {es : List Expr} {ms : List MExp} {x1 : Nat} {pos : Pos} (h : PA X es (rdA T W (evs G ms))) (hl : ms.length ≤ 1000 := by decide) : PE X (.Tuple es x1 pos) (rd T W (ev G (.tup ms))) := by
  refine pe_imp (pe_tup h) fun σ H Q h => ?_
  obtain ⟨n, H0, ρ, ts, S, P⟩ := h
  refine rdA_mono (rd_args_len S P) fun vs H1 h => ?_
  obtain ⟨H01, ρ1, rs, l1, l2, S1, P1⟩ := h
  refine ⟨Nat.le_of_lt (small1000 (by omega)), fun p hp => ?_⟩
  cases eh : holds rs ρ1 with
  | none => rw [eh] at P1; exact P1.elim
  | some q =>
    obtain ⟨xs, ρ2⟩ := q
    rw [eh] at P1
    obtain ⟨H02, S2, r⟩ := S1.holdsR l1 eh
    obtain ⟨H03, S3⟩ := S2.newTup hp r
    exact P1 _ _ _ S3
theorem r_lst {es : List Expr} {ms : List MExp} {pos : Pos} (h : PA X es (rdA T W (evs G ms))) (hl : ms.length ≤ 1000 := by decide) : PE X (.List es pos) (rd T W (ev G (.lst ms))) := by
  refine pe_imp (pe_lst h) fun σ H Q h => ?_
  obtain ⟨n, H0, ρ, ts, S, P⟩ := h
  refine rdA_mono (rd_args_len S P) fun vs H1 h => ?_
  obtain ⟨H01, ρ1, rs, l1, l2, S1, P1⟩ := h
  refine ⟨Nat.le_of_lt (small1000 (by omega)), fun p hp => ?_⟩
  cases eh : holds rs ρ1 with
  | none => rw [eh] at P1; exact P1.elim
  | some q =>
    obtain ⟨xs, ρ2⟩ := q
    rw [eh] at P1
    obtain ⟨H02, S2, r⟩ := S1.holdsR l1 eh
    exact P1 _ _ _ (S2.alloc (Same.new hp) hp ⟨vs, upd_same, r⟩)
/-! ### operators -/
theorem r_bin (ok : Ck T X) (op : Bop) {a b : Expr} {ma mb : MExp} {pos : Pos} (ha : PE X a (rd T W (ev G ma))) (hb : PE X b (rd T W (ev G mb))) : PE X (.BinOp a (opOf op) b pos) (rd T W (ev G (.bin op ma mb))) := pe_two (opR_bin ok op) ha hb
theorem r_neg {a : Expr} {m : MExp} {pos : Pos} (ha : PE X a (rd T W (ev G m))) : PE X (.UnaryOp .USub a pos) (rd T W (ev G (.neg m))) := pe_neg ha
theorem r_cmp (ok : Ck T X) (op : Cop) {a b : Expr} {ma mb : MExp} {pos : Pos} (ha : PE X a (rd T W (ev G ma))) (hb : PE X b (rd T W (ev G mb))) (hm : behindInMarks (copOf op) b = false := by with_unfolding_all rfl) :
    PE X (.Compare a [copOf op] [b] pos) (rd T W (ev G (.cmp op ma mb))) := pe_twoC (opR_cmp ok op) ha hb hm
theorem r_idx (ok : Ck T X) {a b : Expr} {ma mb : MExp} {pos : Pos} (ha : PE X a (rd T W (ev G ma))) (hb : PE X b (rd T W (ev G mb))) (hm : PlainIx b := by exact fun _ _ => rfl) : PE X (.Subscript a b pos) (rd T W (ev G (.idx ma mb))) := pe_twoI (opR_ix ok) ha hb hm
theorem o_no : PO X none (rdO T W (evp G none)) := po_no
theorem o_yes {a : Expr} {m : MExp} (ha : PE X a (rd T W (ev G m))) : PO X (some a) (rdO T W (evp G (some m))) := po_yes ha
theorem r_slc (ok : Ck T X) {a : Expr} {m : MExp} {lo hi : Option Expr} {ml mh : Option MExp} {pos p2 : Pos} (ha : PE X a (rd T W (ev G m))) (hl : PO X lo (rdO T W (evp G ml))) (hh : PO X hi (rdO T W (evp G mh))) :
    PE X (.Subscript a (.Slice lo hi none p2) pos) (rd T W (ev G (.slc m ml mh))) := pe_slc ok ha hl hh
theorem r_fld (ok : Ck T X) (hc : ClsOk T G) {f : Nat} {o : Expr} {m : MExp} {pos : Pos} (ho : PE X o (rd T W (ev G m))) (hb : attributeBase o (T.an f) X.env (eval o X.env) = eval o X.env := by rfl) : PE X (.Attribute o (T.an f) pos) (rd T W (ev G (.fld m f))) := pe_fldG ok hc ho hb
/-! ### tests -/
theorem tru_of {x : V} {d : D} {k : Bool} (r : Rv T H0 H x d) (s : Same H0 H) (h : truD d = some k) : TruV T.K x H k := by
  cases d with
  | non =>
    cases h
    have e := r.non
    subst e
    exact rfl
  | bl b =>
    cases h
    have e := r.bl
    subst e
    exact rfl
  | int i =>
    cases h
    have e := r.int
    subst e
    exact rfl
  | str t =>
    have h : (if szOk t.length then some (!t.isEmpty) else none) = some k := h
    split at h
    · rename_i hz
      cases h
      have e := r.str
      subst e
      refine ⟨by rw [str_len]; exact sz_of hz, ?_⟩
      rw [str_len]
      cases t with
      | nil => rfl
      | cons c t =>
        have e : (((c :: t).length : Int) != 0) = true := bne_iff_ne.mpr (by simp; omega)
        rw [e]
        rfl
    · cases h
  | tup xs =>
    cases h
    obtain ⟨p, vs, e, h1, h2⟩ := r.tup
    subst e
    refine .inr (.inl ⟨vs, Same.sqT s h1, ?_⟩)
    cases h2 <;> rfl
  | lst xs =>
    cases h
    obtain ⟨p, vs, e, h1, h2⟩ := r.lst s
    subst e
    refine .inl ⟨vs, .of h1, ?_⟩
    cases h2 <;> rfl
  | dic ks =>
    cases h
    obtain ⟨p, vs, e, h1, h2⟩ := r.dic s
    subst e
    refine .inr (.inr ⟨vs, h1, ?_⟩)
    cases h2 <;> rfl
  | ins _ _ => cases h
  | scr _ => cases h
theorem rdT_val {d : Env → Out Rs} {Q : Bool → Hp → Prop} (h : rdT T W (fun e => (d e).bind fun r e1 => tstR r e1) σ H Q) : rd T W d σ H fun x H' => ∃ k, TruV T.K x H' k ∧ Q k H' := by
  obtain ⟨n, H0, ρ, ts, S, P⟩ := h
  refine rd_mono (rd_one S P) fun v H1 h => ?_
  obtain ⟨H01, ρ1, r, S1, P1⟩ := h
  have P1 : Post T W n σ ts (Out.of ρ1 ((r.see ρ1).bind truD)) _ := P1
  cases es : r.see ρ1 with
  | none => rw [es] at P1; exact P1.elim
  | some x =>
    rw [es] at P1
    have P1 : Post T W n σ ts (Out.of ρ1 (truD x)) _ := P1
    cases et : truD x with
    | none => rw [et] at P1; exact P1.elim
    | some k =>
      rw [et] at P1
      exact ⟨k, tru_of (S1.see es) S1.sub et, P1 _ _ S1.drop⟩
theorem t_val (ok : Ck T X) {a : Expr} {m : MExp} (ha : PE X a (rd T W (ev G m))) (he : ∀ whole, isTrue a X.env whole = (do let v ← whole; standAt a.pos; holding [v] (truthy v)) := by intro _; rfl) : PT X a (rdT T W (tst G m)) := by
  refine pt_imp (pt_truth ha he) fun σ H Q h => ?_
  rw [ok.hK]
  exact rdT_val h
def BoolD (d : Env → Out Rs) : Prop := ∀ e r e', d e = .ok r e' → ∃ k, r = .d (.bl k)
theorem rdT_bool {d : Env → Out Rs} (hd : BoolD d) {Q : Bool → Hp → Prop} (h : rdT T W (fun e => (d e).bind fun r e1 => tstR r e1) σ H Q) : rd T W d σ H fun x H' => ∃ k, x = .bl k ∧ Q k H' := by
  obtain ⟨n, H0, ρ, ts, S, P⟩ := h
  refine ⟨n, H0, ρ, ts, S, ?_⟩
  have P : Post T W n σ ts ((d ρ).bind fun r e1 => tstR r e1) _ := P
  cases ea : d ρ with
  | no => rw [ea] at P; exact P.elim
  | ex x e => rw [ea] at P; exact P
  | ok r e1 =>
    rw [ea] at P
    obtain ⟨k, rfl⟩ := hd _ _ _ ea
    intro H0' H' v S'
    have r : Rp T _ v (.bl k) := S'.temp _ (List.mem_cons_self ..)
    cases r
    exact ⟨k, rfl, P _ _ S'.drop⟩
theorem boolD_cmp {op : Cop} {ma mb : MExp} : BoolD (ev G (.cmp op ma mb)) := fun e r e' h => by
  have h : ((ev G ma e).bind fun ra e1 => (ev G mb e1).bind fun rb e2 => cmpS op ra rb e2) = .ok r e' := h
  cases ea : ev G ma e with
  | no => rw [ea] at h; cases h
  | ex x e1 => rw [ea] at h; cases h
  | ok ra e1 =>
    rw [ea] at h
    have h : ((ev G mb e1).bind fun rb e2 => cmpS op ra rb e2) = .ok r e' := h
    cases eb : ev G mb e1 with
    | no => rw [eb] at h; cases h
    | ex x e1 => rw [eb] at h; cases h
    | ok rb e2 =>
      rw [eb] at h
      have h : (match ra.see e2, rb.see e2 with
        | some x, some y => Out.of e2 ((cmpD op x y).map blR)
        | _, _ => .no) = .ok r e' := h
      split at h
      · rename_i x y _ _
        cases ec : cmpD op x y with
        | none => rw [ec] at h; cases h
        | some k => rw [ec] at h; cases h; exact ⟨k, rfl⟩
      · cases h
theorem t_cmp (ok : Ck T X) (op : Cop) {a b : Expr} {ma mb : MExp} {pos : Pos} (ha : PE X a (rd T W (ev G ma))) (hb : PE X b (rd T W (ev G mb))) (hm : behindInMarks (copOf op) b = false := by with_unfolding_all rfl) :
    PT X (.Compare a [copOf op] [b] pos) (rdT T W (tst G (.cmp op ma mb))) := by
  refine pt_imp (pt_cmpR (opR_cmp (W := W) ok op) ha hb hm) fun σ H Q h => ?_
  have h := rdT_bool boolD_cmp h
  obtain ⟨n, H0, ρ, ts, S, P⟩ := h
  exact rd_mono (rd_two S P) fun v H1 h => rd_mono h fun w H2 ⟨H0', ρ', ra, rb, S', P'⟩ => ⟨σ, n, H0', ρ', ts, ra, rb, S', P'⟩
theorem t_and1 {a : Expr} {m : MExp} {pos : Pos} (ha : PT X a (rdT T W (tst G m))) : PW X (.BoolOp .And [a] pos) (rdT T W (tst G m)) := pw_and1 ha
theorem t_or1 {a : Expr} {m : MExp} {pos : Pos} (ha : PT X a (rdT T W (tst G m))) : PW X (.BoolOp .Or [a] pos) (rdT T W (tst G m)) := pw_or1 ha
theorem t_and {a b : Expr} {rest : List Expr} {ma mb : MExp} {pos : Pos} (ha : PT X a (rdT T W (tst G ma))) (hb : PW X (.BoolOp .And (b :: rest) pos) (rdT T W (tst G mb))) : PW X (.BoolOp .And (a :: b :: rest) pos) (rdT T W (tst G (.and_ ma mb))) := by
  refine pw_imp (pw_and ha hb) fun σ H Q h => ?_
  obtain ⟨n, H0, ρ, ts, S, P⟩ := h
  refine ⟨n, H0, ρ, ts, S, ?_⟩
  have P : Post T W n σ ts (((ev G ma ρ).bind fun ra e1 => match ra with
    | .d (.bl true) => ev G mb e1
    | .d (.bl false) => .ok (.d (.bl false)) e1
    | _ => .no).bind fun r e1 => tstR r e1) fun b ρ' H0' H' => ST T n H0' H' σ ρ' ts → Q b H' := P
  show Post T W n σ ts ((ev G ma ρ).bind fun r e1 => tstR r e1) _
  cases ea : ev G ma ρ with
  | no => rw [ea] at P; exact P.elim
  | ex x e => rw [ea] at P; exact P
  | ok ra e1 =>
    rw [ea] at P
    cases ra with
    | fr _ => exact P.elim
    | bo _ => exact P.elim
    | d x =>
      cases x with
      | bl k =>
        cases k with
        | true => exact fun H0' H' S' => ⟨n, H0', e1, ts, S', P⟩
        | false => exact fun H0' H' S' => P H0' H' S'
      | non => exact P.elim
      | int _ => exact P.elim
      | str _ => exact P.elim
      | tup _ => exact P.elim
      | lst _ => exact P.elim
      | dic _ => exact P.elim
      | ins _ _ => exact P.elim
      | scr _ => exact P.elim
theorem t_or {a b : Expr} {rest : List Expr} {ma mb : MExp} {pos : Pos} (ha : PT X a (rdT T W (tst G ma))) (hb : PW X (.BoolOp .Or (b :: rest) pos) (rdT T W (tst G mb))) : PW X (.BoolOp .Or (a :: b :: rest) pos) (rdT T W (tst G (.or_ ma mb))) := by
  refine pw_imp (pw_or ha hb) fun σ H Q h => ?_
  obtain ⟨n, H0, ρ, ts, S, P⟩ := h
  refine ⟨n, H0, ρ, ts, S, ?_⟩
  have P : Post T W n σ ts (((ev G ma ρ).bind fun ra e1 => match ra with
    | .d (.bl true) => .ok (.d (.bl true)) e1
    | .d (.bl false) => ev G mb e1
    | _ => .no).bind fun r e1 => tstR r e1) fun b ρ' H0' H' => ST T n H0' H' σ ρ' ts → Q b H' := P
  show Post T W n σ ts ((ev G ma ρ).bind fun r e1 => tstR r e1) _
  cases ea : ev G ma ρ with
  | no => rw [ea] at P; exact P.elim
  | ex x e => rw [ea] at P; exact P
  | ok ra e1 =>
    rw [ea] at P
    cases ra with
    | fr _ => exact P.elim
    | bo _ => exact P.elim
    | d x =>
      cases x with
      | bl k =>
        cases k with
        | false => exact fun H0' H' S' => ⟨n, H0', e1, ts, S', P⟩
        | true => exact fun H0' H' S' => P H0' H' S'
      | non => exact P.elim
      | int _ => exact P.elim
      | str _ => exact P.elim
      | tup _ => exact P.elim
      | lst _ => exact P.elim
      | dic _ => exact P.elim
      | ins _ _ => exact P.elim
      | scr _ => exact P.elim
theorem t_w {e : Expr} {m : MExp} (h : PW X e (rdT T W (tst G m))) : PT X e (rdT T W (tst G m)) := h.pt
theorem t_not {a : Expr} {m : MExp} {pos : Pos} (ha : PT X a (rdT T W (tst G m))) : PT X (.UnaryOp .Not a pos) (rdT T W (tst G (.not_ m))) := by
  refine pt_imp (pt_not ha) fun σ H Q h => ?_
  obtain ⟨n, H0, ρ, ts, S, P⟩ := h
  refine ⟨n, H0, ρ, ts, S, ?_⟩
  have P : Post T W n σ ts (((ev G m ρ).bind fun ra e1 => (tstR ra e1).bind fun k e2 => .ok (.d (.bl (!k))) e2).bind fun r e1 => tstR r e1) fun b ρ' H0' H' => ST T n H0' H' σ ρ' ts → Q b H' := P
  show Post T W n σ ts ((ev G m ρ).bind fun r e1 => tstR r e1) _
  cases ea : ev G m ρ with
  | no => rw [ea] at P; exact P.elim
  | ex x e => rw [ea] at P; exact P
  | ok ra e1 =>
    rw [ea] at P
    show Post T W n σ ts (tstR ra e1) _
    have P : Post T W n σ ts (((tstR ra e1).bind fun k e2 => .ok (.d (.bl (!k))) e2).bind fun r e1 => tstR r e1) fun b ρ' H0' H' => ST T n H0' H' σ ρ' ts → Q b H' := P
    cases et : tstR ra e1 with
    | no => rw [et] at P; exact P.elim
    | ex x e => rw [et] at P; exact P
    | ok k e2 => rw [et] at P; exact fun H0' H' S' => P H0' H' S'
/-! ### and, or, not, if as values -/
theorem r_one {op : BoolOp} {a : Expr} {m : MExp} {pos : Pos} (ha : PE X a (rd T W (ev G m))) : PE X (.BoolOp op [a] pos) (rd T W (ev G m)) := pe_one ha
theorem r_and {a b : Expr} {rest : List Expr} {ma mb : MExp} {pos : Pos} (ha : PE X a (rd T W (ev G ma))) (hb : PE X (.BoolOp .And (b :: rest) pos) (rd T W (ev G mb))) : PE X (.BoolOp .And (a :: b :: rest) pos) (rd T W (ev G (.and_ ma mb))) := by
  refine pe_imp (pe_and ha hb) fun σ H Q h => ?_
  obtain ⟨n, H0, ρ, ts, S, P⟩ := h
  refine rd_mono (rd_one S P) fun v H1 h => ?_
  obtain ⟨H01, ρ1, r, S1, P1⟩ := h
  cases r with
  | fr _ => exact P1.elim
  | bo _ => exact P1.elim
  | d x =>
    cases x with
    | bl k =>
      have r : Rp T _ v (.bl k) := S1.temp _ (List.mem_cons_self ..)
      cases r
      cases k with
      | true => exact ⟨true, rfl, n, H01, ρ1, ts, S1.drop, P1⟩
      | false => exact ⟨false, rfl, P1 _ _ _ S1⟩
    | non => exact P1.elim
    | int _ => exact P1.elim
    | str _ => exact P1.elim
    | tup _ => exact P1.elim
    | lst _ => exact P1.elim
    | dic _ => exact P1.elim
    | ins _ _ => exact P1.elim
    | scr _ => exact P1.elim
theorem r_or {a b : Expr} {rest : List Expr} {ma mb : MExp} {pos : Pos} (ha : PE X a (rd T W (ev G ma))) (hb : PE X (.BoolOp .Or (b :: rest) pos) (rd T W (ev G mb))) : PE X (.BoolOp .Or (a :: b :: rest) pos) (rd T W (ev G (.or_ ma mb))) := by
  refine pe_imp (pe_or ha hb) fun σ H Q h => ?_
  obtain ⟨n, H0, ρ, ts, S, P⟩ := h
  refine rd_mono (rd_one S P) fun v H1 h => ?_
  obtain ⟨H01, ρ1, r, S1, P1⟩ := h
  cases r with
  | fr _ => exact P1.elim
  | bo _ => exact P1.elim
  | d x =>
    cases x with
    | bl k =>
      have r : Rp T _ v (.bl k) := S1.temp _ (List.mem_cons_self ..)
      cases r
      cases k with
      | true => exact ⟨true, rfl, P1 _ _ _ S1⟩
      | false => exact ⟨false, rfl, n, H01, ρ1, ts, S1.drop, P1⟩
    | non => exact P1.elim
    | int _ => exact P1.elim
    | str _ => exact P1.elim
    | tup _ => exact P1.elim
    | lst _ => exact P1.elim
    | dic _ => exact P1.elim
    | ins _ _ => exact P1.elim
    | scr _ => exact P1.elim
theorem r_not (ok : Ck T X) {a : Expr} {m : MExp} {pos : Pos} (ha : PE X a (rd T W (ev G m))) : PE X (.UnaryOp .Not a pos) (rd T W (ev G (.not_ m))) := by
  refine pe_imp (pe_notT ha) fun σ H Q h => ?_
  obtain ⟨n, H0, ρ, ts, S, P⟩ := h
  rw [ok.hK]
  refine rd_mono (rd_one S P) fun v H1 h => ?_
  obtain ⟨H01, ρ1, r, S1, P1⟩ := h
  have P1 : Post T W n σ ts ((Out.of ρ1 ((r.see ρ1).bind truD)).bind fun k e2 => Out.ok (Rs.d (.bl (!k))) e2) (Wants T n σ ts Q) := P1
  cases es : r.see ρ1 with
  | none => rw [es] at P1; exact P1.elim
  | some x =>
    rw [es] at P1
    have P1 : Post T W n σ ts ((Out.of ρ1 (truD x)).bind fun k e2 => Out.ok (Rs.d (.bl (!k))) e2) (Wants T n σ ts Q) := P1
    cases et : truD x with
    | none => rw [et] at P1; exact P1.elim
    | some k =>
      rw [et] at P1
      exact ⟨k, tru_of (S1.see es) S1.sub et, P1 _ _ _ (S1.drop.addD (.bl _))⟩
theorem r_ite {c a b : Expr} {mc ma mb : MExp} {pos : Pos} (hc : PT X c (rdT T W (tst G mc))) (ha : PE X a (rd T W (ev G ma))) (hb : PE X b (rd T W (ev G mb))) : PE X (.IfExp c a b pos) (rd T W (ev G (.ite mc ma mb))) := by
  refine pe_imp (pe_ifExp hc ha hb) fun σ H Q h => ?_
  obtain ⟨n, H0, ρ, ts, S, P⟩ := h
  refine ⟨n, H0, ρ, ts, S, ?_⟩
  have P : Post T W n σ ts ((ev G mc ρ).bind fun rc e1 => (tstR rc e1).bind fun k e2 => if k then ev G ma e2 else ev G mb e2) (Wants T n σ ts Q) := P
  show Post T W n σ ts ((ev G mc ρ).bind fun r e1 => tstR r e1) _
  cases ea : ev G mc ρ with
  | no => rw [ea] at P; exact P.elim
  | ex x e => rw [ea] at P; exact P
  | ok ra e1 =>
    rw [ea] at P
    show Post T W n σ ts (tstR ra e1) _
    have P : Post T W n σ ts ((tstR ra e1).bind fun k e2 => if k then ev G ma e2 else ev G mb e2) (Wants T n σ ts Q) := P
    cases et : tstR ra e1 with
    | no => rw [et] at P; exact P.elim
    | ex x e => rw [et] at P; exact P
    | ok k e2 =>
      rw [et] at P
      cases k with
      | true => exact fun H0' H' S' => ⟨n, H0', e2, ts, S', P⟩
      | false => exact fun H0' H' S' => ⟨n, H0', e2, ts, S', P⟩
end
end Mi
end
section
set_option maxHeartbeats 4000000
namespace Mi
open PySem PySem.Spec PyProof.Rows L2
section
variable {T : Tb} {W : WX} {X : Cx} {G : Gs} {n : En} {σ : L2.St} {H0 H : Hp} {ρ : Env} {ts us : List Tmp} {Q : VK} {A B : List Nat}
theorem Cok.blk {T : Tb} {X : Cx} (ok : Cok T X) (s : Shared) (H : Hp) (sc : Scope) (e : PySem.Env) (fp : List Addr) : Cok T (X.blk s H sc e fp) := ⟨⟨ok.hK, ok.nd, ok.un, ok.gd, ok.sm⟩, ok.calm⟩
/-! ### calls -/
/-- a def that may be called by its name -/
structure Cal (P : Program) (w : World) (K : PySem.W.Frag) (mg : Str → Option Value) (base : Heap) (CX : CXT) (T : Tb) (F : Env → Out Rs) (k np : Nat) (x : Str) : Prop where
  ex : ∃ fa fd ps, FnOk P w K mg base CX k fa fd ps (SpF T np F) ∧ mg x = some (.ref fa) ∧ PySem.W.keepIn K (.ref fa) = true ∧ Binds K fd ps []
  no : ∀ l : List Sl, l.length ≠ np → F l = .no
theorem r_call {CX : CXT} {f k np : Nat} {x : Str} {p pos : Pos} {e : Expr} {es : List Expr} {ms : List MExp} (c : Cal X.prog X.w X.K X.mg X.base CX T (G.fn f) k np x) (hr : Room k X.A) (hx : ∀ σ, PassesAt CX X σ (WE W σ)) (ha : PA X (e :: es) (rdA T W (evs G ms)))
    (hg : Gl X x := by rfl) (hdb : (x == ("__debug__" : Str)) = false := by decide) (he : starEach (e :: es) X.env = (false, eval e X.env) :: starEach es X.env := by rfl) (hpl : (backTo pos (starEach es X.env)).any (·.1) = false := by rfl) :
    PE X (.Call (.Name x p) (e :: es) [] pos) (rd T W (ev G (.call f ms))) := by
  obtain ⟨fa, fd, ps, F, hm, hk, hb⟩ := c.ex
  exact pe_callF F hr hg hm hk hb hx c.no ha hdb he hpl
theorem pass0S {X : Cx} {σ : L2.St} {E : XK} : PassesAt CX0 X σ E := fun _ _ _ _ _ _ h => h.elim
theorem r_blt (ok : Cok T X) (b : Blt) {x : Str} {p pos : Pos} {e : Expr} {es : List Expr} {ms : List MExp} (hm : X.mg x = none) (hv : bootBuiltins x = some (bltV b)) (ha : PA X (e :: es) (rdA T W (evs G ms)))
    (hg : Gl X x := by rfl) (hn : x ≠ "__name__" := by decide) (hdb : (x == ("__debug__" : Str)) = false := by decide) (he : starEach (e :: es) X.env = (false, eval e X.env) :: starEach es X.env := by rfl) (hpl : (backTo pos (starEach es X.env)).any (·.1) = false := by rfl) :
    PE X (.Call (.Name x p) (e :: es) [] pos) (rd T W (ev G (.blt b ms))) := by
  have hc := callR_blt (W := W) ok.toCk b fun _ => ok.calm
  have go : PE X (.Call (.Name x p) (e :: es) [] pos) (tCB (Many T W (bltS b)) (rdA T W (evs G ms))) := by
    cases b <;> first
      | exact pe_callB hc hg hm hv ha hn hdb he hpl
      | exact pe_callTy hc hg hm hv ha hn hdb he hpl
  exact pe_imp go fun σ H Q h => rd_seeMany h
theorem r_bltH (ok : Ck T X) (b : Blt) {x : Str} {p pos : Pos} {e : Expr} {es : List Expr} {ms : List MExp} (hm : X.mg x = none) (hv : bootBuiltins x = some (bltV b)) (ha : PA X (e :: es) (rdA T W (evs G ms)))
    (hb : calmB b = false := by rfl) (hg : Gl X x := by rfl) (hn : x ≠ "__name__" := by decide) (hdb : (x == ("__debug__" : Str)) = false := by decide) (he : starEach (e :: es) X.env = (false, eval e X.env) :: starEach es X.env := by rfl) (hpl : (backTo pos (starEach es X.env)).any (·.1) = false := by rfl) :
    PE X (.Call (.Name x p) (e :: es) [] pos) (rd T W (ev G (.blt b ms))) := by
  have hc := callR_blt (W := W) ok b fun z => by rw [hb] at z; cases z
  have go : PE X (.Call (.Name x p) (e :: es) [] pos) (tCB (Many T W (bltS b)) (rdA T W (evs G ms))) := by
    cases b <;> first
      | exact pe_callB hc hg hm hv ha hn hdb he hpl
      | exact pe_callTy hc hg hm hv ha hn hdb he hpl
  exact pe_imp go fun σ H Q h => rd_seeMany h
theorem r_isk (ok : Ck T X) {a : Expr} {m : MExp} {pos p p2 : Pos} {k : Kd} {nm : Str} (hm : X.mg "isinstance" = none) (hm2 : X.mg nm = none) (hv : bootBuiltins nm = some (.type (kdN k))) (ha : PE X a (rd T W (ev G m))) (hg : Gl X "isinstance" := by rfl) (hg2 : Gl X nm := by rfl)
    (hn : nm ≠ "__name__" := by decide) (hd : (nm == ("__debug__" : Str)) = false := by decide) (hs : starEach [a, .Name nm p2] X.env = (false, eval a X.env) :: starEach [.Name nm p2] X.env := by rfl) :
    PE X (.Call (.Name "isinstance" p) [a, .Name nm p2] [] pos) (rd T W (ev G (.isk m [k]))) := pe_isk1 ok hg hm hg2 hm2 hv hn hd hs ha
/-! ### what is walked -/
theorem i_seq (ok : Ck T X) {tg e : Expr} {m : MExp} (he : PE X e (rd T W (ev G m))) : PI X tg e (rdI T W (evIt G (.seq m))) := pi_one_rd ok he
theorem i_enum (ok : Ck T X) {e : Expr} {m : MExp} {p pos tpos : Pos} {elts : List Expr} {kk : Nat} (hm : X.mg "enumerate" = none) (he : PE X e (rd T W (ev G m))) (hg : Gl X "enumerate" := by rfl) (hs : starEach [e] X.env = [(false, eval e X.env)] := by rfl) :
    PI X (.Tuple elts kk tpos) (.Call (.Name "enumerate" p) [e] [] pos) (rdI T W (evIt G (.enum m))) := pi_enum_rd ok hg hm he hs
theorem i_zip (ok : Ck T X) {e e2 : Expr} {ma mb : MExp} {p pos tpos : Pos} {elts : List Expr} {kk : Nat} (hm : X.mg "zip" = none) (he : PE X e (rd T W (ev G ma))) (he2 : PE X e2 (rd T W (ev G mb))) (hg : Gl X "zip" := by rfl)
    (hs : starEach [e, e2] X.env = (false, eval e X.env) :: starEach [e2] X.env := by rfl) (hs2 : starEach [e2] X.env = (false, eval e2 X.env) :: starEach [] X.env := by rfl) (hpl : (backTo pos (starEach [e2] X.env)).any (·.1) = false := by rfl) :
    PI X (.Tuple elts kk tpos) (.Call (.Name "zip" p) [e, e2] [] pos) (rdI T W (evIt G (.zip ma mb))) := pi_zip_rd ok hg hm he he2 hs hs2 hpl
theorem i_rng1 {tg e : Expr} {m : MExp} {p pos : Pos} (hm : X.mg "range" = none) (he : PE X e (rd T W (ev G m))) (hg : Gl X "range" := by rfl) (hs : starEach [e] X.env = [(false, eval e X.env)] := by rfl) : PI X tg (.Call (.Name "range" p) [e] [] pos) (rdI T W (evIt G (.rng none m))) := pi_rng1_rd hg hm he hs
theorem i_rng2 {tg e e2 : Expr} {ma mb : MExp} {p pos : Pos} (hm : X.mg "range" = none) (he : PE X e (rd T W (ev G ma))) (he2 : PE X e2 (rd T W (ev G mb))) (hg : Gl X "range" := by rfl)
    (hs : starEach [e, e2] X.env = [(false, eval e X.env), (false, eval e2 X.env)] := by rfl) (hs2 : starEach [e2] X.env = [(false, eval e2 X.env)] := by rfl) : PI X tg (.Call (.Name "range" p) [e, e2] [] pos) (rdI T W (evIt G (.rng (some ma) mb))) := pi_rng2_rd hg hm he he2 hs hs2
/-! ### targets -/
theorem g_nm {i : Nat} {x : Str} {pos : Pos} (nd : X.N.Nodup) (hi : X.N[i]? = some x := by rfl) (hx : Loc X.env.scope x := by first | exact Or.inl rfl | exact Or.inr rfl) (hf : X.fn x = true ∨ X.env.scope.names.lookup x = some .local := by first | exact .inl rfl | exact .inr rfl) : PG X (.Name x pos) (rdG T (.nm i)) := pg_nmR nd hi hx hf
theorem gs_nil : PGs X [] (rdGs T []) := pgs_nilR
theorem gs_cons {i : Nat} {is : List Nat} {e : Expr} {es : List Expr} (h1 : PG X e (rdG T (.nm i))) (h2 : PGs X es (rdGs T is)) (hs : (assignEach (e :: es) X.env).map (·.2) = assign e X.env :: (assignEach es X.env).map (·.2) := by rfl) : PGs X (e :: es) (rdGs T (i :: is)) := pgs_consR h1 h2 hs
theorem g_tp (ok : Cok T X) {is : List Nat} {es : List Expr} {kk : Nat} {pos : Pos} (h : PGs X es (rdGs T is)) (hn : (assignEach es X.env).length = is.length := by rfl) (hst : (assignEach es X.env).findIdx? (·.1) = none := by rfl) : PG X (.Tuple es kk pos) (rdG T (.tp is)) := pg_tpR ok h hn hst
/-! ### comprehensions -/
theorem c_no {T : Tb} {W : WX} {X : Cx} {G : Gs} : PTs X [] (rdT T W (evc G none)) := pts_none
theorem c_yes {T : Tb} {W : WX} {X : Cx} {G : Gs} {c : Expr} {m : MExp} (h : PT X c (rdT T W (tst G m))) : PTs X [c] (rdT T W (evc G (some m))) := pts_one h
theorem r_comp (ok : Cok T X) (own : List (Str × Nat)) {elt tg iter : Expr} {ifs : List Expr} {scope : Scope} {pos : Pos} {t : Tgt} {mi : MIt} {mc : Option MExp} {me : MExp} (hi : PI X tg iter (rdI T W (evIt G mi))) (bk : BlkOk X.N X.env.scope scope own)
    (hg : ∀ (s : Shared) (H : Hp) (C : Addr) (cl : List (Str × Addr)) (fp : List Addr), PG (X.blk s H scope (compEnvC scope cl C X.env) fp) tg (rdG T t)) (ht : ∀ (s : Shared) (H : Hp) (C : Addr) (cl : List (Str × Addr)) (fp : List Addr), PTs (X.blk s H scope (compEnvC scope cl C X.env) fp) ifs (rdT T W0 (evc G mc)))
    (he : ∀ (s : Shared) (H : Hp) (C : Addr) (cl : List (Str × Addr)) (fp : List Addr), PE (X.blk s H scope (compEnvC scope cl C X.env) fp) elt (rd T W0 (ev G me))) (ho : own.map (·.2) = t.is := by rfl) (hs : ∀ x, foldedSetIterable iter X.env x = pure x := by intro _; rfl) :
    PE X (.ListComp elt [⟨tg, iter, ifs, 0⟩] scope pos) (rd T W (ev G (.comp me t mi mc))) := pe_comp ok hi bk ho hg ht he hs
/-! ### statements -/
theorem s_set (own : Bool) {i : Nat} {x : Str} {e : Expr} {m : MExp} {pos pos' : Pos} (nd : X.N.Nodup) (he : PE X e (rd T W (ev G m))) (hi : X.N[i]? = some x := by rfl) (hx : Loc X.env.scope x := by first | exact Or.inl rfl | exact Or.inr rfl)
    (hs : swapsWith e (some (.Name x pos')) pos.line X.env = pure false := by rfl) (hf : X.fn x = true ∨ X.env.scope.names.lookup x = some .local := by first | exact .inl rfl | exact .inr rfl) : PS X (.Assign [.Name x pos'] e pos) (rdS T W [i] (exec G (.set i own m))) := ps_setR nd hi hx he hs hf
theorem s_setc (ok : Cok T X) (own1 : Bool) (own : List (Str × Nat)) {i : Nat} {y : Str} {py : Pos} {elt tg iter : Expr} {ifs : List Expr} {scope : Scope} {pos spos : Pos} {t : Tgt} {mi : MIt} {mc : Option MExp} {me : MExp} (hi : PI X tg iter (rdI T W (evIt G mi))) (bk : BlkOk X.N X.env.scope scope own)
    (hsw : swapsWith (.ListComp elt [⟨tg, iter, ifs, 0⟩] scope pos) (some (.Name y py)) spos.line X.env = pure true)
    (hg : ∀ (s : Shared) (H : Hp) (C : Addr) (cl : List (Str × Addr)) (fp : List Addr), PG (X.blk s H scope (compEnvC scope cl C X.env) fp) tg (rdG T t)) (ht : ∀ (s : Shared) (H : Hp) (C : Addr) (cl : List (Str × Addr)) (fp : List Addr), PTs (X.blk s H scope (compEnvC scope cl C X.env) fp) ifs (rdT T W0 (evc G mc)))
    (he : ∀ (s : Shared) (H : Hp) (C : Addr) (cl : List (Str × Addr)) (fp : List Addr), PE (X.blk s H scope (compEnvC scope cl C X.env) fp) elt (rd T W0 (ev G me))) (hy : X.N[i]? = some y := by rfl) (hyl : X.env.scope.names.lookup y = some .local := by rfl) (ho : own.map (·.2) = t.is := by rfl) (hs : ∀ x, foldedSetIterable iter X.env x = pure x := by intro _; rfl) :
    PS X (.Assign [.Name y py] (.ListComp elt [⟨tg, iter, ifs, 0⟩] scope pos) spos) (rdS T W [i] (exec G (.set i own1 (.comp me t mi mc)))) := ps_setComp ok hy hyl hsw hi bk ho hg ht he hs
theorem s_exp {e : Expr} {m : MExp} {pos : Pos} (he : PE X e (rd T W (ev G m))) (hs : swapsWith e none pos.line X.env = pure false := by rfl) : PS X (.Expr e pos) (rdS T W [] (exec G (.exp m))) := ps_expR he hs
theorem s_ret {e : Expr} {m : MExp} {pos : Pos} (he : PE X e (rd T W (ev G m))) : PS X (.Return (some e) pos) (rdS T W [] (exec G (.ret m))) := ps_retR he
theorem s_retN {pos : Pos} : PS X (.Return none pos) (rdS T W [] (exec G .retN)) := ps_retNR
theorem s_pass {pos : Pos} : PS X (.Pass pos) (rdS T W [] (exec G .pass)) := ps_passR
theorem s_never {s : Stmt} : PS X s (rdS T W [] (exec G .never)) := ps_noR
theorem s_if {c : Expr} {a b : List Stmt} {pos : Pos} {mc : MExp} {ma mb : List MStmt} (hc : PT X c (rdT T W (tst G mc))) (ha : PSs X a (rdS T W (MStmt.sts ma) (execs G ma))) (hb : PSs X b (rdS T W (MStmt.sts mb) (execs G mb))) :
    PS X (.If c a b pos) (rdS T W (MStmt.st (.ite mc ma mb)) (exec G (.ite mc ma mb))) := ps_iteR hc ha hb
theorem s_whl (own : PassesOwn (model X.prog X.w) X.A X.env X.xe) {c : Expr} {a : List Stmt} {pos : Pos} {mc : MExp} {ma : List MStmt} (hc : PT X c (rdT T W (tst G mc))) (ha : PSs X a (rdS T W (MStmt.sts ma) (execs G ma))) :
    PS X (.While c a [] pos) (rdS T W (MStmt.st (.whl mc ma)) (exec G (.whl mc ma))) := ps_whlR own hc ha
theorem s_for (ok : Cok T X) (own : PassesOwn (model X.prog X.w) X.A X.env X.xe) {tg iter : Expr} {body : List Stmt} {pos : Pos} {t : Tgt} {mi : MIt} {mb : List MStmt} (hi : PI X tg iter (rdI T W (evIt G mi))) (hg : PG X tg (rdG T t)) (hb : PSs X body (rdS T W (MStmt.sts mb) (execs G mb)))
    (hs : ∀ x, foldedSetIterable iter X.env x = pure x := by intro _; rfl) : PS X (.For tg iter body [] pos) (rdS T W (MStmt.st (.for_ t mi mb)) (exec G (.for_ t mi mb))) := ps_forR ok own hi hg hb hs
theorem s_par (ok : Cok T X) (own1 own2 : Bool) {i j : Nat} {x y : Str} {a b : Expr} {ma mb : MExp} {px py pt pos : Pos} {kt k2 : Nat} {pt2 : Pos} (ha : PE X a (rd T W (ev G ma))) (hb : PE X b (rd T W (ev G mb))) (hi : X.N[i]? = some x := by rfl) (hj : X.N[j]? = some y := by rfl) (hij : i ≠ j := by decide)
    (hx : X.env.scope.names.lookup x = some .local := by rfl) (hy : X.env.scope.names.lookup y = some .local := by rfl) (hst : starEach [a, b] X.env = (false, eval a X.env) :: starEach [b] X.env := by rfl) (hst2 : starEach [b] X.env = (false, eval b X.env) :: starEach [] X.env := by rfl)
    (hw : swappedStores [.Tuple [.Name x px, .Name y py] kt pt] (.Tuple [a, b] k2 pt2) X.env = pure (some [x, y]) := by rfl) (hs : swapsWithSole [.Tuple [.Name x px, .Name y py] kt pt] (.Tuple [a, b] k2 pt2) pos.line X.env = pure false := by rfl) :
    PS X (.Assign [.Tuple [.Name x px, .Name y py] kt pt] (.Tuple [a, b] k2 pt2) pos) (rdS T W [i, j] (exec G (.par i j own1 own2 ma mb))) := ps_parR ok ok.nd hi hj hij hx hy ha hb hst hst2 hw hs
theorem s_sub (ok : Ck T X) {o i e : Expr} {mo mi me : MExp} {pos' pos : Pos} (he : PE X e (rd T W (ev G me))) (ho : PE X o (rd T W (ev G mo))) (hi : PE X i (rd T W (ev G mi)))
    (ha : ∀ v, assign (.Subscript o i pos') X.env v = (do
      let ov ← holding [v] (eval o X.env)
      let iv ← holding [v, ov] (eval i X.env)
      standAt pos'
      holding [v, ov, iv] (setItem ov iv v)
      release [v, ov, iv] []) := by intro _; rfl) (hs : swapsWithSole [.Subscript o i pos'] e pos.line X.env = pure false := by rfl) (hw : swappedStores [.Subscript o i pos'] e X.env = pure none := by rfl)
    (h1 : (assignEach [.Subscript o i pos'] X.env).map (·.2) = [assign (.Subscript o i pos') X.env] := by rfl) : PS X (.Assign [.Subscript o i pos'] e pos) (rdS T W [] (exec G (.setSub mo mi me))) := ps_setSubR ok he ho hi ha hs hw h1
theorem s_fld (ok : Ck T X) (hc : ClsOk T G) {f : Nat} {o e : Expr} {mo me : MExp} {pos' pos : Pos} (he : PE X e (rd T W (ev G me))) (ho : PE X o (rd T W (ev G mo))) (hs : swapsWith e (some (.Attribute o (T.an f) pos')) pos.line X.env = pure false := by rfl) :
    PS X (.Assign [.Attribute o (T.an f) pos'] e pos) (rdS T W [] (exec G (.setFld mo f me))) := ps_setFldR ok hc he ho hs
theorem s_aug (nd : X.N.Nodup) {op : Bop} {i : Nat} {x : Str} {e : Expr} {m : MExp} {pos pos' : Pos} (he : PE X e (rd T W (ev G m))) (hop : op = .add ∨ op = .sub := by first | exact .inl rfl | exact .inr rfl) (hi : X.N[i]? = some x := by rfl) (hx : Loc X.env.scope x := by first | exact Or.inl rfl | exact Or.inr rfl)
    (hf : X.fn x = true ∨ X.env.scope.names.lookup x = some .local := by first | exact .inl rfl | exact .inr rfl) : PS X (.AugAssign (.Name x pos') (opOf op) e pos) (rdS T W [i] (exec G (.aug i op m))) := by
  rcases hop with rfl | rfl
  · exact ps_augR (.inl rfl) nd hi hx he hf
  · exact ps_augR (.inr rfl) nd hi hx he hf
theorem ss_nil : PSs X [] (rdS T W (MStmt.sts []) (execs G [])) := pss_nilR
theorem ss_cons {s : Stmt} {ss : List Stmt} {m : MStmt} {ms : List MStmt} (h1 : PS X s (rdS T W (MStmt.st m) (exec G m))) (h2 : PSs X ss (rdS T W (MStmt.sts ms) (execs G ms))) : PSs X (s :: ss) (rdS T W (MStmt.sts (m :: ms)) (execs G (m :: ms))) := pss_consR h1 h2
end
end Mi
end
section
set_option maxHeartbeats 4000000
namespace Mi
open PySem PySem.Spec PyProof.Rows L2
section
variable {T : Tb} {W : WX} {X : Cx} {G : Gs} {n : En} {σ : L2.St} {H0 H : Hp} {ρ : Env} {ts us : List Tmp} {Q : VK} {A B : List Nat}
/-! ### a def's body: entry and end -/
theorem ST.entry {N : List Str} {vs : List V} {ls : List Sl} (S : ST T n H0 H (vs.map some) ls []) (hl : ls.length ≤ N.length) : ST T n H0 H (L2.start N vs) (ls ++ List.replicate (N.length - ls.length) .un) [] := by
  have l0 : vs.length = ls.length := by have := S.len; rw [List.length_map] at this; exact this
  have old : ∀ {j s}, (ls ++ List.replicate (N.length - ls.length) Sl.un)[j]? = some s → ls[j]? = some s ∨ (s = .un ∧ ls.length ≤ j ∧ j < N.length) := fun {j s} h => by
    by_cases z : j < ls.length
    · rw [List.getElem?_append_left z] at h
      exact .inl h
    · rw [List.getElem?_append_right (by omega), List.getElem?_replicate] at h
      split at h
      · cases h; exact .inr ⟨rfl, by omega, by omega⟩
      · cases h
  have st : ∀ j, j < ls.length → (L2.start N vs)[j]? = (vs.map some)[j]? := fun j hj => by
    unfold L2.start
    rw [List.getElem?_append_left (by rw [List.length_map, l0]; exact hj)]
  have back : ∀ {j p}, OwnAt (L2.start N vs) (ls ++ List.replicate (N.length - ls.length) Sl.un) j p → OwnAt (vs.map some) ls j p := fun {j p} ⟨a, s, b, c⟩ => by
    rcases old b with z | ⟨z, _⟩
    · exact ⟨by rw [← st j (lt_of_get z)]; exact a, s, z, c⟩
    · subst z; cases c
  exact {
    sub := S.sub
    s0 := S.s0
    len := by unfold L2.start; simp; omega
    slot := fun j s h => by
      rcases old h with z | ⟨z, z1, z2⟩
      · obtain ⟨x, hx, q⟩ := S.slot j s z
        exact ⟨x, by rw [st j (lt_of_get z)]; exact hx, q⟩
      · subst z
        refine ⟨none, ?_, True.intro⟩
        unfold L2.start
        rw [List.getElem?_append_right (by rw [List.length_map]; omega), List.getElem?_replicate, if_pos (by rw [List.length_map]; omega)]
    temp := fun t h => by simp at h
    dist := fun i j p h1 h2 => S.dist i j p (back h1) (back h2)
    dtt := S.dtt
    dts := fun p h => by simp [tmpL] at h
    pak := fun q hq => by
      obtain ⟨a, o, b⟩ := S.pak q hq
      have z := lt_of_get b
      exact ⟨by rw [st q.1 z]; exact a, o, by rw [List.getElem?_append_left z]; exact b⟩
    keep := S.keep
    dom := S.dom
    new := S.new }
theorem backP_len : ∀ (ls : List Sl) (e : Env), (backP ls e).length = ls.length
  | [], _ => rfl
  | s :: ls, e => by cases s <;> simp [backP, backP_len ls]
theorem tail_get (e : Env) (j : Nat) : e.tail[j]? = e[j + 1]? := by cases e <;> simp
theorem backP_get : ∀ {ls : List Sl} {e : Env} {j : Nat} {s : Sl}, pasKept ls e = true → (backP ls e)[j]? = some s → ∃ s0, ls[j]? = some s0 ∧ (((∀ o, s0 ≠ .pa o) ∧ s = s0) ∨ ∃ o o', s0 = .pa o ∧ e[j]? = some (.pa o') ∧ s = .pa o')
  | [], e, j, s, _, h => by simp [backP] at h
  | s0 :: ls, e, 0, s, hk, h => by
    cases s0 with
    | un => simp [backP] at h; exact ⟨_, rfl, .inl ⟨fun o z => (nomatch z), h.symm⟩⟩
    | xc _ => simp [backP] at h; exact ⟨_, rfl, .inl ⟨fun o z => (nomatch z), h.symm⟩⟩
    | sh d => simp [backP] at h; exact ⟨_, rfl, .inl ⟨fun o z => (nomatch z), h.symm⟩⟩
    | ow o => simp [backP] at h; exact ⟨_, rfl, .inl ⟨fun o z => (nomatch z), h.symm⟩⟩
    | pa o =>
      cases e with
      | nil => cases hk
      | cons t e =>
        cases t with
        | un => cases hk
        | xc _ => cases hk
        | sh _ => cases hk
        | ow _ => cases hk
        | pa o' => simp [backP] at h; exact ⟨_, rfl, .inr ⟨o, o', rfl, rfl, h.symm⟩⟩
  | s0 :: ls, e, j + 1, s, hk, h => by
    have hk2 : pasKept ls e.tail = true := by
      cases s0 with
      | un => exact hk
      | xc _ => exact hk
      | sh _ => exact hk
      | ow _ => exact hk
      | pa o =>
        have hk : ((match (generalizing := false) e with
          | .pa _ :: _ => true
          | _ => false) && pasKept ls e.tail) = true := hk
        rw [Bool.and_eq_true] at hk
        exact hk.2
    have h2 : (backP ls e.tail)[j]? = some s := by
      cases s0 <;> simpa [backP] using h
    obtain ⟨t, a, b⟩ := backP_get hk2 h2
    refine ⟨t, by simpa using a, ?_⟩
    rw [tail_get] at b
    exact b
/-- at a body's end: the parameters' slots -/
theorem ST.exit {vs : List V} {ls : List Sl} {H0e H0' H' : Hp} {σ' : L2.St} {e : Env} {v : V} {r : Rs} (S0 : ST T ⟨H, H0, pasOf 0 vs ls⟩ H0e H (vs.map some) ls []) (hk : pasKept ls e = true) (S : ST T ⟨H, H0, pasOf 0 vs ls⟩ H0' H' σ' e [(v, r)]) (nb : ∀ i, r ≠ .bo i)
    (kinds : ∀ s ∈ ls, (∃ d, s = .sh d) ∨ ∃ o, s = .pa o) (he : Same H0e H0') : ST T ⟨H, H0, pasOf 0 vs ls⟩ H0' H' (vs.map some) (backP ls e) [(v, r)] := by
  have l0 : vs.length = ls.length := by have := S0.len; rw [List.length_map] at this; exact this
  -- a slot of the caller's, at the end
  have paS : ∀ {j o'} {o : Ob}, ls[j]? = some (.pa o) → e[j]? = some (.pa o') → ∃ p, (vs.map some)[j]? = some (some (.ref p)) ∧ σ'[j]? = some (some (.ref p)) ∧ (j, p) ∈ pasOf 0 vs ls ∧ H0' p = none ∧ ObR T H0' H' p o' := fun {j o' o} h1 h2 => by
    obtain ⟨x, hx, p, ep, m, h0, r⟩ := S.slot j _ h2
    subst ep
    obtain ⟨_, hv, _⟩ := pasOf_mem m
    have hv : vs[j]? = some (.ref p) := hv
    exact ⟨p, by rw [List.getElem?_map, hv]; rfl, hx, m, h0, r⟩
  have back : ∀ {j p}, OwnAt (vs.map some) (backP ls e) j p → OwnAt σ' e j p := fun {j p} ⟨a, s, b, c⟩ => by
    obtain ⟨s0, h1, h2⟩ := backP_get hk b
    rcases h2 with ⟨h2, rfl⟩ | ⟨o, o', rfl, h3, rfl⟩
    · rcases kinds s (List.mem_of_getElem? h1) with ⟨d, rfl⟩ | ⟨o, rfl⟩
      · cases c
      · exact (h2 o rfl).elim
    · obtain ⟨q, h4, h5, _⟩ := paS h1 h3
      rw [a] at h4
      cases h4
      exact ⟨h5, _, h3, rfl⟩
  exact {
    sub := S.sub
    s0 := S.s0
    len := by rw [List.length_map, backP_len]; exact l0
    slot := fun j s hj => by
      obtain ⟨s0, h1, h2⟩ := backP_get hk hj
      rcases h2 with ⟨h2, rfl⟩ | ⟨o, o', rfl, h3, rfl⟩
      · rcases kinds s (List.mem_of_getElem? h1) with ⟨d, rfl⟩ | ⟨o, rfl⟩
        · obtain ⟨x, hx, w, ew, rw_⟩ := S0.slot j _ h1
          exact ⟨x, hx, w, ew, rw_.mono he⟩
        · exact (h2 o rfl).elim
      · obtain ⟨p, h4, h5, m, h0, r⟩ := paS h1 h3
        exact ⟨_, h4, p, rfl, m, h0, r⟩
    temp := fun t ht => by
      have q := S.temp t ht
      rw [List.mem_singleton.mp ht] at q ⊢
      cases r with
      | d x => exact q
      | fr o => exact q
      | bo i => exact (nb i rfl).elim
    dist := fun i j p h1 h2 => S.dist i j p (back h1) (back h2)
    dtt := S.dtt
    dts := fun p hp i h => S.dts p hp i (back h)
    pak := fun q hq => by
      obtain ⟨a, o', b⟩ := S.pak q hq
      obtain ⟨j, p⟩ := q
      obtain ⟨_, hv, o, ho⟩ := pasOf_mem hq
      have hv : vs[j]? = some (.ref p) := hv
      have ho : ls[j]? = some (.pa o) := ho
      refine ⟨by show (vs.map some)[j]? = _; rw [List.getElem?_map, hv]; rfl, o', ?_⟩
      show (backP ls e)[j]? = _
      have hjl : j < (backP ls e).length := by rw [backP_len]; exact lt_of_get ho
      obtain ⟨s0, h1, h2⟩ := backP_get hk (List.getElem?_eq_getElem hjl)
      rw [ho] at h1
      cases h1
      rcases h2 with ⟨h2, _⟩ | ⟨o1, o2, _, h3, h4⟩
      · exact (h2 o rfl).elim
      · rw [show e[j]? = _ from b] at h3
        cases h3
        rw [List.getElem?_eq_getElem hjl, h4]
    keep := S.keep
    dom := S.dom
    new := S.new }
end
end Mi
end
section
set_option maxHeartbeats 4000000
namespace Mi
open PySem PySem.Spec PyProof.Rows L2
section
variable {T : Tb} {W : WX} {X : Cx} {G : Gs} {n : En} {σ : L2.St} {H0 H : Hp} {ρ : Env} {ts us : List Tmp} {Q : VK} {A B : List Nat}
/-! ### several targets of any kind -/
def rdTgs (T : Tb) (W : WX) (A : List Nat) (d : List D → Env → SOut) : TGs := fun vs σ H Q => ∃ n H0 ρ ts xs, ST T n H0 H σ ρ (vs.zip (xs.map Rs.d) ++ ts) ∧ vs.length = xs.length ∧ (∀ u ∈ ts, ∀ i, u.2 = .bo i → i ∉ A) ∧ PostS T W n ts (d xs ρ) { nx := Q, rt := fun _ _ => False }
def NoRt (d : D → Env → SOut) : Prop := ∀ x e r e', d x e ≠ .rt r e'
theorem data_nb {vs : List V} {xs : List D} {u : Tmp} (h : u ∈ vs.zip (xs.map Rs.d)) (i : Nat) : u.2 ≠ .bo i := fun z => by
  obtain ⟨v, r⟩ := u
  have h2 := (List.of_mem_zip h).2
  obtain ⟨x, _, e⟩ := List.mem_map.mp h2
  have z : r = .bo i := z
  rw [← e] at z
  cases z
theorem tgs_nil : PGs X [] (rdTgs T W [] (putTgs G [])) := by
  refine pgs_imp pgs_nil fun vs σ H Q h => ?_
  obtain ⟨n, H0, ρ, ts, xs, S, hl, k, P⟩ := h
  cases xs with
  | cons x xs => exact P.elim
  | nil =>
    cases vs with
    | cons _ _ => cases hl
    | nil => exact ⟨rfl, P σ H0 H S⟩
theorem tgs_cons {t : Tg} {l : List Tg} {e : Expr} {es : List Expr} (h1 : PG X e (rdTg T W A (fun x e => putTg G x t e))) (h2 : PGs X es (rdTgs T W B (putTgs G l))) (hr : NoRt (fun x e => putTg G x t e)) (hs : (assignEach (e :: es) X.env).map (·.2) = assign e X.env :: (assignEach es X.env).map (·.2)) :
    PGs X (e :: es) (rdTgs T W (A ++ B) (putTgs G (t :: l))) := by
  refine pgs_imp (pgs_cons h1 h2 hs) fun vs σ H Q h => ?_
  obtain ⟨n, H0, ρ, ts, xs, S, hl, k, P⟩ := h
  cases xs with
  | nil => exact P.elim
  | cons x xs =>
    cases vs with
    | nil => cases hl
    | cons v vs =>
      have hl : vs.length = xs.length := by simpa using hl
      have kB : ∀ u ∈ ts, ∀ i, u.2 = .bo i → i ∉ B := fun u hu i e z => k u hu i e (List.mem_append_right _ z)
      refine ⟨v, vs, rfl, n, H0, ρ, vs.zip (xs.map Rs.d) ++ ts, x, S, fun u hu i e z => ?_, ?_⟩
      · rcases List.mem_append.mp hu with hu | hu
        · exact data_nb hu i e
        · exact k u hu i e (List.mem_append_left _ z)
      · have P : PostS T W n ts ((putTg G x t ρ).seq fun e1 => putTgs G l xs e1) _ := P
        show PostS T W n (vs.zip (xs.map Rs.d) ++ ts) (putTg G x t ρ) _
        cases ep : putTg G x t ρ with
        | no => rw [ep] at P; exact P.elim
        | ex y e => rw [ep] at P; exact P
        | rt r e => exact (hr _ _ _ _ ep).elim
        | nx ρ1 => rw [ep] at P; exact fun σ' H0' H' S' => ⟨n, H0', ρ1, ts, xs, S', hl, kB, P⟩
theorem ST.addDs : ∀ {vs : List V} {xs : List D}, ST T n H0 H σ ρ ts → Rps T H0 vs xs → ST T n H0 H σ ρ (vs.zip (xs.map Rs.d) ++ ts)
  | _, _, S, .nil => S
  | _, _, S, .cons r rr => (ST.addDs S rr).addD r
theorem q_nm {i : Nat} {x : Str} {pos : Pos} (nd : X.N.Nodup) (hi : X.N[i]? = some x := by rfl) (hx : Loc X.env.scope x := by first | exact Or.inl rfl | exact Or.inr rfl) (hf : X.fn x = true ∨ X.env.scope.names.lookup x = some .local := by first | exact .inl rfl | exact .inr rfl) :
    PG X (.Name x pos) (rdTg T W [i] (fun x e => putTg G x (.nm i) e)) := tg_nm nd hi hx hf
theorem q_sub (ok : Ck T X) {o i : Expr} {mo mi : MExp} {pos : Pos} (ho : PE X o (rd T W (ev G mo))) (hi : PE X i (rd T W (ev G mi)))
    (ha : ∀ v, assign (.Subscript o i pos) X.env v = (do
      let ov ← holding [v] (eval o X.env)
      let iv ← holding [v, ov] (eval i X.env)
      standAt pos
      holding [v, ov, iv] (setItem ov iv v)
      release [v, ov, iv] []) := by intro _; rfl) : PG X (.Subscript o i pos) (rdTg T W [] (fun x e => putTg G x (.sub mo mi) e)) := tg_sub ok ho hi ha
theorem nr_nm {i : Nat} : NoRt (fun x e => putTg G x (.nm i) e) := fun x e r e' => of_nort
theorem nr_sub {mo mi : MExp} : NoRt (fun x e => putTg G x (.sub mo mi) e) := fun x e r e' => thn_nort fun ro e1 => thn_nort fun ri e2 => by
  split
  · exact of_nort
  · exact fun z => nomatch z
theorem qs_nil : PGs X [] (rdTgs T W (tgS []) (putTgs G [])) := tgs_nil
theorem qs_nm {i : Nat} {l : List Tg} {e : Expr} {es : List Expr} (h1 : PG X e (rdTg T W [i] (fun x e => putTg G x (.nm i) e))) (h2 : PGs X es (rdTgs T W (tgS l) (putTgs G l))) (hs : (assignEach (e :: es) X.env).map (·.2) = assign e X.env :: (assignEach es X.env).map (·.2) := by rfl) :
    PGs X (e :: es) (rdTgs T W (tgS (.nm i :: l)) (putTgs G (.nm i :: l))) := tgs_cons h1 h2 nr_nm hs
theorem qs_sub {mo mi : MExp} {l : List Tg} {e : Expr} {es : List Expr} (h1 : PG X e (rdTg T W [] (fun x e => putTg G x (.sub mo mi) e))) (h2 : PGs X es (rdTgs T W (tgS l) (putTgs G l))) (hs : (assignEach (e :: es) X.env).map (·.2) = assign e X.env :: (assignEach es X.env).map (·.2) := by rfl) :
    PGs X (e :: es) (rdTgs T W (tgS (.sub mo mi :: l)) (putTgs G (.sub mo mi :: l))) := tgs_cons h1 h2 nr_sub hs
theorem putTg_nort {t : Tg} : NoRt (fun x e => putTg G x t e) := by
  cases t with
  | nm i => exact nr_nm
  | sub o i => exact nr_sub
  | fld o f => exact fun x e r e' => thn_nort fun ro e1 => of_nort
theorem putTgs_nort : ∀ {l : List Tg} {xs : List D} {e e' : Env} {r : Rs}, putTgs G l xs e = .rt r e' → False
  | [], [], _, _, _, h => nomatch h
  | [], _ :: _, _, _, _, h => nomatch h
  | _ :: _, [], _, _, _, h => nomatch h
  | t :: l, x :: xs, e, e', r, h => by
    have h : ((putTg G x t e).seq fun e1 => putTgs G l xs e1) = .rt r e' := h
    cases ep : putTg G x t e with
    | no => rw [ep] at h; cases h
    | ex y e1 => rw [ep] at h; cases h
    | rt r1 e1 => exact putTg_nort _ _ _ _ ep
    | nx e1 => rw [ep] at h; exact putTgs_nort h
/-- several targets of a tuple or a list -/
def gSeq (K : PySem.W.Frag) (n : Nat) (t : TGs) : TG := fun v σ H Q => ∃ a xs, v = .ref a ∧ (SqT K H a xs ∨ SqL K H a xs) ∧ xs.length = n ∧ t xs σ H Q
theorem pg_seq {es : List Expr} {kk n : Nat} {pos : Pos} {t : TGs} (hc : X.calm = true) (h : PGs X es t) (hn : (assignEach es X.env).length = n) (hst : (assignEach es X.env).findIdx? (·.1) = none) : PG X (.Tuple es kk pos) (gSeq X.K n t) := by
  constructor
  intro pins s σ H v u Q I r q
  obtain ⟨a, xs, ev, hs, hl, q⟩ := q
  rcases hs with hs | hs
  · exact (pg_tup hc h hn hst).run pins s σ H v u Q I r ⟨a, xs, ev, hs, hl, q⟩
  · subst ev
    have eu : u = Value.ref a := r
    subst eu
    obtain ⟨its, rv, ht, hz⟩ := I.list hs
    have lz : its.length = xs.length := rv.length.symm
    rw [assign_Tuple]
    refine wpAny_bind (wpAny_standAt ?_)
    unfold unpack
    rw [hn, hst]
    have e : n = its.toArray.size := by rw [List.size_toArray]; omega
    rw [e]
    refine wpAny_bind (wpAny_holding (PySem.W.kun_itemsOf (I.ok.hd hc) ht.isList fun h' hx => ?_))
    have I1 : Inv X pins σ H { s with heap := h' } := I.kept (t' := s.toks) fun b o e => hx b o (Nat.ne_of_lt (Heap.lt_size e)) e
    exact h.run pins _ σ H xs _ Q I1 (by simpa using rv) q
/-- a, o[i], .. = a tuple or a list -/
theorem s_unp (ok : Cok T X) {l : List Tg} {es : List Expr} {kk : Nat} {tpos pos : Pos} {e : Expr} {m : MExp} (he : PE X e (rd T W (ev G m))) (hg : PGs X es (rdTgs T W (tgS l) (putTgs G l)))
    (hn : (assignEach es X.env).length = l.length := by rfl) (hst : (assignEach es X.env).findIdx? (·.1) = none := by rfl) (hs : swapsWithSole [.Tuple es kk tpos] e pos.line X.env = pure false := by rfl) (hw : swappedStores [.Tuple es kk tpos] e X.env = pure none := by rfl)
    (h1 : (assignEach [.Tuple es kk tpos] X.env).map (·.2) = [assign (.Tuple es kk tpos) X.env] := by rfl) : PS X (.Assign [.Tuple es kk tpos] e pos) (rdS T W (MStmt.st (.unp l m)) (exec G (.unp l m))) := by
  refine ps_imp (ps_asg he (pg_seq ok.calm hg hn hst) hs hw h1) fun D σ H h => ?_
  obtain ⟨n, H0, ρ, ts, S, k, P⟩ := h
  have P : PostS T W n ts ((ev G m ρ).thn fun r e1 => match (r.see e1).bind seqD with
    | some xs => if xs.length == l.length then putTgs G l xs e1 else .no
    | none => .no) D := P
  refine rd_mono (thn_one S P) fun v H1 h => ?_
  obtain ⟨H01, ρ1, r, S1, P1⟩ := h
  cases es : (r.see ρ1).bind seqD with
  | none => rw [es] at P1; exact P1.elim
  | some xs =>
    rw [es] at P1
    have P1 : PostS T W n ts (if xs.length == l.length then putTgs G l xs ρ1 else .no) D := P1
    split at P1
    · rename_i hl
      have hl := eq_of_beq hl
      have hx : ∃ p vs, v = .ref p ∧ (SqT T.K H1 p vs ∨ SqL T.K H1 p vs) ∧ Rps T H01 vs xs := by
        cases ex : r.see ρ1 with
        | none => rw [ex] at es; cases es
        | some x =>
          rw [ex] at es
          cases x with
          | tup ys =>
            cases es
            obtain ⟨p, vs, ev, h2, h3⟩ := (S1.see ex).tup
            exact ⟨p, vs, ev, .inl (Same.sqT S1.sub h2), h3⟩
          | lst ys =>
            cases es
            obtain ⟨p, vs, ev, h2, h3⟩ := (S1.see ex).lst S1.sub
            exact ⟨p, vs, ev, .inr (.inl (.inl h2)), h3⟩
          | non => cases es
          | bl _ => cases es
          | int _ => cases es
          | str _ => cases es
          | dic _ => cases es
          | ins _ _ => cases es
          | scr _ => cases es
      obtain ⟨p, vs, ev, h2, h3⟩ := hx
      subst ev
      rw [ok.hK]
      refine ⟨p, vs, rfl, h2, by rw [h3.length, hl], n, H01, ρ1, ts, xs, S1.drop.addDs h3, h3.length, k, ?_⟩
      revert P1
      cases ep : putTgs G l xs ρ1 with
      | no => exact fun z => z
      | nx e => exact fun z => z
      | ex y e => exact fun z => z
      | rt r e => exact (putTgs_nort ep).elim
    · exact P1.elim
/-! ### calls with names -/
def permR {α : Type} (km : List Nat) (l : List α) : List α := km.filterMap fun k => l[k]?
theorem permR_vals {km : List Nat} {vs : List V} {us : List Value} (r : Vals vs us) : Vals (permR km vs) (permR km us) := by
  induction km with
  | nil => exact .nil
  | cons k km ih =>
    unfold permR
    cases e : vs[k]? with
    | none =>
      have e2 : us[k]? = none := by
        rw [List.getElem?_eq_none_iff] at e ⊢
        rw [← r.length]
        exact e
      rw [List.filterMap_cons_none e, List.filterMap_cons_none e2]
      exact ih
    | some v =>
      obtain ⟨u, e2, q⟩ := r.get e
      rw [List.filterMap_cons_some e, List.filterMap_cons_some e2]
      exact .cons q ih
theorem permR_zip {km : List Nat} {vs : List V} {rs : List Rs} (hl : vs.length = rs.length) : (permR km vs).length = (permR km rs).length ∧ ∀ t ∈ (permR km vs).zip (permR km rs), t ∈ vs.zip rs := by
  induction km with
  | nil => exact ⟨rfl, fun t h => by simp [permR] at h⟩
  | cons k km ih =>
    unfold permR at ih ⊢
    cases e : vs[k]? with
    | none =>
      have e2 : rs[k]? = none := by
        rw [List.getElem?_eq_none_iff] at e ⊢
        omega
      rw [List.filterMap_cons_none e, List.filterMap_cons_none e2]
      exact ih
    | some v =>
      have hk : k < rs.length := by rw [← hl]; exact lt_of_get e
      have e2 : rs[k]? = some rs[k] := List.getElem?_eq_getElem hk
      rw [List.filterMap_cons_some e, List.filterMap_cons_some e2]
      refine ⟨by simp [ih.1], fun t h => ?_⟩
      rcases List.mem_cons.mp (show t ∈ (v, rs[k]) :: _ from h) with rfl | h
      · apply List.mem_of_getElem? (i := k)
        rw [List.getElem?_zip_eq_some]
        exact ⟨e, e2⟩
      · exact ih.2 t h
/-- temporaries that are no new objects may be told again -/
theorem ST.pick {ws : List Tmp} (S : ST T n H0 H σ ρ ts) (h : ∀ t ∈ ws, t ∈ ts ∧ ∀ o, t.2 ≠ .fr o) : ST T n H0 H σ ρ (ws ++ ts) := by
  have e : tmpL (ws ++ ts) = tmpL ts := by
    rw [tmpL_append]
    have z : ∀ {l : List Tmp}, (∀ t ∈ l, ∀ o, t.2 ≠ .fr o) → tmpL l = [] := fun {l} => by
      induction l with
      | nil => exact fun _ => rfl
      | cons a l ih =>
        intro h
        obtain ⟨v, r⟩ := a
        have ih := ih fun t ht => h t (List.mem_cons_of_mem _ ht)
        cases r with
        | d x => rw [tmpL_cons_d]; exact ih
        | bo i => rw [tmpL_cons_bo]; exact ih
        | fr o => exact (h _ (List.mem_cons_self ..) o rfl).elim
    rw [z fun t ht => (h t ht).2, List.nil_append]
  exact {
    S with
    temp := fun t ht => by
      rcases List.mem_append.mp ht with ht | ht
      · exact S.temp t (h t ht).1
      · exact S.temp t ht
    dtt := by rw [e]; exact S.dtt
    dts := fun p hp => S.dts p (by rw [← e]; exact hp) }
theorem permR_map {α β : Type} (f : α → β) (km : List Nat) (l : List α) : permR km (l.map f) = (permR km l).map f := by
  induction km with
  | nil => rfl
  | cons k km ih =>
    unfold permR at ih ⊢
    cases e : l[k]? with
    | none =>
      rw [List.filterMap_cons_none e, List.filterMap_cons_none (by rw [List.getElem?_map, e]; rfl)]
      exact ih
    | some v =>
      rw [List.filterMap_cons_some e, List.filterMap_cons_some (by rw [List.getElem?_map, e]; rfl), ih]
      rfl
theorem frz_nofr (r : Rs) (o : Ob) : frz r ≠ .fr o := by
  cases r <;> exact fun z => nomatch z
theorem lent_frz : ∀ rs : List Rs, lent (rs.map frz) = lent rs
  | [] => rfl
  | r :: rs => by cases r <;> simp [lent, frz, lent_frz rs]
theorem passAll_frz (e : Env) : ∀ rs : List Rs, passAll e (rs.map frz) = passAll e rs
  | [] => rfl
  | r :: rs => by
    show (match passS e (frz r) with
      | some s => match passAll e (rs.map frz) with
        | some l => some (s :: l)
        | none => none
      | none => none) = _
    rw [passS_frz, passAll_frz e rs]
    rfl
theorem backAll_frz : ∀ (rs : List Rs) (ls : List Sl) (e : Env), backAll e (rs.map frz) ls = backAll e rs ls
  | [], _, _ => rfl
  | _ :: _, [], _ => rfl
  | r :: rs, s :: ls, e => by
    show backAll (backS e (frz r) s) (rs.map frz) ls = backAll (backS e r s) rs ls
    rw [backAll_frz rs ls]
    cases r <;> rfl
theorem callS_frz (f : Nat) (rs : List Rs) (e : Env) : callS G f (rs.map frz) e = callS G f rs e := by
  unfold callS
  rw [lent_frz, passAll_frz]
  simp only [backAll_frz]
theorem call_spK {f np : Nat} {rs : List Rs} {vs : List V} {km : List Nat} (hn : ∀ l : List Sl, l.length ≠ np → G.fn f l = .no) (hl : vs.length = rs.length) (S : ST T n H0 H σ ρ (vs.zip rs ++ ts))
    (h : Post T W n σ ts (callS G f (permR km rs) ρ) (Wants T n σ ts Q)) : SpF T np (G.fn f) (permR km vs) H Q (WE W σ) := by
  obtain ⟨H0a, S1⟩ := S.holdFr hl
  have hl2 : vs.length = (rs.map frz).length := by rw [List.length_map]; exact hl
  obtain ⟨z1, z2⟩ := permR_zip (km := km) hl2
  have S2 : ST T n H0a H σ ρ ((permR km vs).zip (permR km (rs.map frz)) ++ ts) := by
    have S3 := S1.pick (ws := (permR km vs).zip (permR km (rs.map frz))) fun t ht => ⟨List.mem_append_left _ (z2 t ht), fun o e => by
      have h2 := (List.of_mem_zip (show (t.1, t.2) ∈ (permR km vs).zip (permR km (rs.map frz)) from ht)).2
      rw [permR_map] at h2
      obtain ⟨r, _, er⟩ := List.mem_map.mp h2
      rw [← er] at e
      exact frz_nofr r o e⟩
    exact ST.dropA (us := vs.zip (rs.map frz)) (S3.perm (by
      rw [← List.append_assoc, ← List.append_assoc]
      exact List.Perm.append_right ts List.perm_append_comm))
  have e : callS G f (permR km (rs.map frz)) ρ = callS G f (permR km rs) ρ := by
    rw [permR_map, callS_frz]
  exact call_sp hn z1 S2 (by rw [e]; exact h)
/-- keywords' values -/
theorem k_nil : PK X [] (rdA T W (evs G [])) := ⟨fun pos pins s σ H Q I h => by
  obtain ⟨n, H0, ρ, ts, S, P⟩ := h
  exact pk_nil.run pos pins s σ H Q I (P H0 H [] rfl S)⟩
theorem rdA_cons {m : MExp} {ms : List MExp} {Q : List V → Hp → Prop} (h : rdA T W (evs G (m :: ms)) σ H Q) : rd T W (ev G m) σ H fun v H1 => rdA T W (evs G ms) σ H1 fun vs H2 => Q (v :: vs) H2 := by
  obtain ⟨n, H0, ρ, ts, S, P⟩ := h
  have P : Post T W n σ ts ((ev G m ρ).bind fun r e1 => (evs G ms e1).bind fun rs e2 => .ok (r :: rs) e2) fun rs ρ' H0' H' => ∀ vs, vs.length = rs.length → ST T n H0' H' σ ρ' (vs.zip rs ++ ts) → Q vs H' := P
  refine rd_mono (rd_one S P) fun v H1 h => ?_
  obtain ⟨H01, ρ1, r, S1, P1⟩ := h
  refine ⟨n, H01, ρ1, (v, r) :: ts, S1, ?_⟩
  cases es : evs G ms ρ1 with
  | no => rw [es] at P1; exact P1.elim
  | ex x e => rw [es] at P1; exact fun dd H0' H' S' xr => P1 dd H0' H' S'.drop xr
  | ok rs e2 =>
    rw [es] at P1
    exact fun H0' H' vs hl S' => P1 H0' H' (v :: vs) (by simp [hl]) (S'.perm List.perm_middle)
theorem k_cons {nm : Option Str} {a : Expr} {kpos : Pos} {as : List Keyword} {m : MExp} {ms : List MExp} (ha : PE X a (rd T W (ev G m))) (hs : PK X as (rdA T W (evs G ms))) : PK X (⟨nm, a, kpos⟩ :: as) (rdA T W (evs G (m :: ms))) :=
  ⟨fun pos pins s σ H Q I h => (pk_cons ha hs).run pos pins s σ H Q I (rdA_cons h)⟩
theorem evs_app : ∀ (ms ks : List MExp) (e : Env), evs G (ms ++ ks) e = (evs G ms e).bind fun rs e1 => (evs G ks e1).bind fun ws e2 => .ok (rs ++ ws) e2
  | [], ks, e => by
    show evs G ks e = (evs G ks e).bind fun ws e2 => .ok ws e2
    cases evs G ks e <;> rfl
  | m :: ms, ks, e => by
    show ((ev G m e).bind fun r e1 => (evs G (ms ++ ks) e1).bind fun rs e2 => .ok (r :: rs) e2) = (((ev G m e).bind fun r e1 => (evs G ms e1).bind fun rs e2 => .ok (r :: rs) e2).bind fun rs e1 => (evs G ks e1).bind fun ws e2 => .ok (rs ++ ws) e2)
    cases ev G m e with
    | no => rfl
    | ex x e1 => rfl
    | ok r e1 =>
      show ((evs G (ms ++ ks) e1).bind fun rs e2 => .ok (r :: rs) e2) = _
      rw [evs_app ms ks e1]
      show _ = (((evs G ms e1).bind fun rs e2 => .ok (r :: rs) e2).bind fun rs e1 => (evs G ks e1).bind fun ws e2 => .ok (rs ++ ws) e2)
      cases evs G ms e1 with
      | no => rfl
      | ex x e2 => rfl
      | ok rs e2 =>
        show (((evs G ks e2).bind fun ws e2 => .ok (rs ++ ws) e2).bind fun rs e2 => .ok (r :: rs) e2) = ((evs G ks e2).bind fun ws e2 => .ok ((r :: rs) ++ ws) e2)
        cases evs G ks e2 <;> rfl
/-- positional values, then keywords' -/
theorem rdA_app {ms ks : List MExp} {Q : List V → Hp → Prop} (h : rdA T W (evs G (ms ++ ks)) σ H Q) : rdA T W (evs G ms) σ H fun vs H1 => rdA T W (evs G ks) σ H1 fun ws H2 => vs.length = ms.length ∧ ws.length = ks.length ∧ Q (vs ++ ws) H2 := by
  obtain ⟨n, H0, ρ, ts, S, P⟩ := h
  rw [evs_app] at P
  refine ⟨n, H0, ρ, ts, S, ?_⟩
  cases ea : evs G ms ρ with
  | no => rw [ea] at P; exact P.elim
  | ex x e => rw [ea] at P; exact P
  | ok rs e1 =>
    rw [ea] at P
    have P : Post T W n σ ts ((evs G ks e1).bind fun ws e2 => .ok (rs ++ ws) e2) _ := P
    intro H01 H1 vs hl S1
    refine ⟨n, H01, e1, vs.zip rs ++ ts, S1, ?_⟩
    cases eb : evs G ks e1 with
    | no => rw [eb] at P; exact P.elim
    | ex x e => rw [eb] at P; exact fun dd H0' H' S' xr => P dd H0' H' S'.dropA xr
    | ok ws e2 =>
      rw [eb] at P
      refine fun H02 H2 zs hz S2 => ⟨by rw [hl, evs_len ea], by rw [hz, evs_len eb], P H02 H2 (vs ++ zs) (by simp [hl, hz]) ?_⟩
      rw [List.zip_append hl]
      refine S2.perm ?_
      rw [← List.append_assoc]
      exact List.Perm.append_right ts List.perm_append_comm
/-- a def that may be called with names -/
structure CalK (P : Program) (w : World) (K : PySem.W.Frag) (mg : Str → Option Value) (base : Heap) (CX : CXT) (T : Tb) (F : Env → Out Rs) (k np : Nat) (x : Str) (m : Nat) (ks : List Str) (km : List Nat) : Prop where
  ex : ∃ fa fd ps, FnOk P w K mg base CX k fa fd ps (SpF T np F) ∧ mg x = some (.ref fa) ∧ PySem.W.keepIn K (.ref fa) = true ∧ KBn K fd ps m ks (fun us ws => permR km (us ++ ws)) (fun vs zs => permR km (vs ++ zs))
  no : ∀ l : List Sl, l.length ≠ np → F l = .no
theorem kb_of {K : PySem.W.Frag} {x qual : Str} {params : Arguments} {body : List Stmt} {scope : Scope} {f : Addr} {fd : FuncData} {ps : List Str} {m : Nat} {ks : List Str} {km : List Nat} (F : FunD K x qual params body scope [] [] f fd)
    (h : ∀ (kV doc pm : Value) (an : Option Addr) (cdv ct : Value) (us ws : List Value), us.length = m → ws.length = ks.length → bindArgs (PySem.W.fnOf x qual params body scope .none kV doc pm an cdv ct) ⟨us, ks.zip ws⟩ = pure (ps.zip (permR km (us ++ ws)))) :
    KBn K fd ps m ks (fun us ws => permR km (us ++ ws)) (fun vs zs => permR km (vs ++ zs)) := by
  obtain ⟨oc, od, dV, kV, doc, pm, an, cdv, ct, osl, rfl, lk, hcd, hD, hK⟩ := F.ex
  rcases hD with ⟨_, rfl⟩ | ⟨e, _⟩
  · exact ⟨fun s us ws X l1 l2 => .of_eq (h kV doc pm an cdv ct us ws l1 l2), fun r1 r2 => permR_vals (r1.append r2)⟩
  · exact absurd rfl e
section
variable {CX : CXT} {f k np m : Nat} {x : Str} {ks : List Str} {km : List Nat} {p pos : Pos} {e : Expr} {es : List Expr} {kws : List Keyword} {ms mk : List MExp}
theorem callk_rd (no : ∀ l : List Sl, l.length ≠ np → G.fn f l = .no) (hm : ms.length = m) (hk : mk.length = ks.length) (h : rd T W0 (ev G (.callk f (ms ++ mk) km)) σ H Q) :
    tCallN m ks.length (SpF T np (G.fn f)) (fun vs zs => permR km (vs ++ zs)) (fun _ _ _ => False) (rdA T W0 (evs G ms)) (rdA T W0 (evs G mk)) σ H Q := by
  obtain ⟨n, H0, ρ, ts, S, P⟩ := h
  have h := rdA_app (rd_args (f := fun rs e1 => callS G f (permR km rs) e1) S P)
  refine rdA_mono h fun vs H1 h => rdA_mono h fun zs H2 h => ?_
  obtain ⟨l1, l2, H0', ρ', rs, hl, S', P'⟩ := h
  exact ⟨by rw [l1, hm], by rw [l2, hk], call_spK no hl S' P'⟩
theorem pass0P {X : Cx} {E : XK} : Passes CX0 X E := fun _ _ _ _ _ _ _ h => h.elim
theorem r_callk (c : CalK X.prog X.w X.K X.mg X.base CX0 T (G.fn f) k np x m ks km) (hr : Room k X.A) (hm : ms.length = m) (hk : mk.length = ks.length) (ha : PA X (e :: es) (rdA T W0 (evs G ms))) (hkw : PK X kws (rdA T W0 (evs G mk)))
    (hg : Gl X x := by rfl) (hall : (backToKw pos (keywordEach kws X.env)).all (·.1.isSome) = true := by rfl) (hks : (backToKw pos (keywordEach kws X.env)).filterMap (·.1) = ks := by rfl)
    (hdb : (x == ("__debug__" : Str)) = false := by decide) (he : starEach (e :: es) X.env = (false, eval e X.env) :: starEach es X.env := by rfl)
    (hpl : ((backTo pos (starEach (e :: es) X.env)).any (·.1) || (backToKw pos (keywordEach kws X.env)).any (·.1.isNone)) = false := by rfl) :
    PE X (.Call (.Name x p) (e :: es) kws pos) (rd T W0 (ev G (.callk f (ms ++ mk) km))) := by
  obtain ⟨fa, fd, ps, F, hm2, hk2, hb⟩ := c.ex
  exact pe_imp (pe_callN F hr hg hm2 hk2 hb pass0P ha hkw hall hks hdb he hpl) fun σ H Q h => callk_rd c.no hm hk h
theorem r_callk0 (c : CalK X.prog X.w X.K X.mg X.base CX0 T (G.fn f) k np x 0 ks km) (hr : Room k X.A) (hk : mk.length = ks.length) (hkw : PK X kws (rdA T W0 (evs G mk)))
    (hg : Gl X x := by rfl) (hall : (backToKw pos (keywordEach kws X.env)).all (·.1.isSome) = true := by rfl) (hks : (backToKw pos (keywordEach kws X.env)).filterMap (·.1) = ks := by rfl)
    (hdb : (x == ("__debug__" : Str)) = false := by decide) (hpl : ((backTo pos (starEach [] X.env)).any (·.1) || (backToKw pos (keywordEach kws X.env)).any (·.1.isNone)) = false := by rfl) :
    PE X (.Call (.Name x p) [] kws pos) (rd T W0 (ev G (.callk f mk km))) := by
  obtain ⟨fa, fd, ps, F, hm2, hk2, hb⟩ := c.ex
  refine ⟨fun pins s σ H Q I h => ?_⟩
  have h := callk_rd (ms := []) c.no rfl hk h
  obtain ⟨n, H0, ρ, ts, S, P⟩ := h
  have h2 := P H0 H [] rfl S
  refine wpAny_Call_Name_kw (ld_glob I hg hm2 ?_ hdb)
  refine PySem.W.callWith_KW0 (h₀ := X.base) I.ok.mod.kin hk2 hall ?_ hpl
  refine thn (hkw.run pos pins s σ H _ I h2) fun ws s2 ⟨zs, H2, I2, rz, l1, l2, q2⟩ => ⟨I2.kIn, ?_⟩
  rw [hks]
  exact run_fnN (us := []) (vs := []) F hr hb pass0P I2 .nil rz l1 l2 q2
end
end
end Mi
end
section
set_option maxHeartbeats 4000000
namespace Mi
open PySem PySem.Spec PyProof.Rows L2
section
variable {T : Tb} {W : WX} {X : Cx} {G : Gs} {n : En} {σ : L2.St} {H0 H : Hp} {ρ : Env} {ts us : List Tmp} {Q : VK} {A B : List Nat}
/-- a list of one's own, ahead of its method -/
theorem own_list {v : V} {j : Nat} {xs : List D} (S : ST T n H0 H σ ρ ts) (m : (v, Rs.bo j) ∈ ts) (h : obAt ρ j = some (.lst xs)) : ∃ p vs, v = .ref p ∧ H p = some (.lst vs) ∧ Rps T H0 vs xs := by
  obtain ⟨p, e, ⟨vs, h1, h2⟩, _⟩ := ob_at S m h
  exact ⟨p, vs, e, h1, h2⟩
theorem metOk_list {m : Met} (hm : isMut m = true) {ro : Rs} (h : metOk m ro ρ = true) : ∃ j xs, ro = .bo j ∧ obAt ρ j = some (.lst xs) := by
  unfold metOk at h
  rw [hm] at h
  have h : (match (generalizing := false) ro with
    | .bo i => match obAt ρ i with
      | some (.lst _) => true
      | _ => false
    | _ => false) = true := h
  cases ro with
  | d _ => cases h
  | fr _ => cases h
  | bo j =>
    have h : (match obAt ρ j with
      | some (.lst _) => true
      | _ => false) = true := h
    cases eo : obAt ρ j with
    | none => rw [eo] at h; cases h
    | some o =>
      rw [eo] at h
      cases o with
      | lst xs => exact ⟨j, xs, rfl, eo⟩
      | dic _ => cases h
      | ins _ _ => cases h
/-- a method that changes a list -/
theorem mut_rd {m : Met} {o : MExp} {es : List MExp} {R : V → List V → Hp → VK → Prop} (hm : isMut m = true)
    (hr : ∀ {p : Addr} {vs zs : List V} {xs ys : List D} {x : D} {xs' : List D} {Q : VK} {H H0 : Hp}, H p = some (.lst vs) → Rps T H0 vs xs → Rps T H0 zs ys → metO m xs ys = some (x, xs') → (∀ v vs', Rp T H0 v x → Rps T H0 vs' xs' → Q v (upd H p (.lst vs'))) → R (.ref p) zs H Q)
    (h : rd T W (ev G (.met m o es)) σ H Q) : tBM T.K "list" R (rd T W (ev G o)) (rdA T W (evs G es)) σ H Q := by
  obtain ⟨n, H0, ρ, ts, S, P⟩ := h
  have P : Post T W n σ ts ((ev G o ρ).bind fun ro e1 => if metOk m ro e1 then (evs G es e1).bind fun rs e2 => metS m ro rs e2 else .no) (Wants T n σ ts Q) := P
  refine rd_mono (rd_one S P) fun v H1 h => ?_
  obtain ⟨H01, ρ1, ro, S1, P1⟩ := h
  split at P1
  · rename_i hok
    obtain ⟨j, xs0, rfl, eo0⟩ := metOk_list hm hok
    obtain ⟨p, vs0, ev0, h1, _⟩ := own_list S1 (List.mem_cons_self ..) eo0
    subst ev0
    refine ⟨.inl ⟨rfl, vs0, .of h1⟩, n, H01, ρ1, _, S1, ?_⟩
    cases es2 : evs G es ρ1 with
    | no => rw [es2] at P1; exact P1.elim
    | ex x e => rw [es2] at P1; exact fun dd H0' H' S' xr => P1 dd H0' H' S'.drop xr
    | ok rs e2 =>
      rw [es2] at P1
      intro H02 H2 zs hl S2
      have P2 : Post T W n σ ts (metS m (.bo j) rs e2) (Wants T n σ ts Q) := P1
      unfold metS at P2
      rw [if_pos hm] at P2
      have P2 : Post T W n σ ts (match holds rs e2 with
        | some (xs, e1) => match obAt e1 j with
          | some (.lst l) => match metO m l xs with
            | some (x, l') => match putOb e1 j (.lst l') with
              | some e2 => .ok (.d x) e2
              | none => .no
            | none => .no
          | _ => .no
        | none => .no) (Wants T n σ ts Q) := P2
      cases eh : holds rs e2 with
      | none => rw [eh] at P2; exact P2.elim
      | some q =>
        obtain ⟨ys, e3⟩ := q
        rw [eh] at P2
        obtain ⟨H03, S3, ry⟩ := S2.holdsR hl eh
        have P2 : Post T W n σ ts (match obAt e3 j with
          | some (.lst l) => match metO m l ys with
            | some (x, l') => match putOb e3 j (.lst l') with
              | some e2 => .ok (.d x) e2
              | none => .no
            | none => .no
          | _ => .no) (Wants T n σ ts Q) := P2
        cases eo : obAt e3 j with
        | none => rw [eo] at P2; exact P2.elim
        | some ob =>
          rw [eo] at P2
          cases ob with
          | dic _ => exact P2.elim
          | ins _ _ => exact P2.elim
          | lst l =>
            have P2 : Post T W n σ ts (match metO m l ys with
              | some (x, l') => match putOb e3 j (.lst l') with
                | some e2 => .ok (.d x) e2
                | none => .no
              | none => .no) (Wants T n σ ts Q) := P2
            cases em : metO m l ys with
            | none => rw [em] at P2; exact P2.elim
            | some q =>
              obtain ⟨x, l'⟩ := q
              rw [em] at P2
              have P2 : Post T W n σ ts (match putOb e3 j (.lst l') with
                | some e2 => .ok (.d x) e2
                | none => .no) (Wants T n σ ts Q) := P2
              cases ep : putOb e3 j (.lst l') with
              | none => rw [ep] at P2; exact P2.elim
              | some e4 =>
                rw [ep] at P2
                obtain ⟨p', e', ⟨vs, h2, h3⟩, w⟩ := putOb_st (v := V.ref p) (j := j) S3 (List.mem_cons_self ..) eo ep
                cases e'
                exact hr h2 h3 ry em fun v vs' rv rvs => P2 _ _ _ ((w _ ⟨vs', upd_same, rvs⟩).drop.addD rv)
  · exact P1.elim
theorem bm0_of {T' : String} {R : V → List V → Hp → VK → Prop} {to : TE} (h : tBM T.K T' R to (rdA T W (evs G [])) σ H Q) (mono : ∀ {Q Q' : VK}, to σ H Q → (∀ v H', Q v H' → Q' v H') → to σ H Q') : tBM0 T.K T' R to σ H Q :=
  mono h fun v H' ⟨a, b⟩ => ⟨a, by
    obtain ⟨n, H0, ρ, ts, S, P⟩ := b
    exact P H0 H' [] rfl S⟩
theorem r_m_append (ok : Ck T X) {o e : Expr} {mo me : MExp} {apos cpos : Pos} (ho : PE X o (rd T W (ev G mo))) (ha : PA X [e] (rdA T W (evs G [me]))) (hbase : attributeBase o "append" X.env (eval o X.env) = eval o X.env := by rfl)
    (hfew : ((backTo cpos (starEach [e] X.env)).all (fun x => !x.1) && (backToKw cpos (keywordEach [] X.env)).all (fun x => x.1.isSome)
      && decide (([e] : List Expr).length + ([] : List Keyword).length + (if ([] : List Keyword).isEmpty then 0 else 1) < 30)) = true := by rfl)
    (hline : (apos.endLine == cpos.line) = true := by rfl) (hs : starEach [e] X.env = (false, eval e X.env) :: starEach [] X.env := by rfl) (hplain : (backTo cpos (starEach [] X.env)).any (·.1) = false := by rfl) :
    PE X (.Call (.Attribute o "append" apos) [e] [] cpos) (rd T W (ev G (.met .append mo [me]))) := by
  refine pe_imp (pe_bm PySem.F.plainAttrs_list PySem.F.slot_list_append PySem.F.type_list_append mt_append ho ha hbase hfew hline hs hplain) fun σ H Q h => ?_
  rw [ok.hK]
  refine mut_rd rfl (fun {p vs zs xs ys x xs' Q H H0} hp hx hy em q => ?_) h
  cases ys with
  | nil => cases em
  | cons y ys =>
    cases ys with
    | cons _ _ => cases em
    | nil =>
      have em : (if szOk xs.length then some (D.non, xs ++ [y]) else none) = some (x, xs') := em
      split at em
      · rename_i hz
        cases em
        cases hy with
        | cons r rr =>
          cases rr
          exact ⟨p, vs, _, rfl, rfl, hp, by rw [hx.length]; exact sz_lt hz, q _ _ .non (hx.append (.cons r .nil))⟩
      · cases em
theorem r_m_pop (ok : Ck T X) {o : Expr} {mo : MExp} {apos cpos : Pos} (ho : PE X o (rd T W (ev G mo))) (hbase : attributeBase o "pop" X.env (eval o X.env) = eval o X.env := by rfl) (hline : (apos.endLine == cpos.line) = true := by rfl) :
    PE X (.Call (.Attribute o "pop" apos) [] [] cpos) (rd T W (ev G (.met .pop mo []))) := by
  refine pe_imp (pe_bm0 PySem.F.plainAttrs_list PySem.F.slot_list_pop PySem.F.type_list_pop mt_pop ho hbase hline) fun σ H Q h => ?_
  rw [ok.hK]
  refine bm0_of (W := W) (G := G) (mut_rd rfl (fun {p vs zs xs ys x xs' Q H H0} hp hx hy em q => ?_) h) rd_mono
  cases ys with
  | cons _ _ => cases em
  | nil =>
    cases hy
    have em : (match xs[xs.length - 1]? with
      | some x => some (x, xs.dropLast)
      | none => none) = some (x, xs') := em
    cases ex : xs[xs.length - 1]? with
    | none => rw [ex] at em; cases em
    | some y =>
      rw [ex] at em
      cases em
      obtain ⟨v, hv, rv⟩ := hx.get ex
      exact ⟨p, vs, v, rfl, rfl, hp, by rw [hx.length]; exact hv, q _ _ rv hx.dropLast⟩
end
end Mi
end
/-! rules of the small language for runs: comprehensions, loops. Plain Lean. -/
namespace Mi
def mpO : Option Sl → Bool
  | some (.pa _) => false
  | some _ => true
  | none => false
theorem mayPut_eq (e : Env) (i : Nat) : mayPut e i = mpO e[i]? := by
  unfold mayPut mpO
  rfl
theorem mpO_un : mpO (some .un) = true := rfl
theorem mpO_sh (d : D) : mpO (some (.sh d)) = true := rfl
theorem mpO_ow (o : Ob) : mpO (some (.ow o)) = true := rfl
theorem szOk_of {n : Nat} (h : n ≤ 16000000) : szOk n = true := decide_eq_true h
theorem lrngS_eq {i j : Int} {e : Env} (h1 : rngOk i j = true) (h2 : (j - i).toNat ≤ 16000000) : lrngS i j e = .ok (.fr (.lst ((List.range (j - i).toNat).map fun k => .int (i + (k : Nat))))) e := by
  have h : (rngOk i j && szOk (j - i).toNat) = true := by
    rw [Bool.and_eq_true]
    exact ⟨h1, szOk_of h2⟩
  unfold lrngS
  exact if_pos h
theorem comp_rule {it : It} {t : Tgt} {test : Env → Out Bool} {elt : Env → Out Rs} (n : Nat) (I : Nat → List D → Env → Prop)
    (hs : ∀ k acc e, k < n → I k acc e → acc.length ≤ k → ∃ x e1, it.at_ k e = some x ∧ t.put x e = some e1 ∧
      ((∃ e2 r e3 y e4, test e1 = .ok true e2 ∧ elt e2 = .ok r e3 ∧ r.hold e3 = some (y, e4) ∧ I (k + 1) (acc ++ [y]) (wipeE e4 t.is)) ∨ (∃ e2, test e1 = .ok false e2 ∧ I (k + 1) acc (wipeE e2 t.is))))
    (hf : ∀ acc e, I n acc e → it.fine e = true) (hn : n ≤ 16000000) :
    ∀ (left k : Nat) (acc : List D) (e : Env), k + left = n → acc.length ≤ k → I k acc e → ∃ acc' e', compLoop it t test elt left k acc e = .ok acc' e' ∧ I n acc' e'
  | 0, k, acc, e, hk, hl, h => by
    have z : k = n := by omega
    subst z
    refine ⟨acc, e, ?_, h⟩
    unfold compLoop
    rw [if_pos (hf acc e h)]
  | left + 1, k, acc, e, hk, hl, h => by
    obtain ⟨x, e1, h1, h2, h3⟩ := hs k acc e (by omega) h hl
    rcases h3 with ⟨e2, r, e3, y, e4, a1, a2, a3, a4⟩ | ⟨e2, a1, a2⟩
    · obtain ⟨acc', e', b1, b2⟩ := comp_rule n I hs hf hn left (k + 1) (acc ++ [y]) (wipeE e4 t.is) (by omega) (by simp; omega) a4
      refine ⟨acc', e', ?_, b2⟩
      have hz : szOk acc.length = true := szOk_of (by omega)
      unfold compLoop
      simp only [h1, h2, a1, a2, a3, hz, if_true]
      exact b1
    · obtain ⟨acc', e', b1, b2⟩ := comp_rule n I hs hf hn left (k + 1) acc (wipeE e2 t.is) (by omega) (by omega) a2
      refine ⟨acc', e', ?_, b2⟩
      unfold compLoop
      simp only [h1, h2, a1]
      exact b1
theorem ev_comp {G : Gs} {a : MExp} {t : Tgt} {it : MIt} {c : Option MExp} {e e1 e2 : Env} {w : It} {xs : List D}
    (h1 : evIt G it e = .ok w e1) (h2 : (wipeOk e1 t.is && w.slots.all (fun i => !t.is.contains i)) = true)
    (h3 : compLoop w t (evc G c) (ev G a) w.len 0 [] (wipeE e1 t.is) = .ok xs e2) :
    ev G (.comp a t it c) e = .ok (.fr (.lst xs)) (unwipe e1 e2 t.is) := by
  have e0 : ev G (.comp a t it c) e = (evIt G it e).bind fun w e1 =>
      if wipeOk e1 t.is && w.slots.all (fun i => !t.is.contains i) then
        match compLoop w t (evc G c) (ev G a) w.len 0 [] (wipeE e1 t.is) with
        | .ok xs e2 => .ok (.fr (.lst xs)) (unwipe e1 e2 t.is)
        | _ => .no
      else .no := by
    conv => lhs; unfold ev
    try rfl
  rw [e0, h1]
  show (if _ then _ else _) = _
  rw [if_pos h2, h3]
/-- a comprehension, its invariant told -/
theorem ev_comp_by {G : Gs} {a : MExp} {t : Tgt} {it : MIt} {c : Option MExp} {e e1 : Env} {w : It} (n : Nat) (I : Nat → List D → Env → Prop)
    (h1 : evIt G it e = .ok w e1) (hw : w.len = n) (h2 : (wipeOk e1 t.is && w.slots.all (fun i => !t.is.contains i)) = true)
    (h0 : I 0 [] (wipeE e1 t.is))
    (hs : ∀ k acc e, k < n → I k acc e → acc.length ≤ k → ∃ x e1, w.at_ k e = some x ∧ t.put x e = some e1 ∧
      ((∃ e2 r e3 y e4, evc G c e1 = .ok true e2 ∧ ev G a e2 = .ok r e3 ∧ r.hold e3 = some (y, e4) ∧ I (k + 1) (acc ++ [y]) (wipeE e4 t.is)) ∨ (∃ e2, evc G c e1 = .ok false e2 ∧ I (k + 1) acc (wipeE e2 t.is))))
    (hf : ∀ acc e, I n acc e → w.fine e = true) (hn : n ≤ 16000000) :
    ∃ xs e2, ev G (.comp a t it c) e = .ok (.fr (.lst xs)) (unwipe e1 e2 t.is) ∧ I n xs e2 := by
  obtain ⟨xs, e2, a1, a2⟩ := comp_rule n I hs hf hn n 0 [] (wipeE e1 t.is) (by omega) (by simp) h0
  exact ⟨xs, e2, ev_comp h1 h2 (by rw [hw]; exact a1), a2⟩
theorem for_rule {it : It} {t : Tgt} {body : Env → SOut} (n : Nat) (I : Nat → Env → Prop) (R : Rs → Env → Prop)
    (hs : ∀ k e, k < n → I k e → ∃ x e1, it.at_ k e = some x ∧ t.put x e = some e1 ∧ ((∃ e2, body e1 = .nx e2 ∧ I (k + 1) e2) ∨ (∃ r e2, body e1 = .rt r e2 ∧ R r e2)))
    (hf : ∀ e, I n e → it.fine e = true) :
    ∀ (left k : Nat) (e : Env), k + left = n → I k e → (∃ e', forLoop it t body left k e = .nx e' ∧ I n e') ∨ (∃ r e', forLoop it t body left k e = .rt r e' ∧ R r e')
  | 0, k, e, hk, h => by
    have z : k = n := by omega
    subst z
    refine .inl ⟨e, ?_, h⟩
    unfold forLoop
    rw [if_pos (hf e h)]
  | left + 1, k, e, hk, h => by
    obtain ⟨x, e1, h1, h2, h3⟩ := hs k e (by omega) h
    rcases h3 with ⟨e2, a1, a2⟩ | ⟨r, e2, a1, a2⟩
    · have ih := for_rule n I R hs hf left (k + 1) e2 (by omega) a2
      unfold forLoop
      simp only [h1, h2, a1, SOut.seq]
      exact ih
    · refine .inr ⟨r, e2, ?_, a2⟩
      unfold forLoop
      simp only [h1, h2, a1, SOut.seq]
/-- .. out of which nothing is handed back -/
theorem for_nx {it : It} {t : Tgt} {body : Env → SOut} (n : Nat) (I : Nat → Env → Prop) {e : Env}
    (h0 : I 0 e) (hs : ∀ k e, k < n → I k e → ∃ x e1 e2, it.at_ k e = some x ∧ t.put x e = some e1 ∧ body e1 = .nx e2 ∧ I (k + 1) e2)
    (hf : ∀ e, I n e → it.fine e = true) : ∃ e', forLoop it t body n 0 e = .nx e' ∧ I n e' := by
  rcases for_rule (it := it) (t := t) (body := body) n I (fun _ _ => False) (fun k e hk hi => by
    obtain ⟨x, e1, e2, a, b, c, d⟩ := hs k e hk hi
    exact ⟨x, e1, a, b, .inl ⟨e2, c, d⟩⟩) hf n 0 e (by omega) h0 with h | ⟨_, _, _, h⟩
  · exact h
  · exact h.elim
theorem exec_for {G : Gs} {t : Tgt} {it : MIt} {b : List MStmt} {e e1 : Env} {w : It} (h1 : evIt G it e = .ok w e1) (h2 : w.slots.all (fun i => !(t.is ++ MStmt.sts b).contains i) = true) :
    exec G (.for_ t it b) e = forLoop w t (execs G b) w.len 0 e1 := by
  have e0 : exec G (.for_ t it b) e = (evIt G it e).thn fun w e1 => if w.slots.all (fun i => !(t.is ++ MStmt.sts b).contains i) then forLoop w t (execs G b) w.len 0 e1 else .no := by
    conv => lhs; unfold exec
    try rfl
  rw [e0, h1]
  show (if _ then _ else _) = _
  rw [if_pos h2]
/-- a for loop, its invariant told -/
theorem exec_for_by {G : Gs} {t : Tgt} {it : MIt} {b : List MStmt} {e e1 : Env} {w : It} (n : Nat) (I : Nat → Env → Prop) (h1 : evIt G it e = .ok w e1) (hw : w.len = n) (h2 : w.slots.all (fun i => !(t.is ++ MStmt.sts b).contains i) = true)
    (h0 : I 0 e1) (hs : ∀ k e, k < n → I k e → ∃ x e1 e2, w.at_ k e = some x ∧ t.put x e = some e1 ∧ execs G b e1 = .nx e2 ∧ I (k + 1) e2)
    (hf : ∀ e, I n e → w.fine e = true) : ∃ e', exec G (.for_ t it b) e = .nx e' ∧ I n e' := by
  obtain ⟨e', a, b⟩ := for_nx n I h0 hs hf
  exact ⟨e', by rw [exec_for h1 h2, hw]; exact a, b⟩
/-- a while loop whose measure falls -/
theorem whl_by {test : Env → Out Bool} {body : Env → SOut} (I : Nat → Env → Prop) (Z : Env → Prop)
    (hs : ∀ m e, I m e → (∃ e1, test e = .ok false e1 ∧ Z e1) ∨ (∃ e1 e2 m', test e = .ok true e1 ∧ body e1 = .nx e2 ∧ m' < m ∧ I m' e2)) :
    ∀ (fuel m : Nat) (e : Env), m < fuel → I m e → ∃ e', whlLoop test body fuel e = .nx e' ∧ Z e'
  | 0, m, e, h, _ => by omega
  | fuel + 1, m, e, h, hi => by
    unfold whlLoop
    rcases hs m e hi with ⟨e1, a1, a2⟩ | ⟨e1, e2, m', a1, a2, a3, a4⟩
    · refine ⟨e1, ?_, a2⟩
      rw [a1]
      rfl
    · obtain ⟨e', b1, b2⟩ := whl_by I Z hs fuel m' e2 (by omega) a4
      refine ⟨e', ?_, b2⟩
      rw [a1]
      simp only [Out.thn, if_true, a2, SOut.seq]
      exact b1
theorem exec_whl {G : Gs} {c : MExp} {b : List MStmt} {e : Env} : exec G (.whl c b) e = whlLoop (tst G c) (execs G b) G.fuel e := by
  conv => lhs; unfold exec
end Mi
section
set_option maxHeartbeats 4000000
namespace Mi
open PySem PySem.Spec PyProof.Rows L2
/-! ### what a def keeps where no repr is under way; it may raise -/
structure FnG (P : Program) (w : World) (K : PySem.W.Frag) (mg : Str → Option Value) (base : Heap) (k : Nat) (f : Addr) (fd : FuncData) (ps : List Str) (sp : Sp) : Prop where
  len : ∀ vs H Q E, sp vs H Q E → vs.length = ps.length
  run : ∀ {A : Around} {outer : List PySem.Env} {s : Shared} {H : Hp} {args : Args} {us : List Value} {vs : List V} {Q : VK} {E : XK}, Room k A → A.guards = some [] → Env0 P w K mg base A outer s H →
    BindsTo s fd args (ps.zip us) → Vals vs us → sp vs H Q E → codeAny (model P w) A (.call (.ref f) args) (CR (L2.CX P w) outer P w H s Q E) s
theorem FnG.mono {P : Program} {w : World} {K : PySem.W.Frag} {mg : Str → Option Value} {base : Heap} {j k : Nat} {f : Addr} {fd : FuncData} {ps : List Str} {sp : Sp} (F : FnG P w K mg base j f fd ps sp) (h : j ≤ k) : FnG P w K mg base k f fd ps sp :=
  ⟨F.len, fun r g e b v q => F.run (r.mono h) g e b v q⟩
theorem deeper_guards (A : Around) (env : PySem.Env) : (A.deeper env).guards = A.guards := rfl
/-- a body that keeps its promise -/
theorem FunD.okG {P : Program} {w : World} {K : PySem.W.Frag} {mg : Str → Option Value} {base : Heap} {x qual : Str} {params : Arguments} {body : List Stmt} {scope : Scope} {dvs : List V} {kws : List (Str × V)} {f : Addr} {fd : FuncData}
    {N ps : List Str} {k : Nat} {sp : Sp} (F : FunD K x qual params body scope dvs kws f fd) (S : FnScope N ps scope) (len : ∀ vs H Q E, sp vs H Q E → vs.length = ps.length)
    (hbody : ∀ (cdv : Value) (A : Around) (outer : List PySem.Env) (s : Shared) (H : Hp) (vs : List V) (Q : VK) (E : XK), Room k (A.deeper (envOfC qual scope s.heap.objs.size f cdv)) → A.guards = some [] → sp vs H Q E →
      ∃ t, PSs (cxOf (L2.CX P w) P w K mg base N qual scope f cdv A outer s H E) body t ∧ t { nx := fun _ H' => Q .non H', rt := Q } (L2.start N vs) H) : FnG P w K mg base (k + 1) f fd ps sp := by
  obtain ⟨oc, od, dV, kV, doc, pm, an, cdv, ct, osl, efd, lk, hcd, _, _⟩ := F.ex
  subst efd
  constructor
  · exact len
  · intro A outer s H args us vs Q E hr gd e0 hb rv hsp
    have stays : ∀ b o, base.get? b = some o → s.heap.get? b = some o := fun b o z => (e0.bs b o z).1
    have inK : K.In s.heap := e0.mod.kin.keeps stays
    have small : s.heap.NoLimit := e0.mod.nolimit.keeps stays
    have kinds : ∀ q ∈ ps.zip us, scope.names.lookup q.1 = some .local ∨ (scope.names.lookup q.1 = some .cell ∧ ((cellsFrom (s.heap.objs.size + 1) scope.names []).lookup q.1).isSome = true) := by
      intro q hq
      cases S.par q.1 (List.of_mem_zip (show (q.1, q.2) ∈ ps.zip us from hq)).1 with
      | inl z => exact Or.inl z
      | inr z => exact Or.inr ⟨z, PySem.W.cellsFrom_some _ _ _ (Or.inl z)⟩
    apply codeAny_call_function hr.depth (inK _ _ lk) rfl S.co S.gen rfl (PySem.W.codeRec_of inK hcd)
    apply hb
    apply wpAny_newFunctionEnv_cells S.kind kinds
    intro env he s1 x
    subst he
    constructor
    · exact small.keeps x.toInCall.keep
    · apply codeAny_func
      obtain ⟨t, ht, hq⟩ := hbody cdv A outer s H vs Q E (hr.deeper _) gd hsp
      have J := inv_start (CX := L2.CX P w) (E := E) S hr.hd e0 (len _ _ _ _ hsp) rv x
      apply wpAny_mono (ht.run [] s1 (L2.start N vs) H _ J hq)
      · intro fl s' hs
        match fl, hs with
        | .ret u, ⟨v, σ', H', J', rv', q'⟩ => exact ⟨v, H', J'.os, J'.bare, J'.base, J'.hok, rv', q'⟩
        | .next, ⟨σ', H', J', q'⟩ => exact ⟨V.non, H', J'.os, J'.bare, J'.base, J'.hok, rfl, q'⟩
        | .brk, ⟨_, _, _, q'⟩ => exact q'.elim
        | .cont, ⟨_, _, _, q'⟩ => exact q'.elim
      · exact fun e s' hs => hs
section
variable {X : Cx} {k : Nat} {f C : Addr} {fd : FuncData} {ps : List Str} {sp : Sp} {E : XK} {σ : L2.St} {H : Hp} {Q : VK} {s : Shared} {pins : List (Addr × Obj)}
/-- it is called -/
theorem run_g {us zs : List Value} {kw : List (Str × Value)} {vs : List V} (F : FnG X.prog X.w X.K X.mg X.base k f fd ps sp) (hr : Room k X.A) (gd : X.A.guards = some []) (b : BindsTo s fd ⟨us, kw⟩ (ps.zip zs)) (hx : PassesAt (L2.CX X.prog X.w) X σ E)
    (I : Inv X pins σ H s) (r : Vals vs zs) (h : sp vs H Q E) : wpAny (model X.prog X.w) X.A (call (.ref f) us kw) (EP X pins σ Q) X.xe s := by
  apply wpAny_call
  apply codeAny_mono (F.run hr gd I.env0 b r h)
  intro res st q
  match res, q with
  | .error _, q => exact hx pins H s _ _ I q
  | .ok (.ret _), q => exact I.after q
  | .ok .next, q => exact q.elim
  | .ok .brk, q => exact q.elim
  | .ok .cont, q => exact q.elim
theorem under_make_guards {A : Around} {us : List Value} {kw : List (Str × Value)} : (A.under (.builtin "type.__call__" ⟨.ref C :: us, kw⟩)).guards = A.guards := by
  have hg : (Code.builtin "type.__call__" ⟨.ref C :: us, kw⟩).isGuard = false := by
    show guardIds.contains "type.__call__" = false
    decide +kernel
  simp [Around.under, Code.guards, hg, pushGuards]
/-- an instance is made -/
theorem make_g {us zs : List Value} {kw : List (Str × Value)} {vs : List V} (M : Mk X.K C f) (F : FnG X.prog X.w X.K X.mg X.base k f fd ps sp) (hr : Room (k + 1) X.A) (gd : X.A.guards = some [])
    (b : ∀ (s' : Shared) (x : Addr), X.K.In s'.heap → BindsTo s' fd ⟨.ref x :: us, kw⟩ (ps.zip (.ref x :: zs))) (hx : PassesAt (L2.CX X.prog X.w) X σ E) (I : Inv X pins σ H s) (r : Vals vs zs)
    (h : ∀ x dx, H x = none → H dx = none → dx ≠ x → sp (.ref x :: vs) (upd (upd H dx (.own x)) x (.ins C dx [])) (fun v H2 => v = .non ∧ Q (.ref x) H2) E) :
    wpAny (model X.prog X.w) X.A (call (.ref C) us kw) (EP X pins σ Q) X.xe s := by
  have f1 : H (s.heap.objs.size + 1) = none := I.hok.fresh (Nat.le_succ _)
  have f2 : H s.heap.objs.size = none := I.hok.fresh (Nat.le_refl _)
  have J := Inv.made (C := C) I
  have q0 := h _ _ f1 f2 (Nat.ne_of_lt (Nat.lt_succ_self _))
  have rr : Vals (V.ref (s.heap.objs.size + 1) :: vs) (Value.ref (s.heap.objs.size + 1) :: zs) := .cons rfl r
  have run := F.run (args := ⟨.ref (s.heap.objs.size + 1) :: us, kw⟩) (hr.make C us kw) (under_make_guards.trans gd) (J.env0.make C us kw) (b _ _ J.kIn) rr q0
  apply wpAny_call
  apply make_map I.kIn M.makes M.init (beq_iff_eq.mp M.fn)
  apply codeAny_mono run
  intro res st q
  match res, q with
  | .error _, q => exact hx pins _ _ _ _ J q
  | .ok (.ret u), q =>
    obtain ⟨v, H', J', rv, ev, q'⟩ := J.after q
    subst ev
    exact ⟨rv, V.ref (s.heap.objs.size + 1), H', J', rfl, q'⟩
  | .ok .next, q => exact q.elim
  | .ok .brk, q => exact q.elim
  | .ok .cont, q => exact q.elim
end
end Mi
end
section
set_option maxHeartbeats 4000000
namespace Mi
open PySem PySem.Spec PyProof.Rows L2
/-! ### calls, all of one kind: m values, then the keywords' -/
def ClG (X : Cx) (fv : Value) (m : Nat) (ks : List Str) (t : L2.St → List V → Hp → VK → Prop) : Prop :=
  ∀ {pins : List (Addr × Obj)} {s : Shared} {σ : L2.St} {H : Hp} {Q : VK} {us ws : List Value} {vs zs : List V}, Inv X pins σ H s → Vals vs us → Vals zs ws → vs.length = m → zs.length = ks.length → t σ (vs ++ zs) H Q →
    wpAny (model X.prog X.w) X.A (call fv us (ks.zip ws)) (EP X pins σ Q) X.xe s
/-- what it is asked for is what the small language has -/
def Brd (T : Tb) (W : WX) (t : L2.St → List V → Hp → VK → Prop) (g : List Rs → Env → Out Rs) : Prop :=
  ∀ {σ : L2.St} {n : En} {H0 H : Hp} {ρ : Env} {ts : List Tmp} {rs : List Rs} {vs : List V} {Q : VK}, vs.length = rs.length → ST T n H0 H σ ρ (vs.zip rs ++ ts) → Post T W n σ ts (g rs ρ) (Wants T n σ ts Q) → t σ vs H Q
/-- a name that may be called so -/
structure Nm (X : Cx) (T : Tb) (W : WX) (x : Str) (m : Nat) (ks : List Str) (g : List Rs → Env → Out Rs) : Prop where
  ex : ∃ fv t, X.mg x = some fv ∧ PySem.W.keepIn X.K fv = true ∧ ClG X fv m ks t ∧ Brd T W t g
section
variable {T : Tb} {W : WX} {X : Cx} {G : Gs} {g : List Rs → Env → Out Rs} {x : Str} {p pos : Pos} {e : Expr} {es : List Expr} {ms mk : List MExp} {kws : List Keyword} {ks : List Str} {m : Nat}
theorem nm_pos (c : Nm X T W x m [] g) (hm : ms.length = m) (ha : PA X (e :: es) (rdA T W (evs G ms))) (hg : Gl X x) (hdb : (x == ("__debug__" : Str)) = false) (he : starEach (e :: es) X.env = (false, eval e X.env) :: starEach es X.env)
    (hpl : (backTo pos (starEach es X.env)).any (·.1) = false) : PE X (.Call (.Name x p) (e :: es) [] pos) (rd T W fun e => (evs G ms e).bind g) := by
  obtain ⟨fv, t, hx, hk, c, b⟩ := c.ex
  constructor
  intro pins s σ H Q I h
  obtain ⟨n, H0, ρ, ts, S, P⟩ := h
  apply wpAny_Call_Name_kw
  apply ld_glob I hg hx _ hdb
  apply PySem.W.callWith_K (h₀ := X.base) I.ok.mod.kin hk _ he hpl
  apply thn (ha.run pos pins s σ H _ I (rd_args_len S P))
  intro us s1 ⟨vs, H1, I1, r, H0', ρ', rs, l1, l2, S1, P1⟩
  exact ⟨I1.kIn, c (zs := []) I1 r .nil (by rw [l1, l2, hm]) rfl (by rw [List.append_nil]; exact b l1 S1 P1)⟩
theorem nm_0 (c : Nm X T W x 0 [] g) (hg : Gl X x) (hdb : (x == ("__debug__" : Str)) = false) : PE X (.Call (.Name x p) [] [] pos) (rd T W fun e => g [] e) := by
  obtain ⟨fv, t, hx, hk, c, b⟩ := c.ex
  constructor
  intro pins s σ H Q I h
  obtain ⟨n, H0, ρ, ts, S, P⟩ := h
  apply wpAny_Call_Name_kw
  apply ld_glob I hg hx _ hdb
  apply PySem.W.callWith_K0 I.kIn hk
  exact c (vs := []) (zs := []) I .nil .nil rfl rfl (b (rs := []) (vs := []) rfl S P)
theorem nm_kw (c : Nm X T W x m ks g) (hm : ms.length = m) (hmk : mk.length = ks.length) (ha : PA X (e :: es) (rdA T W (evs G ms))) (hkw : PK X kws (rdA T W (evs G mk))) (hg : Gl X x) (hall : (backToKw pos (keywordEach kws X.env)).all (·.1.isSome) = true)
    (hks : (backToKw pos (keywordEach kws X.env)).filterMap (·.1) = ks) (hdb : (x == ("__debug__" : Str)) = false) (he : starEach (e :: es) X.env = (false, eval e X.env) :: starEach es X.env)
    (hpl : ((backTo pos (starEach (e :: es) X.env)).any (·.1) || (backToKw pos (keywordEach kws X.env)).any (·.1.isNone)) = false) : PE X (.Call (.Name x p) (e :: es) kws pos) (rd T W fun e => (evs G (ms ++ mk) e).bind g) := by
  obtain ⟨fv, t, hx, hk, c, b⟩ := c.ex
  constructor
  intro pins s σ H Q I h
  obtain ⟨n, H0, ρ, ts, S, P⟩ := h
  apply wpAny_Call_Name_kw
  apply ld_glob I hg hx _ hdb
  apply PySem.W.callWith_KW (h₀ := X.base) I.ok.mod.kin hk hall _ hpl he
  apply thn (ha.run pos pins s σ H _ I (rdA_app (rd_args S P)))
  intro us s1 ⟨vs, H1, I1, r, q1⟩
  apply thn (hkw.run pos pins s1 σ H1 _ I1 q1)
  intro ws s2 ⟨zs, H2, I2, rz, l1, l2, H0', ρ', rs, l3, S1, P1⟩
  rw [hks]
  exact ⟨I2.kIn, c I2 r rz (by rw [l1, hm]) (by rw [l2, hmk]) (b l3 S1 P1)⟩
theorem nm_kw0 (c : Nm X T W x 0 ks g) (hmk : mk.length = ks.length) (hkw : PK X kws (rdA T W (evs G mk))) (hg : Gl X x) (hall : (backToKw pos (keywordEach kws X.env)).all (·.1.isSome) = true)
    (hks : (backToKw pos (keywordEach kws X.env)).filterMap (·.1) = ks) (hdb : (x == ("__debug__" : Str)) = false) (hpl : ((backTo pos (starEach [] X.env)).any (·.1) || (backToKw pos (keywordEach kws X.env)).any (·.1.isNone)) = false) :
    PE X (.Call (.Name x p) [] kws pos) (rd T W fun e => (evs G mk e).bind g) := by
  obtain ⟨fv, t, hx, hk, c, b⟩ := c.ex
  constructor
  intro pins s σ H Q I h
  obtain ⟨n, H0, ρ, ts, S, P⟩ := h
  apply wpAny_Call_Name_kw
  apply ld_glob I hg hx _ hdb
  apply PySem.W.callWith_KW0 (h₀ := X.base) I.ok.mod.kin hk hall _ hpl
  apply thn (hkw.run pos pins s σ H _ I (rd_args_len S P))
  intro ws s2 ⟨zs, H2, I2, rz, H0', ρ', rs, l1, l2, S1, P1⟩
  rw [hks]
  exact ⟨I2.kIn, c (vs := []) I2 .nil rz rfl (by rw [l1, l2, hmk]) (b l1 S1 P1)⟩
end
/-! ### how arguments are bound: km picks the parameters' values out of those written, the defaults behind them -/
structure Bn (K : PySem.W.Frag) (T : Tb) (fd : FuncData) (ps : List Str) (m : Nat) (ks : List Str) (km : List Nat) (dv : List V) (dD : List D) : Prop where
  to : ∃ du, Vals dv du ∧ ∀ (s : Shared) (us ws : List Value), K.In s.heap → us.length = m → ws.length = ks.length → BindsTo s fd ⟨us, ks.zip ws⟩ (ps.zip (permR km (us ++ ws ++ du)))
  rel : ∀ H, Rps T H dv dD
def callP (G : Gs) (f : Nat) (km : List Nat) (dD : List D) (rs : List Rs) (e : Env) : Out Rs := callS G f (permR km (rs ++ dD.map .d)) e
section
variable {T : Tb} {W : WX} {X : Cx} {G : Gs}
/-- data that stand still are more temporaries -/
theorem ST.addDs2 {n : En} {H0 H : Hp} {σ : L2.St} {ρ : Env} {ts : List Tmp} : ∀ {vs : List V} {xs : List D}, ST T n H0 H σ ρ ts → Rps T H0 vs xs → ST T n H0 H σ ρ (vs.zip (xs.map Rs.d) ++ ts)
  | _, _, S, .nil => S
  | _, _, S, .cons a r => (S.addDs2 r).addD a
theorem callP_sp {f np : Nat} {km : List Nat} {dv : List V} {dD : List D} (hn : ∀ l : List Sl, l.length ≠ np → G.fn f l = .no) (hd : ∀ H, Rps T H dv dD) : Brd T W (fun σ vs H Q => SpF T np (G.fn f) (permR km (vs ++ dv)) H Q (WE W σ)) (callP G f km dD) := by
  intro σ n H0 H ρ ts rs vs Q hl S P
  have S2 := S.addDs2 (hd H0)
  have S3 : ST T n H0 H σ ρ ((vs ++ dv).zip (rs ++ dD.map Rs.d) ++ ts) := by
    rw [List.zip_append hl, List.append_assoc]
    exact S2.perm (by
      rw [← List.append_assoc, ← List.append_assoc]
      exact List.Perm.append_right ts List.perm_append_comm)
  exact call_spK hn (by simp [hl, (hd H0).length]) S3 P
/-- a def that is called so -/
theorem clg_fn {k f np m : Nat} {fa : Addr} {fd : FuncData} {ps ks : List Str} {km : List Nat} {dv : List V} {dD : List D} (F : FnG X.prog X.w X.K X.mg X.base k fa fd ps (SpF T np (G.fn f))) (hr : Room k X.A) (gd : X.A.guards = some []) (tk : Takes X W)
    (b : Bn X.K T fd ps m ks km dv dD) : ClG X (.ref fa) m ks (fun σ vs H Q => SpF T np (G.fn f) (permR km (vs ++ dv)) H Q (WE W σ)) := by
  intro pins s σ H Q us ws vs zs I r rz l1 l2 h
  obtain ⟨du, hd, to⟩ := b.to
  have rr : Vals (permR km (vs ++ zs ++ dv)) (permR km (us ++ ws ++ du)) := permR_vals ((r.append rz).append hd)
  exact run_g F hr gd (to s us ws I.kIn (by rw [← r.length]; exact l1) (by rw [← rz.length]; exact l2)) (passAt tk σ) I rr h
/-- a def of the text, called by its name -/
structure CalG (P : Program) (w : World) (K : PySem.W.Frag) (mg : Str → Option Value) (base : Heap) (T : Tb) (F : Env → Out Rs) (k np : Nat) (x : Str) (m : Nat) (ks : List Str) (km : List Nat) (dD : List D) : Prop where
  ex : ∃ fa fd ps dv, FnG P w K mg base k fa fd ps (SpF T np F) ∧ mg x = some (.ref fa) ∧ PySem.W.keepIn K (.ref fa) = true ∧ Bn K T fd ps m ks km dv dD
  no : ∀ l : List Sl, l.length ≠ np → F l = .no
theorem CalG.nm {k f np m : Nat} {x : Str} {ks : List Str} {km : List Nat} {dD : List D} (c : CalG X.prog X.w X.K X.mg X.base T (G.fn f) k np x m ks km dD) (hr : Room k X.A) (gd : X.A.guards = some []) (tk : Takes X W) : Nm X T W x m ks (callP G f km dD) := by
  obtain ⟨fa, fd, ps, dv, F, hm, hk, b⟩ := c.ex
  exact ⟨_, _, hm, hk, clg_fn F hr gd tk b, callP_sp c.no b.rel⟩
theorem callP_id {f : Nat} {rs : List Rs} {e : Env} {k : Nat} (h : rs.length = k) : callP G f (List.range k) [] rs e = callS G f rs e := by
  unfold callP
  have z : permR (List.range k) (rs ++ [].map Rs.d) = rs := by
    subst h
    rw [List.map_nil, List.append_nil]
    unfold permR
    apply List.ext_getElem?
    intro i
    have go : ∀ (n : Nat), n ≤ rs.length → (List.range n).filterMap (fun k => rs[k]?) = rs.take n := fun n => by
      induction n with
      | zero => intro _; simp
      | succ n ih =>
        intro hn
        rw [List.range_succ, List.filterMap_append, ih (by omega), List.take_add_one]
        have e : rs[n]? = some rs[n] := List.getElem?_eq_getElem (by omega)
        simp [e]
    rw [go rs.length (Nat.le_refl _), List.take_length]
  rw [z]
end
end Mi
end
/-! the text's defs by how deep calls may go; what they raise is kept. Plain Lean -/
namespace Mi
def Gx (defs : Nat → Option Def) (meth : Nat → Nat → Option Nat) (init : Nat → Option Nat) (isa : Nat → Nat → Option Bool) (free : Nat → Nat → Bool) (fuel : Nat) : Nat → Gs
  | 0 => ⟨fun _ _ => .no, meth, init, isa, free, fuel⟩
  | n + 1 => ⟨fun f l => match defs f with
    | some d => runDef (Gx defs meth init isa free fuel n) d l
    | none => .no, meth, init, isa, free, fuel⟩
end Mi
section
set_option maxHeartbeats 4000000
namespace Mi
open PySem PySem.Spec PyProof.Rows L2
/-! ### a body's context, of defs that may raise -/
structure CkG (T : Tb) (X : Cx) (W : WX) : Prop where
  ok : Cok T X
  gd : X.A.guards = some []
  tk : Takes X W
  po : PassesOwn (model X.prog X.w) X.A X.env X.xe
/-- within a comprehension -/
theorem CkG.blk {T : Tb} {X : Cx} {W : WX} (c : CkG T X W) (s : Shared) (H : Hp) (sc : Scope) (e : PySem.Env) (fp : List Addr) : CkG T (X.blk s H sc e fp) W0 :=
  ⟨c.ok.blk s H sc e fp, c.gd, takes_none5, PassesOwn.never⟩
/-- what a def's caller wishes of what it raises -/
abbrev WD (E : XK) : WX := fun cls d _ H => E cls d H
/-! ### top rows of a def: no temporaries -/
section
variable (T : Tb) (W : WX)
def rdS0 (d : Env → SOut) : TS := fun D σ H => ∃ n H0 ρ, ST T n H0 H σ ρ [] ∧ PostS T W n [] (d ρ) D
end
section
variable {T : Tb} {W : WX} {X : Cx} {G : Gs} {A : List Nat} {i j l : Nat}
theorem ps0 {s : Stmt} {d : Env → SOut} (h : PS X s (rdS T W A d)) : PS X s (rdS0 T W d) := ps_imp h fun D σ H ⟨n, H0, ρ, S, P⟩ => ⟨n, H0, ρ, [], S, fun t ht => by simp at ht, P⟩
theorem pss0 {s : List Stmt} {d : Env → SOut} (h : PSs X s (rdS T W A d)) : PSs X s (rdS0 T W d) := pss_imp h fun D σ H ⟨n, H0, ρ, S, P⟩ => ⟨n, H0, ρ, [], S, fun t ht => by simp at ht, P⟩
theorem ss_nil0 : PSs X [] (rdS0 T W (execs G [])) := pss_imp pss_nil fun D σ H ⟨n, H0, ρ, S, P⟩ => P σ H0 H S
theorem ss_cons0 {s : Stmt} {ss : List Stmt} {m : MStmt} {ms : List MStmt} (h1 : PS X s (rdS0 T W (exec G m))) (h2 : PSs X ss (rdS0 T W (execs G ms))) : PSs X (s :: ss) (rdS0 T W (execs G (m :: ms))) := by
  refine pss_imp (pss_cons h1 h2) fun D σ H h => ?_
  obtain ⟨n, H0, ρ, S, P⟩ := h
  refine ⟨n, H0, ρ, S, ?_⟩
  have P : PostS T W n [] ((exec G m ρ).seq (execs G ms)) D := P
  cases ea : exec G m ρ with
  | no => rw [ea] at P; exact P.elim
  | ex x e => rw [ea] at P; exact P
  | rt r e => rw [ea] at P; exact P
  | nx ρ1 => rw [ea] at P; exact fun σ' H0' H' S' => ⟨n, H0', ρ1, S', P⟩
end
/-- THE RULE for a def -/
theorem fn_okG0 {T : Tb} {G : Gs} {P : Program} {w : World} {K : PySem.W.Frag} {mg : Str → Option Value} {base : Heap} {x qual : Str} {params : Arguments} {body : List Stmt} {scope : Scope} {dvs : List V} {kws : List (Str × V)} {f : Addr} {fd : FuncData} {N ps : List Str} {k : Nat} {d : Def}
    (F : FunD K x qual params body scope dvs kws f fd) (S : FnScope N ps scope) (hK : K = T.K) (hp : d.pars = ps.length) (hs : d.size = N.length) (sm : Sm T.K)
    (hb : ∀ (cdv : Value) (A : Around) (outer : List PySem.Env) (s : Shared) (H : Hp) (E : XK), CkG T (cxOf (L2.CX P w) P w K mg base N qual scope f cdv A outer s H E) (WD E) → Room k (A.deeper (envOfC qual scope s.heap.objs.size f cdv)) →
      PSs (cxOf (L2.CX P w) P w K mg base N qual scope f cdv A outer s H E) body (rdS0 T (WD E) (execs G d.body))) :
    FnG P w K mg base (k + 1) f fd ps (SpF T d.pars (runDef G d)) := by
  refine Mi.FunD.okG F S (fun vs H Q E h => by rw [← hp]; exact h.1) fun cdv A outer s H vs Q E hr gd h => ⟨_, hb cdv A outer s H E ⟨⟨⟨hK, S.nd, ?_, gd, sm⟩, rfl⟩, gd, takes_of rfl rfl rfl rfl, passes_of rfl⟩ hr, ?_⟩
  · have := hr.un
    show (A.deeper _).units + 64 < cLine
    omega
  · obtain ⟨lv, H0, ls, ll, kinds, S0, P⟩ := h
    have lN : ls.length ≤ N.length := by
      rw [ll, hp]
      have := congrArg List.length S.pre
      rw [List.length_take] at this
      omega
    have e1 : d.size - d.pars = N.length - ls.length := by rw [hs, ll]
    refine ⟨_, H0, _, S0.entry lN, ?_⟩
    unfold runDef at P
    rw [if_pos (by rw [ll]; exact beq_self_eq_true _), e1] at P
    have fin : ∀ {e v r σ' H0' H'}, pasKept ls e = true → ST T ⟨H, H0, pasOf 0 vs ls⟩ H0' H' σ' e [(v, r)] → (∀ i, r ≠ .bo i) → ST T ⟨H, H0, pasOf 0 vs ls⟩ H0' H' (vs.map some) (backP ls e) [(v, r)] := fun {e v r σ' H0' H'} hk S' nb => S0.exit hk S' nb kinds S'.s0
    cases ee : execs G d.body (ls ++ List.replicate (N.length - ls.length) .un) with
    | no => rw [ee] at P; exact P.elim
    | ex x e =>
      rw [ee] at P
      have P : Post T (fun c dd _ H' => E c dd H') ⟨H, H0, pasOf 0 vs ls⟩ (vs.map some) [] (if pasKept ls e then Out.ex x (backP ls e) else .no) _ := P
      split at P
      · rename_i hk
        exact fun dd σ' H0' H' S' xr => P dd H0' H' (fin hk (S'.addD .non) fun i z => nomatch z).drop xr
      · exact P.elim
    | nx e =>
      rw [ee] at P
      have P : Post T (fun c dd _ H' => E c dd H') ⟨H, H0, pasOf 0 vs ls⟩ (vs.map some) [] (if pasKept ls e then Out.ok (Rs.d .non) (backP ls e) else .no) _ := P
      split at P
      · rename_i hk
        exact fun σ' H0' H' S' => P H0' H' .non (fun i z => nomatch z) (fin hk (S'.addD .non) fun i z => nomatch z)
      · exact P.elim
    | rt r e =>
      rw [ee] at P
      have P : Post T (fun c dd _ H' => E c dd H') ⟨H, H0, pasOf 0 vs ls⟩ (vs.map some) [] (if pasKept ls e then Out.ok r (backP ls e) else .no) _ := P
      split at P
      · rename_i hk
        exact fun v σ' H0' H' nb S' => P H0' H' v nb (fin hk S' nb)
      · exact P.elim
theorem fn_okG {T : Tb} {G : Gs} {P : Program} {w : World} {K : PySem.W.Frag} {mg : Str → Option Value} {base : Heap} {x qual : Str} {params : Arguments} {body : List Stmt} {scope : Scope} {dvs : List V} {kws : List (Str × V)} {f : Addr} {fd : FuncData} {N ps : List Str} {k : Nat} {d : Def}
    (F : FunD K x qual params body scope dvs kws f fd) (S : FnScope N ps scope) (hK : K = T.K) (hp : d.pars = ps.length) (hs : d.size = N.length) (sm : Sm T.K)
    (hb : ∀ (cdv : Value) (A : Around) (outer : List PySem.Env) (s : Shared) (H : Hp) (E : XK), CkG T (cxOf (L2.CX P w) P w K mg base N qual scope f cdv A outer s H E) (WD E) → Room k (A.deeper (envOfC qual scope s.heap.objs.size f cdv)) →
      PSs (cxOf (L2.CX P w) P w K mg base N qual scope f cdv A outer s H E) body (rdS T (WD E) (MStmt.sts d.body) (execs G d.body))) :
    FnG P w K mg base (k + 1) f fd ps (SpF T d.pars (runDef G d)) := fn_okG0 F S hK hp hs sm fun cdv A outer s H E c r => pss0 (hb cdv A outer s H E c r)
theorem fn_zeroG {T : Tb} {P : Program} {w : World} {K : PySem.W.Frag} {mg : Str → Option Value} {base : Heap} {f : Addr} {fd : FuncData} {ps : List Str} {np k : Nat} (hp : np = ps.length) : FnG P w K mg base k f fd ps (SpF T np fun _ => .no) :=
  ⟨fun vs H Q E h => by rw [← hp]; exact h.1, fun r g e b v h => by
    obtain ⟨_, H0, ls, _, _, _, P⟩ := h
    exact P.elim⟩
end Mi
end
section
set_option maxHeartbeats 4000000
namespace Mi
open PySem PySem.Spec PyProof.Rows L2 PySem.W
/-! ### names, and the rest as a list: a, *b = xs -/
section
variable {prog : Program} {w : World} {A : Around} {E : Value → Shared → Prop} {s : Shared}
/-- what stands in place of a starred name: a new list -/
abbrev StarQ (s : Shared) (its : List Value) (i : Nat) (Q : List Value → Shared → Prop) : Prop := ∀ D h' tk, (∀ b o, s.heap.get? b = some o → h'.get? b = some o) → s.heap.get? D = none →
    h'.get? D = some { cls := .type "list", data := .seq (its.drop i).toArray } → Q (its.take i ++ [.ref D]) { s with heap := h', toks := tk }
theorem star_end {its : List Value} {i n : Nat} {h2 : Heap} {tk : Nat} {Q : List Value → Shared → Prop} (kk : ∀ b o, s.heap.get? b = some o → h2.get? b = some o) (hn : n = (its.drop i).length) (hz : its.length ≤ 16000) (h : StarQ s its i Q) :
    wpAny (model prog w) A (newList ((its.drop i).take n) >>= fun d => pure (its.take i ++ [d] ++ (its.drop i).drop n)) Q E { s with heap := h2, toks := tk } := by
  subst hn
  rw [List.take_length, List.drop_length]
  apply wpAny_bind
  apply wpAny_newList _ (by rw [List.length_drop, sizeLine_eq]; omega)
  apply wpAny_pure
  rw [List.append_nil]
  refine h _ _ tk (fun b o e => Heap.get?_push_of_some _ (kk b o e)) ?_ (Heap.get?_push_size _ rfl)
  cases z : s.heap.get? h2.objs.size with
  | none => rfl
  | some o => exact absurd (Heap.lt_size (kk _ _ z)) (Nat.lt_irrefl _)
theorem star_list {l : Addr} {items : Array Value} {i : Nat} {Q : List Value → Shared → Prop} (hl : s.heap.IsList l items) (hh : A.handled = none) (hi : i ≤ items.size) (hz : items.size ≤ 16000) (h : StarQ s items.toList i Q) :
    wpAny (model prog w) A (unpackItems (.ref l) (i + 1) (some i)) Q E s := by
  have ne : l ≠ s.heap.objs.size := by
    obtain ⟨o, e, _⟩ := hl
    exact Nat.ne_of_lt (Heap.lt_size e)
  unfold unpackItems notIterableAtAll
  apply wpAny_bind
  apply wpAny_bind
  apply wpAny_specialOf hl.typeIs slot_list_iter.lookup
  apply wpAny_pure
  simp only [Bool.false_eq_true, if_false]
  apply wpAny_bind
  apply wpAny_holding
  apply wpAny_pyIter_list hl
  apply wpAny_bind
  apply wpAny_holding
  apply kun_draw ne i 0 _ _ ⟨_, Heap.get?_push_size _ rfl, rfl, rfl⟩ (hl.push _) (by omega)
  intro g1 it1 sb1
  rw [Nat.zero_add] at it1
  rw [List.drop_zero]
  have lg : (items.toList.take i).length = i := by rw [List.length_take, Array.length_toList]; omega
  rw [if_neg (show ¬ ((items.toList.take i).length < i) by rw [lg]; omega)]
  have hl1 : g1.IsList l items := (hl.push _).extBut sb1.extBut ne
  obtain ⟨o1, q1, _⟩ := id it1
  obtain ⟨o2, q2, _⟩ := id hl1
  apply wpAny_bind
  apply wpAny_holding
  apply kun_collect (s := { s with heap := g1 }) (T := "list_iterator") (.inr (.inr (.inl rfl))) (Walks.list (A := A.in1) hh s.heap.objs.size l ne items) (fun j u st => st.1.typeIs) (k := i) hi ⟨it1, hl1⟩ (Heap.lt_size q1) (Heap.lt_size q2) _ (by rw [sizeLine_eq]; omega)
  intro g2 tk kp
  show wpAny _ _ (if (items.toList.drop i).length < (i + 1) - 1 - i then _ else _) _ _ _
  rw [if_neg (by omega)]
  refine star_end (s := s) (fun b o e => ?_) (by omega) (by rw [Array.length_toList]; exact hz) h
  have nb : b ≠ s.heap.objs.size := Nat.ne_of_lt (Heap.lt_size e)
  exact kp b o nb (sb1.extBut b o nb (Heap.get?_push_of_some _ e))
theorem star_tuple {l : Addr} {items : Array Value} {i : Nat} {Q : List Value → Shared → Prop} (hl : IsTup s.heap l items) (hh : A.handled = none) (hi : i ≤ items.size) (hz : items.size ≤ 16000) (h : StarQ s items.toList i Q) :
    wpAny (model prog w) A (unpackItems (.ref l) (i + 1) (some i)) Q E s := by
  have ne : l ≠ s.heap.objs.size := by
    obtain ⟨o, e, _⟩ := hl
    exact Nat.ne_of_lt (Heap.lt_size e)
  unfold unpackItems notIterableAtAll
  apply wpAny_bind
  apply wpAny_bind
  apply wpAny_specialOf hl.typeIs slot_tuple_iter.lookup
  apply wpAny_pure
  simp only [Bool.false_eq_true, if_false]
  apply wpAny_bind
  apply wpAny_holding
  apply iter_tuple hl
  apply wpAny_bind
  apply wpAny_holding
  apply draw_tuple ne i 0 _ _ ⟨_, Heap.get?_push_size _ rfl, rfl, rfl⟩ (hl.push _) (by omega)
  intro g1 it1 sb1
  rw [Nat.zero_add] at it1
  rw [List.drop_zero]
  have lg : (items.toList.take i).length = i := by rw [List.length_take, Array.length_toList]; omega
  rw [if_neg (show ¬ ((items.toList.take i).length < i) by rw [lg]; omega)]
  have hl1 : IsTup g1 l items := (hl.push _).extBut sb1.extBut ne
  obtain ⟨o1, q1, _⟩ := id it1
  obtain ⟨o2, q2, _⟩ := id hl1
  apply wpAny_bind
  apply wpAny_holding
  apply kun_collect (s := { s with heap := g1 }) (T := "tuple_iterator") (.inr (.inr (.inr rfl))) (Walks.tuple (A := A.in1) hh s.heap.objs.size l ne items) (fun j u st => st.1.typeIs) (k := i) hi ⟨it1, hl1⟩ (Heap.lt_size q1) (Heap.lt_size q2) _ (by rw [sizeLine_eq]; omega)
  intro g2 tk kp
  show wpAny _ _ (if (items.toList.drop i).length < (i + 1) - 1 - i then _ else _) _ _ _
  rw [if_neg (by omega)]
  refine star_end (s := s) (fun b o e => ?_) (by omega) (by rw [Array.length_toList]; exact hz) h
  have nb : b ≠ s.heap.objs.size := Nat.ne_of_lt (Heap.lt_size e)
  exact kp b o nb (sb1.extBut b o nb (Heap.get?_push_of_some _ e))
end
theorem valsTake : ∀ {vs : List V} {us : List Value} (k : Nat), Vals vs us → Vals (vs.take k) (us.take k)
  | _, _, 0, _ => by simp only [List.take_zero]; exact .nil
  | _, _, k + 1, .nil => .nil
  | _, _, k + 1, .cons a r => .cons a (valsTake k r)
theorem valsDrop : ∀ {vs : List V} {us : List Value} (k : Nat), Vals vs us → Vals (vs.drop k) (us.drop k)
  | _, _, 0, h => h
  | _, _, k + 1, .nil => .nil
  | _, _, k + 1, .cons a r => valsDrop k r
section
variable {X : Cx}
def gStar (K : PySem.W.Frag) (i : Nat) (t : TGs) : TG := fun v σ H Q => ∃ a xs, v = .ref a ∧ (SqT K H a xs ∨ SqL K H a xs) ∧ i ≤ xs.length ∧ xs.length ≤ 16000 ∧ ∀ p, H p = none → t (xs.take i ++ [.ref p]) σ (upd H p (.lst (xs.drop i))) Q
theorem pg_star (hc : X.calm = true) {es : List Expr} {kk i : Nat} {pos : Pos} {t : TGs} (h : PGs X es t) (hn : (assignEach es X.env).length = i + 1) (hst : (assignEach es X.env).findIdx? (·.1) = some i) : PG X (.Tuple es kk pos) (gStar X.K i t) := by
  constructor
  intro pins s σ H v u Q I r q
  obtain ⟨a, xs, ev, hs, h1, h2, q⟩ := q
  subst ev
  have eu : u = Value.ref a := r
  subst eu
  rw [assign_Tuple]
  apply wpAny_bind
  apply wpAny_standAt
  unfold unpack
  rw [hn, hst]
  apply wpAny_bind
  apply wpAny_holding
  have fin : ∀ (its : List Value), Vals xs its → StarQ s its i fun us s' => wpAny (model X.prog X.w) X.A (assignInOrder ((assignEach es X.env).map (·.2)) us) (fun _ s' => ∃ σ' H', Inv X pins σ' H' s' ∧ Q σ' H') X.xe s' := by
    intro its rv D h' tk kp hD hd
    have hHD : H D = none := I.hok.gone hD
    have J : Inv X pins σ (upd H D (.lst (xs.drop i))) { s with heap := h', toks := tk } :=
      I.laidN kp hD hHD ⟨by rw [List.length_drop, sizeLine_eq]; omega, its.drop i, _, valsDrop i rv, hd⟩
    exact h.run pins _ σ _ _ _ Q J ((valsTake i rv).append (.cons (show RelV (V.ref D) (Value.ref D) from rfl) .nil)) (q D hHD)
  rcases hs with hs | hs
  · obtain ⟨its, rv, ht, hz⟩ := I.tuple hs
    have lz : its.length = xs.length := rv.length.symm
    exact star_tuple ht (I.ok.hd hc) (by rw [List.size_toArray]; omega) (by rw [List.size_toArray]; omega) (fin its rv)
  · obtain ⟨its, rv, ht, hz⟩ := I.list hs
    have lz : its.length = xs.length := rv.length.symm
    exact star_list ht.isList (I.ok.hd hc) (by rw [List.size_toArray]; omega) (by rw [List.size_toArray]; omega) (fin its rv)
end
section
variable {T : Tb} {W : WX} {X : Cx} {G : Gs}
theorem ST.dsR {n : En} {H0 H : Hp} {σ : L2.St} {ρ : Env} {ts : List Tmp} : ∀ {vs : List V} {xs : List D}, ST T n H0 H σ ρ (vs.zip (xs.map Rs.d) ++ ts) → vs.length = xs.length → Rps T H0 vs xs
  | [], [], _, _ => .nil
  | v :: vs, x :: xs, S, h => .cons (S.temp (v, .d x) (List.mem_cons_self ..)) (ST.dsR (vs := vs) (xs := xs) S.drop (by simpa using h))
  | [], _ :: _, _, h => by simp at h
  | _ :: _, [], _, h => by simp at h
/-- a starred target, the last one -/
theorem gs_star1 {e : Expr} {ps : Pos} {t : TGs} (h : PGs X [e] t) (hs : (assignEach [.Starred e ps] X.env).map (·.2) = (assignEach [e] X.env).map (·.2) := by rfl) : PGs X [.Starred e ps] t :=
  ⟨fun pins s σ H vs us Q I r q => by rw [hs]; exact h.run pins s σ H vs us Q I r q⟩
theorem putNs_app : ∀ {is : List Nat} {xs : List D} {ρ ρ1 ρ2 : Env} {j : Nat} {y : D}, putNs is xs ρ = some ρ1 → mayPut ρ1 j = true → ρ2 = ρ1.set j (.sh y) → putNs (is ++ [j]) (xs ++ [y]) ρ = some ρ2
  | [], [], ρ, ρ1, ρ2, j, y, h, hm, e => by
    cases h
    show (if mayPut ρ j then some (ρ.set j (.sh y)) else none) = _
    rw [if_pos hm, e]
  | i :: is, x :: xs, ρ, ρ1, ρ2, j, y, h, hm, e => by
    have h : (if mayPut ρ i then putNs is xs (ρ.set i (.sh x)) else none) = some ρ1 := h
    split at h
    · rename_i hi
      show (if mayPut ρ i then putNs (is ++ [j]) (xs ++ [y]) (ρ.set i (.sh x)) else none) = _
      rw [if_pos hi]
      exact putNs_app h hm e
    · cases h
  | [], _ :: _, _, _, _, _, _, h, _, _ => by cases h
  | _ :: _, [], _, _, _, _, _, h, _, _ => by cases h
/-- a, *b = xs -/
theorem s_star (ok : Cok T X) {is : List Nat} {j : Nat} {es : List Expr} {kk : Nat} {tpos pos : Pos} {e : Expr} {m : MExp} (he : PE X e (rd T W (ev G m))) (hg : PGs X es (rdGs T (is ++ [j])))
    (hn : (assignEach es X.env).length = is.length + 1 := by rfl) (hst : (assignEach es X.env).findIdx? (·.1) = some is.length := by rfl) (hs : swapsWithSole [.Tuple es kk tpos] e pos.line X.env = pure false := by rfl) (hw : swappedStores [.Tuple es kk tpos] e X.env = pure none := by rfl)
    (h1 : (assignEach [.Tuple es kk tpos] X.env).map (·.2) = [assign (.Tuple es kk tpos) X.env] := by rfl) : PS X (.Assign [.Tuple es kk tpos] e pos) (rdS T W (MStmt.st (.star is j m)) (exec G (.star is j m))) := by
  refine ps_imp (ps_asg he (pg_star ok.calm hg hn hst) hs hw h1) fun D σ H h => ?_
  obtain ⟨n, H0, ρ, ts, S, k, P⟩ := h
  have P : PostS T W n ts ((ev G m ρ).thn fun r e1 => match (r.see e1).bind seqD with
    | some xs => if decide (is.length ≤ xs.length) && decide (xs.length ≤ 16000) then match putNs is (xs.take is.length) e1 with
      | some e2 => if mayPut e2 j then .nx (e2.set j (.sh (.lst (xs.drop is.length)))) else .no
      | none => .no else .no
    | none => .no) D := P
  refine rd_mono (thn_one S P) fun v H1 h => ?_
  obtain ⟨H01, ρ1, r, S1, P1⟩ := h
  cases es : (r.see ρ1).bind seqD with
  | none => rw [es] at P1; exact P1.elim
  | some xs =>
    rw [es] at P1
    have P1 : PostS T W n ts (if decide (is.length ≤ xs.length) && decide (xs.length ≤ 16000) then match putNs is (xs.take is.length) ρ1 with
      | some e2 => if mayPut e2 j then .nx (e2.set j (.sh (.lst (xs.drop is.length)))) else .no
      | none => .no else .no) D := P1
    split at P1
    · rename_i hl
      rw [Bool.and_eq_true] at hl
      have l1 := of_decide_eq_true hl.1
      have l2 := of_decide_eq_true hl.2
      have hx : ∃ p vs, v = .ref p ∧ (SqT T.K H1 p vs ∨ SqL T.K H1 p vs) ∧ Rps T H01 vs xs := by
        cases ex : r.see ρ1 with
        | none => rw [ex] at es; cases es
        | some x =>
          rw [ex] at es
          cases x with
          | tup ys =>
            cases es
            obtain ⟨p, vs, ev, h2, h3⟩ := (S1.see ex).tup
            exact ⟨p, vs, ev, .inl (Same.sqT S1.sub h2), h3⟩
          | lst ys =>
            cases es
            obtain ⟨p, vs, ev, h2, h3⟩ := (S1.see ex).lst S1.sub
            exact ⟨p, vs, ev, .inr (.inl (.inl h2)), h3⟩
          | non => cases es
          | bl _ => cases es
          | int _ => cases es
          | str _ => cases es
          | dic _ => cases es
          | ins _ _ => cases es
          | scr _ => cases es
      obtain ⟨p, vs, ev, hsq, rr⟩ := hx
      subst ev
      rw [ok.hK]
      refine ⟨p, vs, rfl, hsq, by rw [rr.length]; exact l1, by rw [rr.length]; exact l2, fun q hq => ?_⟩
      have S2 := (S1.drop.addDs rr).alloc (o := .lst (xs.drop is.length)) (p := q) (Same.new hq) hq ⟨vs.drop is.length, upd_same, rr.drop _⟩
      obtain ⟨H02, S3⟩ := S2.hold
      have r3 : Rps T H02 vs xs := S3.drop.dsR rr.length
      have r4 : Rp T H02 (.ref q) (.lst (xs.drop is.length)) := S3.temp _ (List.mem_cons_self ..)
      have P2 : PostS T W n ts (match putNs is (xs.take is.length) ρ1 with
        | some e2 => if mayPut e2 j then .nx (e2.set j (.sh (.lst (xs.drop is.length)))) else .no
        | none => .no) D := P1
      cases ep : putNs is (xs.take is.length) ρ1 with
      | none => rw [ep] at P2; exact P2.elim
      | some e2 =>
        rw [ep] at P2
        have P2 : PostS T W n ts (if mayPut e2 j then .nx (e2.set j (.sh (.lst (xs.drop is.length)))) else .no) D := P2
        split at P2
        · rename_i hm
          refine ⟨n, H02, ρ1, ts, xs.take is.length ++ [.lst (xs.drop is.length)], _, S3.drop.dropA, (r3.take _).append (.cons r4 .nil), putNs_app ep hm rfl, fun u hu i e z => ?_, fun σ' w S' => P2 σ' _ _ S'⟩
          refine k u hu i e ?_
          show i ∈ j :: is
          rcases List.mem_append.mp z with z | z
          · exact List.mem_cons_of_mem _ z
          · rw [List.mem_singleton.mp z]
            exact List.mem_cons_self ..
        · exact P2.elim
    · exact P1.elim
end
end Mi
end
section
set_option maxHeartbeats 4000000
namespace Mi
open PySem PySem.Spec PyProof.Rows L2
section
variable {T : Tb} {W : WX} {X : Cx} {G : Gs} {x : Str} {p pos : Pos} {e : Expr} {es : List Expr} {ms mk : List MExp} {kws : List Keyword} {ks : List Str} {f k np m : Nat}
/-! ### calls of the text's defs -/
theorem rd_ext {d d' : Env → Out Rs} (h : ∀ e, d e = d' e) {ex : Expr} (p : PE X ex (rd T W d)) : PE X ex (rd T W d') := by
  have e : d = d' := funext h
  rw [← e]
  exact p
theorem evs_bind {α : Type} {g g' : List Rs → Env → Out α} (h : ∀ rs e, rs.length = ms.length → g rs e = g' rs e) (e : Env) : (evs G ms e).bind g = (evs G ms e).bind g' := by
  cases ea : evs G ms e with
  | no => rfl
  | ex y e1 => rfl
  | ok rs e1 => exact h rs e1 (evs_len ea)
theorem r_callG (c : CkG T X W) (h : CalG X.prog X.w X.K X.mg X.base T (G.fn f) k np x m [] (List.range m) []) (hr : Room k X.A) (hm : ms.length = m) (ha : PA X (e :: es) (rdA T W (evs G ms)))
    (hg : Gl X x := by rfl) (hdb : (x == ("__debug__" : Str)) = false := by decide) (he : starEach (e :: es) X.env = (false, eval e X.env) :: starEach es X.env := by rfl) (hpl : (backTo pos (starEach es X.env)).any (·.1) = false := by rfl) :
    PE X (.Call (.Name x p) (e :: es) [] pos) (rd T W (ev G (.call f ms))) :=
  rd_ext (fun e => evs_bind (fun rs e1 l => callP_id (by rw [l, hm])) e) (nm_pos (h.nm hr c.gd c.tk) hm ha hg hdb he hpl)
theorem r_call0G (c : CkG T X W) (h : CalG X.prog X.w X.K X.mg X.base T (G.fn f) k np x 0 [] (List.range 0) []) (hr : Room k X.A) (hg : Gl X x := by rfl) (hdb : (x == ("__debug__" : Str)) = false := by decide) :
    PE X (.Call (.Name x p) [] [] pos) (rd T W (ev G (.call f []))) :=
  rd_ext (fun e => callP_id rfl) (nm_0 (h.nm hr c.gd c.tk) hg hdb)
theorem callP_nil {km : List Nat} {rs : List Rs} {e : Env} : callP G f km [] rs e = callS G f (km.filterMap fun k => rs[k]?) e := by
  unfold callP permR
  rw [List.map_nil, List.append_nil]
theorem r_callkG {km : List Nat} (c : CkG T X W) (h : CalG X.prog X.w X.K X.mg X.base T (G.fn f) k np x m ks km []) (hr : Room k X.A) (hm : ms.length = m) (hk : mk.length = ks.length) (ha : PA X (e :: es) (rdA T W (evs G ms))) (hkw : PK X kws (rdA T W (evs G mk)))
    (hg : Gl X x := by rfl) (hall : (backToKw pos (keywordEach kws X.env)).all (·.1.isSome) = true := by rfl) (hks : (backToKw pos (keywordEach kws X.env)).filterMap (·.1) = ks := by rfl)
    (hdb : (x == ("__debug__" : Str)) = false := by decide) (he : starEach (e :: es) X.env = (false, eval e X.env) :: starEach es X.env := by rfl)
    (hpl : ((backTo pos (starEach (e :: es) X.env)).any (·.1) || (backToKw pos (keywordEach kws X.env)).any (·.1.isNone)) = false := by rfl) :
    PE X (.Call (.Name x p) (e :: es) kws pos) (rd T W (ev G (.callk f (ms ++ mk) km))) :=
  rd_ext (fun e => evs_bind (fun rs e1 l => callP_nil) e) (nm_kw (h.nm hr c.gd c.tk) hm hk ha hkw hg hall hks hdb he hpl)
theorem r_callk0G {km : List Nat} (c : CkG T X W) (h : CalG X.prog X.w X.K X.mg X.base T (G.fn f) k np x 0 ks km []) (hr : Room k X.A) (hk : mk.length = ks.length) (hkw : PK X kws (rdA T W (evs G mk)))
    (hg : Gl X x := by rfl) (hall : (backToKw pos (keywordEach kws X.env)).all (·.1.isSome) = true := by rfl) (hks : (backToKw pos (keywordEach kws X.env)).filterMap (·.1) = ks := by rfl)
    (hdb : (x == ("__debug__" : Str)) = false := by decide) (hpl : ((backTo pos (starEach [] X.env)).any (·.1) || (backToKw pos (keywordEach kws X.env)).any (·.1.isNone)) = false := by rfl) :
    PE X (.Call (.Name x p) [] kws pos) (rd T W (ev G (.callk f mk km))) :=
  rd_ext (fun e => evs_bind (fun rs e1 l => callP_nil) e) (nm_kw0 (h.nm hr c.gd c.tk) hk hkw hg hall hks hdb hpl)
/-- defs with every parameter given, none of them with a default -/
theorem bn_of {K : PySem.W.Frag} {qual y : Str} {params : Arguments} {body : List Stmt} {scope : Scope} {fa : Addr} {fd : FuncData} {ps : List Str} {km : List Nat} (F : FunD K y qual params body scope [] [] fa fd)
    (h : ∀ (kV doc pm : Value) (an : Option Addr) (cdv ct : Value) (us ws : List Value), us.length = m → ws.length = ks.length → bindArgs (PySem.W.fnOf y qual params body scope .none kV doc pm an cdv ct) ⟨us, ks.zip ws⟩ = pure (ps.zip (permR km (us ++ ws)))) :
    Bn K T fd ps m ks km [] [] := by
  have b := kb_of F h
  exact ⟨⟨[], .nil, fun s us ws X l1 l2 => by rw [List.append_nil]; exact b.to s us ws X l1 l2⟩, fun _ => .nil⟩
/-! ### isinstance(a, (T, U)) -/
theorem r_isk2 (ok : Ck T X) {a : Expr} {ma : MExp} {p1 p2 pt : Pos} {kt : Nat} {k1 k2 : Kd} {n1 n2 : Str} (hm : X.mg "isinstance" = none) (hm1 : X.mg n1 = none) (hm2 : X.mg n2 = none) (hv1 : bootBuiltins n1 = some (.type (kdN k1))) (hv2 : bootBuiltins n2 = some (.type (kdN k2))) (ha : PE X a (rd T W (ev G ma)))
    (hg : Gl X "isinstance" := by rfl) (hg1 : Gl X n1 := by rfl) (hg2 : Gl X n2 := by rfl) (hn1 : n1 ≠ "__name__" := by decide) (hn2 : n2 ≠ "__name__" := by decide) (hd1 : (n1 == ("__debug__" : Str)) = false := by decide) (hd2 : (n2 == ("__debug__" : Str)) = false := by decide)
    (hs : starEach [a, .Tuple [.Name n1 p1, .Name n2 p2] kt pt] X.env = (false, eval a X.env) :: starEach [.Tuple [.Name n1 p1, .Name n2 p2] kt pt] X.env := by rfl)
    (hs2 : starEach [.Name n1 p1, .Name n2 p2] X.env = (false, eval (.Name n1 p1) X.env) :: starEach [.Name n2 p2] X.env := by rfl) :
    PE X (.Call (.Name "isinstance" p) [a, .Tuple [.Name n1 p1, .Name n2 p2] kt pt] [] pos) (rd T W (ev G (.isk ma [k1, k2]))) := by
  have htup : PE X (.Tuple [.Name n1 p1, .Name n2 p2] kt pt) _ := pe_tup (pa_cons (pe_bltn (v := .ty (kdN k1)) hg1 hm1 hv1 rfl hn1 hd1) (pa_cons (pe_bltn (v := .ty (kdN k2)) hg2 hm2 hv2 rfl hn2 hd2) pa_nil) hs2)
  refine pe_imp (pe_callB call_isiT hg hm (by decide +kernel) (pa_cons ha (pa_cons htup pa_nil) hs) (by decide) (by decide) hs) fun σ H Q h => ?_
  refine rd_mono (rd_seeOne h) fun y H1 q => ?_
  obtain ⟨σ', n, H0, ρ, ts, b, r, S, va, ef, P⟩ := q.sees
  obtain ⟨rfl, z1, z2⟩ := isk_ok ef
  refine ⟨by show 2 ≤ sizeLine; decide +kernel, fun tp hp => ?_⟩
  have vb : Rv T (upd H1 tp (.tup [.ty (kdN k1), .ty (kdN k2)])) (upd H1 tp (.tup [.ty (kdN k1), .ty (kdN k2)])) y b := .of ((va.rp S.sub).mono (Same.new hp))
  have ty := vb.ty (Same.refl _) z1 z2
  rw [← ok.hK] at ty
  exact ⟨y, tp, [.ty (kdN k1), .ty (kdN k2)], _, [.type (kdN k1), .type (kdN k2)], _, rfl, upd_same, .cons (.ty _) (.cons (.ty _) .nil), ty, kit_any b [k1, k2], Wants.data P (.bl _) (S.grow (Same.new hp))⟩
/-! ### list(range(..)) -/
theorem rg_rps {H : Hp} (a b : Int) : Rps T H (rgV a b) ((List.range (b - a).toNat).map fun k => D.int (a + (k : Nat))) := by
  unfold rgV
  generalize (b - a).toNat = n
  induction n with
  | zero => exact .nil
  | succ n ih =>
    rw [List.range_succ, List.map_append, List.map_append]
    exact ih.append (.cons (.int _) .nil)
theorem lrng_fin {n : En} {σ : L2.St} {H0 H : Hp} {ρ : Env} {ts : List Tmp} {Q : VK} {i j : Int} (S : ST T n H0 H σ ρ ts) (P : Post T W n σ ts (lrngS i j ρ) (Wants T n σ ts Q)) : RgOk i j ∧ ∀ q, H q = none → Q (.ref q) (upd H q (.lst (rgV i j))) := by
  unfold lrngS at P
  split at P
  · rename_i hz
    rw [Bool.and_eq_true] at hz
    have h1 := hz.1
    unfold rngOk at h1
    simp only [Bool.and_eq_true, decide_eq_true_eq] at h1
    have h2 : (j - i).toNat ≤ 16000000 := of_decide_eq_true hz.2
    exact ⟨⟨by omega, by omega, by omega, by omega, by omega⟩, fun q hq => Wants.fresh P S (Same.new hq) hq ⟨_, upd_same, rg_rps i j⟩⟩
  · exact P.elim
theorem r_lrng1 (ok : Cok T X) {a : Expr} {ma : MExp} {p2 pos2 : Pos} (hm : X.mg "list" = none) (hm2 : X.mg "range" = none) (ha : PE X a (rd T W (ev G ma))) (hg : Gl X "list" := by rfl) (hg2 : Gl X "range" := by rfl)
    (hs : starEach [a] X.env = (false, eval a X.env) :: starEach [] X.env := by rfl) (hs2 : starEach [.Call (.Name "range" p2) [a] [] pos2] X.env = (false, eval (.Call (.Name "range" p2) [a] [] pos2) X.env) :: starEach [] X.env := by rfl) :
    PE X (.Call (.Name "list" p) [.Call (.Name "range" p2) [a] [] pos2] [] pos) (rd T W (ev G (.lrng none ma))) := by
  refine pe_imp (pe_listRg ok.calm hg hm (prg_1 hg2 hm2 ha hs) hs2) fun σ H Q h => ?_
  obtain ⟨n, H0, ρ, ts, S, P⟩ := h
  have P : Post T W n σ ts ((ev G ma ρ).bind fun r e1 => (partO e1 r).bind fun j e2 => lrngS 0 j e2) (Wants T n σ ts Q) := P
  refine rd_mono (rd_one S P) fun v H1 h => ?_
  obtain ⟨H01, ρ1, r, S1, P1⟩ := h
  cases r with
  | d x =>
    cases x with
    | int j =>
      have e : v = .int j := (S1.see (x := .int j) rfl).int
      subst e
      exact ⟨j, rfl, lrng_fin S1.drop P1⟩
    | _ => exact P1.elim
  | _ => exact P1.elim
theorem r_lrng2 (ok : Cok T X) {a b : Expr} {ma mb : MExp} {p2 pos2 : Pos} (hm : X.mg "list" = none) (hm2 : X.mg "range" = none) (ha : PE X a (rd T W (ev G ma))) (hb : PE X b (rd T W (ev G mb))) (hg : Gl X "list" := by rfl) (hg2 : Gl X "range" := by rfl)
    (hs : starEach [a, b] X.env = (false, eval a X.env) :: starEach [b] X.env := by rfl) (hs1 : starEach [b] X.env = (false, eval b X.env) :: starEach [] X.env := by rfl) (hpl : (backTo pos2 (starEach [b] X.env)).any (·.1) = false := by rfl)
    (hs2 : starEach [.Call (.Name "range" p2) [a, b] [] pos2] X.env = (false, eval (.Call (.Name "range" p2) [a, b] [] pos2) X.env) :: starEach [] X.env := by rfl) :
    PE X (.Call (.Name "list" p) [.Call (.Name "range" p2) [a, b] [] pos2] [] pos) (rd T W (ev G (.lrng (some ma) mb))) := by
  refine pe_imp (pe_listRg ok.calm hg hm (prg_2 hg2 hm2 ha hb hs hs1 hpl) hs2) fun σ H Q h => ?_
  obtain ⟨n, H0, ρ, ts, S, P⟩ := h
  have P : Post T W n σ ts ((ev G ma ρ).bind fun q e1 => (partO e1 q).bind fun i e2 => (ev G mb e2).bind fun r e3 => (partO e3 r).bind fun j e4 => lrngS i j e4) (Wants T n σ ts Q) := P
  refine rd_mono (rd_one S P) fun v H1 h => ?_
  obtain ⟨H01, ρ1, r, S1, P1⟩ := h
  cases r with
  | d x =>
    cases x with
    | int i =>
      have e : v = .int i := (S1.see (x := .int i) rfl).int
      subst e
      refine rd_mono (rd_one S1.drop P1) fun v2 H2 h => ?_
      obtain ⟨H02, ρ2, r2, S2, P2⟩ := h
      cases r2 with
      | d x =>
        cases x with
        | int j =>
          have e : v2 = .int j := (S2.see (x := .int j) rfl).int
          subst e
          exact ⟨i, j, rfl, rfl, lrng_fin S2.drop P2⟩
        | _ => exact P2.elim
      | _ => exact P2.elim
    | _ => exact P1.elim
  | _ => exact P1.elim
end
end Mi
end
section
set_option maxHeartbeats 4000000
namespace Mi
open PySem PySem.Spec PyProof.Rows L2
/-! ### the end: the law's def is called, nothing is tracked but the script -/
theorem cx_none {P : Program} {w : World} {outer : List PySem.Env} {H : Hp} {s s' : Shared} {u : Value} (h : L2.CX P w outer H s (fun _ _ _ => False) u s') : False := by
  unfold L2.CX at h
  obtain ⟨_, _, _, _, _, h⟩ := h
  exact h.2.2.2.2.2.2.2
/-- the frozen script -/
abbrev frzO (vs : List Value) (ns : List Int) : HO := .frz { cls := .type "list", data := .seq vs.toArray } (.lst (ns.map V.int))
section
variable {P : Program} {w : World} {K : PySem.W.Frag} {mg mb : Str → Option Value} {k : Nat} {fa a : Addr} {fd : FuncData} {x : Str} {sp : Sp} {s₁ : Shared} {vs : List Value} {ns : List Int}
theorem law_core (KX : K.In s₁.heap) (hns : s₁.heap.Ns mainGlobals mg) (hb : s₁.heap.Ns builtinsNs mb) (hbb : ∀ x : Str, x ≠ "__name__" → mb x = bootBuiltins x) (hlim : s₁.heap.NoLimit) (hg : s₁.gens = #[])
    (ha : s₁.heap.get? a = some { cls := .type "list", data := .seq vs.toArray }) (hr : Room k callerA) (F : ∀ base : Heap, K.In base → base.Ns mainGlobals mg → FnG P w K mg base k fa fd [x] sp) (hbind : ∀ (s : Shared) (u : Value), BindsTo s fd ⟨[u], []⟩ [(x, u)])
    (H : Hp) (hO : Only H) (hsp : sp [.ref a] H (fun v _ => v = .bl true) fun _ _ _ => False) (hok : HOk P w H s₁.heap) (hA : ∀ b, H b ≠ none → b = a) (hK : H a ≠ none → K.lookup a = none) :
    codeAny (model P w) callerA (.call (.ref fa) ⟨[.ref a], []⟩) (fun r s' => r = .ok (.ret (.bool true)) ∧ OldK s₁.heap s'.heap ∧ s'.os = s₁.os ∧ AllBare s'.gens) s₁ := by
  have free : ∀ {b : Addr} {o : Obj}, s₁.heap.get? b = some o → (∀ es ep, o.data ≠ .dict es ep) ∨ H b = none := by
    intro b o e
    by_cases z : H b = none
    · exact Or.inr z
    · have e2 := hA b z
      rw [e2, ha] at e
      cases e
      exact Or.inl fun _ _ q => nomatch q
  have dictF : ∀ {b : Addr} {o : Obj} {es : Array DictEntry} {ep : Nat}, s₁.heap.get? b = some o → o.data = .dict es ep → (hidT s₁.heap H).get? b = some o := by
    intro b o es ep e d
    rcases free e with z | z
    · exact absurd d (z es ep)
    · exact hidT_get e z
  have nsF : ∀ {b : Addr} {m : Str → Option Value}, s₁.heap.Ns b m → (hidT s₁.heap H).Ns b m := by
    intro b m hm
    obtain ⟨o, es, ep, e, d, q⟩ := hm
    exact ⟨o, es, ep, dictF e d, d, q⟩
  have inF : K.In (hidT s₁.heap H) := by
    intro b o e
    apply hidT_get (KX b o e)
    by_cases z : H b = none
    · exact z
    · have e2 := hA b z
      subst e2
      rw [hK z] at e
      cases e
  have limF : (hidT s₁.heap H).NoLimit := by
    obtain ⟨mc, h1, h2⟩ := hlim
    exact ⟨mc, nsF h1, h2⟩
  have modF : Mod K mg (hidT s₁.heap H) := ⟨inF, nsF hns, ⟨mb, nsF hb, hbb⟩, limF⟩
  have e0 : Env0 P w K mg (hidT s₁.heap H) callerA [] s₁ H := {
    frames := rfl
    mod := modF
    bs := fun b o e => of_hidT e
    bsz := Nat.le_of_eq (hidT_size _ _)
    funs := trivial
    frf := fun b z => by cases z
    hok := hok
    bare := .of_eq hg }
  apply codeAny_mono ((F _ inF (nsF hns)).run (us := [.ref a]) (vs := [.ref a]) hr rfl e0 (hbind s₁ (.ref a)) (.cons rfl .nil) hsp)
  intro res st h
  match res, h with
  | .error e, h => exact (cx_none h).elim
  | .ok .next, h => exact h.elim
  | .ok .brk, h => exact h.elim
  | .ok .cont, h => exact h.elim
  | .ok (.ret u), ⟨v, H', os, bare, un, hok', rv, q⟩ =>
    have q : v = .bl true := q
    subst q
    have eu : u = Value.bool true := rv
    subst eu
    refine ⟨rfl, OldK.of_keep ?_, os, bare⟩
    intro b o e
    rcases hO b with z | ⟨ob, xs, z⟩
    · exact un.keep b o e z (by simp [frs]) (by simp)
    · have g1 := (hok b _ z).1
      have g2 := (hok' b _ (un.frzs b ob _ z)).1
      rw [e] at g1
      cases g1
      exact g2
theorem law_callG (KX : K.In s₁.heap) (hns : s₁.heap.Ns mainGlobals mg) (hb : s₁.heap.Ns builtinsNs mb) (hbb : ∀ x : Str, x ≠ "__name__" → mb x = bootBuiltins x) (hlim : s₁.heap.NoLimit) (hg : s₁.gens = #[])
    (ha : s₁.heap.get? a = some { cls := .type "list", data := .seq vs.toArray }) (hi : IntsAre vs ns) (hl : ns.length ≤ sizeLine) (hr : Room k callerA)
    (F : ∀ base : Heap, K.In base → base.Ns mainGlobals mg → FnG P w K mg base k fa fd [x] sp) (hbind : ∀ (s : Shared) (u : Value), BindsTo s fd ⟨[u], []⟩ [(x, u)])
    (hsp : ∀ H : Hp, Only H → SqL K H a (ns.map V.int) → sp [.ref a] H (fun v _ => v = .bl true) fun _ _ _ => False) :
    codeAny (model P w) callerA (.call (.ref fa) ⟨[.ref a], []⟩) (fun r s' => r = .ok (.ret (.bool true)) ∧ OldK s₁.heap s'.heap ∧ s'.os = s₁.os ∧ AllBare s'.gens) s₁ := by
  have rv : Vals (ns.map V.int) vs := vals_ints hi
  have lz : (ns.map V.int).length ≤ sizeLine := by rw [List.length_map]; exact hl
  have lv : vs.length ≤ sizeLine := by rw [← rv.length]; exact lz
  cases hk : K.lookup a with
  | some o =>
    have e := KX a o hk
    rw [ha] at e
    cases e
    have o0 : Only (fun _ => none) := fun _ => Or.inl rfl
    refine law_core KX hns hb hbb hlim hg ha hr F hbind (fun _ => none) o0 (hsp _ o0 ?_) ?_ (fun b z => absurd rfl z) fun z => absurd rfl z
    · exact Or.inr ⟨_, vs.toArray, _, hk, rfl, rfl, rfl, by rw [List.size_toArray]; exact lv, by simpa using rv⟩
    · intro b u z
      cases z
  | none =>
    have at_ : ∀ b, (fun b => if b = a then some (frzO vs ns) else none : Hp) b = if b = a then some (frzO vs ns) else none := fun _ => rfl
    have o1 : Only (fun b => if b = a then some (frzO vs ns) else none) := by
      intro b
      by_cases q : b = a
      · exact Or.inr ⟨_, _, by rw [at_, if_pos q]⟩
      · exact Or.inl (by rw [at_, if_neg q])
    refine law_core KX hns hb hbb hlim hg ha hr F hbind _ o1 (hsp _ o1 (Or.inl (Or.inr ⟨{ cls := .type "list", data := .seq vs.toArray }, by rw [at_, if_pos rfl]⟩))) ?_ ?_ fun _ => hk
    · intro b u z
      by_cases q : b = a
      · rw [at_, if_pos q] at z
        cases z
        subst q
        exact ⟨ha, lz, vs, _, rv, ha⟩
      · rw [at_, if_neg q] at z
        cases z
    · intro b z
      by_cases q : b = a
      · exact q
      · have z : (if b = a then some (frzO vs ns) else none) ≠ none := z
        rw [if_neg q] at z
        exact absurd rfl z
end
/-- the goal behind a head, of a law's def that keeps its promise where no repr is under way -/
theorem walk_ofG {l : PySem.W.OpenLaw} {n k : Nat} {q : Program} {loose : List Str} {XP : (Str → Option Value) → Heap → Prop} {YP : World → Heap → Prop} {d : DefRec} {x : Str}
    (hn : l.most = some n) (hn2 : n ≤ sizeLine) (hdf : d.params.defaults = []) (hr : Room k callerA)
    (F : ∀ (w : World) (mg : Str → Option Value) (fa : Addr) (h : Heap), YP w h → h.Ns mainGlobals mg → mg d.name = some (.ref fa) →
      ∃ (K : PySem.W.Frag) (fd : FuncData) (sp : Sp), K.In h ∧ (∀ (s : Shared) (u : Value), BindsTo s fd ⟨[u], []⟩ [(x, u)]) ∧
        (∀ (H : Hp) (a : Addr) (ns : List Int), ns.length ≤ n → Only H → SqL K H a (ns.map V.int) → sp [.ref a] H (fun v _ => v = .bl true) fun _ _ _ => False) ∧
        ∀ base : Heap, K.In base → base.Ns mainGlobals mg → FnG l.prog w K mg base k fa fd [x] sp) :
    PySem.W.WalkO q loose XP YP l.row.toRowW d [] (fun f vs => PySem.call f vs) := by
  apply Att.attach_call hn hdf
  intro w s₀ s₁ mg mb fa o pm cd doc a vs ns G Y ho hd hcd hmg hobj hints hlen hg
  obtain ⟨K, fd, sp, KX, hb, hsp, hF⟩ := F w mg fa _ Y G.T.g hmg
  exact law_callG KX G.T.g G.T.b G.T.builtins G.T.nolimit hg hobj hints (Nat.le_trans hlen hn2) hr hF hb fun H hO hS => hsp H a ns hlen hO hS
end Mi
end
section
set_option maxHeartbeats 4000000
namespace Mi
open PySem PySem.Spec PyProof.Rows L2
/-! ### methods of instances -/
section
variable {X : Cx} {k : Nat} {f : Addr} {fd : FuncData} {ps : List Str} {sp : Sp} {E : XK} {σ : L2.St} {H : Hp} {Q : VK} {s : Shared} {pins : List (Addr × Obj)}
/-- a def is called from within a built-in -/
theorem run_in1 {us zs : List Value} {kw : List (Str × Value)} {vs : List V} (F : FnG X.prog X.w X.K X.mg X.base k f fd ps sp) (hr : Room (k + 1) X.A) (gd : X.A.guards = some []) (b : BindsTo s fd ⟨us, kw⟩ (ps.zip zs)) (hx : PassesAt (L2.CX X.prog X.w) X σ E)
    (I : Inv X pins σ H s) (r : Vals vs zs) (h : sp vs H Q E) : wpAny (model X.prog X.w) X.A.in1 (call (.ref f) us kw) (EP X pins σ Q) X.xe s := by
  apply wpAny_call
  apply codeAny_mono (F.run hr.in1 gd I.env0.in1 b r h)
  intro res st q
  match res, q with
  | .error _, q => exact hx pins H s _ _ I q
  | .ok (.ret _), q => exact I.after q
  | .ok .next, q => exact q.elim
  | .ok .brk, q => exact q.elim
  | .ok .cont, q => exact q.elim
end
/-- a method that may be asked of the instances of the class at cA c -/
structure CalM (P : Program) (w : World) (K : PySem.W.Frag) (mg : Str → Option Value) (base : Heap) (T : Tb) (F : Env → Out Rs) (k c m : Nat) : Prop where
  ex : ∃ np fa fd ps, FnG P w K mg base k fa fd ps (SpF T np F) ∧ Cls K (T.cA c) ∧ Meth K (T.cA c) (T.an m) fa ∧ (∀ (s : Shared) (us : List Value), K.In s.heap → us.length = np → BindsTo s fd ⟨us, []⟩ (ps.zip us)) ∧ ∀ l : List Sl, l.length ≠ np → F l = .no
section
variable {T : Tb} {W : WX} {X : Cx} {G : Gs} {x : Str} {p apos pos : Pos} {o e : Expr} {es : List Expr} {mo : MExp} {ms : List MExp} {m k : Nat}
theorem own_aux {n : En} {H0 H : Hp} {σ : L2.St} {ρ : Env} {ts : List Tmp} {v : V} {ra : Rs} {f : Nat} {Q : VK} (S : ST T n H0 H σ ρ ((v, ra) :: ts)) (P : Post T W n σ ts ((evs G ms ρ).bind fun rs e2 => callS G f (ra :: rs) e2) (Wants T n σ ts Q)) :
    rdA T W (evs G ms) σ H fun vs H2 => ∃ H0' ρ' rs, vs.length = rs.length ∧ ST T n H0' H2 σ ρ' ((v :: vs).zip (ra :: rs) ++ ts) ∧ Post T W n σ ts (callS G f (ra :: rs) ρ') (Wants T n σ ts Q) := by
  refine ⟨n, H0, ρ, _, S, ?_⟩
  cases ea : evs G ms ρ with
  | no => rw [ea] at P; exact P.elim
  | ex x e => rw [ea] at P; exact fun dd h0 h1 s => P dd h0 h1 s.drop
  | ok rs e1 =>
    rw [ea] at P
    exact fun H0' H1 vs hl S1 => ⟨H0', e1, rs, hl, S1.perm (List.perm_middle), P⟩
theorem r_own {pl : Sem Bool} (hm : ∀ c f, G.meth c m = some f → CalM X.prog X.w X.K X.mg X.base T (G.fn f) k c m) (hr : Room k X.A) (gd : X.A.guards = some []) (tk : Takes X W) (ho : PE X o (rd T W (ev G mo))) (ha : PA X (e :: es) (rdA T W (evs G ms)))
    (hst : starEach (e :: es) X.env = (false, eval e X.env) :: starEach es X.env := by rfl) (hpl : (backTo pos (starEach es X.env)).any (·.1) = false := by rfl)
    (ht : eval (.Call (.Attribute o (T.an m) apos) (e :: es) [] pos) X.env = (do
      let ov ← eval o X.env
      standAt apos.atName
      let (f, first) ← holding [ov] (getMethod ov (T.an m) pl)
      callWith pos f first (backTo pos (starEach (e :: es) X.env)) (backToKw pos (keywordEach [] X.env))) := by rfl) :
    PE X (.Call (.Attribute o (T.an m) apos) (e :: es) [] pos) (rd T W (ev G (.own mo m ms))) := by
  constructor
  intro pins s σ H Q I h
  obtain ⟨n, H0, ρ, ts, S, P⟩ := h
  have h1 := rd_one (da := ev G mo) (f := fun ro e1 => match ro.see e1 with
    | some (.ins c fs) => match G.meth c m with
      | some f => if (lookF fs m).isNone then (evs G ms e1).bind fun rs e2 => callS G f (ro :: rs) e2 else .no
      | none => .no
    | _ => .no) S P
  refine PySem.W.methodCall_KW (pl := pl) (thn (ho.run pins s σ H _ I h1) fun u s1 ⟨v, H1, I1, rv, H0', ρ', ra, S1, P1⟩ => ?_) ht
  split at P1
  · rename_i c fs hsee
    split at P1
    · rename_i f0 hf0
      split at P1
      · rename_i hl
        obtain ⟨np, fa, fd, ps, F, cl, me, bd, no⟩ := (hm c f0 hf0).ex
        obtain ⟨a, dx, vs0, rfl, ea, rf⟩ := (S1.see hsee).ins S1.sub
        obtain rfl : u = Value.ref a := rv
        refine getmeth_ok I1 ea cl me (rf.none (by simpa using hl)) ?_
        refine PySem.W.callWith_K (first := [.ref a]) (h₀ := X.base) I.ok.mod.kin me.kp (thn (ha.run pos pins s1 σ H1 _ I1 (own_aux S1 P1)) fun us s2 ⟨vs, H2, I2, r, H0'', ρ'', rs, l1, S2, P2⟩ => ⟨I2.kIn, ?_⟩) hst hpl
        have hsp := call_sp (vs := V.ref a :: vs) no (by simp [l1]) S2 P2
        have hlen := SpF.len _ _ _ _ hsp
        exact run_g (us := .ref a :: us) (zs := .ref a :: us) (vs := .ref a :: vs) F hr gd (bd s2 _ I2.kIn (by have := r.length; simp at hlen ⊢; omega)) (passAt tk σ) I2 (.cons rfl r) hsp
      · exact P1.elim
    · exact P1.elim
  · exact P1.elim
theorem r_own0 {pl : Sem Bool} (hm : ∀ c f, G.meth c m = some f → CalM X.prog X.w X.K X.mg X.base T (G.fn f) k c m) (hr : Room k X.A) (gd : X.A.guards = some []) (tk : Takes X W) (ho : PE X o (rd T W (ev G mo)))
    (ht : eval (.Call (.Attribute o (T.an m) apos) [] [] pos) X.env = (do
      let ov ← eval o X.env
      standAt apos.atName
      let (f, first) ← holding [ov] (getMethod ov (T.an m) pl)
      callWith pos f first (backTo pos (starEach [] X.env)) (backToKw pos (keywordEach [] X.env))) := by rfl) :
    PE X (.Call (.Attribute o (T.an m) apos) [] [] pos) (rd T W (ev G (.own mo m []))) := by
  constructor
  intro pins s σ H Q I h
  obtain ⟨n, H0, ρ, ts, S, P⟩ := h
  have h1 := rd_one (da := ev G mo) (f := fun ro e1 => match ro.see e1 with
    | some (.ins c fs) => match G.meth c m with
      | some f => if (lookF fs m).isNone then (evs G [] e1).bind fun rs e2 => callS G f (ro :: rs) e2 else .no
      | none => .no
    | _ => .no) S P
  refine PySem.W.methodCall_KW (pl := pl) (thn (ho.run pins s σ H _ I h1) fun u s1 ⟨v, H1, I1, rv, H0', ρ', ra, S1, P1⟩ => ?_) ht
  split at P1
  · rename_i c fs hsee
    split at P1
    · rename_i f0 hf0
      split at P1
      · rename_i hl
        obtain ⟨np, fa, fd, ps, F, cl, me, bd, no⟩ := (hm c f0 hf0).ex
        obtain ⟨a, dx, vs0, rfl, ea, rf⟩ := (S1.see hsee).ins S1.sub
        obtain rfl : u = Value.ref a := rv
        refine getmeth_ok I1 ea cl me (rf.none (by simpa using hl)) ?_
        have P2 : Post T W n σ ts (callS G f0 [ra] ρ') (Wants T n σ ts Q) := P1
        have hsp := call_sp (vs := [V.ref a]) (rs := [ra]) no rfl S1 P2
        have hlen := SpF.len _ _ _ _ hsp
        exact PySem.W.callWith_K0 (first := [.ref a]) I1.kIn me.kp (run_g (us := [.ref a]) (zs := [.ref a]) (vs := [.ref a]) F hr gd (bd s1 _ I1.kIn (by simpa using hlen)) (passAt tk σ) I1 (.cons rfl .nil) hsp)
      · exact P1.elim
    · exact P1.elim
  · exact P1.elim
end
/-! ### len -/
/-- .. a method that built-ins call: one level deeper -/
structure CalS (P : Program) (w : World) (K : PySem.W.Frag) (mg : Str → Option Value) (base : Heap) (T : Tb) (F : Env → Out Rs) (k c : Nat) (m : Str) : Prop where
  ex : (∀ l, F l = .no) ∨ ∃ j np fa fd ps, k = j + 1 ∧ FnG P w K mg base j fa fd ps (SpF T np F) ∧ Meth K (T.cA c) m fa ∧ (∀ (s : Shared) (us : List Value), K.In s.heap → us.length = np → BindsTo s fd ⟨us, []⟩ (ps.zip us)) ∧ ∀ l : List Sl, l.length ≠ np → F l = .no
section
variable {T : Tb} {W : WX} {X : Cx} {G : Gs} {p pos : Pos} {o : Expr} {mo : MExp} {k : Nat}
theorem callS_no {f : Nat} {rs : List Rs} {e : Env} (h : ∀ l, G.fn f l = .no) : callS G f rs e = .no := by
  unfold callS
  split
  · split
    · rw [h]
    · rfl
  · rfl
theorem len_fin {n : En} {H0 H : Hp} {σ : L2.St} {ρ : Env} {ts : List Tmp} {r : Rs} {v : V} {Q : VK} (S : ST T n H0 H σ ρ ((v, r) :: ts)) (P : Post T W n σ ts (lenR r ρ) (Wants T n σ ts Q)) : ∃ i : Int, v = .int i ∧ 0 ≤ i ∧ i ≤ 16000000 ∧ Q v H := by
  cases r with
  | fr o => exact P.elim
  | bo i => exact P.elim
  | d x =>
    cases x with
    | int i =>
      have P : Post T W n σ ts (if decide (0 ≤ i) && decide (i ≤ 16000000) then Out.ok (Rs.d (.int i)) ρ else .no) (Wants T n σ ts Q) := P
      split at P
      · rename_i hb
        rw [Bool.and_eq_true] at hb
        have rv : Rp T H0 v (.int i) := S.temp _ (List.mem_cons_self ..)
        have hq : Q v H := P H0 H v S
        cases rv
        exact ⟨i, rfl, of_decide_eq_true hb.1, of_decide_eq_true hb.2, hq⟩
      · exact P.elim
    | _ => exact P.elim
theorem r_len1 (ok : Ck T X) (hM : ∀ c f, G.meth c 1 = some f → CalS X.prog X.w X.K X.mg X.base T (G.fn f) k c "__len__") (hr : Room k X.A) (tk : Takes X W) (hb : X.mg "len" = none) (ho : PE X o (rd T W (ev G mo))) (hg : Gl X "len" := by rfl)
    (hst : starEach [o] X.env = (false, eval o X.env) :: starEach [] X.env := by rfl) (hpl : (backTo pos (starEach [] X.env)).any (·.1) = false := by rfl) : PE X (.Call (.Name "len" p) [o] [] pos) (rd T W (ev G (.len1 mo))) := by
  constructor
  intro pins s σ H Q I h
  obtain ⟨n, H0, ρ, ts, S, P⟩ := h
  have h1 := rd_one (da := ev G mo) (f := fun ro e1 => len1S G ro e1) S P
  refine wpAny_Call_Name_kw (ld_blt I hg hb PySem.boot_len ?_ (by decide) (by decide))
  have ha : PA X [o] (tCons (rd T W (ev G mo)) tNil) := pa_cons ho pa_nil hst
  refine PyProof.Rows.callWith_builtin1 (thn (ha.run pos pins s σ H (fun vs H1 => ∃ v, vs = [v] ∧ ∃ H0' ρ' ra, ST T n H0' H1 σ ρ' ((v, ra) :: ts) ∧ Post T W n σ ts (len1S G ra ρ') (Wants T n σ ts Q)) I (rd_mono h1 fun v H1 q => ⟨v, rfl, q⟩)) fun us s1 ⟨vs, H1, I1, r1, v, ev_, H0', ρ', ra, S1, P1⟩ => ?_) hst hpl
  subst ev_
  obtain ⟨u, rfl, rv⟩ := vals1 r1
  unfold len1S at P1
  split at P1
  · rename_i c fs hsee
    split at P1
    · rename_i f0 hf0
      rcases (hM c f0 hf0).ex with no | ⟨j, np, fa, fd, ps, ek, F, me, bd, no⟩
      · rw [callS_no no] at P1
        exact P1.elim
      · subst ek
        obtain ⟨a, dx, vs0, rfl, ea, rf⟩ := (S1.see hsee).ins S1.sub
        obtain rfl : u = Value.ref a := rv
        obtain ⟨mA, O, _⟩ := ins_get I1.hok ea
        obtain ⟨od, J, _⟩ := O.look
        have P2 : Post T W n σ ts (callS G f0 [ra] ρ') (Wants T n σ ts fun v H2 => ∃ i : Int, v = .int i ∧ 0 ≤ i ∧ i ≤ 16000000 ∧ Q v H2) := by
          cases ec : callS G f0 [ra] ρ' with
          | no => rw [ec] at P1; exact P1.elim
          | ex x e => rw [ec] at P1; exact P1
          | ok r e =>
            rw [ec] at P1
            exact fun H0'' H2 v S2 => len_fin S2 P1
        have hsp := call_sp (vs := [V.ref a]) (rs := [ra]) no rfl S1 P2
        have hlen := SpF.len _ _ _ _ hsp
        have run := run_in1 (us := [.ref a]) (zs := [.ref a]) (kw := []) (vs := [.ref a]) F hr ok.gd (bd s1 _ I1.kIn (by simpa using hlen)) (passAt tk σ) I1 (.cons rfl .nil) hsp
        refine PySem.Calls.call_function_entry kind_len plain_len entry_len (args_len1 _) ?_
        unfold Builtin.«len»
        refine wpAny_bind (m := oneArg "len" _) (wpAny_pure ?_)
        have ty : PySem.W.typeIn X.K (.ref fa) = some (.type "function") := by
          have := me.fn
          unfold PySem.W.isFn at this
          simpa using this
        have hc : ∀ {Q' : Option Value → Shared → Prop}, wpAny (model X.prog X.w) X.A.in1 (call (.ref fa) [.ref a]) (fun v s' => Q' (some v) s') X.xe s1 → wpAny (model X.prog X.w) X.A.in1 (callSpecial? (.ref a) (Str.ofString "__len__")) Q' X.xe s1 := fun q => by
          unfold callSpecial? specialOf
          refine wpAny_bind (wpAny_bind (J.type.here ((PySem.W.looks_findIn I1.kIn me.at_).here ?_)))
          refine wpAny_holding ?_
          refine wpAny_bind ((PySem.W.bind_fn I1.kIn _ ty).here ?_)
          exact wpAny_bind (wpAny_mono q (fun v s' z => wpAny_pure z) fun _ _ z => z)
        refine wpAny_bind (hc (wpAny_mono run (fun u s2 ⟨v2, H2, I2, rv2, i, e1, i0, i1, q⟩ => ?_) fun _ _ z => z))
        subst e1
        obtain ⟨t, rfl⟩ := (show ∃ t, u = Value.int i t from rv2)
        refine wpAny_bind (wpAny_holding (wpAny_pure ?_))
        refine wpAny_bind (wpAny_letGo ?_)
        rw [if_neg (by omega)]
        rw [if_neg (by omega)]
        exact wpAny_bind (wpAny_mkInt (wpAny_pure ⟨_, rfl, .int i, H2, I2.tok _, ⟨_, rfl⟩, q⟩))
    · exact P1.elim
  · rename_i y hns hsee
    have P2 : Post T W n σ ts (bltS .len [ra] ρ') (Wants T n σ ts Q) := by
      unfold bltS sees
      rw [hsee]
      exact P1
    exact callR_blt (W := W) ok .len (fun z => by cases z) pins s1 σ H1 [v] [u] Q I1 r1 ⟨σ, n, H0', ρ', ts, [ra], rfl, S1, P2⟩
  · exact P1.elim
end
end Mi
end
section
set_option maxHeartbeats 4000000
namespace Mi
open PySem PySem.Spec PyProof.Rows L2
/-! ### a slot more, for a new instance -/
section
variable {T : Tb} {W : WX} {n : En} {σ : L2.St} {H0 H : Hp} {ρ : Env} {ts us : List Tmp} {Q : VK}
theorem snoc_lt {α : Type} {l : List α} {a : α} {i : Nat} (h : i < l.length) : (l ++ [a])[i]? = l[i]? := List.getElem?_append_left h
theorem snoc_at {α : Type} {l : List α} {a : α} : (l ++ [a])[l.length]? = some a := by simp
theorem snoc_get {α : Type} {l : List α} {a b : α} {i : Nat} (h : (l ++ [a])[i]? = some b) : (i < l.length ∧ l[i]? = some b) ∨ (i = l.length ∧ a = b) := by
  by_cases c : i < l.length
  · rw [snoc_lt c] at h
    exact .inl ⟨c, h⟩
  · have hl := lt_of_get h
    simp at hl
    have e : i = l.length := by omega
    subst e
    rw [snoc_at] at h
    cases h
    exact .inr ⟨rfl, rfl⟩
theorem ST.push {p : Addr} {o : Ob} (S : ST T n H0 H σ ρ ((.ref p, .fr o) :: ts)) : ST T n H0 H (σ ++ [some (.ref p)]) (ρ ++ [.ow o]) ((.ref p, .bo ρ.length) :: ts) := by
  obtain ⟨q, eq, hn, h0, r⟩ := S.temp _ (List.mem_cons_self ..)
  have eq : V.ref p = .ref q := eq
  cases eq
  have sl := S.len
  have nd := S.dtt
  rw [tmpL_cons_fr] at nd
  have own : ∀ {i q}, OwnAt (σ ++ [some (.ref p)]) (ρ ++ [.ow o]) i q → (i < ρ.length ∧ OwnAt σ ρ i q) ∨ (i = ρ.length ∧ q = p) := fun {i q} ⟨a, s, b, c⟩ => by
    rcases snoc_get b with ⟨h1, h2⟩ | ⟨h1, h2⟩
    · rw [snoc_lt (by omega)] at a
      exact .inl ⟨h1, a, s, h2, c⟩
    · subst h1
      rw [← sl, snoc_at] at a
      cases a
      exact .inr ⟨rfl, rfl⟩
  exact {
    sub := S.sub
    s0 := S.s0
    len := by simp [sl]
    slot := fun i s hi => by
      rcases snoc_get hi with ⟨h1, h2⟩ | ⟨h1, h2⟩
      · obtain ⟨x, hx, rx⟩ := S.slot i s h2
        exact ⟨x, by rw [snoc_lt (by omega)]; exact hx, rx⟩
      · subst h1
        subst h2
        exact ⟨_, by rw [← sl, snoc_at], p, rfl, hn, h0, r⟩
    temp := fun t ht => by
      rcases List.mem_cons.mp ht with rfl | ht
      · exact ⟨by rw [← sl, snoc_at], _, snoc_at, fun z => nomatch z⟩
      · have h := S.temp t (List.mem_cons_of_mem _ ht)
        obtain ⟨v, r⟩ := t
        cases r with
        | d x => exact h
        | fr o => exact h
        | bo i =>
          obtain ⟨a, s, b, c⟩ := h
          have il := lt_of_get b
          exact ⟨by rw [snoc_lt (by omega)]; exact a, s, by rw [snoc_lt il]; exact b, c⟩
    dist := fun i j q hi hj => by
      rcases own hi with ⟨i1, i2⟩ | ⟨i1, i2⟩ <;> rcases own hj with ⟨j1, j2⟩ | ⟨j1, j2⟩
      · exact S.dist i j q i2 j2
      · subst j2
        exact (S.dts q (by rw [tmpL_cons_fr]; exact List.mem_cons_self ..) i i2).elim
      · subst i2
        exact (S.dts q (by rw [tmpL_cons_fr]; exact List.mem_cons_self ..) j j2).elim
      · omega
    dtt := by rw [tmpL_cons_bo]; exact (List.nodup_cons.mp nd).2
    dts := fun q hq i hi => by
      rw [tmpL_cons_bo] at hq
      rcases own hi with ⟨i1, i2⟩ | ⟨i1, i2⟩
      · exact S.dts q (by rw [tmpL_cons_fr]; exact List.mem_cons_of_mem _ hq) i i2
      · subst i2
        exact (List.nodup_cons.mp nd).1 hq
    pak := fun q hq => by
      obtain ⟨a, o', b⟩ := S.pak q hq
      have il := lt_of_get b
      exact ⟨by rw [snoc_lt (by omega)]; exact a, o', by rw [snoc_lt il]; exact b⟩
    keep := S.keep
    dom := S.dom
    new := S.new }
theorem ST.pop {v : V} {o : Ob} (S : ST T n H0 H (σ ++ [some v]) (ρ ++ [.ow o]) ts) (nb : ∀ t ∈ ts, t.2 ≠ .bo ρ.length) : ST T n H0 H σ ρ ((v, .fr o) :: ts) := by
  have sl : σ.length = ρ.length := by have := S.len; simpa using this
  obtain ⟨y, hy, p, ep, hn, h0, r⟩ := S.slot ρ.length (.ow o) snoc_at
  rw [← sl, snoc_at] at hy
  cases hy
  cases ep
  have up : ∀ {i q}, OwnAt σ ρ i q → i < ρ.length ∧ OwnAt (σ ++ [some (.ref p)]) (ρ ++ [.ow o]) i q := fun {i q} ⟨a, s, b, c⟩ => by
    have il := lt_of_get b
    exact ⟨il, by rw [snoc_lt (by omega)]; exact a, s, by rw [snoc_lt il]; exact b, c⟩
  have top : OwnAt (σ ++ [some (.ref p)]) (ρ ++ [.ow o]) ρ.length p := ⟨by rw [← sl, snoc_at], _, snoc_at, rfl⟩
  exact {
    sub := S.sub
    s0 := S.s0
    len := sl
    slot := fun i s hi => by
      have il := lt_of_get hi
      obtain ⟨x, hx, rx⟩ := S.slot i s (by rw [snoc_lt il]; exact hi)
      rw [snoc_lt (by omega)] at hx
      exact ⟨x, hx, rx⟩
    temp := fun t ht => by
      rcases List.mem_cons.mp ht with rfl | ht
      · exact ⟨p, rfl, hn, h0, r⟩
      · have h := S.temp t ht
        have nb := nb t ht
        obtain ⟨v, r⟩ := t
        cases r with
        | d x => exact h
        | fr o => exact h
        | bo i =>
          obtain ⟨a, s, b, c⟩ := h
          rcases snoc_get b with ⟨h1, h2⟩ | ⟨h1, h2⟩
          · rw [snoc_lt (by omega)] at a
            exact ⟨a, s, h2, c⟩
          · subst h1
            exact (nb rfl).elim
    dist := fun i j q hi hj => S.dist i j q (up hi).2 (up hj).2
    dtt := by
      rw [tmpL_cons_fr]
      exact List.nodup_cons.mpr ⟨fun h => S.dts p h _ top, S.dtt⟩
    dts := fun q hq i hi => by
      rw [tmpL_cons_fr] at hq
      obtain ⟨il, ho⟩ := up hi
      rcases List.mem_cons.mp hq with rfl | hq
      · have := S.dist i _ q ho top
        omega
      · exact S.dts q hq i ho
    pak := fun q hq => by
      obtain ⟨a, o', b⟩ := S.pak q hq
      rcases snoc_get b with ⟨h1, h2⟩ | ⟨h1, h2⟩
      · rw [snoc_lt (by omega)] at a
        exact ⟨a, o', h2⟩
      · cases h2
    keep := S.keep
    dom := S.dom
    new := S.new }
/-- the slots that results name are there -/
theorem bo_there {rs : List Rs} {vs : List V} (hl : vs.length = rs.length) (S : ST T n H0 H σ ρ (vs.zip rs ++ ts)) : ∀ i, .bo i ∈ rs → i < ρ.length := fun i h => by
  obtain ⟨j, hj⟩ := List.getElem?_of_mem h
  have jl := lt_of_get hj
  have hv : vs[j]? = some (vs[j]'(by omega)) := List.getElem?_eq_getElem _
  have hz : (vs.zip rs)[j]? = some (vs[j]'(by omega), .bo i) := by
    rw [List.getElem?_zip_eq_some]
    exact ⟨hv, hj⟩
  obtain ⟨_, s, b, _⟩ := S.temp _ (List.mem_append_left _ (List.mem_of_getElem? hz))
  exact lt_of_get b
theorem passS_bo {e : Env} {i : Nat} : passS e (.bo i) = (match e[i]? with
    | some (.sh x) => some (.sh x)
    | some (.ow o) => some (.pa o)
    | some (.pa o) => some (.pa o)
    | _ => none) := rfl
theorem passS_snoc {s : Sl} : ∀ {r : Rs}, (∀ i, r = .bo i → i < ρ.length) → passS (ρ ++ [s]) r = passS ρ r
  | .d _, _ => rfl
  | .fr _, _ => rfl
  | .bo i, h => by
    rw [passS_bo, passS_bo, snoc_lt (h i rfl)]
theorem passAll_snoc {s : Sl} : ∀ {rs : List Rs}, (∀ i, Rs.bo i ∈ rs → i < ρ.length) → passAll (ρ ++ [s]) rs = passAll ρ rs
  | [], _ => rfl
  | r :: rs, h => by
    unfold passAll
    rw [passS_snoc fun i e => h i (by rw [e]; exact List.mem_cons_self ..), passAll_snoc fun i e => h i (List.mem_cons_of_mem _ e)]
theorem backS_snoc {s t : Sl} {r : Rs} (h : ∀ i, r = .bo i → i < ρ.length) : backS (ρ ++ [s]) r t = backS ρ r t ++ [s] := by
  cases r with
  | d _ => cases t <;> rfl
  | fr _ => cases t <;> rfl
  | bo i =>
    have hi := h i rfl
    cases t with
    | pa o =>
      show (match (ρ ++ [s])[i]? with
        | some (.ow _) => (ρ ++ [s]).set i (.ow o)
        | some (.pa _) => (ρ ++ [s]).set i (.pa o)
        | _ => ρ ++ [s]) = (match ρ[i]? with
        | some (.ow _) => ρ.set i (.ow o)
        | some (.pa _) => ρ.set i (.pa o)
        | _ => ρ) ++ [s]
      rw [snoc_lt hi]
      cases hh : ρ[i]? with
      | none => rfl
      | some s0 => cases s0 <;> simp [List.set_append_left _ _ hi]
    | _ => rfl
theorem backAll_snoc {s : Sl} : ∀ {rs : List Rs} {l : List Sl} {ρ : Env}, (∀ i, Rs.bo i ∈ rs → i < ρ.length) → backAll (ρ ++ [s]) rs l = backAll ρ rs l ++ [s]
  | [], l, ρ, _ => by cases l <;> rfl
  | r :: rs, [], ρ, _ => rfl
  | r :: rs, t :: l, ρ, h => by
    show backAll (backS (ρ ++ [s]) r t) rs l = backAll (backS ρ r t) rs l ++ [s]
    rw [backS_snoc fun i e => h i (by rw [e]; exact List.mem_cons_self ..)]
    exact backAll_snoc fun i e => by rw [backS_len]; exact h i (List.mem_cons_of_mem _ e)
theorem lent_lt {L : Nat} : ∀ {rs : List Rs}, (∀ i, Rs.bo i ∈ rs → i < L) → ∀ i ∈ lent rs, i < L
  | [], _, i, h => by cases h
  | .d _ :: rs, hh, i, h => lent_lt (rs := rs) (fun j e => hh j (List.mem_cons_of_mem _ e)) i h
  | .fr _ :: rs, hh, i, h => lent_lt (rs := rs) (fun j e => hh j (List.mem_cons_of_mem _ e)) i h
  | .bo k :: rs, hh, i, h => by
    rcases List.mem_cons.mp h with rfl | h
    · exact hh i (List.mem_cons_self ..)
    · exact lent_lt (rs := rs) (fun j e => hh j (List.mem_cons_of_mem _ e)) i h
theorem back_top {o : Ob} {s : Sl} : ∃ o', backS (ρ ++ [.ow o]) (.bo ρ.length) s = ρ ++ [.ow o'] ∧ (∀ o2, s = .pa o2 → o' = o2) := by
  cases s with
  | pa o2 =>
    refine ⟨o2, ?_, fun o3 e => by cases e; rfl⟩
    show (match (ρ ++ [Sl.ow o])[ρ.length]? with
        | some (.ow _) => (ρ ++ [Sl.ow o]).set ρ.length (.ow o2)
        | some (.pa _) => (ρ ++ [Sl.ow o]).set ρ.length (.pa o2)
        | _ => ρ ++ [Sl.ow o]) = _
    rw [snoc_at]
    simp
  | un => exact ⟨o, rfl, fun _ e => nomatch e⟩
  | xc _ => exact ⟨o, rfl, fun _ e => nomatch e⟩
  | sh _ => exact ⟨o, rfl, fun _ e => nomatch e⟩
  | ow _ => exact ⟨o, rfl, fun _ e => nomatch e⟩
/-- what the making of an instance asks of __init__ -/
theorem make_sp {G : Gs} {c f np : Nat} {rs : List Rs} {vs : List V} (hn : ∀ l : List Sl, l.length ≠ np → G.fn f l = .no) (hi : G.init c = some f) (hl : vs.length = rs.length) (S : ST T n H0 H σ ρ (vs.zip rs ++ ts)) (nbt : ∀ t ∈ ts, ∀ i, t.2 = .bo i → i < ρ.length)
    (P : Post T W n σ ts (makeS G c rs ρ) (Wants T n σ ts Q)) (x dx : Addr) (hx : H x = none) (hdx : H dx = none) (ne : dx ≠ x) :
    SpF T np (G.fn f) (.ref x :: vs) (upd (upd H dx (.own x)) x (.ins (T.cA c) dx [])) (fun v H2 => v = .non ∧ Q (.ref x) H2) (WE W σ) := by
  have same : Same H (upd (upd H dx (.own x)) x (.ins (T.cA c) dx [])) := fun b o hb => by
    have b1 : b ≠ x := fun e => by rw [e, hx] at hb; cases hb
    have b2 : b ≠ dx := fun e => by rw [e, hdx] at hb; cases hb
    rw [upd_ne b1, upd_ne b2]
    exact hb
  have S1 := (S.alloc (o := .ins c []) same hx ⟨dx, [], upd_same, .nil⟩).push
  have bl := bo_there hl S
  have nbt' : ∀ t ∈ ts, t.2 ≠ .bo ρ.length := fun t ht e => by
    have := nbt t ht _ e
    omega
  have sl := S.len
  have P1 : Post T (fun c d _ H => W c d σ H) n (σ ++ [some (.ref x)]) ts (callS G f (.bo ρ.length :: rs) (ρ ++ [.ow (.ins c [])])) (Wants T n (σ ++ [some (.ref x)]) ts fun v H2 => v = .non ∧ Q (.ref x) H2) := by
    unfold makeS at P
    rw [hi] at P
    have P : Post T W n σ ts (if noTwice (lent rs) then
      match passAll ρ rs with
      | some l => match G.fn f (.pa (.ins c []) :: l) with
        | .ok (.d .non) (.pa (.ins c' fs) :: l') => if c' == c then .ok (.fr (.ins c fs)) (backAll ρ rs l') else .no
        | .ex x (_ :: l') => .ex x (backAll ρ rs l')
        | _ => .no
      | none => .no
    else .no) (Wants T n σ ts Q) := P
    split at P
    · rename_i ht
      have ht2 : noTwice (lent (Rs.bo ρ.length :: rs)) = true := by
        show (!(lent rs).contains ρ.length && noTwice (lent rs)) = true
        rw [ht, Bool.and_true]
        have : ρ.length ∉ lent rs := fun h => Nat.lt_irrefl _ (lent_lt bl _ h)
        simpa using this
      have pt : passS (ρ ++ [Sl.ow (.ins c [])]) (.bo ρ.length) = some (.pa (.ins c [])) := by
        rw [passS_bo, snoc_at]
      unfold callS
      rw [if_pos ht2]
      cases ep : passAll ρ rs with
      | none => rw [ep] at P; exact P.elim
      | some l =>
        rw [ep] at P
        have e1 : passAll (ρ ++ [Sl.ow (.ins c [])]) (Rs.bo ρ.length :: rs) = some (.pa (.ins c []) :: l) := by
          unfold passAll
          rw [pt, passAll_snoc bl, ep]
        rw [e1]
        have P : Post T W n σ ts (match G.fn f (.pa (.ins c []) :: l) with
        | .ok (.d .non) (.pa (.ins c' fs) :: l') => if c' == c then .ok (.fr (.ins c fs)) (backAll ρ rs l') else .no
        | .ex x (_ :: l') => .ex x (backAll ρ rs l')
        | _ => .no) (Wants T n σ ts Q) := P
        show Post T (fun c d _ H => W c d σ H) n (σ ++ [some (.ref x)]) ts (match G.fn f (.pa (.ins c []) :: l) with
          | .ok (.d x) l' => Out.ok (Rs.d x) (backAll (ρ ++ [Sl.ow (.ins c [])]) (Rs.bo ρ.length :: rs) l')
          | .ok (.fr o) l' => .ok (.fr o) (backAll (ρ ++ [Sl.ow (.ins c [])]) (Rs.bo ρ.length :: rs) l')
          | .ok (.bo _) _ => .no
          | .ex x l' => .ex x (backAll (ρ ++ [Sl.ow (.ins c [])]) (Rs.bo ρ.length :: rs) l')
          | .no => .no) _
        split at P
        · rename_i c' fs l' ef
          rw [ef]
          split at P
          · rename_i hc
            have hc : c' = c := by simpa using hc
            subst hc
            show Post T (fun c d _ H => W c d σ H) n (σ ++ [some (.ref x)]) ts (Out.ok (Rs.d .non) (backAll (backS (ρ ++ [Sl.ow (.ins c' [])]) (Rs.bo ρ.length) (.pa (.ins c' fs))) rs l')) _
            obtain ⟨o', eb, eo⟩ := back_top (ρ := ρ) (o := .ins c' []) (s := .pa (.ins c' fs))
            rw [eo _ rfl] at eb
            rw [eb, backAll_snoc bl]
            intro H0' H' v S2
            have rv : Rp T H0' v .non := S2.temp _ (List.mem_cons_self ..)
            cases rv
            exact ⟨rfl, P H0' H' _ (ST.pop S2.drop (by rw [backAll_len]; exact nbt'))⟩
          · exact P.elim
        · rename_i y s0 l' ef
          rw [ef]
          show Post T (fun c d _ H => W c d σ H) n (σ ++ [some (.ref x)]) ts (Out.ex y (backAll (backS (ρ ++ [Sl.ow (.ins c [])]) (Rs.bo ρ.length) s0) rs l')) _
          obtain ⟨o', eb, eo⟩ := back_top (ρ := ρ) (o := .ins c []) (s := s0)
          rw [eb, backAll_snoc bl]
          exact fun dd H0' H' S2 xr => P dd H0' H' (ST.pop S2 (by rw [backAll_len]; exact nbt')).drop xr
        · exact P.elim
    · exact P.elim
  exact call_sp (W := fun c d _ H => W c d σ H) (rs := .bo ρ.length :: rs) (vs := .ref x :: vs) hn (by simp [hl]) (S1.perm (by simp)) P1
end
end Mi
end
section
set_option maxHeartbeats 4000000
/-! the elements of a tuple backwards -/
namespace HT
open PySem PySem.Spec PyProof.Rows L2
section
variable {prog : Program} {w : World} {A : Around} {E : Value → Shared → Prop} {s : Shared}
theorem adjust_rev (n : Nat) : Builtin.Slice.sliceAdjust none none (-1) (n : Int) = ((n : Int) - 1, -1) := rfl
theorem places_rev (n : Nat) : Builtin.Slice.slicePlaces ((n : Int) - 1) (-1) (-1) = n := by
  unfold Builtin.Slice.slicePlaces
  rw [if_neg (by decide)]
  by_cases h : 0 < n
  · rw [if_pos (by omega)]
    have : ((n : Int) - 1 - -1 - 1) / (- -1) = (n : Int) - 1 := by
      rw [show (- -1 : Int) = 1 from rfl, Int.ediv_one]
      omega
    rw [this]
    omega
  · rw [if_neg (by omega)]
    omega
theorem sliceApplied_rev {sl : Addr} {vs : Value} {n : Nat} {Q : Int × Int × Nat → Shared → Prop} (hs : s.heap.IsSliceOf sl .none .none vs) (ps : IsPart vs (some (-1)))
    (h : Q ((n : Int) - 1, -1, n) s) : wpAny (model prog w) A (Builtin.Slice.sliceApplied (.ref sl) (pure (n : Int))) Q E s := by
  obtain ⟨os, hos, hcs, hds⟩ := id hs
  unfold Builtin.Slice.sliceApplied Builtin.Slice.sliceFields
  refine wpAny_bind (wpAny_bind (wpAny_field hos hds (x := .none) rfl (wpAny_bind (wpAny_field hos hds (x := .none) rfl (wpAny_bind (wpAny_field hos hds (x := vs) rfl (wpAny_pure ?_)))))))
  refine wpAny_bind (slicePart_ ps ?_)
  show wpAny _ _ (if ((-1 : Int) == 0) = true then _ else _) _ _ s
  rw [if_neg (by decide)]
  refine wpAny_bind (slicePart_none (wpAny_bind (slicePart_none (wpAny_bind (wpAny_pure ?_)))))
  show wpAny _ _ (match Builtin.Slice.sliceAdjust none none (-1) (n : Int) with | (lo, hi) => pure (lo, (-1 : Int), Builtin.Slice.slicePlaces lo hi (-1))) _ _ s
  rw [adjust_rev n]
  show wpAny _ _ (pure ((n : Int) - 1, (-1 : Int), Builtin.Slice.slicePlaces ((n : Int) - 1) (-1) (-1))) _ _ s
  rw [places_rev]
  exact wpAny_pure h
theorem filterMap_same {α β : Type} {f g : α → Option β} : ∀ {l : List α}, (∀ x ∈ l, f x = g x) → l.filterMap f = l.filterMap g
  | [], _ => rfl
  | x :: l, h => by
    have h1 := h x (List.mem_cons_self ..)
    have h2 := filterMap_same (f := f) (g := g) fun y hy => h y (List.mem_cons_of_mem _ hy)
    rw [List.filterMap_cons, List.filterMap_cons, h1, h2]
theorem pick_rev (xs : Array Value) : ((List.range xs.size).filterMap fun (m : Nat) => xs[(((xs.size : Nat) : Int) - 1 + (m : Int) * (-1)).toNat]?).toArray = xs.toList.reverse.toArray := by
  have e : ∀ m ∈ List.range xs.size, xs[(((xs.size : Nat) : Int) - 1 + (m : Int) * (-1)).toNat]? = xs.toList.reverse.toArray[((0 : Nat) : Int).toNat + m]? := by
    intro m hm
    have hm := List.mem_range.mp hm
    have : (((xs.size : Nat) : Int) - 1 + (m : Int) * (-1)).toNat = xs.size - 1 - m := by omega
    rw [this]
    rw [show ((0 : Nat) : Int).toNat + m = m by omega]
    have e1 : xs.toList.reverse.toArray[m]? = xs.toList.reverse[m]? := by simp
    rw [e1, List.getElem?_reverse (by simpa using hm)]
    simp
  have e2 := pick_gen xs.toList.reverse.toArray 0 xs.size
  have e3 : (List.range xs.size).filterMap (fun (m : Nat) => xs[(((xs.size : Nat) : Int) - 1 + (m : Int) * (-1)).toNat]?) = (List.range xs.size).filterMap (fun (m : Nat) => xs.toList.reverse.toArray[(((0 : Nat) : Int) + (m : Int) * 1).toNat]?) := by
    refine filterMap_same fun m hm => ?_
    rw [e m hm]
    rw [show ((0 : Nat) : Int).toNat + m = (((0 : Nat) : Int) + (m : Int) * 1).toNat by omega]
  rw [e3, e2, List.drop_zero]
  rw [List.take_of_length_le (by simp)]
theorem getItem_tuple_rev {t sl : Addr} {items : Array Value} {vs : Value} {Q : Value → Shared → Prop} (ht : IsTup s.heap t items) (hs : s.heap.IsSliceOf sl .none .none vs) (ps : IsPart vs (some (-1)))
    (h : Q (.ref s.heap.objs.size) { s with heap := s.heap.push { cls := .type "tuple", data := .seq items.toList.reverse.toArray } })
    (hsz : items.size ≤ sizeLine) : wpAny (model prog w) A (getItem (.ref t) (.ref sl)) Q E s := by
  have htake : sizeOk (.seq items.toList.reverse.toArray) := by
    show items.toList.reverse.toArray.size ≤ sizeLine
    simpa using hsz
  obtain ⟨os, hos, hcs, hds⟩ := id hs
  have hTs : s.TypeIs (.ref sl) "slice" := ⟨os, hos, hcs⟩
  unfold getItem
  try with_reducible refine wpAny_holding ?_
  first | refine wpAny_bind (wpAny_pure ?_) | skip
  refine wpAny_bind (wpAny_sequenceKey ht.typeIs (by decide) ?_)
  refine wpAny_bind (wpAny_callSpecial?_slot (name := Str.ofString "__getitem__") ht.typeIs PyProof.Rows.slot_tuple_getitem
    (wpAny_call_entry PyProof.Rows.slot_tuple_getitem ht.typeIs entry_tuple_getitem ?_ (args_tuple_getitem _ _)))
  show wpAny _ _ (Builtin.Tuple.tupleItemsOf (.ref t) >>= _) _ _ s
  refine wpAny_bind (tupleItemsOf_ ht ?_)
  refine wpAny_bind (wpAny_typeOf hTs ?_)
  rw [if_pos (by decide)]
  refine wpAny_bind (sliceApplied_rev hs ps ?_)
  have hno : ¬ ((((items.size : Nat) : Int) - 1 == 0 && (-1 : Int) == 1 && items.size == items.size) = true) := by
    intro q
    rw [Bool.and_eq_true, Bool.and_eq_true] at q
    exact absurd q.1.2 (by decide)
  show wpAny _ _ (if (((items.size : Nat) : Int) - 1 == 0 && (-1 : Int) == 1 && items.size == items.size) = true then _ else _) _ _ s
  rw [if_neg hno, pick_rev]
  first
    | exact wpAny_bind (m := Builtin.Tuple.tupleExact _) (wpAny_newObj_type (wpAny_pure ⟨_, rfl, wpAny_pure h⟩) htake)
    | exact wpAny_bind (m := Builtin.Tuple.tupleExact _) (wpAny_newObj_type (wpAny_bind (wpAny_pure (wpAny_pure ⟨_, rfl, wpAny_pure h⟩))) htake)
    | exact wpAny_bind (wpAny_bind (m := Builtin.Tuple.tupleExact _) (wpAny_newObj_type (wpAny_pure (wpAny_pure ⟨_, rfl, wpAny_pure h⟩)) htake))
    | exact wpAny_bind (wpAny_bind (m := Builtin.Tuple.tupleExact _) (wpAny_newObj_type (wpAny_pure ⟨_, rfl, wpAny_pure h⟩) htake))
end
end HT
namespace L2
open PySem PySem.Spec PyProof.Rows
section
variable {X : Cx}
def tRevA (K : PySem.W.Frag) (te : TE) : TE := fun σ H Q => te σ H fun x H1 => (∃ a xs, x = .ref a ∧ SqL K H1 a xs ∧ ∀ p, H1 p = none → Q (.ref p) (upd H1 p (.lst xs.reverse))) ∨ (∃ a xs, x = .ref a ∧ SqT K H1 a xs ∧ ∀ p, H1 p = none → Q (.ref p) (upd H1 p (.tup xs.reverse)))
theorem pe_revA {e : Expr} {te : TE} {k : Nat} {p1 p2 p3 pos : Pos} (he : PE X e te) : PE X (.Subscript e (.Slice none none (some (.UnaryOp .USub (.Constant (.int 1) k p1) p2)) p3) pos) (tRevA X.K te) := by
  refine ⟨fun pins s σ H Q I h => ?_⟩
  refine Subscript_ (thn (he.run pins s σ H _ I h) fun v s1 ⟨x, H1, I1, r1, q1⟩ => ?_)
  have hst : PO X (some (.UnaryOp .USub (.Constant (.int 1) k p1) p2)) (tPart (tUn (rU fun i => .int (-i)) (tC (.int 1)))) := po_some (pe_un un_neg pe_int)
  refine wpAny_Slice (thn (po_none.run pins s1 σ H1 (fun o H2 => o = none ∧ H2 = H1) I1 ⟨rfl, rfl⟩) fun vl s2 ⟨l, H2, I2, pl, el, e2⟩ => ?_)
  subst el e2
  refine thn (po_none.run pins s2 σ H2 (fun o H3 => o = none ∧ H3 = H2) I2 ⟨rfl, rfl⟩) fun vu s3 ⟨u, H3, I3, pu, eu, e3⟩ => ?_
  subst eu e3
  refine thn (hst.run pins s3 σ H3 (fun o H4 => o = some (-1) ∧ H4 = H3) I3 ⟨1, rfl, -1, rfl, rfl, rfl⟩) fun vs s4 ⟨o, H4, I4, ps, eo, e4⟩ => ?_
  subst eo e4
  have I5 : Inv X pins σ H4 { s4 with heap := s4.heap.push { cls := .type "slice", data := .fields #[vl, vu, vs] } } := I4.kept (t' := s4.toks) fun b ob q => Heap.get?_push_of_some _ q
  rcases q1 with ⟨a, xs, ex, hx, q⟩ | ⟨a, xs, ex, hx, q⟩
  · subst ex
    cases r1
    obtain ⟨its, r, ht, hz⟩ := I5.list hx
    have hlen := r.length
    show wpAny (model X.prog X.w) X.A (subscriptTail e (.Slice none none (some (.UnaryOp .USub (.Constant (.int 1) k p1) p2)) p3) (.ref a) (.ref s4.heap.objs.size)) (EP X pins σ Q) X.xe { s4 with heap := s4.heap.push { cls := .type "slice", data := .fields #[vl, vu, vs] } }
    refine tail_any (ops := [.ref a, .ref s4.heap.objs.size]) ht.isList.typeIs (PySem.slot_list_getitem.lookup) ?_ (by with_unfolding_all rfl)
    refine wpAny_getItem_list_slice ht.isList (Heap.IsSliceOf.new _ vl vu vs) pl pu ps (by decide) ?_ (by rw [List.size_toArray]; omega)
    rw [PySem.W.krv_pick]
    refine ⟨.ref _, _, I5.laid (t' := s4.toks) (o := .lst xs.reverse) (fun b ob q => Heap.get?_push_of_some _ q) (Nat.le_refl _) ?_, rfl, q _ (I5.hok.fresh (Nat.le_refl _))⟩
    exact ⟨by rw [List.length_reverse]; exact hz, _, 0, r.reverse, Heap.get?_push_size _ rfl⟩
  · subst ex
    cases r1
    cases pl
    cases pu
    obtain ⟨its, r, ht, hz⟩ := I5.tuple hx
    have hlen := r.length
    show wpAny (model X.prog X.w) X.A (subscriptTail e (.Slice none none (some (.UnaryOp .USub (.Constant (.int 1) k p1) p2)) p3) (.ref a) (.ref s4.heap.objs.size)) (EP X pins σ Q) X.xe { s4 with heap := s4.heap.push { cls := .type "slice", data := .fields #[.none, .none, vs] } }
    refine tail_any (ops := [.ref a, .ref s4.heap.objs.size]) ht.typeIs (PyProof.Rows.slot_tuple_getitem.lookup) ?_ (by with_unfolding_all rfl)
    refine HT.getItem_tuple_rev ht (Heap.IsSliceOf.new _ .none .none vs) ps ?_ (by rw [List.size_toArray]; omega)
    refine ⟨.ref _, _, I5.laid (t' := s4.toks) (o := .tup xs.reverse) (fun b ob q => Heap.get?_push_of_some _ q) (Nat.le_refl _) ?_, rfl, q _ (I5.hok.fresh (Nat.le_refl _))⟩
    exact ⟨by rw [List.length_reverse]; exact hz, _, r.reverse, IsTup.new _ _⟩
end
end L2
end
section
set_option maxHeartbeats 4000000
namespace Mi
open PySem PySem.Spec PyProof.Rows L2
/-! ### a class that is called -/
structure ClsK (P : Program) (w : World) (K : PySem.W.Frag) (mg : Str → Option Value) (base : Heap) (T : Tb) (F : Env → Out Rs) (k c np : Nat) (x : Str) : Prop where
  at_ : mg x = some (.ref (T.cA c))
  ex : ∃ fa, Mk K (T.cA c) fa ∧ ((∀ l, F l = .no) ∨ ∃ j fd ps, k = j + 1 ∧ FnG P w K mg base j fa fd ps (SpF T np F) ∧ ∀ (s : Shared) (us : List Value), K.In s.heap → us.length = np → BindsTo s fd ⟨us, []⟩ (ps.zip us))
  no : ∀ l : List Sl, l.length ≠ np → F l = .no
section
variable {T : Tb} {W : WX} {X : Cx} {G : Gs} {n : En} {σ : L2.St} {H0 H : Hp} {ρ : Env} {ts us : List Tmp} {Q : VK}
theorem ClsK.nm {k c f m : Nat} {x : Str} (h : ClsK X.prog X.w X.K X.mg X.base T (G.fn f) k c (m + 1) x) (hi : G.init c = some f) (hr : Room k X.A) (gd : X.A.guards = some []) (tk : Takes X W) : Nm X T W x m [] (makeS G c) := by
  obtain ⟨fa, M, q⟩ := h.ex
  refine ⟨.ref (T.cA c), fun σ vs H Q => ∀ x dx, H x = none → H dx = none → dx ≠ x → SpF T (m + 1) (G.fn f) (.ref x :: vs) (upd (upd H dx (.own x)) x (.ins (T.cA c) dx [])) (fun v H2 => v = .non ∧ Q (.ref x) H2) (WE W σ), h.at_, M.kp, ?_, ?_⟩
  · intro pins s σ H Q us ws vs zs I r rz l1 l2 t
    cases zs with
    | cons _ _ => cases l2
    | nil =>
      cases rz
      rw [List.append_nil] at t
      rcases q with no | ⟨j, fd, ps, ek, F, bd⟩
      · have f1 : H (s.heap.objs.size + 1) = none := I.hok.fresh (Nat.le_succ _)
        have f2 : H s.heap.objs.size = none := I.hok.fresh (Nat.le_refl _)
        obtain ⟨_, H0, ls, _, _, _, P⟩ := t _ _ f1 f2 (Nat.ne_of_lt (Nat.lt_succ_self _))
        rw [no] at P
        exact P.elim
      · subst ek
        exact make_g M F hr gd (fun s' x kk => bd s' (.ref x :: us) kk (by have := r.length; simp; omega)) (passAt tk σ) I r t
  · intro σ n H0 H ρ ts rs vs Q hl S P x dx hx hdx ne
    refine make_sp h.no hi hl S (fun t ht i e => ?_) P x dx hx hdx ne
    have q := S.temp t (List.mem_append_right _ ht)
    obtain ⟨v, r⟩ := t
    have e : r = .bo i := e
    subst e
    obtain ⟨_, s, b, _⟩ := q
    exact lt_of_get b
/-! ### the module's constants -/
theorem r_gint {x : Str} {i : Int} {pos : Pos} (hm : ∃ t, X.mg x = some (.int i t)) (hg : Gl X x := by rfl) (hd : (x == ("__debug__" : Str)) = false := by decide) : PE X (.Name x pos) (rd T W (ev G (.cst (.int i)))) := by
  obtain ⟨t, hm⟩ := hm
  exact r_c (pe_glob (v := .int i) hg hm ⟨t, rfl⟩ hd) fun _ => .int i
theorem r_gstr {x z : Str} {l : Tx} {pos : Pos} (hm : ∃ t, X.mg x = some (.str z t)) (h : z.cps.toList = l) (hg : Gl X x := by rfl) (hd : (x == ("__debug__" : Str)) = false := by decide) : PE X (.Name x pos) (rd T W (ev G (.cst (.str l)))) := by
  obtain ⟨t, hm⟩ := hm
  exact r_c (pe_glob (v := .str z) hg hm ⟨t, rfl⟩ hd) fun _ => by
    subst h
    exact .str z.cps.toList
theorem r_gref {x : Str} {a : Addr} {d : D} {pos : Pos} (hm : X.mg x = some (.ref a)) (r : ∀ H0, Rp T H0 (.ref a) d) (hg : Gl X x := by rfl) (hd : (x == ("__debug__" : Str)) = false := by decide) : PE X (.Name x pos) (rd T W (ev G (.cst d))) :=
  r_c (pe_glob (v := .ref a) hg hm rfl hd) r
/-! ### xs[::-1] -/
theorem r_rev (ok : Ck T X) {e : Expr} {m : MExp} {k : Nat} {p1 p2 p3 pos : Pos} (he : PE X e (rd T W (ev G m))) : PE X (.Subscript e (.Slice none none (some (.UnaryOp .USub (.Constant (.int 1) k p1) p2)) p3) pos) (rd T W (ev G (.rev m))) := by
  refine pe_imp (pe_revA he) fun σ H Q ⟨n, H0, ρ, ts, S, P⟩ => ?_
  have P : Post T W n σ ts ((ev G m ρ).bind fun ra e1 => sees1 revD ra e1) (Wants T n σ ts Q) := P
  refine rd_mono (rd_one S P) fun v H1 ⟨H0', ρ', ra, S1, P1⟩ => ?_
  obtain ⟨σ', n', H0'', ρ'', ts', a, r, S2, va, ef, P2⟩ := One.sees (W := W) (T := T) ⟨σ, n, H0', ρ', ts, ra, S1, P1⟩
  unfold revD at ef
  split at ef
  · rename_i xs
    cases ef
    obtain ⟨p, vs, rfl, h1, r1⟩ := va.lst S2.sub
    exact .inl ⟨p, vs, rfl, .of h1, fun q hq => Wants.fresh P2 S2 (Same.new hq) hq ⟨_, upd_same, r1.reverse⟩⟩
  · rename_i xs
    cases ef
    obtain ⟨p, vs, rfl, h1, r1⟩ := va.tup
    have hK := ok.hK
    rw [← hK] at h1
    refine .inr ⟨p, vs, rfl, Same.sqT S2.sub h1, fun q hq => ?_⟩
    refine P2 (upd H0'' q (.tup vs.reverse)) _ _ (ST.addD ((S2.grow (Same.new hq)).still upd_same (S2.still_free hq) (S2.entry_free hq) (fun i ho => ?_) (fun ht => ?_)) ?_)
    · obtain ⟨w, hw, _⟩ := S2.own_there ho
      rw [hq] at hw
      cases hw
    · obtain ⟨w, hw, _⟩ := S2.tmp_there ht
      rw [hq] at hw
      cases hw
    · exact .tup (.inl (.inl upd_same)) (r1.reverse.mono (Same.new (S2.still_free hq)))
  · cases ef
/-! ### the first place of a text -/
theorem findT_is {x : Tx} : ∀ {l : List Tx} {k j : Nat}, findT x l k = some j → ∃ m, j = k + m ∧ l[m]? = some x ∧ ∀ i, i < m → l[i]? ≠ some x
  | [], k, j, h => by cases h
  | y :: l, k, j, h => by
    unfold findT at h
    split at h
    · rename_i hy
      cases h
      have hy : y = x := by simpa using hy
      subst hy
      exact ⟨0, rfl, rfl, fun i hi => absurd hi (Nat.not_lt_zero _)⟩
    · rename_i hy
      obtain ⟨m, e, a, b⟩ := findT_is h
      refine ⟨m + 1, by omega, by simpa using a, fun i hi => ?_⟩
      cases i with
      | zero => intro z; have z : y = x := by simpa using z
                exact hy (by simpa using z)
      | succ i => simpa using b i (by omega)
theorem tx_inj {a b : Tx} (h : (⟨a.toArray⟩ : Str) = ⟨b.toArray⟩) : a = b := by
  have := congrArg (fun s : Str => s.cps.toList) h
  simpa using this
/-- a method that changes nothing -/
theorem met_args {m : Met} {ms : List MExp} {x : V} {ro : Rs} (hm : isMut m = false) (S : ST T n H0 H σ ρ ((x, ro) :: ts)) (P : Post T W n σ ts ((evs G ms ρ).bind fun rs e2 => metS m ro rs e2) (Wants T n σ ts Q)) :
    rdA T W (evs G ms) σ H fun vs H2 => ∃ H0' ρ' o xs r, (∃ e, ro.see e = some o) ∧ Rv T H0' H2 x o ∧ Rps T H0' vs xs ∧ ST T n H0' H2 σ ρ' ts ∧ metD m o xs = some r ∧ ∀ H0' H', Wants T n σ ts Q r ρ' H0' H' := by
  refine ⟨n, H0, ρ, _, S, ?_⟩
  cases ea : evs G ms ρ with
  | no => rw [ea] at P; exact P.elim
  | ex x e => rw [ea] at P; exact fun dd h0 h1 s => P dd h0 h1 s.drop
  | ok rs e1 =>
    rw [ea] at P
    intro H0' H1 vs hl S1
    have P : Post T W n σ ts (metS m ro rs e1) (Wants T n σ ts Q) := P
    unfold metS at P
    rw [hm, if_neg Bool.false_ne_true] at P
    cases eh : holds rs e1 with
    | none => rw [eh] at P; exact P.elim
    | some q =>
      obtain ⟨xs, e2⟩ := q
      rw [eh] at P
      obtain ⟨H0'', S2, r2⟩ := ST.holdsR hl S1 eh
      have P : Post T W n σ ts (match ro.see e2 with
        | some o => Out.of e2 (metD m o xs)
        | none => .no) (Wants T n σ ts Q) := P
      cases es : ro.see e2 with
      | none => rw [es] at P; exact P.elim
      | some o =>
        rw [es] at P
        have P : Post T W n σ ts (Out.of e2 (metD m o xs)) (Wants T n σ ts Q) := P
        cases em : metD m o xs with
        | none => rw [em] at P; exact P.elim
        | some r =>
          rw [em] at P
          exact ⟨H0'', e2, o, xs, r, ⟨e2, es⟩, S2.see es, r2, S2.drop, em, P⟩
theorem strs_map : ∀ (l : List Tx), strsOf (l.map .str) = some l
  | [] => rfl
  | s :: l => by
    show (match strsOf (l.map .str) with
      | some l => some (s :: l)
      | none => none) = _
    rw [strs_map l]
theorem rps_strs {H : Hp} : ∀ {l : List Tx} {vs : List V}, vs = l.map (fun s => V.str ⟨s.toArray⟩) → Rps T H vs (l.map .str)
  | [], _, rfl => .nil
  | s :: l, _, rfl => .cons (.str s) (rps_strs rfl)
theorem metD_tidx {ys xs : List D} {r : Rs} (h : metD .index (.tup ys) xs = some r) : ∃ z, xs = [.str z] ∧ ((strsOf ys).bind fun l => (findT z l 0).map fun k => Rs.d (.int k)) = some r := by
  cases xs with
  | nil => cases h
  | cons x l => cases l with
    | cons _ _ => cases x <;> cases h
    | nil => cases x with
      | str z => exact ⟨z, rfl, h⟩
      | _ => cases h
theorem metD_sidx {t : Tx} {xs : List D} {r : Rs} (h : metD .index (.str t) xs = some r) : ∃ c, xs = [.str [c]] ∧ ((findC c t 0).map fun k => Rs.d (.int k)) = some r := by
  cases xs with
  | nil => cases h
  | cons x l => cases l with
    | cons _ _ => cases x with
      | str z => cases z with
        | nil => cases h
        | cons c z => cases z <;> cases h
      | _ => cases h
    | nil => cases x with
      | str z => cases z with
        | nil => cases h
        | cons c z => cases z with
          | nil => exact ⟨c, rfl, h⟩
          | cons _ _ => cases h
      | _ => cases h
theorem metD_get2 {o : D} {y z : V} {H : Hp} {xs : List D} {r : Rs} (rx : Rps T H [y, z] xs) (h : metD .dget o xs = some r) : ∃ ks a b, o = .dic ks ∧ xs = [a, b] ∧ keyD a = true ∧ r = .d ((lookD ks a).getD b) := by
  cases rx with
  | cons ra rr => cases rr with
    | cons rb rr => cases rr with
      | nil => cases o with
        | dic ks =>
          rename_i a b
          have h : (if keyD a then some (Rs.d ((lookD ks a).getD b)) else none) = some r := h
          split at h
          · rename_i hk
            cases h
            exact ⟨ks, a, b, rfl, rfl, hk, rfl⟩
          · cases h
        | _ => cases h
/-- t.index(x), t a tuple of texts that stands in the written part -/
theorem r_tidx (ok : Ck T X) {o e : Expr} {p : Addr} {ob : Obj} {l : List Tx} {me : MExp} {apos cpos : Pos} (ho : PE X o (tC (.ref p))) (hk : X.K.lookup p = some ob) (hc : ob.cls = .type "tuple") (hd : ob.dict = none) (hq : ∀ H, SqT X.K H p (l.map fun s => V.str ⟨s.toArray⟩)) (ha : PA X [e] (rdA T W (evs G [me])))
    (hbase : attributeBase o "index" X.env (eval o X.env) = eval o X.env := by rfl)
    (hfew : ((backTo cpos (starEach [e] X.env)).all (fun x => !x.1) && (backToKw cpos (keywordEach [] X.env)).all (fun x => x.1.isSome)
      && decide (([e] : List Expr).length + ([] : List Keyword).length + (if ([] : List Keyword).isEmpty then 0 else 1) < 30)) = true := by rfl)
    (hline : (apos.endLine == cpos.line) = true := by rfl) (hs : starEach [e] X.env = (false, eval e X.env) :: starEach [] X.env := by rfl) (hplain : (backTo cpos (starEach [] X.env)).any (·.1) = false := by rfl) :
    PE X (.Call (.Attribute o "index" apos) [e] [] cpos) (rd T W (ev G (.met .index (.cst (.tup (l.map .str))) [me]))) := by
  refine pe_imp (pe_bm PySem.F.plainAttrs_tuple PySem.F.slot_tuple_index PySem.F.type_tuple_index mt_tup_index ho ha hbase hfew hline hs hplain) fun σ H Q h => ?_
  obtain ⟨n, H0, ρ, ts, S, P⟩ := h
  refine ⟨.inr (.inl ⟨rfl, ob, hk, hc, hd⟩), ?_⟩
  have P : Post T W n σ ts ((evs G [me] ρ).bind fun rs e2 => metS .index (.d (.tup (l.map .str))) rs e2) (Wants T n σ ts Q) := P
  have hq' := hq H0
  rw [ok.hK] at hq'
  have S1 : ST T n H0 H σ ρ ((.ref p, .d (.tup (l.map .str))) :: ts) := S.addD (.tup hq' (rps_strs rfl))
  refine rdA_mono (met_args rfl S1 P) fun vs H2 ⟨H0', ρ', o, xs, r, ⟨_, eo⟩, rv, rx, S2, em, w⟩ => ?_
  have eo : some (D.tup (l.map .str)) = some o := eo
  cases eo
  obtain ⟨z, rfl, em2⟩ := metD_tidx em
  rw [strs_map] at em2
  have em2 : ((findT z l 0).map fun k => Rs.d (.int k)) = some r := em2
  cases rx with
  | cons ra rr => cases rr with
    | nil => cases ra with
      | str z =>
        cases ef : findT z l 0 with
        | none => rw [ef] at em2; cases em2
        | some j =>
          rw [ef] at em2
          cases em2
          obtain ⟨m, e, a, b⟩ := findT_is ef
          rw [Nat.zero_add] at e
          subst e
          refine ⟨p, l.map (fun s => ⟨s.toArray⟩), ⟨z.toArray⟩, j, rfl, rfl, ?_, ?_, fun i hi hh => ?_, Wants.data w (.int _) S2⟩
          · have := hq H2
            rwa [show (l.map (fun s => (⟨s.toArray⟩ : Str))).map V.str = l.map fun s => V.str ⟨s.toArray⟩ by rw [List.map_map]; rfl]
          · rw [List.getElem?_map, a]
            rfl
          · rw [List.getElem?_map] at hh
            cases hl : l[i]? with
            | none => rw [hl] at hh; cases hh
            | some y =>
              rw [hl] at hh
              have hh : some (⟨y.toArray⟩ : Str) = some ⟨z.toArray⟩ := hh
              exact b i hi (by rw [hl, tx_inj (Option.some.inj hh)])
/-- 'abcde'.index(x): the text is written there, its signs are looked up one by one -/
theorem r_sidx (ok : Ck T X) {e : Expr} {t : Str} {j0 : Nat} {p0 : Pos} {l : Tx} {me : MExp} {apos cpos : Pos} (hl : t = ⟨l.toArray⟩) (hk : ∀ c k, findC c l 0 = some k → ∃ rest, Builtin.Str.occurrences ⟨l.toArray⟩ ⟨#[c]⟩ 0 (⟨l.toArray⟩ : Str).length 1 = k :: rest) (ha : PA X [e] (rdA T W (evs G [me])))
    (hbase : attributeBase (.Constant (.str t) j0 p0) "index" X.env (eval (.Constant (.str t) j0 p0) X.env) = eval (.Constant (.str t) j0 p0) X.env := by rfl)
    (hfew : ((backTo cpos (starEach [e] X.env)).all (fun x => !x.1) && (backToKw cpos (keywordEach [] X.env)).all (fun x => x.1.isSome)
      && decide (([e] : List Expr).length + ([] : List Keyword).length + (if ([] : List Keyword).isEmpty then 0 else 1) < 30)) = true := by rfl)
    (hline : (apos.endLine == cpos.line) = true := by rfl) (hs : starEach [e] X.env = (false, eval e X.env) :: starEach [] X.env := by rfl) (hplain : (backTo cpos (starEach [] X.env)).any (·.1) = false := by rfl) :
    PE X (.Call (.Attribute (.Constant (.str t) j0 p0) "index" apos) [e] [] cpos) (rd T W (ev G (.met .index (.cst (.str l)) [me]))) := by
  subst hl
  refine pe_imp (pe_bm PySem.F.plainAttrs_str PySem.F.slot_str_index PySem.F.type_str_index mt_sindex pe_str ha hbase hfew hline hs hplain) fun σ H Q h => ?_
  obtain ⟨n, H0, ρ, ts, S, P⟩ := h
  refine ⟨rfl, ?_⟩
  have P : Post T W n σ ts ((evs G [me] ρ).bind fun rs e2 => metS .index (.d (.str l)) rs e2) (Wants T n σ ts Q) := P
  have S1 : ST T n H0 H σ ρ ((.str ⟨l.toArray⟩, .d (.str l)) :: ts) := S.addD (.str l)
  refine rdA_mono (met_args rfl S1 P) fun vs H2 ⟨H0', ρ', o, xs, r, ⟨_, eo⟩, rv, rx, S2, em, w⟩ => ?_
  have eo : some (D.str l) = some o := eo
  cases eo
  obtain ⟨c, rfl, em2⟩ := metD_sidx em
  cases rx with
  | cons ra rr => cases rr with
    | nil => cases ra with
      | str z =>
        cases ef : findC c l 0 with
        | none => rw [ef] at em2; cases em2
        | some k =>
          rw [ef] at em2
          cases em2
          obtain ⟨rest, hr⟩ := hk c k ef
          exact ⟨_, _, k, rest, rfl, rfl, hr, Wants.data w (.int _) S2⟩
theorem findC_is {c : Nat} : ∀ {t : Tx} {k j : Nat}, findC c t k = some j → ∃ m, j = k + m ∧ t[m]? = some c
  | [], k, j, h => by cases h
  | b :: t, k, j, h => by
    unfold findC at h
    split at h
    · rename_i hb
      cases h
      have hb : b = c := by simpa using hb
      subst hb
      exact ⟨0, rfl, rfl⟩
    · obtain ⟨m, e, a⟩ := findC_is h
      exact ⟨m + 1, by omega, by simpa using a⟩
/-! ### dicts -/
theorem rdA_two {m1 m2 : MExp} {R : List V → Hp → Prop} (h : rdA T W (evs G [m1, m2]) σ H R) : rd T W (ev G m1) σ H fun y H2 => rd T W (ev G m2) σ H2 fun z H3 => R [y, z] H3 := by
  obtain ⟨n, H0, ρ, ts, S, P⟩ := h
  refine ⟨n, H0, ρ, ts, S, ?_⟩
  have P : Post T W n σ ts ((ev G m1 ρ).bind fun r e1 => ((ev G m2 e1).bind fun r2 e2 => (Out.ok [] e2).bind fun rs e3 => .ok (r2 :: rs) e3).bind fun rs e2 => .ok (r :: rs) e2) _ := P
  cases ea : ev G m1 ρ with
  | no => rw [ea] at P; exact P.elim
  | ex x e => rw [ea] at P; exact P
  | ok r e1 =>
    rw [ea] at P
    intro H0' H1 v S1
    have P : Post T W n σ ts (((ev G m2 e1).bind fun r2 e2 => Out.ok [r2] e2).bind fun rs e2 => .ok (r :: rs) e2) _ := P
    refine ⟨n, H0', e1, _, S1, ?_⟩
    cases eb : ev G m2 e1 with
    | no => rw [eb] at P; exact P.elim
    | ex x e => rw [eb] at P; exact fun dd h0 h1 s => P dd h0 h1 s.drop
    | ok r2 e2 =>
      rw [eb] at P
      intro H0'' H2 v2 S2
      exact P H0'' H2 [v, v2] rfl (S2.perm (List.Perm.swap ..))
theorem r_dget2 (ok : Ck T X) {o e f : Expr} {mo me mf : MExp} {apos cpos : Pos} (ho : PE X o (rd T W (ev G mo))) (he : PE X e (rd T W (ev G me))) (hf : PE X f (rd T W (ev G mf))) (m2 : M2 X o "get" apos e f cpos := by exact ⟨by rfl, by rfl, by rfl, by rfl⟩) :
    PE X (.Call (.Attribute o "get" apos) [e, f] [] cpos) (rd T W (ev G (.met .dget mo [me, mf]))) := by
  refine pe_imp (pe_dget2 (Nat.lt_of_le_of_lt (Nat.add_le_add_left (by decide) _) ok.un) ho he hf m2) fun σ H Q ⟨n, H0, ρ, ts, S, P⟩ => ?_
  have P : Post T W n σ ts ((ev G mo ρ).bind fun ro e1 => if metOk .dget ro e1 then (evs G [me, mf] e1).bind fun rs e2 => metS .dget ro rs e2 else .no) (Wants T n σ ts Q) := P
  refine rd_mono (rd_one S P) fun v H1 ⟨H0', ρ', ra, S1, P1⟩ => ?_
  split at P1
  · rename_i hok
    have hok : (match ra.see ρ' with
      | some x => kindOk .dget x
      | none => false) = true := hok
    cases es : ra.see ρ' with
    | none => rw [es] at hok; cases hok
    | some x =>
      rw [es] at hok
      cases x with
      | dic ks =>
        obtain ⟨a, kvs, rfl, h1, r1⟩ := (S1.see es).dic S1.sub
        refine ⟨a, rfl, .inl ⟨kvs, .inl h1⟩, rd_mono (rdA_two (rdA_mono (Q' := fun vs H3 => ∀ y z, vs = [y, z] → ∃ o, DGet H3 a y o ∧ Q (o.getD z) H3) (met_args rfl S1 P1) fun vs H2 ⟨H0'', ρ'', o2, xs, r, _, rv, rx, S2, em, w⟩ y z ev_ => ?_)) fun y H2 q => rd_mono q fun z H3 q => q y z rfl⟩
        subst ev_
        obtain ⟨ks2, xa, xb, rfl, rfl, hkey, rfl⟩ := metD_get2 rx em
        obtain ⟨p2, vs2, e2, h2, r2⟩ := rv.dic S2.sub
        cases e2
        cases rx with
        | cons ry rr => cases rr with
          | cons rz rr =>
            obtain ⟨k, rfl, kr⟩ := ky_of ry hkey
            obtain ⟨l1, l2⟩ := look_rp r2 kr
            refine ⟨valV vs2 k, DGet.k h2, ?_⟩
            cases el : lookD ks2 xa with
            | none =>
              rw [l1 el]
              rw [el] at w
              exact Wants.data w rz S2
            | some yy =>
              obtain ⟨v2, hv, rv2⟩ := l2 yy el
              rw [hv]
              rw [el] at w
              exact Wants.data w rv2 S2
      | _ => cases hok
  · exact P1.elim
/-- {} -/
theorem r_dic0 {pos : Pos} : PE X (.Dict [] [] pos) (rd T W (ev G (.dic [] []))) := pe_imp pe_dnewK fun σ H Q ⟨n, H0, ρ, ts, S, P⟩ p hp => by
  have P : Post T W n σ ts (Out.ok (Rs.fr (.dic [])) ρ) (Wants T n σ ts Q) := P
  exact Wants.fresh P S (Same.new hp) hp ⟨[], upd_same, .nil⟩
/-- {k: v, ..} of constants -/
theorem r_dicc {keys : List (Option Expr)} {values : List Expr} {trs : List (TE × TE)} {pos : Pos} (kvs : List (Key × V)) (kds : List (D × D)) (h : PPs X pos keys values trs) (ht : ∀ σ H Q, Q (kvs.map fun kv => (kV kv.1, kv.2)) H → tPairs trs σ H Q) (hr : ∀ H, RpK T H (mergeK [] kvs) kds)
    (hall : keys.all (·.isSome) = true := by rfl) (hl : keys.length = values.length := by rfl) (h0 : keys ≠ [] := by simp) (h15 : keys.length ≤ 15 := by decide) (hlen : kvs.length ≤ 15 := by decide) : PE X (.Dict keys values pos) (rd T W (ev G (.cst (.dic kds)))) :=
  pe_imp (pe_disp h hall hl h0 h15) fun σ H Q ⟨n, H0, ρ, ts, S, P⟩ p hp => ht σ _ _ ⟨upd_same, kvs, rfl, hlen, by
    have e : upd (upd H p (.dK [])) p (.dK (mergeK [] kvs)) = upd H p (.dK (mergeK [] kvs)) := by
      funext b
      by_cases z : b = p
      · subst z; rw [upd_same, upd_same]
      · rw [upd_ne z, upd_ne z, upd_ne z]
    rw [e]
    have S1 := S.alloc (o := .dic kds) (Same.new hp) hp ⟨_, upd_same, hr H0⟩
    obtain ⟨H0', S2⟩ := ST.holdR (x := .dic kds) S1 rfl
    exact P H0' _ _ S2⟩
theorem pe_negc {i : Int} {j : Nat} {p1 p2 : Pos} : PE X (.UnaryOp .USub (.Constant (.int i) j p1) p2) (tC (.int (-i))) := pe_imp (pe_un un_neg pe_int) fun σ H Q q => ⟨i, rfl, q⟩
end
end Mi
end
section
set_option maxHeartbeats 4000000
namespace Mi
open PySem PySem.Spec PyProof.Rows L2
/-- a class's own statements -/
def clsB : Stmt → List Stmt
  | .ClassDef (body := b) .. => b
  | _ => []
/-! ### names of attributes -/
def anT (l : List Str) (i : Nat) : Str := (l[i]?).getD ⟨#[0, i]⟩
theorem an_inj (l : List Str) (h1 : l.Nodup) (h2 : ∀ s ∈ l, s.cps[0]? ≠ some 0) (i j : Nat) (h : anT l i = anT l j) : i = j := by
  unfold anT at h
  have far : ∀ {k q : Nat} {s : Str}, l[k]? = some s → s ≠ ⟨#[0, q]⟩ := fun {k q s} hk e => h2 s (List.mem_of_getElem? hk) (by rw [e]; rfl)
  cases hi : l[i]? with
  | none =>
    rw [hi] at h
    cases hj : l[j]? with
    | none =>
      rw [hj] at h
      have h : (⟨#[0, i]⟩ : Str) = ⟨#[0, j]⟩ := h
      have h3 := congrArg (fun s : Str => s.cps.toList) h
      simpa using h3
    | some s =>
      rw [hj] at h
      exact (far hj h.symm).elim
  | some s =>
    rw [hi] at h
    cases hj : l[j]? with
    | none =>
      rw [hj] at h
      exact (far hi h).elim
    | some s2 =>
      rw [hj] at h
      have h : s = s2 := h
      subst h
      have il := lt_of_get hi
      have jl := lt_of_get hj
      rw [List.getElem?_eq_getElem il] at hi
      rw [List.getElem?_eq_getElem jl] at hj
      exact (List.getElem_inj h1).mp ((Option.some.inj hi).trans (Option.some.inj hj).symm)
/-! ### the head: facts and one truth more; the interpreter's own statics lie in the part that is looked at -/
def asE (n : Nat) (g : Addr → Option Obj) : List Addr := He.asD g n ++ [PySem.cStatics, PySem.sysModules]
def obsE (n : Nat) (fa : List He.Fa) (fn : List He.DefD) (ex : PySem.W.Frag → Bool) (g : Addr → Option Obj) : He.AlD × Bool := (He.obsD fa fn (He.frG g (asE n g)), ex (He.frG g (asE n g)))
def hookE (n : Nat) (fa : List He.Fa) (fn : List He.DefD) (ex : PySem.W.Frag → Bool) : PySem.W.Hook where
  α := He.AlD × Bool
  obs := fun s => obsE n fa fn ex s.heap.get?
  val := fun _ => (He.valD fn, true)
  says := fun _ h => ∃ K : PySem.W.Frag, K.In h ∧ He.SaysD fa fn K ∧ ex K = true
  of := fun _ _ e => ⟨_, He.frG_in, congrArg Prod.fst e, congrArg Prod.snd e⟩
  keeps := fun _ _ _ ⟨K, hK, c, d⟩ k => ⟨K, PySem.W.Frag.In.keeps hK k, c, d⟩
theorem obsE_eq {n : Nat} {fa : List He.Fa} {fn : List He.DefD} {ex : PySem.W.Frag → Bool} {g : Addr → Option Obj} {s : Shared} (h : ∀ a, g a = s.heap.get? a) : obsE n fa fn ex g = (hookE n fa fn ex).obs s := by
  have e : g = s.heap.get? := funext h
  rw [e] <;> rfl
/-- the interpreter's table of modules is a dict -/
def smB (K : PySem.W.Frag) : Bool := match K.lookup PySem.sysModules with
  | some o => decide (o.cls = .type "dict")
  | none => false
theorem smB_ok {K : PySem.W.Frag} (h : smB K = true) : Sm K := by
  unfold smB at h
  split at h
  · rename_i o e
    exact ⟨o, e, of_decide_eq_true h⟩
  · cases h
/-! ### a tuple of texts of the module -/
def tupN (K : PySem.W.Frag) (x : Str) (l : List Tx) : Bool := He.tupB K x (l.map fun s => .str ⟨s.toArray⟩) && (match K.lookup (He.ga K x) with
  | some ⟨.type c, none, _, _⟩ => decide (c = "tuple")
  | _ => false)
structure GTup (K : PySem.W.Frag) (mg : Str → Option Value) (x : Str) (l : List Tx) : Prop where
  ex : ∃ p ob, mg x = some (.ref p) ∧ K.lookup p = some ob ∧ ob.cls = .type "tuple" ∧ ob.dict = none ∧ ∀ H, SqT K H p (l.map fun s => V.str ⟨s.toArray⟩)
theorem gtup_ok {K : PySem.W.Frag} {mg : Str → Option Value} {x : Str} {l : List Tx} (hm : mg x = some (.ref (He.ga K x))) (h : tupN K x l = true) : GTup K mg x l := by
  unfold tupN at h
  rw [Bool.and_eq_true] at h
  obtain ⟨h1, h2⟩ := h
  cases q : K.lookup (He.ga K x) with
  | none => rw [q] at h2; cases h2
  | some o =>
    obtain ⟨oc, od, dt, osl⟩ := o
    rw [q] at h2
    cases oc with
    | type c =>
      cases od with
      | some _ => cases h2
      | none =>
        have e : c = "tuple" := of_decide_eq_true h2
        refine ⟨_, _, hm, q, by rw [e], rfl, fun H => ?_⟩
        have := He.tupB_ok h1 H
        rw [List.map_map] at this
        exact this
    | _ => cases h2
theorem sidx_abcde (c k : Nat) (h : findC c [97, 98, 99, 100, 101] 0 = some k) : ∃ rest, Builtin.Str.occurrences ⟨([97, 98, 99, 100, 101] : Tx).toArray⟩ ⟨#[c]⟩ 0 (⟨([97, 98, 99, 100, 101] : Tx).toArray⟩ : Str).length 1 = k :: rest := by
  obtain ⟨m, e, a⟩ := findC_is h
  have hc := List.mem_of_getElem? a
  simp at hc
  rcases hc with rfl | rfl | rfl | rfl | rfl <;> (cases h; exact ⟨[], by decide +kernel⟩)
section
variable {T : Tb} {W : WX} {X : Cx} {G : Gs} {x : Str} {p pos : Pos} {e : Expr} {es : List Expr} {ms : List MExp} {m k cc f : Nat} {l : List Tx}
theorem r_gtup (ok : Ck T X) (g : GTup X.K X.mg x l) (hg : Gl X x := by rfl) (hd : (x == ("__debug__" : Str)) = false := by decide) : PE X (.Name x pos) (rd T W (ev G (.cst (.tup (l.map .str))))) := by
  obtain ⟨p, ob, hm, hk, hc, hn, hq⟩ := g.ex
  exact r_gref hm (fun H0 => .tup (by have := hq H0; rwa [ok.hK] at this) (rps_strs rfl)) hg hd
theorem r_gtidx (ok : Ck T X) (g : GTup X.K X.mg x l) {me : MExp} {apos cpos : Pos} (ha : PA X [e] (rdA T W (evs G [me])))
    (hg : Gl X x := by rfl) (hd : (x == ("__debug__" : Str)) = false := by decide) (hbase : attributeBase (.Name x p) "index" X.env (eval (.Name x p) X.env) = eval (.Name x p) X.env := by rfl)
    (hfew : ((backTo cpos (starEach [e] X.env)).all (fun x => !x.1) && (backToKw cpos (keywordEach [] X.env)).all (fun x => x.1.isSome)
      && decide (([e] : List Expr).length + ([] : List Keyword).length + (if ([] : List Keyword).isEmpty then 0 else 1) < 30)) = true := by rfl)
    (hline : (apos.endLine == cpos.line) = true := by rfl) (hs : starEach [e] X.env = (false, eval e X.env) :: starEach [] X.env := by rfl) (hplain : (backTo cpos (starEach [] X.env)).any (·.1) = false := by rfl) :
    PE X (.Call (.Attribute (.Name x p) "index" apos) [e] [] cpos) (rd T W (ev G (.met .index (.cst (.tup (l.map .str))) [me]))) := by
  obtain ⟨p0, ob, hm, hk, hc, hn, hq⟩ := g.ex
  exact r_tidx ok (pe_glob (v := .ref p0) hg hm rfl hd) hk hc hn hq ha hbase hfew hline hs hplain
theorem r_mk (c : CkG T X W) (h : ClsK X.prog X.w X.K X.mg X.base T (G.fn f) k cc (m + 1) x) (hr : Room k X.A) (ha : PA X (e :: es) (rdA T W (evs G ms))) (hi : G.init cc = some f := by rfl) (hm : ms.length = m := by rfl) (hg : Gl X x := by rfl) (hdb : (x == ("__debug__" : Str)) = false := by decide)
    (he : starEach (e :: es) X.env = (false, eval e X.env) :: starEach es X.env := by rfl) (hpl : (backTo pos (starEach es X.env)).any (·.1) = false := by rfl) : PE X (.Call (.Name x p) (e :: es) [] pos) (rd T W (ev G (.mk cc ms))) :=
  nm_pos (h.nm hi hr c.gd c.tk) hm ha hg hdb he hpl
end
end Mi
end
section
set_option maxHeartbeats 4000000
/-! raise, try .. except X as n -/
namespace Mi
open PySem PySem.Spec PyProof.Rows L2
/-! ### the table with a raised thing that is handled -/
def Tb.hot (T : Tb) (a : Addr) (d : Option Addr) (cls : Value) : Tb := ⟨T.K, T.an, T.cA, T.inj, some (a, d, cls)⟩
structure TbEq (T T' : Tb) : Prop where
  k : T.K = T'.K
  n : ∀ i, T.an i = T'.an i
  c : ∀ i, T.cA i = T'.cA i
theorem Tb.hotEq (T : Tb) (a : Addr) (d : Option Addr) (cls : Value) : TbEq T (T.hot a d cls) := ⟨rfl, fun _ => rfl, fun _ => rfl⟩
theorem Tb.coolEq (T : Tb) (a : Addr) (d : Option Addr) (cls : Value) : TbEq (T.hot a d cls) T := ⟨rfl, fun _ => rfl, fun _ => rfl⟩
section
variable {T T' : Tb} {H : Hp}
mutual
theorem Rp.conv (q : TbEq T T') {v : V} {x : D} (h : Rp T H v x) : Rp T' H v x := by
  cases h with
  | non => exact .non
  | bl b => exact .bl b
  | int i => exact .int i
  | str s => exact .str s
  | tup a b => exact .tup (q.k ▸ a) (Rps.conv q b)
  | lst a b => exact .lst a (Rps.conv q b)
  | dic a b => exact .dic a (RpK.conv q b)
  | ins a b => rw [q.c] at a; exact .ins a (RpF.conv q b)
  | scr a => exact .scr (q.k ▸ a)
theorem Rps.conv (q : TbEq T T') {v : List V} {x : List D} (h : Rps T H v x) : Rps T' H v x := by
  cases h with
  | nil => exact .nil
  | cons a b => exact .cons (Rp.conv q a) (Rps.conv q b)
theorem RpK.conv (q : TbEq T T') {v : List (Key × V)} {x : List (D × D)} (h : RpK T H v x) : RpK T' H v x := by
  cases h with
  | nil => exact .nil
  | cons k a b => exact .cons k (Rp.conv q a) (RpK.conv q b)
theorem RpF.conv (q : TbEq T T') {v : List (Str × V)} {x : List (Nat × D)} (h : RpF T H v x) : RpF T' H v x := by
  cases h with
  | nil => exact .nil
  | cons a b => rw [q.n]; exact .cons (Rp.conv q a) (RpF.conv q b)
end
end
section
variable {T T' : Tb} {n : En} {H0 H : Hp} {σ : L2.St} {ρ : Env} {ts : List Tmp}
theorem ObR.conv (q : TbEq T T') {p : Addr} {o : Ob} (h : ObR T H0 H p o) : ObR T' H0 H p o := by
  cases o with
  | lst xs => obtain ⟨vs, a, b⟩ := h; exact ⟨vs, a, b.conv q⟩
  | dic xs => obtain ⟨vs, a, b⟩ := h; exact ⟨vs, a, b.conv q⟩
  | ins c xs => obtain ⟨dx, vs, a, b⟩ := h; exact ⟨dx, vs, by rw [← q.c]; exact a, b.conv q⟩
theorem noXc_at : ∀ {ρ : Env}, noXc ρ = true → ∀ (i : Nat) (x : Xc), ρ[i]? ≠ some (.xc x)
  | [], _, i, x, h => by simp at h
  | s :: ρ, hn, 0, x, h => by
    simp at h
    subst h
    cases hn
  | s :: ρ, hn, i + 1, x, h => by
    have hn2 : noXc ρ = true := by
      cases s with
      | xc _ => cases hn
      | un => exact hn
      | sh _ => exact hn
      | ow _ => exact hn
      | pa _ => exact hn
    exact noXc_at hn2 i x (by simpa using h)
theorem ST.conv (q : TbEq T T') (hn : noXc ρ = true) (S : ST T n H0 H σ ρ ts) : ST T' n H0 H σ ρ ts where
  sub := S.sub
  s0 := S.s0
  len := S.len
  slot := fun i s hs => by
    obtain ⟨x, hx, r⟩ := S.slot i s hs
    refine ⟨x, hx, ?_⟩
    cases s with
    | un => trivial
    | sh d => obtain ⟨v, a, b⟩ := r; exact ⟨v, a, b.conv q⟩
    | ow o => obtain ⟨p, a, b, c, d⟩ := r; exact ⟨p, a, b, c, d.conv q⟩
    | pa o => obtain ⟨p, a, b, c, d⟩ := r; exact ⟨p, a, b, c, d.conv q⟩
    | xc y => exact (noXc_at hn i y hs).elim
  temp := fun t ht => by
    have r := S.temp t ht
    obtain ⟨v, w⟩ := t
    cases w with
    | d x => exact Rp.conv q r
    | fr o => obtain ⟨p, a, b, c, d⟩ := r; exact ⟨p, a, b, c, d.conv q⟩
    | bo i => exact r
  dist := S.dist
  dtt := S.dtt
  dts := S.dts
  pak := S.pak
  keep := S.keep
  dom := S.dom
  new := S.new
/-- slot i from now on: nothing of one's own, before and behind -/
theorem ST.reslot {i : Nat} {s t : Sl} {z : Option V} (S : ST T n H0 H σ ρ ts) (hi : ρ[i]? = some s) (hs : isOwn s = false) (ht : isOwn t = false) (r : SlotR T n H0 H i z t) (nb : ∀ t ∈ ts, t.2 ≠ .bo i) : ST T n H0 H (σ.set i z) (ρ.set i t) ts := by
  have hl := lt_of_get hi
  have hl2 : i < σ.length := by rw [S.len]; exact hl
  have back : ∀ {j p}, OwnAt (σ.set i z) (ρ.set i t) j p → OwnAt σ ρ j p := fun {j p} ⟨a, u, b, c⟩ => by
    by_cases e : i = j
    · subst e
      rw [get_set_same hl] at b
      cases b
      rw [ht] at c
      cases c
    · rw [get_set_ne e] at b
      rw [List.getElem?_set_ne e] at a
      exact ⟨a, u, b, c⟩
  exact {
    sub := S.sub
    s0 := S.s0
    len := by rw [List.length_set, List.length_set]; exact S.len
    slot := fun j u hu => by
      by_cases e : i = j
      · subst e
        rw [get_set_same hl] at hu
        cases hu
        exact ⟨z, List.getElem?_set_self hl2, r⟩
      · rw [get_set_ne e] at hu
        obtain ⟨x, hx, q⟩ := S.slot j u hu
        exact ⟨x, by rw [List.getElem?_set_ne e]; exact hx, q⟩
    temp := fun u hu => by
      have q := S.temp u hu
      have m := nb u hu
      obtain ⟨v, w⟩ := u
      cases w with
      | d x => exact q
      | fr o => exact q
      | bo j =>
        have e : i ≠ j := fun e => m (by rw [e])
        obtain ⟨a, y, b, c⟩ := q
        exact ⟨by rw [List.getElem?_set_ne e]; exact a, y, by rw [get_set_ne e]; exact b, c⟩
    dist := fun a b p h1 h2 => S.dist a b p (back h1) (back h2)
    dtt := S.dtt
    dts := fun p hp j h => S.dts p hp j (back h)
    pak := fun q hq => by
      obtain ⟨a, o, b⟩ := S.pak q hq
      have e : i ≠ q.1 := fun e => by
        rw [← e, hi] at b
        cases b
        cases hs
      exact ⟨by rw [List.getElem?_set_ne e]; exact a, o, by rw [get_set_ne e]; exact b⟩
    keep := S.keep
    dom := S.dom
    new := S.new }
end
section
variable {T : Tb} {W : WX} {X : Cx} {G : Gs} {A : List Nat} {i j l : Nat}
/-! ### raise X("..") -/
theorem s_raise0 (ok : Cok T X) (tk : Takes X W) {c : Nat} {x m : Str} {k : Nat} {p p2 pos pos' : Pos} {bmB : List Value} {B newId initId : String} (F : ExcBaseFacts B newId initId bmB) (q : PySem.W.excIn X.K (T.cA c) bmB newId = true) (gC : X.mg x = some (.ref (T.cA c))) (kC : PySem.W.keepIn X.K (.ref (T.cA c)) = true)
    (r1 : PySem.W.subIn X.K (.ref (T.cA c)) (.type "BaseException") = some true) (r2 : PySem.W.typeIn X.K (.ref (T.cA c)) = some (.type "type")) (hg : Gl X x := by rfl) (hdb : (x == ("__debug__" : Str)) = false := by decide) :
    PS X (.Raise (some (.Call (.Name x p) [.Constant (.str m) k p2] [] pos)) none pos') (rdS T W [] (exec G (.raise c [] []))) := by
  refine ps_imp (ps_raise ok.calm tk (pmk_own F q gC kC (raises_own r1 r2) hg hdb)) fun D σ H h => ?_
  obtain ⟨n, H0, ρ, ts, S, _, P⟩ := h
  exact P none σ H0 H S.none_ (.inl ⟨rfl, rfl⟩)
/-! ### three names at once -/
theorem rot3 {t1 t2 t3 : Tmp} {n : En} {H0 H : Hp} {σ : L2.St} {ρ : Env} {ts : List Tmp} (S : ST T n H0 H σ ρ (t1 :: t2 :: t3 :: ts)) : ST T n H0 H σ ρ (t3 :: t1 :: t2 :: ts) :=
  S.perm (List.perm_middle (a := t3) (l₁ := [t1, t2]) (l₂ := ts))
theorem s_par3 (ok : Cok T X) (own1 own2 own3 : Bool) {x y z : Str} {a b c : Expr} {ma mb mc : MExp} {px py pz pt pos : Pos} {kt k2 : Nat} {pt2 : Pos} (ha : PE X a (rd T W (ev G ma))) (hb : PE X b (rd T W (ev G mb))) (hc : PE X c (rd T W (ev G mc)))
    (hi : X.N[i]? = some x := by rfl) (hj : X.N[j]? = some y := by rfl) (hl : X.N[l]? = some z := by rfl) (hij : i ≠ j := by decide) (hil : i ≠ l := by decide) (hjl : j ≠ l := by decide)
    (hx : X.env.scope.names.lookup x = some .local := by rfl) (hy : X.env.scope.names.lookup y = some .local := by rfl) (hz : X.env.scope.names.lookup z = some .local := by rfl)
    (hst : starEach [a, b, c] X.env = (false, eval a X.env) :: starEach [b, c] X.env := by rfl) (hst2 : starEach [b, c] X.env = (false, eval b X.env) :: starEach [c] X.env := by rfl) (hst3 : starEach [c] X.env = (false, eval c X.env) :: starEach [] X.env := by rfl)
    (hw : swappedStores [.Tuple [.Name x px, .Name y py, .Name z pz] kt pt] (.Tuple [a, b, c] k2 pt2) X.env = pure (some [x, y, z]) := by rfl) (hs : swapsWithSole [.Tuple [.Name x px, .Name y py, .Name z pz] kt pt] (.Tuple [a, b, c] k2 pt2) pos.line X.env = pure false := by rfl) :
    PS X (.Assign [.Tuple [.Name x px, .Name y py, .Name z pz] kt pt] (.Tuple [a, b, c] k2 pt2) pos) (rdS T W [i, j, l] (exec G (.par3 i j l own1 own2 own3 ma mb mc))) := by
  refine ps_imp (ps_par3 ok.calm ok.nd hi hj hl hij hil hjl hx hy hz (pa_cons ha (pa_cons hb (pa_cons hc pa_nil hst3) hst2) hst) hw hs) fun D σ H h => ?_
  obtain ⟨n, H0, ρ, ts, S, k, P⟩ := h
  show rd T W (ev G ma) σ H _
  refine rd_mono (thn_one S P) fun v H1 h => ?_
  obtain ⟨H01, ρ1, r, S1, P1⟩ := h
  show rd T W (ev G mb) σ H1 _
  refine rd_mono (thn_one S1 P1) fun w H2 h => ?_
  obtain ⟨H02, ρ2, q, S2, P2⟩ := h
  show rd T W (ev G mc) σ H2 _
  refine rd_mono (thn_one S2 P2) fun u H3 h => ?_
  obtain ⟨H03, ρ3, p, S3, P3⟩ := h
  refine ⟨v, w, u, rfl, ?_⟩
  cases e1 : unbo r ρ3 with
  | none => rw [e1] at P3; exact P3.elim
  | some z1 =>
    obtain ⟨r', ρ4⟩ := z1
    rw [e1] at P3
    obtain ⟨H04, S4, n1⟩ := unbo_st (rot3 S3) e1
    have P4 : PostS T W n ts (match unbo q ρ4 with
      | some (q', e5) => match unbo p e5 with
        | some (p', e6) => match putR own1 i r' e6 with
          | some e7 => match putR own2 j q' e7 with
            | some e8 => SOut.of (putR own3 l p' e8)
            | none => .no
          | none => .no
        | none => .no
      | none => .no) D := P3
    cases e2 : unbo q ρ4 with
    | none => rw [e2] at P4; exact P4.elim
    | some z2 =>
      obtain ⟨q', ρ5⟩ := z2
      rw [e2] at P4
      obtain ⟨H05, S5, n2⟩ := unbo_st (rot3 S4) e2
      have P5 : PostS T W n ts (match unbo p ρ5 with
        | some (p', e6) => match putR own1 i r' e6 with
          | some e7 => match putR own2 j q' e7 with
            | some e8 => SOut.of (putR own3 l p' e8)
            | none => .no
          | none => .no
        | none => .no) D := P4
      cases e3 : unbo p ρ5 with
      | none => rw [e3] at P5; exact P5.elim
      | some z3 =>
        obtain ⟨p', ρ6⟩ := z3
        rw [e3] at P5
        obtain ⟨H06, S6, n3⟩ := unbo_st (rot3 S5) e3
        have P6 : PostS T W n ts (match putR own1 i r' ρ6 with
          | some e7 => match putR own2 j q' e7 with
            | some e8 => SOut.of (putR own3 l p' e8)
            | none => .no
          | none => .no) D := P5
        cases e4 : putR own1 i r' ρ6 with
        | none => rw [e4] at P6; exact P6.elim
        | some ρ7 =>
          rw [e4] at P6
          obtain ⟨H07, S7⟩ := putR_st (rot3 S6) e4 fun t ht => by
            rcases List.mem_cons.mp ht with rfl | ht
            · exact n3 i
            · rcases List.mem_cons.mp ht with rfl | ht
              · exact n2 i
              · exact lock_ne k (by simp) t ht
          have P7 : PostS T W n ts (match putR own2 j q' ρ7 with
            | some e8 => SOut.of (putR own3 l p' e8)
            | none => .no) D := P6
          cases e5 : putR own2 j q' ρ7 with
          | none => rw [e5] at P7; exact P7.elim
          | some ρ8 =>
            rw [e5] at P7
            obtain ⟨H08, S8⟩ := putR_st S7.swap e5 fun t ht => by
              rcases List.mem_cons.mp ht with rfl | ht
              · exact n3 j
              · exact lock_ne k (by simp) t ht
            have P8 : PostS T W n ts (SOut.of (putR own3 l p' ρ8)) D := P7
            cases e6 : putR own3 l p' ρ8 with
            | none => rw [e6] at P8; exact P8.elim
            | some ρ9 =>
              rw [e6] at P8
              obtain ⟨H09, S9⟩ := putR_st S8 e6 (lock_ne k (by simp))
              exact P8 _ _ _ S9
end
end Mi
end
section
set_option maxHeartbeats 4000000
/-! try .. except X as n -/
namespace Mi
open PySem PySem.Spec PyProof.Rows L2
/-- the raised thing that is handled is the one of the context -/
structure HotX (T : Tb) (X : Cx) : Prop where
  at_ : ∀ a d cls, T.xa = some (a, d, cls) → ∃ oe, (a, oe) ∈ X.pn ∧ Zc cls d oe ∧ ∃ vs, oe.data = .fields vs
structure CkH (T : Tb) (X : Cx) : Prop where
  ok : Ck T X
  hot : HotX T X
theorem CkG.tr {T : Tb} {X : Cx} {W W' : WX} (c : CkG T X W) {pn : List (Addr × Obj)} {xe : Value → Shared → Prop} (tk : Takes (X.tr pn xe) W') (po : PassesOwn (model X.prog X.w) X.A X.env xe) : CkG T (X.tr pn xe) W' :=
  ⟨⟨⟨c.ok.hK, c.ok.nd, c.ok.un, c.ok.gd, c.ok.sm⟩, c.ok.calm⟩, c.gd, tk, po⟩
theorem CkG.suite {T : Tb} {X : Cx} {W : WX} (c : CkG T X W) {a : Addr} {oe : Obj} {d : Option Addr} {cls : Value} {pn : List (Addr × Obj)} (z : Zc cls d oe) (f : ∃ vs, oe.data = .fields vs) : CkH (T.hot a d cls) (X.suite a ((a, oe) :: pn)) :=
  ⟨⟨c.ok.hK, c.ok.nd, c.ok.un, c.ok.gd, c.ok.sm⟩, ⟨fun a' d' cls' e => by
    cases e
    exact ⟨oe, List.mem_cons_self, z, f⟩⟩⟩
theorem isUn_at {e : Env} {i : Nat} (h : isUn e i = true) : e[i]? = some .un := by
  unfold isUn at h
  split at h
  · assumption
  · cases h
theorem isXc_at {e : Env} {i : Nat} (h : isXc e i = true) : ∃ x, e[i]? = some (.xc x) := by
  unfold isXc at h
  split at h
  · exact ⟨_, by assumption⟩
  · cases h
section
variable {T : Tb} {W : WX} {X : Cx} {G : Gs} {n : En} {H0 H : Hp} {σ : L2.St} {ρ : Env} {ts : List Tmp}
/-- a raised thing's own dict stands still from now on -/
theorem ST.exc {x : Xc} {dd : Option Addr} (S : ST T n H0 H σ ρ []) (xr : XR T n H0 H x dd) : ∃ H0', ST T n H0' H σ ρ [] ∧ XR0 T H0' x dd := by
  rcases xr with h | ⟨d, vs, rfl, hd, hs, h0, hf⟩
  · exact ⟨H0, S, .inl h⟩
  · have e : Same H0 (upd H0 d (.xd vs)) := Same.new h0
    refine ⟨upd H0 d (.xd vs), S.still hd h0 hs (fun i ho => ?_) (by simp [tmpL]), .inr ⟨d, vs, rfl, upd_same, hf.mono e⟩⟩
    obtain ⟨hv, s, hs', is⟩ := ho
    obtain ⟨y, hy, r⟩ := S.slot i s hs'
    rw [hv] at hy
    cases hy
    have bad : ∀ {o : Ob}, ObR T H0 H d o → False := fun {o} r => by
      cases o with
      | lst xs => obtain ⟨vs', a, _⟩ := r; rw [hd] at a; cases a
      | dic xs => obtain ⟨vs', a, _⟩ := r; rw [hd] at a; cases a
      | ins c xs => obtain ⟨dx, vs', a, _⟩ := r; rw [hd] at a; cases a
    cases s with
    | un => cases is
    | sh _ => cases is
    | xc _ => cases is
    | ow o => obtain ⟨p, a, _, _, q⟩ := r; cases a; exact bad q
    | pa o => obtain ⟨p, a, _, _, q⟩ := r; cases a; exact bad q
theorem s_tri (c : CkG T X W) {x nme : Str} {cv : Value} {i cc : Nat} {body suite : List Stmt} {b₀ : Stmt} {np pos pos' : Pos} {mb mh : List MStmt} (hc : Names X x cv) (hq : ∀ k b, G.isa k cc = some b → PySem.W.exmOne X.K (.ref (T.cA k)) cv = some b)
    (hb : ∀ (W' : WX) (pn : List (Addr × Obj)) (xe : Value → Shared → Prop), CkG T (X.tr pn xe) W' → PSs (X.tr pn xe) body (rdS T W' (MStmt.sts mb) (execs G mb)))
    (hsu : ∀ (a : Addr) (oe : Obj) (d : Option Addr) (cls : Value) (pn : List (Addr × Obj)), CkH (T.hot a d cls) (X.suite a ((a, oe) :: pn)) → PSs (X.suite a ((a, oe) :: pn)) (b₀ :: suite) (rdS (T.hot a d cls) W0 (MStmt.sts mh) (execs G mh)))
    (hs : X.stack = X.env :: X.outer := by rfl) (hf : X.env.frame = some X.env.locals := by rfl) (hi : X.N[i]? = some nme := by rfl) (hln : X.env.kindOf nme = some .local := by rfl) :
    PS X (.Try body [.ExceptHandler (some (.Name x np)) (some nme) (b₀ :: suite) pos'] [] [] pos) (rdS0 T W (exec G (.tri mb cc i mh))) := by
  refine ps_imp (ps_try_as (tb := fun W' => rdS T W' (MStmt.sts mb) (execs G mb)) (ts := fun a cls d => rdS (T.hot a d cls) W0 (MStmt.sts mh) (execs G mh)) hs hf c.ok.nd hi hln hc c.tk (fun W' pn xe tk po => hb W' pn xe (c.tr tk po)) (fun a oe cls d pn z f => hsu a oe d cls pn (c.suite z f))) fun D σ H h => ?_
  obtain ⟨n, H0, ρ, S, P⟩ := h
  refine ⟨n, H0, ρ, [], S, fun t ht => by simp at ht, ?_⟩
  have P : PostS T W n [] (match execs G mb ρ with
    | .ex x e1 => match G.isa x.cls cc with
      | some true => if isUn e1 i && noXc e1 then match execs G mh (e1.set i (.xc x)) with
        | .nx e2 => if isXc e2 i && noXc (e2.set i .un) then .nx (e2.set i .un) else .no
        | .rt r e2 => if isXc e2 i && noXc (e2.set i .un) then .rt r (e2.set i .un) else .no
        | _ => .no
        else .no
      | some false => .ex x e1
      | none => .no
    | o => o) D := P
  cases eb : execs G mb ρ with
  | no => rw [eb] at P; exact P.elim
  | nx e1 => rw [eb] at P; exact P
  | rt r e1 => rw [eb] at P; exact P
  | ex x e1 =>
    rw [eb] at P
    intro dd σ' H0' H' S' xr
    have P : PostS T W n [] (match G.isa x.cls cc with
      | some true => if isUn e1 i && noXc e1 then match execs G mh (e1.set i (.xc x)) with
        | .nx e2 => if isXc e2 i && noXc (e2.set i .un) then .nx (e2.set i .un) else .no
        | .rt r e2 => if isXc e2 i && noXc (e2.set i .un) then .rt r (e2.set i .un) else .no
        | _ => .no
        else .no
      | some false => .ex x e1
      | none => .no) D := P
    cases ei : G.isa x.cls cc with
    | none => rw [ei] at P; exact P.elim
    | some b =>
      rw [ei] at P
      refine ⟨b, hq _ _ ei, fun z => ?_, fun z => ?_⟩
      · subst z
        have P : PostS T W n [] (if isUn e1 i && noXc e1 then match execs G mh (e1.set i (.xc x)) with
          | .nx e2 => if isXc e2 i && noXc (e2.set i .un) then .nx (e2.set i .un) else .no
          | .rt r e2 => if isXc e2 i && noXc (e2.set i .un) then .rt r (e2.set i .un) else .no
          | _ => .no
          else .no) D := P
        intro a ha
        split at P
        · rename_i hz
          rw [Bool.and_eq_true] at hz
          obtain ⟨H01, S1, x1⟩ := S'.exc xr
          have S2 : ST (T.hot a dd (.ref (T.cA x.cls))) n H01 H' σ' e1 [] := S1.conv (T.hotEq a dd _) hz.2
          have x2 : XR0 (T.hot a dd (.ref (T.cA x.cls))) H01 x dd := by
            rcases x1 with h | ⟨d, vs, a1, a2, a3⟩
            · exact .inl h
            · exact .inr ⟨d, vs, a1, a2, a3.conv (T.hotEq a dd _)⟩
          have S3 := S2.reslot (i := i) (s := .un) (t := .xc x) (z := some (.ref a)) (isUn_at hz.1) rfl rfl ⟨a, dd, rfl, rfl, x2⟩ (fun t ht => by simp at ht)
          refine ⟨n, H01, _, [], S3, fun t ht => by simp at ht, ?_⟩
          cases eh : execs G mh (e1.set i (.xc x)) with
          | no => rw [eh] at P; exact P.elim
          | ex y e2 => rw [eh] at P; exact P.elim
          | nx e2 =>
            rw [eh] at P
            have P : PostS T W n [] (if isXc e2 i && noXc (e2.set i .un) then .nx (e2.set i .un) else .no) D := P
            split at P
            · rename_i hy
              rw [Bool.and_eq_true] at hy
              obtain ⟨y, hy1⟩ := isXc_at hy.1
              intro σ2 H02 H2 S4
              have S5 := S4.reslot (i := i) (t := .un) (z := none) hy1 rfl rfl trivial (fun t ht => by simp at ht)
              exact P _ _ _ (S5.conv (T.coolEq a dd _) hy.2)
            · exact P.elim
          | rt r e2 =>
            rw [eh] at P
            have P : PostS T W n [] (if isXc e2 i && noXc (e2.set i .un) then .rt r (e2.set i .un) else .no) D := P
            split at P
            · rename_i hy
              rw [Bool.and_eq_true] at hy
              obtain ⟨y, hy1⟩ := isXc_at hy.1
              intro v σ2 H02 H2 nb S4
              have S5 := S4.reslot (i := i) (t := .un) (z := none) hy1 rfl rfl trivial (fun t ht => by rw [List.mem_singleton.mp ht]; exact nb i)
              exact P v _ _ _ nb (S5.conv (T.coolEq a dd _) hy.2)
            · exact P.elim
        · exact P.elim
      · subst z
        exact P dd σ' H0' H' S' xr
end
/-! ### what the suite asks of the raised thing -/
/-- what the written part says of an exception's class -/
structure ExOk (K : PySem.W.Frag) (D : Addr) : Prop where
  c : ExcC K D
  f : XfC K D
end Mi
end
section
set_option maxHeartbeats 4000000
/-! isinstance of the raised thing that is handled, its fields -/
namespace Mi
open PySem PySem.Spec PyProof.Rows L2
/-- where its dict is -/
def DicAt (H : Hp) (d : Option Addr) : Prop := d = none ∨ ∃ dd vs, d = some dd ∧ H dd = some (.xd vs)
theorem instAt {X : Cx} {pins : List (Addr × Obj)} {σ : L2.St} {H : Hp} {s : Shared} (I : Inv X pins σ H s) {a D : Addr} {oe : Obj} {d : Option Addr} (m : (a, oe) ∈ X.pn) (z : Zc (.ref D) d oe) (f : ∃ vs, oe.data = .fields vs) (hd : DicAt H d) : ∃ od, PySem.W.InstAt s.heap a oe D od := by
  obtain ⟨hget, _⟩ := I.pin (a, oe) (List.mem_append_left _ m)
  obtain ⟨vs, hv⟩ := f
  obtain ⟨oc, odd, oda, osl⟩ := oe
  obtain ⟨h1, h2⟩ := z
  dsimp only at h1 h2 hv
  subst h1 h2 hv
  rcases hd with rfl | ⟨dd, ws, rfl, hx⟩
  · exact ⟨none, hget, rfl, rfl, trivial⟩
  · have hx : ObjOk X.prog X.w H s.heap dd (.xd ws) := I.hok dd _ hx
    obtain ⟨mA, ⟨o, es, ep, ho, _⟩, _⟩ := hx
    exact ⟨some o, hget, rfl, rfl, ho⟩
theorem kitxE {K : PySem.W.Frag} {D x : Addr} {ox : Obj} {od : Option Obj} (C : ExcC K D) : PySem.W.KitX K (.ref x) (.ref D) (fun h => PySem.W.InstAt h x ox D od) := by
  have hcl : (PySem.W.clsIn K D).isSome = true := by
    have q := C.hd
    unfold PySem.W.hasDictIn at q
    cases e : PySem.W.clsIn K D with
    | none => rw [e] at q; cases q
    | some _ => rfl
  exact PySem.W.kitx_exc hcl C.hg C.hk C.hs C.ha C.hn C.ht C.hm
/-- isinstance(e, c), isinstance(e, (c, ..)), e the raised thing that is handled -/
def rIsX (X : Cx) : List V → Hp → VK → Prop := fun xs H Q => ∃ (a D : Addr) (oe : Obj) (d : Option Addr) (b : Bool), (a, oe) ∈ X.pn ∧ ExcC X.K D ∧ Zc (.ref D) d oe ∧ (∃ vs, oe.data = .fields vs) ∧ DicAt H d ∧ Q (.bl b) H ∧
  ((∃ (c : V) (cv : Value), xs = [.ref a, c] ∧ (∀ u, RelV c u → u = cv) ∧ PySem.W.kitOne X.K (.ref D) cv = some b) ∨ (∃ (tp : Addr) (cs : List V) (cvs : List Value), xs = [.ref a, .ref tp] ∧ H tp = some (.tup cs) ∧ (∀ us, Vals cs us → us = cvs) ∧ PySem.W.kitAny X.K (.ref D) cvs = some b))
theorem call_isX {X : Cx} : CallR X (.builtin "isinstance") (rIsX X) := by
  intro pins s σ H xs us Q I r h
  obtain ⟨a, D, oe, d, b, m, C, z, f, hd, q, h⟩ := h
  obtain ⟨od, J⟩ := instAt I m z f hd
  rcases h with ⟨c, cv, rfl, hcv, e⟩ | ⟨tp, cs, cvs, rfl, ht, hcv, e⟩
  · obtain ⟨u1, u2, rfl, r1, r2⟩ := vals2 r
    cases r1
    have ec := hcv _ r2
    subst ec
    exact PySem.W.kia_one (kitxE C) I.kIn J e (fun z => nomatch z) fun tk => ⟨.bl b, H, I.kept (t' := tk) fun _ _ z => z, rfl, q⟩
  · obtain ⟨u1, u2, rfl, r1, r2⟩ := vals2 r
    cases r1
    cases (show u2 = Value.ref tp from r2)
    obtain ⟨_, its, rv, o, h1, h2, n, h3⟩ := (show ObjOk X.prog X.w H s.heap tp (.tup cs) from I.hok tp _ ht)
    have e3 := hcv _ rv
    subst e3
    obtain ⟨oc, od', dt, sl⟩ := o
    simp only at h2 h3
    subst h2 h3
    exact PySem.W.kia_tup (kitxE C) I.kIn J h1 e (fun z => nomatch z) fun tk => ⟨.bl b, H, I.tok tk, rfl, q⟩
/-- a class by its name, k in the text -/
structure CN (X : Cx) (T : Tb) (G : Gs) (e : Expr) (k : Nat) (v : V) (cv : Value) : Prop where
  pe : PE X e (tC v)
  rv : ∀ u, RelV v u → u = cv
  it : ∀ c b, G.isa c k = some b → ExcC X.K (T.cA c) ∧ PySem.W.kitOne X.K (.ref (T.cA c)) cv = some b
theorem cn_own {X : Cx} {T : Tb} {G : Gs} {x : Str} {pos : Pos} {C : Addr} {k : Nat} (hm : X.mg x = some (.ref C)) (it : ∀ c b, G.isa c k = some b → ExcC X.K (T.cA c) ∧ PySem.W.kitOne X.K (.ref (T.cA c)) (.ref C) = some b) (hg : Gl X x := by rfl) (hd : (x == ("__debug__" : Str)) = false := by decide) : CN X T G (.Name x pos) k (.ref C) (.ref C) :=
  ⟨pe_glob hg hm rfl hd, fun u r => r, it⟩
theorem cn_blt {X : Cx} {T : Tb} {G : Gs} {x : Str} {pos : Pos} {t : String} {k : Nat} (hm : X.mg x = none) (hv : bootBuiltins x = some (.type t)) (it : ∀ c b, G.isa c k = some b → ExcC X.K (T.cA c) ∧ PySem.W.kitOne X.K (.ref (T.cA c)) (.type t) = some b) (hg : Gl X x := by rfl) (hn : x ≠ "__name__" := by decide) (hd : (x == ("__debug__" : Str)) = false := by decide) : CN X T G (.Name x pos) k (.ty t) (.type t) :=
  ⟨pe_bltn hg hm hv rfl hn hd, fun u r => r, it⟩
def tKs (vs : List V) : TA := fun _ H Q => Q vs H
/-- several -/
structure CNs (X : Cx) (T : Tb) (G : Gs) (es : List Expr) (ks : List Nat) (vs : List V) (cvs : List Value) : Prop where
  pa : PA X es (tKs vs)
  rv : ∀ us, Vals vs us → us = cvs
  it : ∀ c b, anyIs G c ks = some b → PySem.W.kitAny X.K (.ref (T.cA c)) cvs = some b
  ln : vs.length ≤ 1000
theorem cns_nil {X : Cx} {T : Tb} {G : Gs} : CNs X T G [] [] [] [] := ⟨pa_imp pa_nil fun σ H Q h => h, fun us r => by cases r; rfl, fun c b h => by
  have h : some false = some b := h
  exact h, by simp⟩
theorem cns_cons {X : Cx} {T : Tb} {G : Gs} {e : Expr} {es : List Expr} {k : Nat} {ks : List Nat} {v : V} {vs : List V} {cv : Value} {cvs : List Value} (h : CN X T G e k v cv) (hs : CNs X T G es ks vs cvs) (hl : vs.length ≤ 999 := by decide)
    (hst : starEach (e :: es) X.env = (false, eval e X.env) :: starEach es X.env := by rfl) : CNs X T G (e :: es) (k :: ks) (v :: vs) (cv :: cvs) := by
  refine ⟨pa_imp (pa_cons h.pe hs.pa hst) fun σ H Q q => q, fun us r => ?_, fun c b e => ?_, by simp; omega⟩
  · cases r with
    | cons r1 r2 => rw [h.rv _ r1, hs.rv _ r2]
  · have e : (match G.isa c k, anyIs G c ks with
      | some a, some b => some (a || b)
      | _, _ => none) = some b := e
    cases e1 : G.isa c k with
    | none => rw [e1] at e; cases e
    | some b1 =>
      cases e2 : anyIs G c ks with
      | none => rw [e1, e2] at e; cases e
      | some b2 =>
        rw [e1, e2] at e
        cases e
        have h1 := (h.it c b1 e1).2
        have h2 := hs.it c b2 e2
        unfold PySem.W.kitAny
        rw [h1]
        cases b1 with
        | true => rfl
        | false => exact h2
section
variable {T : Tb} {W : WX} {X : Cx} {G : Gs} {i : Nat}
theorem xc_at {σ : L2.St} {H : Hp} {Q : VK} {f : Xc → Option Rs} (hot : HotX T X) (h : rd T W (fun e => match e[i]? with
    | some (.xc x) => Out.of e (f x)
    | _ => .no) σ H Q) : ∃ n H0 ρ ts x r a d oe, ST T n H0 H σ ρ ts ∧ σ[i]? = some (some (.ref a)) ∧ f x = some r ∧ (a, oe) ∈ X.pn ∧ Zc (.ref (T.cA x.cls)) d oe ∧ (∃ vs, oe.data = .fields vs) ∧ XR0 T H0 x d ∧ Same H0 H ∧ (∀ H0' H', Wants T n σ ts Q r ρ H0' H') := by
  obtain ⟨n, H0, ρ, ts, S, P⟩ := h
  have P : Post T W n σ ts (match ρ[i]? with
    | some (.xc x) => Out.of ρ (f x)
    | _ => .no) (Wants T n σ ts Q) := P
  cases ei : ρ[i]? with
  | none => rw [ei] at P; exact P.elim
  | some s =>
    rw [ei] at P
    cases s with
    | un => exact P.elim
    | sh _ => exact P.elim
    | ow _ => exact P.elim
    | pa _ => exact P.elim
    | xc x =>
      have P : Post T W n σ ts (Out.of ρ (f x)) (Wants T n σ ts Q) := P
      cases ef : f x with
      | none => rw [ef] at P; exact P.elim
      | some r =>
        rw [ef] at P
        obtain ⟨y, hy, a, d, hxa, e, xr⟩ := S.slot i _ ei
        subst e
        obtain ⟨oe, m, z, f'⟩ := hot.at_ _ _ _ hxa
        exact ⟨n, H0, ρ, ts, x, r, a, d, oe, S, hy, ef, m, z, f', xr, S.sub, P⟩
theorem XR0.dic {H0 H : Hp} {x : Xc} {d : Option Addr} (h : XR0 T H0 x d) (e : Same H0 H) : DicAt H d := by
  rcases h with ⟨_, h⟩ | ⟨dd, vs, a, b, _⟩
  · exact .inl h
  · exact .inr ⟨dd, vs, a, e _ _ b⟩
/-- isinstance(e, C) -/
theorem r_isx (c : CkH T X) {nme : Str} {ce : Expr} {k : Nat} {v : V} {cv : Value} {p pn pos : Pos} (hm : X.mg "isinstance" = none) (h : CN X T G ce k v cv) (hN : X.N[i]? = some nme := by rfl) (hv : Vis X.env.scope nme := by first | exact Or.inl rfl | exact Or.inr (Or.inl rfl) | exact Or.inr (Or.inr rfl))
    (hd : (nme == ("__debug__" : Str)) = false := by decide) (hcd : (nme == ("__classdict__" : Str)) = false := by decide) (hg : Gl X "isinstance" := by rfl)
    (hs : starEach [.Name nme pn, ce] X.env = (false, eval (.Name nme pn) X.env) :: starEach [ce] X.env := by rfl) (hs2 : starEach [ce] X.env = (false, eval ce X.env) :: starEach [] X.env := by rfl) (hpl : (backTo pos (starEach [ce] X.env)).any (·.1) = false := by rfl) :
    PE X (.Call (.Name "isinstance" p) [.Name nme pn, ce] [] pos) (rd T W (ev G (.isx i [k]))) := by
  refine pe_imp (pe_callB call_isX hg hm (by decide +kernel) (pa_cons (pe_var hN hv hd hcd) (pa_cons h.pe pa_nil hs2) hs) (by decide) (by decide) hs hpl) fun σ H Q q => ?_
  obtain ⟨n, H0, ρ, ts, x, r, a, d, oe, S, ha, ef, m, z, f, xr, e, P⟩ := xc_at (f := fun x => (anyIs G x.cls [k]).map blR) c.hot q
  obtain ⟨b, eb, er⟩ := Option.map_eq_some_iff.mp ef
  subst er
  refine ⟨_, ha, ?_⟩
  have eb : (match G.isa x.cls k, some false with
      | some a, some b => some (a || b)
      | _, _ => none) = some b := eb
  cases e1 : G.isa x.cls k with
  | none => rw [e1] at eb; cases eb
  | some b1 =>
    rw [e1] at eb
    have eb : some (b1 || false) = some b := eb
    rw [Bool.or_false] at eb
    cases eb
    obtain ⟨C, hk⟩ := h.it _ _ e1
    exact ⟨a, T.cA x.cls, oe, d, _, m, C, z, f, xr.dic e, Wants.data P (.bl _) S, .inl ⟨v, cv, rfl, h.rv, hk⟩⟩
/-- isinstance(e, (C, D, ..)) -/
theorem r_isxs (c : CkH T X) {nme : Str} {ce : Expr} {ces : List Expr} {k : Nat} {ks : List Nat} {v : V} {vs : List V} {cv : Value} {cvs : List Value} {kt : Nat} {p pn pt pos : Pos} (hm : X.mg "isinstance" = none) (h : CN X T G ce k v cv) (h2 : CNs X T G ces ks vs cvs) (hN : X.N[i]? = some nme := by rfl) (hv : Vis X.env.scope nme := by first | exact Or.inl rfl | exact Or.inr (Or.inl rfl) | exact Or.inr (Or.inr rfl))
    (hl : vs.length ≤ 999 := by decide) (hd : (nme == ("__debug__" : Str)) = false := by decide) (hcd : (nme == ("__classdict__" : Str)) = false := by decide) (hg : Gl X "isinstance" := by rfl)
    (hst : starEach (ce :: ces) X.env = (false, eval ce X.env) :: starEach ces X.env := by rfl)
    (hs : starEach [.Name nme pn, .Tuple (ce :: ces) kt pt] X.env = (false, eval (.Name nme pn) X.env) :: starEach [.Tuple (ce :: ces) kt pt] X.env := by rfl) (hs2 : starEach [.Tuple (ce :: ces) kt pt] X.env = (false, eval (.Tuple (ce :: ces) kt pt) X.env) :: starEach [] X.env := by rfl) (hpl : (backTo pos (starEach [.Tuple (ce :: ces) kt pt] X.env)).any (·.1) = false := by rfl) :
    PE X (.Call (.Name "isinstance" p) [.Name nme pn, .Tuple (ce :: ces) kt pt] [] pos) (rd T W (ev G (.isx i (k :: ks)))) := by
  have hc := cns_cons h h2 hl hst
  refine pe_imp (pe_callB call_isX hg hm (by decide +kernel) (pa_cons (pe_var hN hv hd hcd) (pa_cons (pe_tup hc.pa) pa_nil hs2) hs) (by decide) (by decide) hs hpl) fun σ H Q q => ?_
  obtain ⟨n, H0, ρ, ts, x, r, a, d, oe, S, ha, ef, m, z, f, xr, e, P⟩ := xc_at (f := fun x => (anyIs G x.cls (k :: ks)).map blR) c.hot q
  obtain ⟨b, eb, er⟩ := Option.map_eq_some_iff.mp ef
  subst er
  refine ⟨_, ha, by have := hc.ln; have : (1000 : Nat) ≤ sizeLine := by rw [sizeLine_eq]; decide
                    omega, fun tp hp => ?_⟩
  have eC : ∃ b1, G.isa x.cls k = some b1 := by
    have eb : (match G.isa x.cls k, anyIs G x.cls ks with
      | some a, some b => some (a || b)
      | _, _ => none) = some b := eb
    cases e1 : G.isa x.cls k with
    | none => rw [e1] at eb; cases eb
    | some b1 => exact ⟨b1, rfl⟩
  obtain ⟨b1, e1⟩ := eC
  exact ⟨a, T.cA x.cls, oe, d, b, m, (h.it _ _ e1).1, z, f, (xr.dic e).elim .inl (fun ⟨dd, ws, e1, e2⟩ => .inr ⟨dd, ws, e1, Same.new hp _ _ e2⟩), Wants.data P (.bl _) (S.grow (Same.new hp)), .inr ⟨tp, _, _, rfl, upd_same, hc.rv, hc.it _ _ eb⟩⟩
/-- e.f -/
theorem r_xfl (c : CkH T X) {nme fx : Str} {f : Nat} {pn pos : Pos} (hfx : T.an f = fx) (hxf : ∀ cl, G.isa cl (1000 + f) = some true → XfC X.K (T.cA cl) ∧ PySem.W.findIn X.K (.ref (T.cA cl)) fx = some none) (hN : X.N[i]? = some nme := by rfl) (hv : Vis X.env.scope nme := by first | exact Or.inl rfl | exact Or.inr (Or.inl rfl) | exact Or.inr (Or.inr rfl))
    (hd : (nme == ("__debug__" : Str)) = false := by decide) (hcd : (nme == ("__classdict__" : Str)) = false := by decide) (hb : attributeBase (.Name nme pn) fx X.env (eval (.Name nme pn) X.env) = eval (.Name nme pn) X.env := by rfl) :
    PE X (.Attribute (.Name nme pn) fx pos) (rd T W (ev G (.xfl i f))) := by
  refine ⟨fun pins s σ H Q I q => ?_⟩
  obtain ⟨n, H0, ρ, ts, x, r, a, d, oe, S, ha, ef, m, z, fl, xr, e, P⟩ := xc_at (f := fun x => if G.isa x.cls (1000 + f) == some true then (lookF x.fs f).map .d else none) c.hot q
  have ef : (if (G.isa x.cls (1000 + f) == some true) = true then (lookF x.fs f).map Rs.d else none) = some r := ef
  split at ef
  case isFalse => cases ef
  rename_i hfr
  obtain ⟨y, ey, er⟩ := Option.map_eq_some_iff.mp ef
  subst er
  obtain ⟨xc, hno⟩ := hxf _ (by simpa using hfr)
  refine attr_of hb (thn ((pe_var hN hv hd hcd).run pins s σ H (fun v H1 => v = .ref a ∧ H1 = H) I ⟨_, ha, rfl, rfl⟩) fun u s1 hh => ?_)
  obtain ⟨v, H1, I1, rx, ex, eH⟩ := hh
  subst ex
  subst eH
  obtain rfl : u = Value.ref a := rx
  rcases xr with ⟨h, _⟩ | ⟨dd, vs, rfl, hx0, hf⟩
  · rw [h] at ey
    cases ey
  · have hx : ObjOk X.prog X.w H1 s1.heap dd (.xd vs) := I1.hok dd _ (e _ _ hx0)
    obtain ⟨ha', _⟩ := I1.pin (a, oe) (List.mem_append_left _ m)
    obtain ⟨vs', hd'⟩ := fl
    obtain ⟨mA, hns, hr⟩ := hx
    obtain ⟨od, ho, hl⟩ := lookIn_ns hns
    obtain ⟨w, hw, rw_⟩ := hf.look ey
    rw [hfx] at hw
    obtain ⟨u, hu, ru⟩ := RelO.some_of (v := w) (o := mA fx) (by rw [← hw]; exact hr fx)
    have J : PySem.W.InstAt s1.heap a oe (T.cA x.cls) (some od) := ⟨ha', z.1, by unfold PySem.W.notCls; rw [hd'] <;> rfl, by rw [z.2]; exact ho⟩
    exact HandSPX.exc_get I1.kIn J xc.ga xc.gg xc.exC (PySem.W.findObj_own xc.hdC hno rfl (by rw [hl, hu])) (handed_of ru) ⟨w, H1, I1.tok _, ru, Wants.data P rw_ S⟩
end
end Mi
end
section
set_option maxHeartbeats 4000000
/-! raised things with a field: their classes' own __init__, over any built-in base -/
namespace Mi
open PySem PySem.Spec PyProof.Rows L2
/-- what is asked of such a class -/
structure ExG (K : PySem.W.Frag) (C : Addr) (B newId initId : String) (bmB : List Value) : Prop where
  F : ExcBaseFacts B newId initId bmB
  SF : StoreFacts B bmB "object.__setattr__" "object"
  ini : PySem.W.excInitIn K C bmB newId = true
  ov : PySem.W.excOver K C bmB = true
  hd : PySem.W.hasDictIn K C = true
  sa : PySem.W.findIn K (.ref C) "__setattr__" = some (some (.builtin "object.__setattr__"))
  exC : PySem.W.subIn K (.ref C) (.type "BaseException") = some true
  tyC : PySem.W.typeIn K (.ref C) = some (.type "type")
  kC : PySem.W.keepIn K (.ref C) = true
section
variable {X : Cx} {pins : List (Addr × Obj)} {σ : L2.St} {H : Hp} {s : Shared} {a C : Addr} {B newId initId : String} {bmB : List Value}
/-- its own dict is made with the first field -/
theorem ox_store {f : Str} {y : V} {u : Value} {Q : Unit → Shared → Prop} {E : Value → Shared → Prop} {A : Around} (T : ExG X.K C B newId initId bmB) (I : Inv X pins σ H s) (e : H a = some (exo a C none)) (hno : PySem.W.findIn X.K (.ref C) f = some none) (ry : RelV y u)
    (h : ∀ dx s', H dx = none → dx ≠ a → Inv X pins σ (upd (upd H dx (exd dx [(f, y)])) a (exo a C (some dx))) s' → Q () s') : wpAny (model X.prog X.w) A (setAttr (.ref a) f u) Q E s := by
  obtain ⟨t1, ho⟩ := exo_at I.hok e
  have tk0 : PySem.W.takerIn X.K C f = some none := by
    unfold PySem.W.takerIn
    rw [hno]
    rfl
  obtain ⟨cd, hc, hd⟩ := PySem.W.any_some T.hd
  refine PySem.W.set_plain I.kIn (od := none) ⟨ho, rfl, rfl, trivial⟩ T.sa ?_
  refine PySem.W.osa_openX (od := none) T.SF I.kIn ⟨ho, rfl, rfl, trivial⟩ T.ov tk0 fun b => ?_
  refine wpAny_bind (wpAny_pure (wpAny_bind (PySem.W.instanceDict_exc ho (PySem.W.looks_clsIn I.kIn hc) hd ?_)))
  have las : a < s.heap.objs.size := Heap.lt_size ho
  have nas : a ≠ s.heap.objs.size := Nat.ne_of_lt las
  have fr : H s.heap.objs.size = none := I.hok.fresh (Nat.le_refl _)
  have hp1 : (s.heap.push (PySem.W.dictOf [] 0)).get? s.heap.objs.size = some (PySem.W.dictOf [] 0) := Heap.get?_push_size _ rfl
  have n0 : (s.heap.push (PySem.W.dictOf [] 0)).Ns1 s.heap.objs.size fun _ => none := Heap.Ns1.of_empty ⟨_, #[], 0, hp1, rfl, fun _ m => absurd m (by simp), fun _ => rfl⟩
  have I1 := I.laid (t' := s.toks) (fun b u q => Heap.get?_push_of_some (PySem.W.dictOf [] 0) q) (Nat.le_refl _) (exd_ok n0 (fs := []) fun _ => True.intro)
  have ho1 : (s.heap.push (PySem.W.dictOf [] 0)).get? a = some _ := Heap.get?_push_of_some _ ho
  have ho2 := Heap.get?_update_self (fun o : Obj => { o with dict := some s.heap.objs.size }) ho1 rfl
  have e1 : (upd H s.heap.objs.size (exd s.heap.objs.size [])) a = some (exo a C none) := by rw [upd_ne nas]; exact e
  have I2 := I1.write (t' := s.toks) (x := a) (e := a) (o := exo a C (some s.heap.objs.size)) (by rw [e1]; exact True.intro) (.inl rfl) (fun b u nb q => by rw [Heap.get?_update_other _ _ (Ne.symm nb)]; exact q) ⟨_, ho2⟩ (exo_ok ho2)
  have hp2 : ((s.heap.push (PySem.W.dictOf [] 0)).update a fun o => { o with dict := some s.heap.objs.size }).get? s.heap.objs.size = some (PySem.W.dictOf [] 0) := by rw [Heap.get?_update_other _ _ nas]; exact hp1
  show wpAny _ _ (Builtin.ObjectAttr.storeInDict s.heap.objs.size (.str f _) f u) _ _ _
  refine PySem.HandSPX.store_in_new ⟨_, #[], 0, hp2, rfl, fun _ m => absurd m (by simp), fun _ => rfl⟩ fun h' tk' hn' hs => ?_
  have e2 : (upd (upd H s.heap.objs.size (exd s.heap.objs.size [])) a (exo a C (some s.heap.objs.size))) s.heap.objs.size = some (exd s.heap.objs.size []) := by rw [upd_ne (Ne.symm nas), upd_same]
  obtain ⟨od, esd, epd, god, _⟩ := id hn'
  have I3 := I2.write (t' := tk') (x := s.heap.objs.size) (e := s.heap.objs.size) (o := exd s.heap.objs.size [(f, y)]) (by rw [e2]; exact True.intro) (.inl rfl) (fun b u nb q => (hs.2 b nb).trans q) ⟨_, god⟩ (exd_ok hn' (relO_put (fs := []) ry fun _ => True.intro))
  have eu : upd (upd (upd H s.heap.objs.size (exd s.heap.objs.size [])) a (exo a C (some s.heap.objs.size))) s.heap.objs.size (exd s.heap.objs.size [(f, y)]) = upd (upd H s.heap.objs.size (exd s.heap.objs.size [(f, y)])) a (exo a C (some s.heap.objs.size)) := by
    funext b
    by_cases b1 : b = s.heap.objs.size
    · subst b1
      rw [upd_same, upd_ne (Ne.symm nas), upd_same]
    · by_cases b2 : b = a
      · subst b2
        rw [upd_ne b1, upd_same, upd_same]
      · rw [upd_ne b1, upd_ne b2, upd_ne b1, upd_ne b2, upd_ne b1]
  rw [eu] at I3
  exact h _ _ fr (Ne.symm nas) I3
/-- B.__init__(self, ..), B the built-in base -/
theorem ox_base {us : List Value} {Q : Value → Shared → Prop} (T : ExG X.K C B newId initId bmB) (I : Inv X pins σ H s) (e : H a = some (exo a C none)) (hl : us.length ≤ sizeLine) (h : ∀ s', Inv X pins σ H s' → Q .none s') :
    wpAny (model X.prog X.w) X.A (call (.builtin initId) (.ref a :: us)) Q X.xe s := by
  obtain ⟨nm, N, qn, bs, bm, hdct, sn, sub, ab, col, dd, k0, k1, k2, k3, k5, hC, hT⟩ := PySem.W.excInit_of I.kIn T.ini
  obtain ⟨t1, ho⟩ := exo_at I.hok e
  obtain ⟨hp, g, d, t, os⟩ := s
  refine wpAny_call (PySem.HandSPX.init_base T.F hT hC ho hl fun h' t2 k hx => ?_)
  have J := I.write (t' := t) (x := a) (e := a) (o := exo a C none) (by rw [e]; exact True.intro) (.inl rfl) k ⟨_, hx⟩ (exo_ok hx)
  have eu : upd H a (exo a C none) = H := funext fun b => by
    by_cases hb : b = a
    · subst hb
      rw [upd_same, e]
    · rw [upd_ne hb]
  rw [eu] at J
  exact h _ J
/-- .. written by an own class above it -/
theorem pe_baseO {Bn : Str} {D : Addr} {e : Expr} {es : List Expr} {ta : TA} {p1 p2 pos : Pos} {pl : Sem Bool} (T : ExG X.K C B newId initId bmB) (hm : X.mg Bn = some (.ref D)) (hr : PySem.W.readsIn X.K D (.type "type") = true) (hf : PySem.W.findCls X.K (.ref D) (.type "type") "__init__" = some (.val (.builtin initId)))
    (hsp : PySem.W.specialIn X.K (.ref D) "__getattribute__" = some (some (.builtin "type.__getattribute__"))) (hh : PySem.W.handedIn (.builtin initId) = true) (ha : PA X (e :: es) ta) (hg : Gl X Bn := by rfl) (hd : (Bn == ("__debug__" : Str)) = false := by decide)
    (hc : eval (.Call (.Attribute (.Name Bn p1) "__init__" p2) (e :: es) [] pos) X.env = (do
      let ov ← eval (.Name Bn p1) X.env
      standAt p2.atName
      let (f, first) ← holding [ov] (getMethod ov "__init__" pl)
      callWith pos f first (backTo pos (starEach (e :: es) X.env)) (backToKw pos (keywordEach [] X.env))) := by rfl)
    (he : starEach (e :: es) X.env = (false, eval e X.env) :: starEach es X.env := by rfl) (hpl : (backTo pos (starEach es X.env)).any (·.1) = false := by rfl) :
    PE X (.Call (.Attribute (.Name Bn p1) "__init__" p2) (e :: es) [] pos) (fun σ H Q => ta σ H fun vs H1 => ∃ a ws, vs = .ref a :: ws ∧ ws.length ≤ 1000 ∧ H1 a = some (exo a C none) ∧ Q .non H1) := by
  refine ⟨fun pins s σ H Q I h => PySem.W.methodCall_KW (ld_glob I hg hm (PySem.W.method_cls I.kIn hsp (PySem.W.cls_value I.kIn hr hf hh ?_)) hd) hc⟩
  refine PyProof.Rows.callWith_method1 (thn (ha.run pos pins _ σ H _ (I.tok _) h) fun us s1 hq => ?_) he hpl
  obtain ⟨vs, H1, I1, r1, a, ws, ev, hl, ea, q⟩ := hq
  subst ev
  cases r1 with
  | cons ra rw' =>
    cases ra
    exact ox_base T I1 ea (by have := rw'.length; rw [sizeLine_eq]; omega) fun s' J => ⟨.non, H1, J, rfl, q⟩
/-- .. written by its own name -/
theorem pe_baseB {Bt : String} {e : Expr} {es : List Expr} {ta : TA} {p1 p2 pos : Pos} {pl : Sem Bool} {Bn : Str} (T : ExG X.K C B newId initId bmB) (hm : X.mg Bn = none) (hv : bootBuiltins Bn = some (.type Bt)) (ty : typeOf (.type Bt) = pure (.type "type")) (st : Manifest.isStub Bt = false)
    (vV : PySem.W.findCls X.K (.type Bt) (.type "type") "__init__" = some (.val (.builtin initId))) (hh : PySem.W.handedIn (.builtin initId) = true) (ha : PA X (e :: es) ta) (hg : Gl X Bn := by rfl) (hn : Bn ≠ "__name__" := by decide) (hd : (Bn == ("__debug__" : Str)) = false := by decide)
    (hc : eval (.Call (.Attribute (.Name Bn p1) "__init__" p2) (e :: es) [] pos) X.env = (do
      let ov ← eval (.Name Bn p1) X.env
      standAt p2.atName
      let (f, first) ← holding [ov] (getMethod ov "__init__" pl)
      callWith pos f first (backTo pos (starEach (e :: es) X.env)) (backToKw pos (keywordEach [] X.env))) := by rfl)
    (he : starEach (e :: es) X.env = (false, eval e X.env) :: starEach es X.env := by rfl) (hpl : (backTo pos (starEach es X.env)).any (·.1) = false := by rfl) :
    PE X (.Call (.Attribute (.Name Bn p1) "__init__" p2) (e :: es) [] pos) (fun σ H Q => ta σ H fun vs H1 => ∃ a ws, vs = .ref a :: ws ∧ ws.length ≤ 1000 ∧ H1 a = some (exo a C none) ∧ Q .non H1) := by
  refine ⟨fun pins s σ H Q I h => ?_⟩
  obtain ⟨m, fr⟩ := I.fr
  refine PySem.W.methodCall_KW (ld_blt I hg hm hv (PySem.W.method_type fr I.ok.mod.kin ty st vV hh ?_) hn hd) hc
  refine PyProof.Rows.callWith_method1 (thn (ha.run pos pins _ σ H _ (I.tok _) h) fun us s1 hq => ?_) he hpl
  obtain ⟨vs, H1, I1, r1, a, ws, ev, hl, ea, q⟩ := hq
  subst ev
  cases r1 with
  | cons ra rw' =>
    cases ra
    exact ox_base T I1 ea (by have := rw'.length; rw [sizeLine_eq]; omega) fun s' J => ⟨.non, H1, J, rfl, q⟩
/-- self.f = q -/
theorem ps_field {f : Str} {x y : Str} {i j : Nat} {p1 p2 p' pos : Pos} (T : ExG X.K C B newId initId bmB) (hno : PySem.W.findIn X.K (.ref C) f = some none) (hi : X.N[i]? = some x := by rfl) (hj : X.N[j]? = some y := by rfl)
    (vi : Vis X.env.scope x := by first | exact Or.inl rfl | exact Or.inr (Or.inl rfl) | exact Or.inr (Or.inr rfl)) (vj : Vis X.env.scope y := by first | exact Or.inl rfl | exact Or.inr (Or.inl rfl) | exact Or.inr (Or.inr rfl))
    (dx : (x == ("__debug__" : Str)) = false := by decide) (dy : (y == ("__debug__" : Str)) = false := by decide) (cx : (x == ("__classdict__" : Str)) = false := by decide) (cy : (y == ("__classdict__" : Str)) = false := by decide)
    (hs : swapsWith (.Name y p2) (some (.Attribute (.Name x p1) f p')) pos.line X.env = pure false := by rfl) :
    PS X (.Assign [.Attribute (.Name x p1) f p'] (.Name y p2) pos) (fun D σ H => ∃ a v, σ[i]? = some (some (.ref a)) ∧ σ[j]? = some (some v) ∧ H a = some (exo a C none) ∧ ∀ dd, H dd = none → dd ≠ a → D.nx σ (upd (upd H dd (exd dd [(f, v)])) a (exo a C (some dd)))) := by
  refine ⟨fun pins s σ H D I h => ?_⟩
  obtain ⟨a, v, h1, h2, ea, q⟩ := h
  refine plainObj_wpAny_Assign_Attribute (thn ((pe_var hj vj dy cy).run pins s σ H (fun z H1 => z = v ∧ H1 = H) I ⟨_, h2, rfl, rfl⟩) fun u s1 hu => ?_) hs
  obtain ⟨z, H1, I1, ru, rfl, rfl⟩ := hu
  refine thn ((pe_var hi vi dx cx).run pins s1 σ H1 (fun z H2 => z = .ref a ∧ H2 = H1) I1 ⟨_, h1, rfl, rfl⟩) fun w s2 hw => ?_
  obtain ⟨z2, H2, I2, rw', rfl, rfl⟩ := hw
  cases rw'
  exact ox_store T I2 ea hno ru fun dd s' n1 n2 J => ⟨σ, _, J, q dd n1 n2⟩
end
/-- what such an __init__ does -/
def spI (C : Addr) (f : Str) : Sp := fun vs H Q E => ∃ a v, vs = [.ref a, v] ∧ H a = some (exo a C none) ∧ ∀ dd, H dd = none → dd ≠ a → Q .non (upd (upd H dd (exd dd [(f, v)])) a (exo a C (some dd)))
def tInit (C : Addr) (f : Str) : TS := fun D σ H => ∃ a v, σ[0]? = some (some (.ref a)) ∧ σ[1]? = some (some v) ∧ H a = some (exo a C none) ∧ ∀ dd, H dd = none → dd ≠ a → D.nx σ (upd (upd H dd (exd dd [(f, v)])) a (exo a C (some dd)))
theorem init_fn {P : Program} {w : World} {K : PySem.W.Frag} {mg : Str → Option Value} {base : Heap} {x qual : Str} {params : Arguments} {body : List Stmt} {scope : Scope} {f : Addr} {fd : FuncData} {N ps : List Str} {k : Nat} {C : Addr} {fx : Str}
    (F : FunD K x qual params body scope [] [] f fd) (S : FnScope N ps scope) (hl : ps.length = 2)
    (hb : ∀ (cdv : Value) (A : Around) (outer : List PySem.Env) (s : Shared) (H : Hp) (E : XK), PSs (cxOf (L2.CX P w) P w K mg base N qual scope f cdv A outer s H E) body (tInit C fx)) : FnG P w K mg base (k + 1) f fd ps (spI C fx) := by
  refine Mi.FunD.okG F S (fun vs H Q E h => ?_) fun cdv A outer s H vs Q E hr gd h => ⟨_, hb cdv A outer s H E, ?_⟩
  · obtain ⟨a, v, rfl, _⟩ := h
    exact hl.symm
  · obtain ⟨a, v, rfl, ha, q⟩ := h
    refine ⟨a, v, ?_, ?_, ha, q⟩
    · unfold L2.start
      simp
    · unfold L2.start
      simp
section
variable {X : Cx} {C fI : Addr} {B newId initId : String} {bmB : List Value} {k : Nat} {fd : FuncData} {ps : List Str} {fx x : Str} {e : Expr} {te : TE} {p pos : Pos}
/-- C(e) -/
theorem pmk_g (T : ExG X.K C B newId initId bmB) (iC : PySem.W.findIn X.K (.ref C) "__init__" = some (some (.ref fI))) (tI : PySem.W.typeIn X.K (.ref fI) = some (.type "function")) (F1 : FnG X.prog X.w X.K X.mg X.base k fI fd ps (spI C fx)) (hr : Room (k + 1) X.A) (gd : X.A.guards = some [])
    (hb : ∀ (s : Shared) (us : List Value), X.K.In s.heap → us.length = 2 → BindsTo s fd ⟨us, []⟩ (ps.zip us)) (hm : X.mg x = some (.ref C)) (he : PE X e te) (hg : Gl X x := by rfl) (hdb : (x == ("__debug__" : Str)) = false := by decide)
    (hs : starEach [e] X.env = (false, eval e X.env) :: starEach [] X.env := by rfl) : PMk X (.Call (.Name x p) [e] [] pos) (fun σ H Q => te σ H fun v H1 => ∀ d, H1 d = none → Q (.ref C) (some d) (upd H1 d (.xd [(fx, v)]))) := by
  intro pins s σ H Q I h
  refine wpAny_Call_Name_kw (ld_glob I hg hm ?_ hdb)
  refine PySem.W.callWith_K (h₀ := X.base) I.ok.mod.kin T.kC (thn ((pa_cons he pa_nil hs).run pos pins s σ H (fun vs H1 => match vs with
    | [v] => ∀ d, H1 d = none → Q (.ref C) (some d) (upd H1 d (.xd [(fx, v)]))
    | _ => False) I h) fun us s1 hq => ?_) hs (by rfl)
  obtain ⟨vs, H1, I1, r1, q1⟩ := hq
  refine ⟨I1.kIn, ?_⟩
  match vs, r1, q1 with
  | [v], r1, q1 =>
    obtain ⟨nm, N, qn, bs, bm, hdct, sn, sub, ab, col, dd, k0, k1, k2, k3, k5, hC, hT⟩ := PySem.W.excInit_of I1.kIn T.ini
    show wpAny _ _ (call (.ref C) us) _ _ _
    obtain ⟨hp, g, dr, tk, os⟩ := s1
    have l1 : us.length = 1 := r1.length.symm
    have sz : us.length ≤ sizeLine := by rw [l1, sizeLine_eq]; decide
    have hsz : hp.objs.size ≤ hp.objs.size + 1 := Nat.le_succ _
    have hn : H1 (hp.objs.size + 1) = none := I1.hok.fresh hsz
    have kk : ∀ b o, hp.get? b = some o → ((hp.push (PySem.W.kdv_tup us)).push (PySem.HandSPX.excO C hp.objs.size)).get? b = some o := fun b o e => Heap.get?_push_of_some _ (Heap.get?_push_of_some _ e)
    have hget : ((hp.push (PySem.W.kdv_tup us)).push (PySem.HandSPX.excO C hp.objs.size)).get? (hp.objs.size + 1) = some (PySem.HandSPX.excO C hp.objs.size) := by heap_get
    have I2 := I1.laid (t' := tk) (a := hp.objs.size + 1) (o := exo (hp.objs.size + 1) C none) kk hsz (exo_ok hget)
    have rr : Vals [V.ref (hp.objs.size + 1), v] (Value.ref (hp.objs.size + 1) :: us) := .cons rfl r1
    have sp : spI C fx [V.ref (hp.objs.size + 1), v] (upd H1 (hp.objs.size + 1) (exo (hp.objs.size + 1) C none)) (fun z H2 => z = .non ∧ ∃ d, H1 d = none ∧ d ≠ hp.objs.size + 1 ∧ H2 = upd (upd (upd H1 (hp.objs.size + 1) (exo (hp.objs.size + 1) C none)) d (exd d [(fx, v)])) (hp.objs.size + 1) (exo (hp.objs.size + 1) C (some d))) (fun _ _ _ => False) :=
      ⟨_, v, rfl, upd_same, fun d h1 h2 => ⟨rfl, d, by rw [upd_ne h2] at h1; exact h1, h2, rfl⟩⟩
    have run := F1.run (args := ⟨Value.ref (hp.objs.size + 1) :: us, []⟩) (hr.make C us []) (under_make_guards.trans gd) (I2.env0.make C us []) (hb _ (Value.ref (hp.objs.size + 1) :: us) I2.kIn (by rw [List.length_cons, l1])) rr sp
    refine wpAny_call (PySem.HandSPX.call_own T.F hT hC (PySem.W.looks_findIn I1.kIn iC) (fun self => PySem.W.bind_fn I1.kIn self tI) sz (codeAny_mono run fun res st q => ?_))
    match res, q with
    | .error _, q =>
      obtain ⟨_, _, _, _, _, _, _, _, _, _, _, _, bad⟩ := q
      exact bad.elim
    | .ok (.ret u), q =>
      obtain ⟨z, H2, os2, bare2, un2, hok2, rv, ez, d, d1, d2, eH⟩ := q
      subst ez
      obtain ⟨h2, g2, dr2, t2, os'⟩ := st
      have ea : H2 (hp.objs.size + 1) = some (exo (hp.objs.size + 1) C (some d)) := by rw [eH, upd_same]
      have ed : H2 d = some (exd d [(fx, v)]) := by rw [eH, upd_ne d2, upd_same]
      have eu : upd (del H2 (hp.objs.size + 1)) d (.xd [(fx, v)]) = upd H1 d (.xd [(fx, v)]) := funext fun b => by
        by_cases b1 : b = d
        · subst b1; rw [upd_same, upd_same]
        · rw [upd_ne b1, upd_ne b1]
          by_cases b2 : b = hp.objs.size + 1
          · subst b2; rw [del_same, hn]
          · rw [del_ne b2, eH, upd_ne b2, upd_ne b1, upd_ne b2]
      exact ⟨rv, mk_end (raises_own T.exC T.tyC) I1 hsz kk un2 hok2 os2 bare2 ea ed d1 (by rw [eu]; exact q1 d d1)⟩
    | .ok .next, q => exact q.elim
    | .ok .brk, q => exact q.elim
    | .ok .cont, q => exact q.elim
end
end Mi
end
section
set_option maxHeartbeats 4000000
namespace Mi
open PySem PySem.Spec PyProof.Rows L2
/-! ### raise C(e) -/
/-- a class whose instances are raised with a field -/
structure ExKc (P : Program) (w : World) (K : PySem.W.Frag) (mg : Str → Option Value) (base : Heap) (T : Tb) (k c f : Nat) (x : Str) : Prop where
  ex : ∃ (B newId initId : String) (bmB : List Value) (fI : Addr) (fd : FuncData) (ps : List Str), ExG K (T.cA c) B newId initId bmB ∧ PySem.W.findIn K (.ref (T.cA c)) "__init__" = some (some (.ref fI)) ∧ PySem.W.typeIn K (.ref fI) = some (.type "function") ∧
    (∃ fx, T.an f = fx ∧ FnG P w K mg base k fI fd ps (spI (T.cA c) fx)) ∧ (∀ (s : Shared) (us : List Value), K.In s.heap → us.length = 2 → BindsTo s fd ⟨us, []⟩ (ps.zip us)) ∧ mg x = some (.ref (T.cA c))
section
variable {T : Tb} {W : WX} {X : Cx} {G : Gs}
theorem s_raise1 (ok : Cok T X) (gd : X.A.guards = some []) (tk : Takes X W) {c f k : Nat} {x : Str} {e : Expr} {m : MExp} {p pos pos' : Pos} (h : ExKc X.prog X.w X.K X.mg X.base T k c f x) (hr : Room (k + 1) X.A) (he : PE X e (rd T W (ev G m))) (hg : Gl X x := by rfl) (hdb : (x == ("__debug__" : Str)) = false := by decide)
    (hs : starEach [e] X.env = (false, eval e X.env) :: starEach [] X.env := by rfl) :
    PS X (.Raise (some (.Call (.Name x p) [e] [] pos)) none pos') (rdS T W [] (exec G (.raise c [f] [m]))) := by
  obtain ⟨B, newId, initId, bmB, fI, fd, ps, E, iC, tI, ⟨fx, hfx, F1⟩, hb, hm⟩ := h.ex
  subst hfx
  refine ps_imp (ps_raise ok.calm tk (pmk_g E iC tI F1 hr gd hb hm he hg hdb hs)) fun D σ H h => ?_
  obtain ⟨n, H0, ρ, ts, S, _, P⟩ := h
  have P : PostS T W n ts (((ev G m ρ).bind fun r e1 => Out.ok [r] e1).thn fun rs e1 => match holds rs e1 with
    | some (xs, e2) => if xs.length == 1 then SOut.ex ⟨c, [f].zip xs⟩ e2 else .no
    | none => .no) D := P
  show rd T W (ev G m) σ H _
  refine ⟨n, H0, ρ, ts, S, ?_⟩
  cases ea : ev G m ρ with
  | no => rw [ea] at P; exact P.elim
  | ex y e1 => rw [ea] at P; exact fun dd H0' H' S' xr => P dd σ H0' H' S'.none_ xr
  | ok r e1 =>
    rw [ea] at P
    intro H0' H' v S1 d hd
    have P : PostS T W n ts (match holds [r] e1 with
      | some (xs, e2) => if xs.length == 1 then SOut.ex ⟨c, [f].zip xs⟩ e2 else .no
      | none => .no) D := P
    cases eh : r.hold e1 with
    | none =>
      have : holds [r] e1 = none := by unfold holds; rw [eh]
      rw [this] at P
      exact P.elim
    | some q =>
      obtain ⟨y, e2⟩ := q
      have : holds [r] e1 = some ([y], e2) := by unfold holds; rw [eh]; rfl
      rw [this] at P
      have P : PostS T W n ts (SOut.ex ⟨c, [(f, y)]⟩ e2) D := P
      obtain ⟨H1, S2⟩ := S1.holdR eh
      have rp : Rp T H1 v y := S2.temp _ (List.mem_cons_self ..)
      have S3 := (S2.grow (Same.new (o := HO.xd [(T.an f, v)]) hd)).none_
      exact P (some d) σ H1 _ S3 (.inr ⟨d, _, rfl, upd_same, S2.entry_free hd, S2.still_free hd, .cons rp .nil⟩)
/-! ### {"a": x, "b": y} -/
theorem r_dic2 {sa sb : Str} {ta tb : Tx} {v1 v2 : Expr} {m1 m2 : MExp} {k1 k2 : Nat} {p1 p2 pos : Pos} (h1 : PE X v1 (rd T W (ev G m1))) (h2 : PE X v2 (rd T W (ev G m2))) (ea : sa = ⟨ta.toArray⟩ := by decide +kernel) (eb : sb = ⟨tb.toArray⟩ := by decide +kernel)
    (hne : eqD (.str ta) (.str tb) = false := by decide +kernel) (hk : (Sum.inr sa : Key) ≠ .inr sb := by decide +kernel) :
    PE X (.Dict [some (.Constant (.str sa) k1 p1), some (.Constant (.str sb) k2 p2)] [v1, v2] pos) (rd T W (ev G (.dic [.cst (.str ta), .cst (.str tb)] [m1, m2]))) := by
  refine pe_imp (pe_disp (pps_cons pe_str h1 (pps_cons pe_str h2 pps_nil)) rfl rfl (by simp) (by simp)) fun σ H Q h p hp => ?_
  obtain ⟨n, H0, ρ, ts, S, P⟩ := h
  have P : Post T W n σ ts (((ev G m1 ρ).bind fun r e1 => ((ev G m2 e1).bind fun q e2 => Out.ok [q] e2).bind fun qs e2 => Out.ok (r :: qs) e2).bind fun ws e3 => match holds ws e3 with
    | some (ys, e4) => if [D.str ta, D.str tb].all keyD then Out.ok (Rs.fr (.dic (([D.str ta, D.str tb].zip ys).foldl (fun a p => putD p.1 p.2 a) []))) e4 else .no
    | none => .no) (Wants T n σ ts Q) := P
  have S0 := S.alloc (o := .dic []) (Same.new (o := HO.dK []) hp) hp ⟨[], upd_same, .nil⟩
  show rd T W (ev G m1) σ (upd H p (.dK [])) _
  refine ⟨n, H0, ρ, _, S0, ?_⟩
  cases e1 : ev G m1 ρ with
  | no => rw [e1] at P; exact P.elim
  | ex y e => rw [e1] at P; exact fun dd H0' H' S' xr => P dd H0' H' S'.drop xr
  | ok r ρ1 =>
    rw [e1] at P
    intro H01 H1 w1 S1
    have P : Post T W n σ ts (((ev G m2 ρ1).bind fun q e2 => Out.ok [r, q] e2).bind fun ws e3 => match holds ws e3 with
      | some (ys, e4) => if [D.str ta, D.str tb].all keyD then Out.ok (Rs.fr (.dic (([D.str ta, D.str tb].zip ys).foldl (fun a p => putD p.1 p.2 a) []))) e4 else .no
      | none => .no) (Wants T n σ ts Q) := by
      have P : Post T W n σ ts ((((ev G m2 ρ1).bind fun q e2 => Out.ok [q] e2).bind fun qs e2 => Out.ok (r :: qs) e2).bind fun ws e3 => match holds ws e3 with
        | some (ys, e4) => if [D.str ta, D.str tb].all keyD then Out.ok (Rs.fr (.dic (([D.str ta, D.str tb].zip ys).foldl (fun a p => putD p.1 p.2 a) []))) e4 else .no
        | none => .no) (Wants T n σ ts Q) := P
      cases z : ev G m2 ρ1 with
      | no => rw [z] at P; exact P
      | ex y e => rw [z] at P; exact P
      | ok q e => rw [z] at P; exact P
    show rd T W (ev G m2) σ H1 _
    refine ⟨n, H01, ρ1, _, S1, ?_⟩
    cases e2 : ev G m2 ρ1 with
    | no => rw [e2] at P; exact P.elim
    | ex y e => rw [e2] at P; exact fun dd H0' H' S' xr => P dd H0' H' S'.drop.drop xr
    | ok q ρ2 =>
      rw [e2] at P
      intro H02 H2 w2 S2
      have P : Post T W n σ ts (match holds [r, q] ρ2 with
        | some (ys, e4) => if [D.str ta, D.str tb].all keyD then Out.ok (Rs.fr (.dic (([D.str ta, D.str tb].zip ys).foldl (fun a p => putD p.1 p.2 a) []))) e4 else .no
        | none => .no) (Wants T n σ ts Q) := P
      cases eh : holds [r, q] ρ2 with
      | none => rw [eh] at P; exact P.elim
      | some z =>
        obtain ⟨ys, ρ3⟩ := z
        rw [eh] at P
        obtain ⟨H03, S3, rps⟩ := ST.holdsR (vs := [w1, w2]) rfl S2.swap eh
        obtain ⟨x1, x2, ey⟩ : ∃ x1 x2, ys = [x1, x2] := by
          cases rps with
          | cons _ b => cases b with
            | cons _ c => cases c; exact ⟨_, _, rfl⟩
        subst ey
        have g0 := S3.temp _ (List.mem_cons_self ..)
        obtain ⟨p', ep, _, _, vs0, hd, hr0⟩ := g0
        have ep : V.ref p = .ref p' := ep
        cases ep
        cases hr0
        have rv1 : Rp T H03 w1 x1 := by cases rps with | cons a _ => exact a
        have rv2 : Rp T H03 w2 x2 := by cases rps with | cons _ b => cases b with | cons a _ => exact a
        have em : mergeK [] [(Sum.inr sa, w1), (Sum.inr sb, w2)] = [(Sum.inr sa, w1), (Sum.inr sb, w2)] := by
          simp [mergeK, putK, hk]
        have ed : ([D.str ta, D.str tb].zip [x1, x2]).foldl (fun a p => putD p.1 p.2 a) [] = [(D.str ta, x1), (D.str tb, x2)] := by
          simp [putD, hne]
        have S4 := S3.writeT (u := .dK [(Sum.inr sa, w1), (Sum.inr sb, w2)]) (o' := .dic [(D.str ta, x1), (D.str tb, x2)]) ⟨_, upd_same, by
          rw [ea, eb]
          exact .cons (.str ta) rv1 (.cons (.str tb) rv2 .nil)⟩
        have P : Post T W n σ ts (if [D.str ta, D.str tb].all keyD then Out.ok (Rs.fr (.dic (([D.str ta, D.str tb].zip [x1, x2]).foldl (fun a p => putD p.1 p.2 a) []))) ρ3 else .no) (Wants T n σ ts Q) := P
        rw [ed] at P
        refine ⟨hd, [(.inr sa, w1), (.inr sb, w2)], rfl, by simp, ?_⟩
        rw [em]
        exact P _ _ _ S4
end
/-! ### the body of such an __init__ -/
theorem init_bodyG {X : Cx} {C : Addr} {f m : Str} {ce : Expr} {as_ : Stmt} {pos : Pos} (h1 : PE X ce (fun σ H Q => (tCons (tVar 0) (tCons (tC (.str m)) tNil)) σ H fun vs H1 => ∃ a ws, vs = .ref a :: ws ∧ ws.length ≤ 1000 ∧ H1 a = some (exo a C none) ∧ Q .non H1))
    (h2 : PS X as_ (fun D σ H => ∃ a v, σ[0]? = some (some (.ref a)) ∧ σ[1]? = some (some v) ∧ H a = some (exo a C none) ∧ ∀ dd, H dd = none → dd ≠ a → D.nx σ (upd (upd H dd (exd dd [(f, v)])) a (exo a C (some dd)))))
    (hs : swapsWith ce none pos.line X.env = pure false := by rfl) : PSs X [.Expr ce pos, as_] (tInit C f) := by
  refine pss_imp (pss_cons (ps_expr h1 hs) (pss_cons h2 pss_nil)) fun D σ H h => ?_
  obtain ⟨a, v, e0, e1, ha, q⟩ := h
  exact ⟨.ref a, e0, a, [.str m], rfl, by simp, ha, a, v, e0, e1, ha, q⟩
/-! ### what the written part says, told by truths -/
def exGB (K : PySem.W.Frag) (C : Addr) (bmB : List Value) (newId : String) : Bool := PySem.W.excInitIn K C bmB newId && (PySem.W.excOver K C bmB && (PySem.W.hasDictIn K C && (decide (PySem.W.findIn K (.ref C) "__setattr__" = some (some (.builtin "object.__setattr__"))) &&
  (decide (PySem.W.subIn K (.ref C) (.type "BaseException") = some true) && (decide (PySem.W.typeIn K (.ref C) = some (.type "type")) && PySem.W.keepIn K (.ref C))))))
theorem exGB_ok {K : PySem.W.Frag} {C : Addr} {B newId initId : String} {bmB : List Value} (F : ExcBaseFacts B newId initId bmB) (SF : StoreFacts B bmB "object.__setattr__" "object") (h : exGB K C bmB newId = true) : ExG K C B newId initId bmB := by
  unfold exGB at h
  simp only [Bool.and_eq_true, decide_eq_true_eq] at h
  exact ⟨F, SF, h.1, h.2.1, h.2.2.1, h.2.2.2.1, h.2.2.2.2.1, h.2.2.2.2.2.1, h.2.2.2.2.2.2⟩
def ex0B (K : PySem.W.Frag) (C : Addr) (bmB : List Value) (newId : String) : Bool := PySem.W.excIn K C bmB newId && (PySem.W.keepIn K (.ref C) && (decide (PySem.W.subIn K (.ref C) (.type "BaseException") = some true) && decide (PySem.W.typeIn K (.ref C) = some (.type "type"))))
structure Ex0 (K : PySem.W.Frag) (C : Addr) (bmB : List Value) (newId : String) : Prop where
  q : PySem.W.excIn K C bmB newId = true
  k : PySem.W.keepIn K (.ref C) = true
  s : PySem.W.subIn K (.ref C) (.type "BaseException") = some true
  t : PySem.W.typeIn K (.ref C) = some (.type "type")
theorem ex0B_ok {K : PySem.W.Frag} {C : Addr} {bmB : List Value} {newId : String} (h : ex0B K C bmB newId = true) : Ex0 K C bmB newId := by
  unfold ex0B at h
  simp only [Bool.and_eq_true, decide_eq_true_eq] at h
  exact ⟨h.1, h.2.1, h.2.2.1, h.2.2.2⟩
def excB (K : PySem.W.Frag) (D : Addr) : Bool := decide (PySem.W.findIn K (.ref D) "__getattribute__" = some (some (.builtin "BaseException.__getattribute__"))) && (decide (PySem.W.findIn K (.ref D) "__getattr__" = some none) && (decide (PySem.W.subIn K (.ref D) (.type "BaseException") = some true) && (PySem.W.hasDictIn K D &&
  (decide (PySem.W.findIn K (.ref D) "__class__" = some (some (.builtin "object.__class__"))) && (decide (PySem.W.specialIn K (.builtin "object.__class__") "__get__" = some (some (.builtin "getset_descriptor.__get__"))) && (decide (PySem.W.takesIn K (.builtin "object.__class__") = some true) && decide (PySem.W.mroIn K D (.type "object") = some true)))))))
theorem excB_ok {K : PySem.W.Frag} {D : Addr} (h : excB K D = true) : ExcC K D := by
  unfold excB at h
  simp only [Bool.and_eq_true, decide_eq_true_eq] at h
  exact ⟨h.1, h.2.1, h.2.2.1, h.2.2.2.1, h.2.2.2.2.1, h.2.2.2.2.2.1, h.2.2.2.2.2.2.1, h.2.2.2.2.2.2.2⟩
/-- one of several truths -/
theorem allAt {l : List Bool} (h : l.all id = true) {i : Nat} {b : Bool} (e : l[i]? = some b) : b = true := by
  have := List.all_eq_true.mp h b (List.mem_of_getElem? e)
  simpa using this
/-- a class's own text is found to be a built-in one -/
def cfB (o : Option PySem.W.CFound) (t : String) : Bool := match o with
  | some (.val v) => decide (v = .builtin t)
  | _ => false
theorem cfB_ok {o : Option PySem.W.CFound} {t : String} (h : cfB o t = true) : o = some (.val (.builtin t)) := by
  unfold cfB at h
  split at h
  · rw [of_decide_eq_true h]
  · cases h
theorem ofD {p : Prop} [Decidable p] (h : decide p = true) : p := of_decide_eq_true h
end Mi
end
section
set_option maxHeartbeats 4000000
namespace Mi
open PySem PySem.Spec PyProof.Rows L2
/-! ### one of several new things -/
section
variable {T : Tb} {n : En} {H0 H : Hp} {σ : L2.St} {ρ : Env} {ts : List Tmp}
/-- an object that is no one's is not touched -/
theorem ST.pin {p : Addr} {u : HO} (S : ST T n H0 H σ ρ ts) (hp : H p = some u) (h0 : H0 p = none) (ho : ∀ i, ¬ OwnAt σ ρ i p) (ht : p ∉ tmpL ts) : ST T ⟨upd n.Hs p u, n.H0, n.pas⟩ H0 H σ ρ ts := {
  sub := S.sub
  s0 := S.s0
  len := S.len
  slot := fun i s hs => by
    obtain ⟨x, hx, r⟩ := S.slot i s hs
    refine ⟨x, hx, ?_⟩
    cases s with
    | un => exact r
    | xc _ => exact r
    | sh d => exact r
    | ow o =>
      obtain ⟨q, a, b, c, d⟩ := r
      subst a
      have ne : q ≠ p := fun z => ho i ⟨z ▸ hx, _, hs, rfl⟩
      exact ⟨q, rfl, (upd_ne ne).trans b, c, d⟩
    | pa o => exact r
  temp := fun t ht' => by
    have r := S.temp t ht'
    obtain ⟨v, q⟩ := t
    cases q with
    | d x => exact r
    | fr o =>
      obtain ⟨q, a, b, c, d⟩ := r
      have ne : q ≠ p := fun z => by
        have a' : v = .ref q := a
        subst a'
        subst z
        exact ht (tmpL_mem ht')
      exact ⟨q, a, (upd_ne ne).trans b, c, d⟩
    | bo i => exact r
  dist := S.dist
  dtt := S.dtt
  dts := S.dts
  pak := S.pak
  keep := fun b o h k => by
    by_cases z : b = p
    · subst z
      have h : upd n.Hs b u b = some o := h
      rw [upd_same] at h
      cases h
      exact hp
    · have h : upd n.Hs p u b = some o := h
      rw [upd_ne z] at h
      exact S.keep b o h k
  dom := fun b o h => by
    by_cases z : b = p
    · subst z; exact ⟨u, hp⟩
    · have h : upd n.Hs p u b = some o := h
      rw [upd_ne z] at h
      exact S.dom b o h
  new := fun b o h => by
    rcases S.new b o h with q | q
    · exact .inl q
    · refine .inr ?_
      have ne : b ≠ p := fun z => by subst z; rw [h0] at h; cases h
      exact (upd_ne ne).trans q }
theorem ST.unpin {p : Addr} {u : HO} (S : ST T ⟨upd n.Hs p u, n.H0, n.pas⟩ H0 H σ ρ ts) (hs : n.Hs p = none) : ST T n H0 H σ ρ ts := by
  have nn : ∀ q, upd n.Hs p u q = none → n.Hs q = none := fun q h => by
    by_cases z : q = p
    · subst z; exact hs
    · rw [upd_ne z] at h; exact h
  exact {
    sub := S.sub
    s0 := S.s0
    len := S.len
    slot := fun i s h => by
      obtain ⟨x, hx, r⟩ := S.slot i s h
      refine ⟨x, hx, ?_⟩
      cases s with
      | un => exact r
      | xc _ => exact r
      | sh d => exact r
      | ow o => obtain ⟨q, a, b, c, d⟩ := r; exact ⟨q, a, nn q b, c, d⟩
      | pa o => exact r
    temp := fun t ht => by
      have r := S.temp t ht
      obtain ⟨v, q⟩ := t
      cases q with
      | d x => exact r
      | fr o => obtain ⟨q, a, b, c, d⟩ := r; exact ⟨q, a, nn q b, c, d⟩
      | bo i => exact r
    dist := S.dist
    dtt := S.dtt
    dts := S.dts
    pak := S.pak
    keep := fun b o h k => by
      have ne : b ≠ p := fun z => by subst z; rw [hs] at h; cases h
      exact S.keep b o ((upd_ne ne).trans h) k
    dom := fun b o h => by
      have ne : b ≠ p := fun z => by subst z; rw [hs] at h; cases h
      exact S.dom b o ((upd_ne ne).trans h)
    new := fun b o h => by
      rcases S.new b o h with q | q
      · exact .inl q
      · exact .inr (nn b q) }
theorem zip_at {vs : List V} {rs : List Rs} {j : Nat} {r : Rs} (hl : vs.length = rs.length) (h : rs[j]? = some r) : ∃ v l1 l2, vs[j]? = some v ∧ vs.zip rs = l1 ++ (v, r) :: l2 := by
  have hj : j < vs.length := by rw [hl]; exact lt_of_get h
  refine ⟨vs[j], (vs.zip rs).take j, (vs.zip rs).drop (j + 1), List.getElem?_eq_getElem hj, ?_⟩
  have hz : (vs.zip rs)[j]? = some (vs[j], r) := by
    rw [List.getElem?_zip_eq_some]
    exact ⟨List.getElem?_eq_getElem hj, h⟩
  have hzl := lt_of_get hz
  have e : (vs.zip rs)[j] = (vs[j], r) := by
    have := List.getElem?_eq_getElem hzl
    rw [this] at hz
    exact Option.some.inj hz
  rw [← e, List.getElem_cons_drop, List.take_append_drop]
theorem ST.pickOne {t : Tmp} {l1 l2 : List Tmp} (S : ST T n H0 H σ ρ ((l1 ++ t :: l2) ++ ts)) : ST T n H0 H σ ρ (t :: ts) := by
  have e : ((l1 ++ t :: l2) ++ ts).Perm ((l1 ++ l2) ++ (t :: ts)) := by
    have h1 : (l1 ++ t :: l2).Perm (t :: (l1 ++ l2)) := List.perm_middle
    have h2 := List.Perm.append_right ts h1
    have h3 : ((l1 ++ l2) ++ (t :: ts)).Perm (t :: ((l1 ++ l2) ++ ts)) := List.perm_middle
    exact h2.trans h3.symm
  exact (S.perm e).dropA
end
section
variable {T : Tb} {W : WX} {X : Cx} {G : Gs}
theorem r_pick {es : List Expr} {ms : List MExp} {i : Expr} {mi : MExp} {lp pos : Pos} (h : PA X es (rdA T W (evs G ms))) (hi : PE X i (rd T W (ev G mi))) (hl : ms.length ≤ 1000 := by decide) (hm : PlainIx i := by exact fun _ _ => rfl) :
    PE X (.Subscript (.List es lp) i pos) (rd T W (ev G (.pick ms mi))) := by
  refine pe_imp (pe_ix ix_list (pe_lst h) hi hm) fun σ H Q hq => ?_
  obtain ⟨n, H0, ρ, ts, S, P⟩ := hq
  have P : Post T W n σ ts ((evs G ms ρ).bind fun rs e1 => pickS rs (ev G mi e1)) (Wants T n σ ts Q) := P
  refine rdA_mono (rd_args_len S P) fun vs H1 hh => ?_
  obtain ⟨H01, ρ1, rs, l1, l2, S1, P1⟩ := hh
  refine ⟨Nat.le_of_lt (small1000 (by omega)), fun p hp => ?_⟩
  have ho : ∀ i, ¬ OwnAt σ ρ1 i p := fun i z => by
    obtain ⟨u, hu, _⟩ := S1.own_there z
    rw [hp] at hu
    cases hu
  have ht : p ∉ tmpL (vs.zip rs ++ ts) := fun z => by
    obtain ⟨u, hu, _⟩ := S1.tmp_there z
    rw [hp] at hu
    cases hu
  have h0 := S1.still_free hp
  have hs := S1.entry_free hp
  have S2 := (S1.grow (Same.new (o := .lst vs) hp)).pin upd_same h0 ho ht
  refine ⟨_, H01, ρ1, vs.zip rs ++ ts, S2, ?_⟩
  cases e : ev G mi ρ1 with
  | no => rw [e] at P1; exact P1.elim
  | ex _ _ => rw [e] at P1; exact P1.elim
  | ok ri e2 =>
    rw [e] at P1
    intro H02 H2 y S3
    have P1 : Post T W n σ ts (match ri.see e2 with
      | some (.int k) => match (plc rs.length k).bind fun n => rs[n]? with
        | some r => Out.ok r e2
        | none => .no
      | _ => .no) (Wants T n σ ts Q) := P1
    have hpk : H2 p = some (.lst vs) := by
      refine S3.keep p _ upd_same fun z => ?_
      obtain ⟨q, hq, eq⟩ := List.mem_map.mp z
      obtain ⟨k1, o, k2⟩ := S1.pak q hq
      rw [eq] at k1
      exact ho q.1 ⟨k1, _, k2, rfl⟩
    have S4 := S3.unpin hs
    cases es' : ri.see e2 with
    | none => rw [es'] at P1; exact P1.elim
    | some x =>
      rw [es'] at P1
      cases x with
      | int k =>
        have P1 : Post T W n σ ts (match (plc rs.length k).bind fun n => rs[n]? with
          | some r => Out.ok r e2
          | none => .no) (Wants T n σ ts Q) := P1
        cases ek : (plc rs.length k).bind fun n => rs[n]? with
        | none => rw [ek] at P1; exact P1.elim
        | some r =>
          rw [ek] at P1
          obtain ⟨j, hj, hr⟩ := Option.bind_eq_some_iff.mp ek
          obtain ⟨v, a, b, hv, hz⟩ := zip_at l1 hr
          have ey : y = .int k := (S4.see es').int
          subst ey
          rw [plc_ix, ← l1] at hj
          have S5 := S4.drop
          rw [hz] at S5
          exact ⟨p, vs, k, v, rfl, rfl, .of hpk, at_of hj hv, P1 H02 H2 v S5.pickOne⟩
      | _ => exact P1.elim
end
end Mi
end
/-! the text's defs by how deep calls may go; dn: what built-ins call for us, one level deeper. Plain Lean -/
namespace Mi
def Gy (defs : Nat → Option Def) (dn : Nat → Option Nat) (meth : Nat → Nat → Option Nat) (init : Nat → Option Nat) (isa : Nat → Nat → Option Bool) (free : Nat → Nat → Bool) (fuel : Nat) : Nat → Gs
  | 0 => ⟨fun _ _ => .no, meth, init, isa, free, fuel⟩
  | n + 1 => ⟨fun f l => match dn f with
    | some g => (Gy defs dn meth init isa free fuel n).fn g l
    | none => match defs f with
      | some d => runDef (Gy defs dn meth init isa free fuel n) d l
      | none => .no, meth, init, isa, free, fuel⟩
end Mi
/-! ### the text in the small language -/
namespace Lw
open Mi
abbrev i_is_whole_rows : Nat := 0
abbrev i_is_count : Nat := 1
abbrev i_is_whole_differences : Nat := 2
abbrev i_is_differences : Nat := 3
abbrev i_want_differences : Nat := 4
abbrev i_trimmed : Nat := 5
abbrev i_worth : Nat := 6
abbrev i_differences_of : Nat := 7
abbrev i_summed_up : Nat := 8
abbrev i_sum_of : Nat := 9
abbrev i_product_of : Nat := 10
abbrev i_moved_by : Nat := 11
abbrev i_far_enough : Nat := 12
abbrev i_halved : Nat := 13
abbrev i_least_at : Nat := 14
abbrev i_law_pot : Nat := 15
abbrev i_law_take : Nat := 16
abbrev i_law_one : Nat := 17
abbrev i_law_whole : Nat := 18
abbrev i_law_row : Nat := 19
abbrev i_law_odd : Nat := 20
abbrev i_law_no_gear : Nat := 21
abbrev i_law_no_list : Nat := 22
abbrev i_law_no_count : Nat := 23
abbrev i_law_done : Nat := 24
abbrev i_law_why : Nat := 25
abbrev i_law_gears_refused : Nat := 26
abbrev i_law_good_told : Nat := 27
abbrev i_law : Nat := 28
abbrev x_NoDifferences : Nat := 0
abbrev x_NoCount : Nat := 1
abbrev x_FarError : Nat := 2
abbrev x_NoLeap : Nat := 3
abbrev x_NoMoment : Nat := 4
abbrev x_NoPatch : Nat := 5
abbrev x_NoProgram : Nat := 6
abbrev x_NoText : Nat := 7
abbrev x_NoValues : Nat := 8
abbrev x_ValueError : Nat := 500
def b_is_whole_rows : List MStmt := [.ret (.and_ (.isk (.var 0) [.int]) (.not_ (.isk (.var 0) [.bool])))]
def d_is_whole_rows : Def := ⟨1, 1, b_is_whole_rows⟩
def b_is_count : List MStmt := [.ret (.and_ (.call i_is_whole_rows [.var 0]) (.cmp .ge (.var 0) (.cst (.int 0))))]
def d_is_count : Def := ⟨1, 1, b_is_count⟩
def b_is_whole_differences : List MStmt := [.ret (.and_ (.isk (.var 0) [.int]) (.not_ (.isk (.var 0) [.bool])))]
def d_is_whole_differences : Def := ⟨1, 1, b_is_whole_differences⟩
def b_is_differences : List MStmt := [.ite (.or_ (.not_ (.isk (.var 0) [.tuple])) (.not_ (.blt .all [.comp (.call i_is_whole_differences [.var 1]) (.nm 1) (.seq (.var 0)) none]))) [.ret (.cst (.bl false))] [], .ret (.or_ (.cmp .eq (.var 0) (.tup [])) (.cmp .ne (.idx (.var 0) (.neg (.cst (.int 1)))) (.cst (.int 0))))]
def d_is_differences : Def := ⟨1, 2, b_is_differences⟩
def b_want_differences : List MStmt := [.ite (.not_ (.call i_is_differences [.var 0])) [.raise x_NoDifferences [] []] []]
def d_want_differences : Def := ⟨1, 1, b_want_differences⟩
def b_trimmed : List MStmt := [.set 1 false (.len1 (.var 0)), .whl (.and_ (.cmp .gt (.var 1) (.cst (.int 0))) (.cmp .eq (.idx (.var 0) (.bin .sub (.var 1) (.cst (.int 1)))) (.cst (.int 0)))) [.aug 1 .sub (.cst (.int 1))], .ret (.blt .tuple [.slc (.var 0) none (some (.var 1))])]
def d_trimmed : Def := ⟨1, 2, b_trimmed⟩
def b_worth : List MStmt := [.unp [.nm 2, .nm 3] (.tup [.cst (.int 0), .cst (.int 1)]), .for_ (.tp [4, 5]) (.enum (.var 0)) [.aug 2 .add (.bin .mul (.var 5) (.var 3)), .set 3 false (.bin .fdiv (.bin .mul (.var 3) (.bin .sub (.var 1) (.var 4))) (.bin .add (.var 4) (.cst (.int 1))))], .ret (.var 2)]
def d_worth : Def := ⟨2, 6, b_worth⟩
def b_differences_of : List MStmt := [.ite (.or_ (.not_ (.isk (.var 0) [.list, .tuple])) (.not_ (.blt .all [.comp (.call i_is_whole_differences [.var 5]) (.nm 5) (.seq (.var 0)) none]))) [.raise x_NoDifferences [] []] [], .set 1 true (.lst []), .set 2 false (.blt .list [.var 0]), .whl (.cmp .ne (.var 2) (.lst [])) [.star [3] 4 (.var 2), .exp (.met .append (.var 1) [.var 3]), .set 2 false (.comp (.bin .sub (.var 6) (.var 5)) (.tp [5, 6]) (.zip (.var 2) (.var 4)) none)], .ret (.call i_trimmed [.var 1])]
def d_differences_of : Def := ⟨1, 7, b_differences_of⟩
def b_summed_up : List MStmt := [.exp (.call i_want_differences [.var 0]), .ret (.ite (.cmp .eq (.var 0) (.tup [])) (.var 0) (.bin .add (.tup [.cst (.int 0)]) (.var 0)))]
def d_summed_up : Def := ⟨1, 1, b_summed_up⟩
def b_sum_of : List MStmt := [.exp (.call i_want_differences [.var 0]), .exp (.call i_want_differences [.var 1]), .set 2 false (.blt .min2 [.len1 (.var 0), .len1 (.var 1)]), .set 3 false (.comp (.bin .add (.var 4) (.var 5)) (.tp [4, 5]) (.zip (.var 0) (.var 1)) none), .ret (.call i_trimmed [.bin .add (.bin .add (.var 3) (.blt .list [.slc (.var 0) (some (.var 2)) none])) (.blt .list [.slc (.var 1) (some (.var 2)) none])])]
def d_sum_of : Def := ⟨2, 6, b_sum_of⟩
def b_product_of : List MStmt := [.exp (.call i_want_differences [.var 0]), .exp (.call i_want_differences [.var 1]), .ite (.or_ (.cmp .eq (.var 0) (.tup [])) (.cmp .eq (.var 1) (.tup []))) [.ret (.tup [])] [], .ret (.call i_differences_of [.comp (.bin .mul (.call i_worth [.var 0, .var 2]) (.call i_worth [.var 1, .var 2])) (.nm 2) (.rng none (.bin .sub (.bin .add (.len1 (.var 0)) (.len1 (.var 1))) (.cst (.int 1)))) none])]
def d_product_of : Def := ⟨2, 3, b_product_of⟩
def b_moved_by : List MStmt := [.exp (.call i_want_differences [.var 0]), .ite (.not_ (.call i_is_count [.var 1])) [.raise x_NoCount [] []] [], .ret (.blt .tuple [.comp (.call i_worth [.slc (.var 0) (some (.var 2)) none, .var 1]) (.nm 2) (.rng none (.len1 (.var 0))) none])]
def d_moved_by : Def := ⟨2, 3, b_moved_by⟩
def b_far_enough : List MStmt := [.unp [.nm 3, .nm 4] (.tup [.cst (.int 0), .cst (.int 1)]), .whl (.and_ (.cmp .lt (.var 4) (.var 2)) (.cmp .lt (.call i_worth [.var 0, .var 4]) (.var 1))) [.par 3 4 false false (.var 4) (.blt .min2 [.bin .mul (.cst (.int 2)) (.var 4), .var 2])], .ret (.tup [.var 3, .var 4])]
def d_far_enough : Def := ⟨3, 5, b_far_enough⟩
def b_halved : List MStmt := [.whl (.cmp .gt (.bin .sub (.var 3) (.var 2)) (.cst (.int 1))) [.set 4 false (.bin .fdiv (.bin .add (.var 2) (.var 3)) (.cst (.int 2))), .ite (.cmp .lt (.call i_worth [.var 0, .var 4]) (.var 1)) [.set 2 false (.var 4)] [.set 3 false (.var 4)]], .ret (.var 3)]
def d_halved : Def := ⟨4, 5, b_halved⟩
def b_least_at : List MStmt := [.exp (.call i_want_differences [.var 0]), .ite (.not_ (.call i_is_count [.var 2])) [.raise x_NoCount [] []] [], .ite (.cmp .ge (.call i_worth [.var 0, .cst (.int 0)]) (.var 1)) [.ret (.cst (.int 0))] [], .ite (.cmp .eq (.var 2) (.cst (.int 0))) [.ret (.cst .non)] [], .unp [.nm 3, .nm 4] (.call i_far_enough [.var 0, .var 1, .var 2]), .ite (.cmp .lt (.call i_worth [.var 0, .var 4]) (.var 1)) [.ret (.cst .non)] [], .ret (.call i_halved [.var 0, .var 1, .var 3, .var 4])]
def d_least_at : Def := ⟨3, 5, b_least_at⟩
def b_law_pot : List MStmt := [.set 2 false (.ite (.cmp .lt (.var 1) (.len1 (.var 0))) (.idx (.var 0) (.var 1)) (.cst (.int 0))), .ret (.lst [.blt .max2 [.cst (.int 0), .bin .sub (.blt .abs [.var 2]) (.bin .pow (.cst (.int 10)) (.cst (.int 18)))], .bin .mod (.bin .add (.bin .add (.bin .mul (.bin .mod (.blt .abs [.var 2]) (.cst (.int 2147483587))) (.cst (.int 39119))) (.bin .mul (.cst (.int 7919)) (.var 1))) (.cst (.int 41))) (.cst (.int 2147483629))])]
def d_law_pot : Def := ⟨2, 3, b_law_pot⟩
def b_law_take : List MStmt := [.ite (.cmp .gt (.idx (.var 0) (.cst (.int 0))) (.cst (.int 0))) [.unp [.sub (.var 0) (.cst (.int 0)), .nm 2] (.blt .divmod [.idx (.var 0) (.cst (.int 0)), .var 1]), .ret (.var 2)] [], .setSub (.var 0) (.cst (.int 1)) (.bin .mod (.bin .add (.bin .mul (.idx (.var 0) (.cst (.int 1))) (.cst (.int 40487))) (.cst (.int 12289))) (.cst (.int 2147483629))), .ret (.bin .mod (.bin .fdiv (.bin .mod (.bin .mul (.idx (.var 0) (.cst (.int 1))) (.idx (.var 0) (.cst (.int 1)))) (.cst (.int 2147483563))) (.cst (.int 13))) (.var 1))]
def d_law_take : Def := ⟨2, 3, b_law_take⟩
def b_law_one : List MStmt := [.ret (.idx (.var 1) (.call i_law_take [.var 0, .len1 (.var 1)]))]
def d_law_one : Def := ⟨2, 2, b_law_one⟩
def b_law_whole : List MStmt := [.set 2 false (.idx (.lst [.call i_law_take [.var 0, .cst (.int 3)], .call i_law_take [.var 0, .cst (.int 20)], .call i_law_take [.var 0, .var 1]]) (.call i_law_take [.var 0, .cst (.int 3)])), .ret (.idx (.lst [.var 2, .neg (.var 2)]) (.call i_law_take [.var 0, .cst (.int 2)]))]
def d_law_whole : Def := ⟨2, 3, b_law_whole⟩
def b_law_row : List MStmt := [.set 3 true (.comp (.call i_law_whole [.var 0, .var 2]) (.nm 4) (.rng none (.call i_law_take [.var 0, .bin .add (.var 1) (.cst (.int 1))])) none), .ite (.and_ (.cmp .ne (.var 3) (.lst [])) (.cmp .eq (.idx (.var 3) (.neg (.cst (.int 1)))) (.cst (.int 0)))) [.setSub (.var 3) (.neg (.cst (.int 1))) (.bin .add (.cst (.int 1)) (.call i_law_take [.var 0, .cst (.int 9)]))] [], .ret (.blt .tuple [.var 3])]
def d_law_row : Def := ⟨3, 5, b_law_row⟩
def b_law_odd : List MStmt := [.ret (.call i_law_one [.var 0, .lst [.cst (.bl true), .cst (.bl false), .cst .non, .cst (.str [49]), .cst (.str []), .tup [.cst (.int 1)], .lst [.cst (.int 1)], .dic [] [], .tup []]])]
def d_law_odd : Def := ⟨1, 1, b_law_odd⟩
def b_law_no_gear : List MStmt := [.set 2 false (.blt .list [.var 1]), .set 3 false (.call i_law_take [.var 0, .bin .add (.len1 (.var 2)) (.cst (.int 1))]), .set 4 false (.lst [.bin .add (.var 1) (.tup [.cst (.int 0)]), .var 2, .blt .tuple [.bin .add (.bin .add (.slc (.var 2) none (some (.var 3))) (.lst [.call i_law_odd [.var 0]])) (.slc (.var 2) (some (.var 3)) none)], .bin .add (.var 1) (.tup [.cst (.int 0), .cst (.int 0)]), .tup [.var 1]]), .ret (.call i_law_one [.var 0, .bin .add (.var 4) (.lst [.cst .non, .cst (.int 0), .cst (.int 7), .cst (.str []), .cst (.str [40, 49, 44, 41]), .cst (.bl true), .lst [], .dic [] [], .cst (.dic [((.int 0), (.int 1))]), .tup [.cst (.int 0)], .tup [.tup []], .bin .add (.var 1) (.tup [.cst (.bl false)])])])]
def d_law_no_gear : Def := ⟨2, 5, b_law_no_gear⟩
def b_law_no_list : List MStmt := [.set 2 false (.blt .list [.var 1]), .set 3 false (.call i_law_take [.var 0, .bin .add (.len1 (.var 2)) (.cst (.int 1))]), .set 4 false (.lst [.bin .add (.bin .add (.slc (.var 2) none (some (.var 3))) (.lst [.call i_law_odd [.var 0]])) (.slc (.var 2) (some (.var 3)) none), .blt .tuple [.bin .add (.bin .add (.slc (.var 2) none (some (.var 3))) (.lst [.call i_law_odd [.var 0]])) (.slc (.var 2) (some (.var 3)) none)]]), .ret (.call i_law_one [.var 0, .bin .add (.var 4) (.lst [.cst .non, .cst (.int 0), .cst (.int 7), .cst (.str []), .cst (.str [49, 50]), .cst (.bl true), .dic [] [], .cst (.dic [((.int 0), (.int 1))]), .lst [.var 2], .lst [.var 1]])])]
def d_law_no_list : Def := ⟨2, 5, b_law_no_list⟩
def b_law_no_count : List MStmt := [.set 1 false (.call i_law_take [.var 0, .bin .pow (.cst (.int 10)) (.cst (.int 40))]), .ret (.call i_law_one [.var 0, .lst [.neg (.cst (.int 1)), .bin .sub (.neg (.cst (.int 1))) (.var 1), .cst (.bl true), .cst (.bl false), .cst .non, .cst (.str [48]), .cst (.str []), .tup [.cst (.int 0)], .lst [.cst (.int 0)], .dic [] []]])]
def d_law_no_count : Def := ⟨1, 2, b_law_no_count⟩
def b_law_done : List MStmt := [.ite (.cmp .eq (.var 0) (.cst (.int 0))) [.ret (.call i_summed_up [.var 1])] [], .ite (.cmp .eq (.var 0) (.cst (.int 1))) [.ret (.call i_sum_of [.var 1, .var 2])] [], .ite (.cmp .eq (.var 0) (.cst (.int 2))) [.ret (.callk i_product_of ([] ++ [.var 1, .var 2]) [0, 1])] [], .ite (.cmp .eq (.var 0) (.cst (.int 3))) [.ret (.call i_moved_by [.var 1, .var 2])] [], .ite (.cmp .eq (.var 0) (.cst (.int 4))) [.ret (.callk i_least_at ([.var 1, .cst (.int 3)] ++ [.var 2]) [0, 1, 2])] [], .ret (.callk i_differences_of ([] ++ [.var 1]) [0])]
def d_law_done : Def := ⟨3, 3, b_law_done⟩
def b_law_why : List MStmt := [.set 3 false (.cst (.str [116, 111, 108, 100])), .set 4 false (.blt .repr [.tup [.var 1, .var 2]]), .tri [.exp (.call i_law_done [.var 0, .var 1, .var 2])] x_FarError 5 [.set 6 false (.isx 5 [x_NoLeap, x_NoMoment, x_NoPatch, x_NoProgram, x_NoText, x_NoValues]), .set 6 false (.or_ (.var 6) (.not_ (.isx 5 [x_ValueError]))), .set 3 false (.lst [.bin .mul (.cst (.str [103, 101, 97, 114])) (.blt .int [.isx 5 [x_NoDifferences]]), .bin .mul (.cst (.str [99, 111, 117, 110, 116])) (.blt .int [.isx 5 [x_NoCount]]), .var 6])], .ret (.ite (.cmp .eq (.blt .repr [.tup [.var 1, .var 2]]) (.var 4)) (.var 3) (.cst (.str [99, 104, 97, 110, 103, 101, 100])))]
def d_law_why : Def := ⟨3, 7, b_law_why⟩
def b_law_gears_refused : List MStmt := [.par3 5 6 7 false false false (.call i_law_no_gear [.var 0, .var 1]) (.call i_law_no_gear [.var 0, .var 2]) (.call i_law_no_count [.var 0]), .set 3 false (.lst [.cst (.str [103, 101, 97, 114]), .cst (.str []), .cst (.bl false)]), .set 4 true (.lst [.tup [.cst (.int 0), .var 5, .cst (.int 0)], .tup [.cst (.int 1), .var 5, .var 2], .tup [.cst (.int 1), .var 1, .var 5], .tup [.cst (.int 1), .var 5, .var 6], .tup [.cst (.int 2), .var 5, .var 2], .tup [.cst (.int 2), .var 1, .var 5]]), .set 4 true (.bin .add (.var 4) (.lst [.tup [.cst (.int 2), .var 5, .var 6], .tup [.cst (.int 2), .tup [], .var 5], .tup [.cst (.int 2), .var 5, .tup []], .tup [.cst (.int 3), .var 5, .cst (.int 2)], .tup [.cst (.int 3), .var 5, .var 7], .tup [.cst (.int 4), .var 5, .cst (.int 2)]])), .exp (.met .append (.var 4) [.tup [.cst (.int 4), .var 5, .var 7]]), .ret (.blt .all [.comp (.cmp .eq (.call i_law_why [.var 8, .var 9, .var 10]) (.var 3)) (.tp [8, 9, 10]) (.seq (.var 4)) none])]
def d_law_gears_refused : Def := ⟨3, 11, b_law_gears_refused⟩
def b_law_good_told : List MStmt := [.set 2 false (.lst [.tup [.cst (.int 0), .var 0, .cst (.int 0)], .tup [.cst (.int 1), .var 0, .var 1], .tup [.cst (.int 2), .var 0, .var 1], .tup [.cst (.int 3), .var 0, .cst (.int 2)], .tup [.cst (.int 5), .var 0, .cst (.int 0)], .tup [.cst (.int 5), .blt .list [.var 0], .cst (.int 0)]]), .ite (.cmp .ne (.comp (.call i_law_why [.var 3, .var 4, .var 5]) (.tp [3, 4, 5]) (.seq (.var 2)) none) (.bin .mul (.lst [.cst (.str [116, 111, 108, 100])]) (.cst (.int 6)))) [.ret (.cst (.bl false))] [], .ret (.cmp .eq (.call i_law_why [.cst (.int 4), .tup [.cst (.int 5)], .cst (.int 2)]) (.cst (.str [116, 111, 108, 100])))]
def d_law_good_told : Def := ⟨2, 6, b_law_good_told⟩
def b_law : List MStmt := [.for_ (.nm 1) (.rng none (.blt .max2 [.cst (.int 1), .blt .min2 [.cst (.int 8), .len1 (.var 0)]])) [.set 2 true (.call i_law_pot [.var 0, .var 1]), .par 4 5 false false (.call i_law_row [.var 2, .cst (.int 12), .bin .pow (.cst (.int 10)) (.cst (.int 30))]) (.call i_law_row [.var 2, .cst (.int 12), .cst (.int 10)]), .for_ (.nm 3) (.rng none (.cst (.int 2))) [.ite (.or_ (.not_ (.call i_law_good_told [.var 4, .var 5])) (.not_ (.call i_law_gears_refused [.var 2, .var 4, .var 5]))) [.ret (.cst (.bl false))] [], .set 6 false (.call i_law_no_count [.var 2]), .ite (.or_ (.cmp .ne (.call i_law_why [.cst (.int 3), .var 4, .var 6]) (.lst [.cst (.str []), .cst (.str [99, 111, 117, 110, 116]), .cst (.bl false)])) (.cmp .ne (.call i_law_why [.cst (.int 4), .var 4, .var 6]) (.lst [.cst (.str []), .cst (.str [99, 111, 117, 110, 116]), .cst (.bl false)]))) [.ret (.cst (.bl false))] [], .ite (.cmp .ne (.call i_law_why [.cst (.int 5), .call i_law_no_list [.var 2, .var 4], .cst (.int 0)]) (.lst [.cst (.str [103, 101, 97, 114]), .cst (.str []), .cst (.bl false)])) [.ret (.cst (.bl false))] []], .ite (.not_ (.call i_law_good_told [.var 4, .var 5])) [.ret (.cst (.bl false))] []], .ret (.cst (.bl true))]
def d_law : Def := ⟨1, 7, b_law⟩
def defs : Nat → Option Def
  | 0 => some d_is_whole_rows
  | 1 => some d_is_count
  | 2 => some d_is_whole_differences
  | 3 => some d_is_differences
  | 4 => some d_want_differences
  | 5 => some d_trimmed
  | 6 => some d_worth
  | 7 => some d_differences_of
  | 8 => some d_summed_up
  | 9 => some d_sum_of
  | 10 => some d_product_of
  | 11 => some d_moved_by
  | 12 => some d_far_enough
  | 13 => some d_halved
  | 14 => some d_least_at
  | 15 => some d_law_pot
  | 16 => some d_law_take
  | 17 => some d_law_one
  | 18 => some d_law_whole
  | 19 => some d_law_row
  | 20 => some d_law_odd
  | 21 => some d_law_no_gear
  | 22 => some d_law_no_list
  | 23 => some d_law_no_count
  | 24 => some d_law_done
  | 25 => some d_law_why
  | 26 => some d_law_gears_refused
  | 27 => some d_law_good_told
  | 28 => some d_law
  | _ => none
def dnF : Nat → Option Nat
  | _ => none
def methF : Nat → Nat → Option Nat
  | _, _ => none
def initF : Nat → Option Nat
  | _ => none
def freeF (c f : Nat) : Bool := decide (c < 0) && [].contains f
def fuel : Nat := 4000
def isaF : Nat → Nat → Option Bool
  | 0, 2 => some true
  | 0, 3 => some false
  | 0, 4 => some false
  | 0, 5 => some false
  | 0, 6 => some false
  | 0, 7 => some false
  | 0, 8 => some false
  | 0, 500 => some true
  | 0, 0 => some true
  | 0, 1 => some false
  | 1, 2 => some true
  | 1, 3 => some false
  | 1, 4 => some false
  | 1, 5 => some false
  | 1, 6 => some false
  | 1, 7 => some false
  | 1, 8 => some false
  | 1, 500 => some true
  | 1, 0 => some false
  | 1, 1 => some true
  | _, _ => none
abbrev G (n : Nat) : Gs := Gy defs dnF methF initF isaF freeF fuel n
end Lw
section
set_option exponentiation.threshold 300
namespace Lw
open Mi
theorem log2_le {n k : Nat} (h : n < 2 ^ k) : n.log2 ≤ k := by
  by_cases z : n = 0
  · subst z; simp
  · exact Nat.le_of_lt ((Nat.log2_lt z).mpr h)
theorem mul_ok {i j : Int} (a b : Nat) (hi : i.natAbs < 2 ^ a) (hj : j.natAbs < 2 ^ b) (h : a + b < 1000000) : mulOk i j = true := by
  unfold mulOk
  have h1 := log2_le hi
  have h2 := log2_le hj
  exact decide_eq_true (by omega)
theorem div_ok {j : Int} (a : Nat) (h0 : 0 < j) (hj : j.natAbs < 2 ^ a) (h : a < 9000) : divOk j = true := by
  unfold divOk
  have h1 := log2_le hj
  rw [Bool.and_eq_true]
  exact ⟨decide_eq_true h0, decide_eq_true (by omega)⟩
theorem fn_succ (n f : Nat) (l : List Sl) (d : Def) (h : defs f = some d) (h2 : dnF f = none := by rfl) : (G (n + 1)).fn f l = runDef (G n) d l := by
  show (match dnF f with
    | some g => (G n).fn g l
    | none => match defs f with
      | some d => runDef (G n) d l
      | none => Out.no) = _
  rw [h2, h]
theorem fn_dn (n f g : Nat) (l : List Sl) (h : dnF f = some g) : (G (n + 1)).fn f l = (G n).fn g l := by
  show (match dnF f with
    | some g => (G n).fn g l
    | none => match defs f with
      | some d => runDef (G n) d l
      | none => Out.no) = _
  rw [h]
/-- what a pot gives: the digit, the pot behind it -/
def takeD (a b w : Int) : Int := if 0 < a then a % w else (((b * 40487 + 12289) % 2147483629) * ((b * 40487 + 12289) % 2147483629) % 2147483563 / 13) % w
def takeA (a w : Int) : Int := if 0 < a then a / w else a
def takeB (a b : Int) : Int := if 0 < a then b else (b * 40487 + 12289) % 2147483629
theorem take_eq (n : Nat) (a b w : Int) (hw : 0 < w) (hw2 : w.natAbs < 2 ^ 4000) (hb : 0 ≤ b) (hb2 : b < 2147483629) :
    (G (n + 1)).fn i_law_take [.pa (.lst [.int a, .int b]), .sh (.int w)] = .ok (.d (.int (takeD a b w))) [.pa (.lst [.int (takeA a w), .int (takeB a b)]), .sh (.int w)] := by
  rw [fn_succ n _ _ d_law_take rfl]
  have hd : divOk w = true := div_ok 4000 hw hw2 (by decide)
  unfold takeD takeA takeB
  by_cases ha : 0 < a
  · rw [if_pos ha, if_pos ha, if_pos ha]
    simp [Ob.d, binD, Rs.hold, holds, runDef, d_law_take, b_law_take, execs, exec, tst, ev, evs, Out.bind, Out.thn, tstR, Rs.see, Out.of, sees2, cmpS, cmpD, blR, truD, idxD, plc, SOut.seq, bltS, sees, bltD, len1S, hd, tupD, seqD, putTgs, putTg, setSubS, obAt, putOb, SOut.of, mayPut, retR, pasKept, backP, ha]
  · rw [if_neg ha, if_neg ha, if_neg ha]
    have c0 : 0 ≤ (b * 40487 + 12289) % 2147483629 := Int.emod_nonneg _ (by decide)
    have c1 : (b * 40487 + 12289) % 2147483629 < 2147483629 := Int.emod_lt_of_pos _ (by decide)
    generalize hc : (b * 40487 + 12289) % 2147483629 = c at c0 c1 ⊢
    have m1 : mulOk b 40487 = true := mul_ok 32 32 (by omega) (by decide) (by decide)
    have m2 : mulOk c c = true := mul_ok 32 32 (by omega) (by omega) (by decide)
    have d1 : divOk 13 = true := by decide
    simp [Ob.d, binD, Rs.hold, holds, runDef, d_law_take, b_law_take, execs, exec, tst, ev, evs, Out.bind, Out.thn, tstR, Rs.see, Out.of, sees2, cmpS, cmpD, blR, truD, idxD, plc, SOut.seq, bltS, sees, bltD, len1S, hd, hw, d1, tupD, seqD, putTgs, putTg, setSubS, obAt, putOb, SOut.of, mayPut, retR, pasKept, backP, ha, m1, m2, hc]
theorem takeD_lt (a b w : Int) (hw : 0 < w) : 0 ≤ takeD a b w ∧ takeD a b w < w := by
  unfold takeD
  split
  · exact ⟨Int.emod_nonneg _ (by omega), Int.emod_lt_of_pos _ hw⟩
  · exact ⟨Int.emod_nonneg _ (by omega), Int.emod_lt_of_pos _ hw⟩
theorem takeB_ok (a b : Int) (hb : 0 ≤ b) (hb2 : b < 2147483629) : 0 ≤ takeB a b ∧ takeB a b < 2147483629 := by
  unfold takeB
  split
  · exact ⟨hb, hb2⟩
  · exact ⟨Int.emod_nonneg _ (by decide), Int.emod_lt_of_pos _ (by decide)⟩
theorem take_ex (n : Nat) (a b w : Int) (hw : 0 < w) (hw2 : w.natAbs < 2 ^ 4000) (hb : 0 ≤ b ∧ b < 2147483629) :
    ∃ d a' b' : Int, (0 ≤ d ∧ d < w) ∧ (0 ≤ b' ∧ b' < 2147483629) ∧ (G (n + 1)).fn i_law_take [.pa (.lst [.int a, .int b]), .sh (.int w)] = .ok (.d (.int d)) [.pa (.lst [.int a', .int b']), .sh (.int w)] :=
  ⟨takeD a b w, takeA a w, takeB a b, takeD_lt a b w hw, takeB_ok a b hb.1 hb.2, take_eq n a b w hw hw2 hb.1 hb.2⟩
theorem lt4000 {k : Nat} (h : k < 2 ^ 64) : k < 2 ^ 4000 := Nat.lt_of_lt_of_le h (Nat.pow_le_pow_right (by decide) (by decide))
theorem idx3 (x y z d : Int) (h : 0 ≤ d ∧ d < 3) : ∃ v, (v = x ∨ v = y ∨ v = z) ∧ idxD (.lst [.int x, .int y, .int z]) (.int d) = some (.int v) := by
  have : d = 0 ∨ d = 1 ∨ d = 2 := by omega
  rcases this with rfl | rfl | rfl
  · exact ⟨x, .inl rfl, rfl⟩
  · exact ⟨y, .inr (.inl rfl), rfl⟩
  · exact ⟨z, .inr (.inr rfl), rfl⟩
theorem idx2 (x y d : Int) (h : 0 ≤ d ∧ d < 2) : ∃ v, (v = x ∨ v = y) ∧ idxD (.lst [.int x, .int y]) (.int d) = some (.int v) := by
  have : d = 0 ∨ d = 1 := by omega
  rcases this with rfl | rfl
  · exact ⟨x, .inl rfl, rfl⟩
  · exact ⟨y, .inr rfl, rfl⟩
theorem pot_of (n : Nat) (ns : List Int) (k : Nat) (hk : k < 64) :
    ∃ a b : Int, 0 ≤ b ∧ b < 2147483629 ∧ (G (n + 1)).fn i_law_pot [.sh (.scr ns), .sh (.int (k : Int))] = .ok (.fr (.lst [.int a, .int b])) [.sh (.scr ns), .sh (.int (k : Int))] := by
  have go : ∀ cell : Int, tst (G n) (.cmp .lt (.var 1) (.len1 (.var 0))) [.sh (.scr ns), .sh (.int (k : Int)), .un] = .ok (decide ((k : Int) < ns.length)) [.sh (.scr ns), .sh (.int (k : Int)), .un] := fun cell => by
    simp [tst, ev, evs, bltS, sees, bltD, len1S, Out.bind, Rs.see, Out.of, sees2, cmpS, cmpD, blR, tstR, truD]
  obtain ⟨cell, hc⟩ : ∃ cell : Int, ev (G n) (.ite (.cmp .lt (.var 1) (.len1 (.var 0))) (.idx (.var 0) (.var 1)) (.cst (.int 0))) [.sh (.scr ns), .sh (.int (k : Int)), .un] = .ok (.d (.int cell)) [.sh (.scr ns), .sh (.int (k : Int)), .un] := by
    by_cases h : k < ns.length
    · refine ⟨ns[k], ?_⟩
      have hix : idxD (.scr ns) (.int (k : Int)) = some (.int ns[k]) := by
        show ((plc ns.length (k : Int)).bind fun k => ns[k]?).map D.int = _
        have e : plc ns.length (k : Int) = some k := by
          unfold plc
          rw [if_pos (by omega), if_pos (by omega)]
          simp
        rw [e]
        simp [List.getElem?_eq_getElem h]
      simp [ev, evs, bltS, sees, bltD, len1S, Out.bind, Rs.see, Out.of, sees2, cmpS, cmpD, blR, tstR, truD, hix, h]
    · refine ⟨0, ?_⟩
      simp [ev, evs, bltS, sees, bltD, len1S, Out.bind, Rs.see, Out.of, sees2, cmpS, cmpD, blR, tstR, truD, h]
  rw [fn_succ n _ _ d_law_pot rfl]
  generalize hm : MExp.ite (.cmp .lt (.var 1) (.len1 (.var 0))) (.idx (.var 0) (.var 1)) (.cst (.int 0)) = m at hc
  have e : d_law_pot = ⟨2, 3, [.set 2 false m, .ret (.lst [.blt .max2 [.cst (.int 0), .bin .sub (.blt .abs [.var 2]) (.bin .pow (.cst (.int 10)) (.cst (.int 18)))], .bin .mod (.bin .add (.bin .add (.bin .mul (.bin .mod (.blt .abs [.var 2]) (.cst (.int 2147483587))) (.cst (.int 39119))) (.bin .mul (.cst (.int 7919)) (.var 1))) (.cst (.int 41))) (.cst (.int 2147483629))])]⟩ := by
    rw [← hm]
    rfl
  rw [e]
  generalize habs : (if cell < 0 then -cell else cell) = z
  have z0 : 0 ≤ z := by rw [← habs]; split <;> omega
  have m1 : mulOk (z % 2147483587) 39119 = true := mul_ok 32 32 (by have := Int.emod_lt_of_pos z (show (0 : Int) < 2147483587 by decide); have := Int.emod_nonneg z (show (2147483587 : Int) ≠ 0 by decide); omega) (by decide) (by decide)
  have m2 : mulOk 7919 (k : Int) = true := mul_ok 32 32 (by decide) (by omega) (by decide)
  refine ⟨if z - 10 ^ 18 > 0 then z - 10 ^ 18 else 0, ((z % 2147483587) * 39119 + 7919 * (k : Int) + 41) % 2147483629, Int.emod_nonneg _ (by decide), Int.emod_lt_of_pos _ (by decide), ?_⟩
  simp [runDef, execs, exec, ev, evs, hc, bltS, sees, bltD, len1S, habs, binD, m1, m2, holds, Rs.hold, Out.bind, Out.thn, Rs.see, Out.of, sees2, SOut.seq, SOut.of, putR, mayPut, retR, pasKept, backP]
theorem szOk_len {n : Nat} (h : n ≤ 16000000) : szOk n = true := szOk_of h
theorem idx4 (x y z u d : Int) (h : 0 ≤ d ∧ d < 4) : ∃ v, (v = x ∨ v = y ∨ v = z ∨ v = u) ∧ idxD (.lst [.int x, .int y, .int z, .int u]) (.int d) = some (.int v) := by
  have : d = 0 ∨ d = 1 ∨ d = 2 ∨ d = 3 := by omega
  rcases this with rfl | rfl | rfl | rfl
  · exact ⟨x, .inl rfl, rfl⟩
  · exact ⟨y, .inr (.inl rfl), rfl⟩
  · exact ⟨z, .inr (.inr (.inl rfl)), rfl⟩
  · exact ⟨u, .inr (.inr (.inr rfl)), rfl⟩
abbrev potS (a b : Int) : Sl := .pa (.lst [.int a, .int b])
abbrev PB (b : Int) : Prop := 0 ≤ b ∧ b < 2147483629
theorem rng_ok {j : Int} (h0 : 0 ≤ j) (h1 : j ≤ 4000000000000000000) : rngOk 0 j = true := by
  unfold rngOk
  simp
  omega
theorem plc_nat {n k : Nat} (h : k < n) : plc n (k : Int) = some k := by
  unfold plc
  rw [if_pos (by omega), if_pos (by omega)]
  simp
end Lw
end
section
set_option exponentiation.threshold 300
namespace Lw
open Mi
/-! ### worth -/
def worL : List Int → Int → Nat → Int → Int → Int × Int
  | [], _, _, f, w => (f, w)
  | x :: xs, p, k, f, w => worL xs p (k + 1) (f + x * w) (w * (p - (k : Int)) / ((k : Int) + 1))
def wor (row : List Int) (p : Int) : Int := (worL row p 0 0 1).1
def intL (row : List Int) : List D := row.map .int
theorem ints_get (row : List Int) (k : Nat) : (intL row)[k]? = (row[k]?).map .int := by
  unfold intL
  rw [List.getElem?_map]
def RowOk (row : List Int) : Prop := row.length ≤ 200 ∧ ∀ x ∈ row, x.natAbs < 2 ^ 4000
/-- a turn of the sum: what the loop's body does -/
theorem wor_loop (body : Env → SOut) (row : List Int) (p : Int) (hrow : RowOk row) (hp : p.natAbs < 2 ^ 4000)
    (hb : ∀ (r : D) (f w x : Int) (k : Nat), x.natAbs < 2 ^ 4000 → k < 200 → w.natAbs < 2 ^ (4001 * k + 1) → body [.sh r, .sh (.int p), .sh (.int f), .sh (.int w), .sh (.int k), .sh (.int x)] = .nx [.sh r, .sh (.int p), .sh (.int (f + x * w)), .sh (.int (w * (p - (k : Int)) / ((k : Int) + 1))), .sh (.int k), .sh (.int x)]) :
    ∀ (left k : Nat) (f w : Int) (r : D) (s4 s5 : Sl), k + left = row.length → w.natAbs < 2 ^ (4001 * k + 1) → (∀ o, s4 ≠ .pa o) → (∀ o, s5 ≠ .pa o) →
      ∃ t4 t5, (∀ o, t4 ≠ .pa o) ∧ (∀ o, t5 ≠ .pa o) ∧ forLoop (.enum (.snap (intL row))) (.tp [4, 5]) body left k [.sh r, .sh (.int p), .sh (.int f), .sh (.int w), s4, s5] =
        .nx [.sh r, .sh (.int p), .sh (.int (worL (row.drop k) p k f w).1), .sh (.int (worL (row.drop k) p k f w).2), t4, t5]
  | 0, k, f, w, r, s4, s5, hk, hw, h4, h5 => by
    refine ⟨s4, s5, h4, h5, ?_⟩
    have e : row.drop k = [] := List.drop_eq_nil_of_le (by omega)
    rw [e]
    rfl
  | left + 1, k, f, w, r, s4, s5, hk, hw, h4, h5 => by
    have hl : k < row.length := by omega
    have e : row.drop k = row[k] :: row.drop (k + 1) := List.drop_eq_getElem_cons hl
    have hx : row[k].natAbs < 2 ^ 4000 := hrow.2 _ (List.getElem_mem hl)
    have hk200 : k < 200 := by have := hrow.1; omega
    have hw2 : (w * (p - (k : Int)) / ((k : Int) + 1)).natAbs < 2 ^ (4001 * (k + 1) + 1) := by
      refine Nat.lt_of_le_of_lt (Int.natAbs_ediv_le_natAbs _ _) ?_
      rw [Int.natAbs_mul]
      have e1 : 4001 * (k + 1) + 1 = (4001 * k + 1) + 4001 := by omega
      rw [e1, Nat.pow_add]
      refine Nat.mul_lt_mul'' hw ?_
      have e2 : (2 : Nat) ^ 4001 = 2 ^ 4000 + 2 ^ 4000 := by rw [Nat.pow_succ]; omega
      have e3 : 200 < 2 ^ 4000 := Nat.lt_of_lt_of_le (by decide : 200 < 2 ^ 8) (Nat.pow_le_pow_right (by decide) (by decide))
      omega
    obtain ⟨t4, t5, g4, g5, ih⟩ := wor_loop body row p hrow hp hb left (k + 1) (f + row[k] * w) (w * (p - (k : Int)) / ((k : Int) + 1)) r (.sh (.int k)) (.sh (.int row[k])) (by omega) hw2 (fun o z => nomatch z) (fun o z => nomatch z)
    refine ⟨t4, t5, g4, g5, ?_⟩
    rw [e]
    have m4 : mayPut [.sh r, .sh (.int p), .sh (.int f), .sh (.int w), s4, s5] 4 = true := by
      cases s4 with
      | pa o => exact (h4 o rfl).elim
      | un => rfl
      | sh _ => rfl
      | ow _ => rfl
      | xc _ => rfl
    have m5 : mayPut [.sh r, .sh (.int p), .sh (.int f), .sh (.int w), .sh (.int k), s5] 5 = true := by
      cases s5 with
      | pa o => exact (h5 o rfl).elim
      | un => rfl
      | sh _ => rfl
      | ow _ => rfl
      | xc _ => rfl
    have at_ : (It.enum (.snap (intL row))).at_ k [.sh r, .sh (.int p), .sh (.int f), .sh (.int w), s4, s5] = some (.tup [.int (k : Nat), .int row[k]]) := by
      show ((intL row)[k]?).map _ = _
      rw [ints_get, List.getElem?_eq_getElem hl]
      rfl
    have put : (Tgt.tp [4, 5]).put (.tup [.int (k : Nat), .int row[k]]) [.sh r, .sh (.int p), .sh (.int f), .sh (.int w), s4, s5] = some [.sh r, .sh (.int p), .sh (.int f), .sh (.int w), .sh (.int k), .sh (.int row[k])] := by
      show (if mayPut _ 4 = true then (if mayPut _ 5 = true then _ else none) else none) = _
      rw [if_pos m4]
      exact if_pos m5
    unfold forLoop
    rw [at_]
    simp only []
    rw [put]
    simp only []
    rw [hb r f w row[k] k hx hk200 hw]
    exact ih
theorem worth_body (n : Nat) (p : Int) (hp : p.natAbs < 2 ^ 4000) (r : D) (f w x : Int) (k : Nat) (hx : x.natAbs < 2 ^ 4000) (hk : k < 200) (hw : w.natAbs < 2 ^ (4001 * k + 1)) :
    execs (G n) [.aug 2 .add (.bin .mul (.var 5) (.var 3)), .set 3 false (.bin .fdiv (.bin .mul (.var 3) (.bin .sub (.var 1) (.var 4))) (.bin .add (.var 4) (.cst (.int 1))))] [.sh r, .sh (.int p), .sh (.int f), .sh (.int w), .sh (.int k), .sh (.int x)] =
      .nx [.sh r, .sh (.int p), .sh (.int (f + x * w)), .sh (.int (w * (p - (k : Int)) / ((k : Int) + 1))), .sh (.int k), .sh (.int x)] := by
  have m1 : mulOk x w = true := mul_ok 4000 (4001 * k + 1) hx hw (by omega)
  have hpk : (p - (k : Int)).natAbs < 2 ^ 4001 := by
    have e2 : (2 : Nat) ^ 4001 = 2 ^ 4000 + 2 ^ 4000 := by rw [Nat.pow_succ]; omega
    have e3 : 200 < 2 ^ 4000 := Nat.lt_of_lt_of_le (by decide : 200 < 2 ^ 8) (Nat.pow_le_pow_right (by decide) (by decide))
    omega
  have m2 : mulOk w (p - (k : Int)) = true := mul_ok (4001 * k + 1) 4001 hw hpk (by omega)
  have d1 : divOk ((k : Int) + 1) = true := div_ok 64 (by omega) (by
    have : 201 < 2 ^ 64 := by decide
    omega) (by decide)
  simp [Ob.d, binD, Rs.hold, holds, execs, exec, ev, evs, Out.bind, Out.thn, Rs.see, Out.of, sees2, SOut.seq, SOut.of, mayPut, putR, m1, m2, d1]
def worthLoop : List MStmt := [.aug 2 .add (.bin .mul (.var 5) (.var 3)), .set 3 false (.bin .fdiv (.bin .mul (.var 3) (.bin .sub (.var 1) (.var 4))) (.bin .add (.var 4) (.cst (.int 1))))]
theorem wor_run (n : Nat) (row : List Int) (p : Int) (hrow : RowOk row) (hp : p.natAbs < 2 ^ 4000) (loop : List MStmt)
    (hb : ∀ (r : D) (f w x : Int) (k : Nat), x.natAbs < 2 ^ 4000 → k < 200 → w.natAbs < 2 ^ (4001 * k + 1) → execs (G n) loop [.sh r, .sh (.int p), .sh (.int f), .sh (.int w), .sh (.int k), .sh (.int x)] = .nx [.sh r, .sh (.int p), .sh (.int (f + x * w)), .sh (.int (w * (p - (k : Int)) / ((k : Int) + 1))), .sh (.int k), .sh (.int x)]) :
    (runDef (G n) ⟨2, 6, [.unp [.nm 2, .nm 3] (.tup [.cst (.int 0), .cst (.int 1)]), .for_ (.tp [4, 5]) (.enum (.var 0)) loop, .ret (.var 2)]⟩ [.sh (.tup (intL row)), .sh (.int p)]) = .ok (.d (.int (wor row p))) [.sh (.tup (intL row)), .sh (.int p)] := by
  obtain ⟨t4, t5, _, _, h⟩ := wor_loop (execs (G n) loop) row p hrow hp hb row.length 0 0 1 (.tup (intL row)) .un .un (by omega) (by decide) (fun o z => nomatch z) (fun o z => nomatch z)
  have hl : (It.enum (.snap (intL row))).len = row.length := by show (intL row).length = _; unfold intL; simp
  simp only [List.drop_zero] at h
  simp [runDef, execs, exec, ev, evs, evIt, Out.bind, Out.thn, Rs.see, Rs.hold, holds, Out.of, SOut.seq, SOut.of, mayPut, tupD, seqD, putTgs, putTg, srcL, srcOf, It.slots, Src.slots, hl, h, retR, pasKept, backP, wor]
theorem worth_eq (n : Nat) (row : List Int) (p : Int) (hrow : RowOk row) (hp : p.natAbs < 2 ^ 4000) :
    (G (n + 1)).fn i_worth [.sh (.tup (intL row)), .sh (.int p)] = .ok (.d (.int (wor row p))) [.sh (.tup (intL row)), .sh (.int p)] := by
  rw [fn_succ n _ _ d_worth rfl]
  exact wor_run n row p hrow hp worthLoop fun r f w x k hx hk hw => worth_body n p hp r f w x k hx hk hw
end Lw
end
section
set_option exponentiation.threshold 300
namespace Lw
open Mi
theorem wholeR_eq (n : Nat) (x : Int) : (G (n + 1)).fn i_is_whole_rows [.sh (.int x)] = .ok (.d (.bl true)) [.sh (.int x)] := by
  rw [fn_succ n _ _ d_is_whole_rows rfl]
  simp [runDef, d_is_whole_rows, b_is_whole_rows, execs, exec, ev, Out.bind, Out.thn, Rs.see, Out.of, sees1, iskD, isKd, kdOf, blR, tstR, truD, SOut.seq, retR, pasKept, backP]
theorem wholeD_eq (n : Nat) (x : Int) : (G (n + 1)).fn i_is_whole_differences [.sh (.int x)] = .ok (.d (.bl true)) [.sh (.int x)] := by
  rw [fn_succ n _ _ d_is_whole_differences rfl]
  simp [runDef, d_is_whole_differences, b_is_whole_differences, execs, exec, ev, Out.bind, Out.thn, Rs.see, Out.of, sees1, iskD, isKd, kdOf, blR, tstR, truD, SOut.seq, retR, pasKept, backP]
theorem count_eq (n : Nat) (x : Int) (hx : 0 ≤ x) : (G (n + 2)).fn i_is_count [.sh (.int x)] = .ok (.d (.bl true)) [.sh (.int x)] := by
  rw [fn_succ (n + 1) _ _ d_is_count rfl]
  simp [runDef, d_is_count, b_is_count, execs, exec, ev, evs, callS, lent, noTwice, passAll, passS, wholeR_eq, backAll, backS, Out.bind, Out.thn, Rs.see, Out.of, sees2, cmpS, cmpD, blR, tstR, truD, SOut.seq, retR, pasKept, backP, hx]
/-- a comprehension over a tuple of intL whose turns give true -/
theorem all_loop (n : Nat) (row : List Int) (hl : row.length ≤ 200) (r : D) : ∀ (left k : Nat) (acc : List D), k + left = row.length → acc.length = k →
    compLoop (.one (.snap (intL row))) (.nm 1) (evc (G (n + 1)) none) (ev (G (n + 1)) (.call i_is_whole_differences [.var 1])) left k acc [.sh r, .un] = .ok (acc ++ List.replicate left (.bl true)) [.sh r, .un]
  | 0, k, acc, h, ha => by
    rw [List.replicate_zero, List.append_nil]
    rfl
  | left + 1, k, acc, h, ha => by
    have hk : k < row.length := by omega
    have at_ : (It.one (.snap (intL row))).at_ k [.sh r, .un] = some (.int row[k]) := by
      show (intL row)[k]? = _
      rw [ints_get, List.getElem?_eq_getElem hk]
      rfl
    have hz : szOk acc.length = true := by unfold szOk; exact decide_eq_true (by omega)
    have ih := all_loop n row hl r left (k + 1) (acc ++ [.bl true]) (by omega) (by simp [ha])
    unfold compLoop
    rw [at_]
    have hd : ev (G (n + 1)) (.call i_is_whole_differences [.var 1]) [.sh r, .sh (.int row[k])] = .ok (.d (.bl true)) [.sh r, .sh (.int row[k])] := by
      simp [ev, evs, callS, lent, noTwice, passAll, passS, wholeD_eq, backAll, backS, Out.bind]
    have hc : evc (G (n + 1)) none [.sh r, .sh (.int row[k])] = .ok true [.sh r, .sh (.int row[k])] := by simp [evc]
    simp only [Tgt.put, mayPut, List.getElem?_cons_succ, List.getElem?_cons_zero, if_true, List.set, hc, hd, Rs.hold, hz, Tgt.is, wipeE, ih, List.append_assoc, List.replicate_succ, List.singleton_append]
def LastOk (row : List Int) : Prop := ∀ x, row[row.length - 1]? = some x → x ≠ 0
theorem plain_ints (m : Nat) : ∀ row : List Int, plainDs m (intL row) = true
  | [] => by simp [intL, plainDs]
  | x :: row => by
    have := plain_ints m row
    simp [intL] at this ⊢
    simp [plainDs, plainD, this]
theorem bls_rep : ∀ k : Nat, blsOf (List.replicate k (D.bl true)) = some (List.replicate k true)
  | 0 => rfl
  | k + 1 => by simp [List.replicate_succ, blsOf, bls_rep k]
theorem comp_all (n : Nat) (row : List Int) (hl : row.length ≤ 200) :
    ev (G (n + 1)) (.blt .all [.comp (.call i_is_whole_differences [.var 1]) (.nm 1) (.seq (.var 0)) none]) [.sh (.tup (intL row)), .un] = .ok (.d (.bl true)) [.sh (.tup (intL row)), .un] := by
  have h := all_loop n row hl (.tup (intL row)) row.length 0 [] (by omega) rfl
  have hlen : (intL row).length = row.length := by unfold intL; simp
  have hev : ev (G (n + 1)) (.comp (.call i_is_whole_differences [.var 1]) (.nm 1) (.seq (.var 0)) none) [.sh (.tup (intL row)), .un] = .ok (.fr (.lst (List.replicate row.length (.bl true)))) [.sh (.tup (intL row)), .un] := by
    have e : ev (G (n + 1)) (.comp (.call i_is_whole_differences [.var 1]) (.nm 1) (.seq (.var 0)) none) [.sh (.tup (intL row)), .un] =
      match compLoop (.one (.snap (intL row))) (.nm 1) (evc (G (n + 1)) none) (ev (G (n + 1)) (.call i_is_whole_differences [.var 1])) (intL row).length 0 [] [.sh (.tup (intL row)), .un] with
      | .ok xs e2 => .ok (.fr (.lst xs)) (unwipe [.sh (.tup (intL row)), .un] e2 [1])
      | _ => .no := rfl
    rw [e, hlen, h]
    rfl
  have e : ev (G (n + 1)) (.blt .all [.comp (.call i_is_whole_differences [.var 1]) (.nm 1) (.seq (.var 0)) none]) [.sh (.tup (intL row)), .un] = (evs (G (n + 1)) [.comp (.call i_is_whole_differences [.var 1]) (.nm 1) (.seq (.var 0)) none] [.sh (.tup (intL row)), .un]).bind fun rs e1 => bltS .all rs e1 := rfl
  have e2 : evs (G (n + 1)) [.comp (.call i_is_whole_differences [.var 1]) (.nm 1) (.seq (.var 0)) none] [.sh (.tup (intL row)), .un] = .ok [.fr (.lst (List.replicate row.length (.bl true)))] [.sh (.tup (intL row)), .un] := by
    have e3 : evs (G (n + 1)) [.comp (.call i_is_whole_differences [.var 1]) (.nm 1) (.seq (.var 0)) none] [.sh (.tup (intL row)), .un] = (ev (G (n + 1)) (.comp (.call i_is_whole_differences [.var 1]) (.nm 1) (.seq (.var 0)) none) [.sh (.tup (intL row)), .un]).bind fun r e1 => (Out.ok [] e1).bind fun rs e2 => .ok (r :: rs) e2 := rfl
    rw [e3, hev]
    rfl
  rw [e, e2]
  simp [Out.bind, bltS, sees, Rs.see, Ob.d, bltD, len1S, bls_rep, Out.of]
theorem isDiff_eq (n : Nat) (row : List Int) (hl : row.length ≤ 200) (hz : LastOk row) :
    (G (n + 2)).fn i_is_differences [.sh (.tup (intL row))] = .ok (.d (.bl true)) [.sh (.tup (intL row))] := by
  rw [fn_succ (n + 1) _ _ d_is_differences rfl]
  have hc := comp_all n row hl
  have hlen : (intL row).length = row.length := by unfold intL; simp
  have e1 : d_is_differences = ⟨1, 2, [.ite (.or_ (.not_ (.isk (.var 0) [.tuple])) (.not_ (.blt .all [.comp (.call i_is_whole_differences [.var 1]) (.nm 1) (.seq (.var 0)) none]))) [.ret (.cst (.bl false))] [], .ret (.or_ (.cmp .eq (.var 0) (.tup [])) (.cmp .ne (.idx (.var 0) (.neg (.cst (.int 1)))) (.cst (.int 0))))]⟩ := rfl
  rw [e1]
  generalize hm : MExp.blt .all [.comp (.call i_is_whole_differences [.var 1]) (.nm 1) (.seq (.var 0)) none] = m at hc ⊢
  cases row with
  | nil =>
    simp [intL] at hc ⊢
    simp [runDef, execs, exec, tst, ev, evs, hc, Out.bind, Out.thn, Rs.see, Out.of, sees1, sees2, iskD, isKd, kdOf, blR, tstR, truD, SOut.seq, retR, pasKept, backP, cmpS, cmpD, sameD, plainD, plainDs, eqD, eqDs, holds]
  | cons x row =>
    have hp := plain_ints 39 (x :: row)
    have hx : (intL (x :: row))[row.length]? = some (.int ((x :: row)[row.length]'(by simp))) := by
      rw [ints_get, List.getElem?_eq_getElem (by simp)]
      rfl
    have hne : (x :: row)[row.length]'(by simp) ≠ 0 := hz _ (by simp)
    generalize hg : (x :: row)[row.length]'(by simp) = y at hx hne
    have hlen2 : (intL (x :: row)).length = row.length + 1 := by rw [hlen]; simp
    have heq : eqDs (intL (x :: row)) [] = false := by simp [intL, eqDs]
    generalize hr : intL (x :: row) = rr at hc hp hx hlen2 heq ⊢
    have hb : (y == 0) = false := by simpa using hne
    have hix : idxD (.tup rr) (.int (-1)) = some (.int y) := by
      show ((plc rr.length (-1)).bind fun k => rr[k]?) = _
      have e : plc rr.length (-1) = some row.length := by
        unfold plc
        rw [hlen2, if_neg (by decide), if_pos (by omega)]
        congr 1
        omega
      rw [e]
      exact hx
    simp [runDef, execs, exec, tst, ev, evs, hc, Out.bind, Out.thn, Rs.see, Out.of, sees1, sees2, iskD, isKd, kdOf, blR, tstR, truD, SOut.seq, retR, pasKept, backP, cmpS, cmpD, sameD, plainD, plainDs, hp, eqD, heq, holds, negD, hix, hb]
theorem wantDiff_eq (n : Nat) (row : List Int) (hl : row.length ≤ 200) (hz : LastOk row) :
    (G (n + 3)).fn i_want_differences [.sh (.tup (intL row))] = .ok (.d .non) [.sh (.tup (intL row))] := by
  rw [fn_succ (n + 2) _ _ d_want_differences rfl]
  have h := isDiff_eq n row hl hz
  simp [runDef, d_want_differences, b_want_differences, execs, exec, tst, ev, evs, callS, lent, noTwice, passAll, passS, h, backAll, backS, Out.bind, Out.thn, Rs.see, Out.of, tstR, truD, SOut.seq, pasKept, backP]
end Lw
end
section
set_option exponentiation.threshold 300
namespace Lw
open Mi
def movedFrom (row : List Int) (by_ : Int) : Nat → Nat → List Int
  | _, 0 => []
  | k, left + 1 => wor (row.drop k) by_ :: movedFrom row by_ (k + 1) left
def moved (row : List Int) (by_ : Int) : List Int := movedFrom row by_ 0 row.length
/-! ### the maths: sums over numbers of ways -/
def ch : Nat → Nat → Nat
  | _, 0 => 1
  | 0, _ + 1 => 0
  | n + 1, k + 1 => ch n k + ch n (k + 1)
theorem ch_zero : ∀ k : Nat, ch 0 (k + 1) = 0 := fun _ => rfl
theorem ch_abs : ∀ (p k : Nat), ((ch p (k + 1) : Nat) : Int) * ((k : Int) + 1) = (ch p k : Int) * ((p : Int) - (k : Int))
  | 0, 0 => by simp [ch]
  | 0, k + 1 => by simp [ch]
  | p + 1, 0 => by
    have h := ch_abs p 0
    simp [ch] at h ⊢
    omega
  | p + 1, k + 1 => by
    have h1 := ch_abs p k
    have h2 := ch_abs p (k + 1)
    simp only [ch]
    push_cast at h1 h2 ⊢
    have e : ((ch p (k + 1) : Int) + (ch p (k + 1 + 1) : Int)) * ((k : Int) + 1 + 1) = (ch p (k + 1) : Int) * ((k : Int) + 1) + (ch p (k + 1) : Int) + (ch p (k + 1 + 1) : Int) * ((k : Int) + 1 + 1) := by
      rw [Int.add_mul, Int.mul_add (ch p (k + 1) : Int) ((k : Int) + 1) 1, Int.mul_one]
    rw [e, h1, h2]
    have e2 : ((ch p k : Int) + (ch p (k + 1) : Int)) * ((p : Int) + 1 - ((k : Int) + 1)) = (ch p k : Int) * ((p : Int) - (k : Int)) + (ch p (k + 1) : Int) * ((p : Int) - (k : Int)) := by
      rw [show (p : Int) + 1 - ((k : Int) + 1) = (p : Int) - (k : Int) by omega, Int.add_mul]
    have e3 : (ch p (k + 1) : Int) * ((p : Int) - ((k : Int) + 1)) = (ch p (k + 1) : Int) * ((p : Int) - (k : Int)) - (ch p (k + 1) : Int) := by
      have z := Int.mul_sub (ch p (k + 1) : Int) ((p : Int) - (k : Int)) 1
      rw [Int.mul_one] at z
      rw [show (p : Int) - ((k : Int) + 1) = ((p : Int) - (k : Int)) - 1 by omega]
      exact z
    rw [e2, e3]
    omega
def sumC : List Int → Nat → Nat → Int
  | [], _, _ => 0
  | x :: xs, p, k => x * (ch p k : Int) + sumC xs p (k + 1)
theorem worL_sum : ∀ (row : List Int) (p k : Nat) (f : Int), (worL row (p : Int) k f (ch p k : Int)).1 = f + sumC row p k
  | [], p, k, f => by simp [worL, sumC]
  | x :: xs, p, k, f => by
    have h := ch_abs p k
    have e : (ch p k : Int) * ((p : Int) - (k : Int)) / ((k : Int) + 1) = (ch p (k + 1) : Int) := by
      rw [← h]
      exact Int.mul_ediv_cancel _ (by omega)
    show (worL xs (p : Int) (k + 1) (f + x * (ch p k : Int)) ((ch p k : Int) * ((p : Int) - (k : Int)) / ((k : Int) + 1))).1 = _
    rw [e, worL_sum xs p (k + 1)]
    simp [sumC, Int.add_assoc]
theorem wor_sum (row : List Int) (p : Nat) : wor row (p : Int) = sumC row p 0 := by
  have h := worL_sum row p 0 0
  have e : ch p 0 = 1 := by cases p <;> rfl
  rw [e] at h
  simpa [wor] using h
theorem sumC_succ : ∀ (row : List Int) (p k : Nat), sumC row (p + 1) (k + 1) = sumC row p (k + 1) + sumC row p k
  | [], _, _ => rfl
  | x :: xs, p, k => by
    show x * ((ch p k + ch p (k + 1) : Nat) : Int) + sumC xs (p + 1) (k + 1 + 1) = (x * (ch p (k + 1) : Int) + sumC xs p (k + 1 + 1)) + (x * (ch p k : Int) + sumC xs p (k + 1))
    rw [sumC_succ xs p (k + 1)]
    push_cast
    rw [Int.mul_add]
    omega
theorem wor_succ (row : List Int) (p : Nat) : wor row ((p + 1 : Nat) : Int) = wor row (p : Int) + wor row.tail (p : Int) := by
  rw [wor_sum, wor_sum, wor_sum]
  cases row with
  | nil => rfl
  | cons x xs =>
    have e : ∀ q, ch q 0 = 1 := fun q => by cases q <;> rfl
    show x * (ch (p + 1) 0 : Int) + sumC xs (p + 1) 1 = (x * (ch p 0 : Int) + sumC xs p 1) + sumC xs p 0
    have h := sumC_succ xs p 0
    simp only [Nat.zero_add] at h
    rw [h, e, e]
    omega
theorem wor_zero (row : List Int) : wor row 0 = row.headD 0 := by
  have h := wor_sum row 0
  have z : ∀ (xs : List Int) (k : Nat), sumC xs 0 (k + 1) = 0 := fun xs => by
    induction xs with
    | nil => exact fun _ => rfl
    | cons x xs ih => intro k; simp [sumC, ch, ih]
  rw [show ((0 : Nat) : Int) = 0 from rfl] at h
  rw [h]
  cases row with
  | nil => rfl
  | cons x xs => simp [sumC, z, ch]
theorem movedFrom_tail (row : List Int) (by_ : Int) : ∀ (left k : Nat), movedFrom row.tail by_ k left = movedFrom row by_ (k + 1) left
  | 0, _ => rfl
  | left + 1, k => by
    simp only [movedFrom]
    rw [movedFrom_tail row by_ left (k + 1), List.drop_tail]
theorem moved_tail (row : List Int) (by_ : Int) : (moved row by_).tail = moved row.tail by_ := by
  unfold moved
  cases row with
  | nil => rfl
  | cons x xs =>
    show movedFrom (x :: xs) by_ 1 xs.length = movedFrom xs by_ 0 xs.length
    rw [← movedFrom_tail (x :: xs) by_ xs.length 0]
    rfl
/-- the row moved tells the row further on -/
theorem wor_moved (by_ : Nat) : ∀ (p : Nat) (row : List Int), wor (moved row (by_ : Int)) (p : Int) = wor row ((p + by_ : Nat) : Int)
  | 0, row => by
    rw [show ((0 : Nat) : Int) = 0 from rfl, wor_zero, Nat.zero_add]
    cases row with
    | nil => rw [wor_sum]; rfl
    | cons x xs => rfl
  | p + 1, row => by
    rw [wor_succ, moved_tail, wor_moved by_ p row, wor_moved by_ p row.tail, show p + 1 + by_ = (p + by_) + 1 by omega, wor_succ]
theorem ch_le : ∀ p k : Nat, ch p k ≤ (p + 1) ^ k
  | _, 0 => by simp [ch]
  | 0, k + 1 => by simp [ch]
  | p + 1, k + 1 => by
    have h1 := ch_le p k
    have h2 := ch_le p (k + 1)
    have e : (p + 1) ^ k ≤ (p + 1 + 1) ^ k := Nat.pow_le_pow_left (by omega) k
    show ch p k + ch p (k + 1) ≤ (p + 1 + 1) ^ (k + 1)
    rw [Nat.pow_succ] at h2 ⊢
    have h3 : (p + 1) ^ k * (p + 1) ≤ (p + 1 + 1) ^ k * (p + 1) := Nat.mul_le_mul_right _ e
    rw [Nat.mul_add ((p + 1 + 1) ^ k) (p + 1) 1]
    omega
theorem sumC_le (A B : Nat) (p : Nat) (hp : p < 2 ^ B) : ∀ (row : List Int) (k L : Nat), (∀ x ∈ row, x.natAbs < 2 ^ A) → k + row.length ≤ L + 1 → (sumC row p k).natAbs ≤ row.length * 2 ^ (A + B * L)
  | [], _, _, _, _ => by simp [sumC]
  | x :: xs, k, L, h, hl => by
    have h1 := h x (List.mem_cons_self ..)
    have h2 := sumC_le A B p hp xs (k + 1) L (fun y hy => h y (List.mem_cons_of_mem _ hy)) (by simp at hl ⊢; omega)
    have h3 : ch p k ≤ 2 ^ (B * L) := by
      refine Nat.le_trans (ch_le p k) (Nat.le_trans (Nat.pow_le_pow_left (show p + 1 ≤ 2 ^ B by omega) k) ?_)
      rw [← Nat.pow_mul]
      refine Nat.pow_le_pow_right (by decide) (Nat.mul_le_mul_left _ ?_)
      simp at hl
      omega
    have h4 : (x * (ch p k : Int)).natAbs ≤ 2 ^ (A + B * L) := by
      rw [Int.natAbs_mul, Nat.pow_add, Int.natAbs_natCast]
      exact Nat.mul_le_mul (by omega) h3
    show (x * (ch p k : Int) + sumC xs p (k + 1)).natAbs ≤ (xs.length + 1) * 2 ^ (A + B * L)
    rw [Nat.add_mul, Nat.one_mul]
    omega
theorem wor_le (A B L : Nat) (row : List Int) (p : Int) (h0 : 0 ≤ p) (hp : p.natAbs < 2 ^ B) (h : ∀ x ∈ row, x.natAbs < 2 ^ A) (hl : row.length ≤ L + 1) (hL : L < 199) (hs : A + B * L + 8 ≤ 4000) : (wor row p).natAbs < 2 ^ 4000 := by
  obtain ⟨q, rfl⟩ := Int.eq_ofNat_of_zero_le h0
  rw [wor_sum]
  have h1 := sumC_le A B q (by simpa using hp) row 0 L h (by omega)
  refine Nat.lt_of_le_of_lt h1 ?_
  have h2 : row.length * 2 ^ (A + B * L) < 2 ^ 8 * 2 ^ (A + B * L) := Nat.mul_lt_mul_of_pos_right (by omega) (Nat.two_pow_pos _)
  rw [← Nat.pow_add] at h2
  exact Nat.lt_of_lt_of_le h2 (Nat.pow_le_pow_right (by decide) (by omega))
theorem movedFrom_mem (row : List Int) (by_ : Int) (P : Int → Prop) (h : ∀ k, P (wor (row.drop k) by_)) : ∀ (left k : Nat), ∀ x ∈ movedFrom row by_ k left, P x
  | 0, _, x, hx => by simp [movedFrom] at hx
  | left + 1, k, x, hx => by
    rcases List.mem_cons.mp hx with rfl | hx
    · exact h k
    · exact movedFrom_mem row by_ P h left (k + 1) x hx
theorem movedFrom_len (row : List Int) (by_ : Int) : ∀ (left k : Nat), (movedFrom row by_ k left).length = left
  | 0, _ => rfl
  | left + 1, k => by simp [movedFrom, movedFrom_len row by_ left (k + 1)]
theorem moved_rowOk (A B L : Nat) (row : List Int) (p : Int) (h0 : 0 ≤ p) (hp : p.natAbs < 2 ^ B) (h : ∀ x ∈ row, x.natAbs < 2 ^ A) (hl : row.length ≤ L + 1) (hL : L < 199) (hs : A + B * L + 8 ≤ 4000) : RowOk (moved row p) := by
  constructor
  · unfold moved
    rw [movedFrom_len]
    omega
  · exact movedFrom_mem row p (fun x => x.natAbs < 2 ^ 4000) (fun k => wor_le A B L (row.drop k) p h0 hp (fun x hx => h x (List.mem_of_mem_drop hx)) (by rw [List.length_drop]; omega) hL hs) _ _
theorem movedFrom_get (row : List Int) (by_ : Int) : ∀ (left k i : Nat), i < left → (movedFrom row by_ k left)[i]? = some (wor (row.drop (k + i)) by_)
  | 0, _, i, h => by omega
  | left + 1, k, 0, h => by simp [movedFrom]
  | left + 1, k, i + 1, h => by
    have := movedFrom_get row by_ left (k + 1) i (by omega)
    simp only [movedFrom, List.getElem?_cons_succ]
    rw [this, show k + 1 + i = k + (i + 1) by omega]
theorem moved_lastOk (row : List Int) (p : Int) (h : LastOk row) : LastOk (moved row p) := by
  intro x hx
  unfold moved at hx
  rw [movedFrom_len] at hx
  cases row with
  | nil => simp [movedFrom] at hx
  | cons y ys =>
    rw [movedFrom_get (y :: ys) p _ 0 _ (by simp)] at hx
    have hl : (y :: ys).length - 1 < (y :: ys).length := by simp
    have e : (y :: ys).drop ((y :: ys).length - 1) = [(y :: ys)[(y :: ys).length - 1]] := by
      rw [List.drop_eq_getElem_cons hl, List.drop_eq_nil_of_le (by simp)]
    rw [Nat.zero_add, e] at hx
    have e2 : wor [(y :: ys)[(y :: ys).length - 1]] p = (y :: ys)[(y :: ys).length - 1] := by
      simp [wor, worL]
    rw [e2] at hx
    cases hx
    exact h _ (List.getElem?_eq_getElem hl)
theorem sumC_nonneg : ∀ (row : List Int) (p k : Nat), (∀ x ∈ row, 0 ≤ x) → 0 ≤ sumC row p k
  | [], _, _, _ => Int.le_refl _
  | x :: xs, p, k, h => by
    have h1 := Int.mul_nonneg (h x (List.mem_cons_self ..)) (show (0 : Int) ≤ (ch p k : Int) by omega)
    have h2 := sumC_nonneg xs p (k + 1) fun y hy => h y (List.mem_cons_of_mem _ hy)
    show 0 ≤ x * (ch p k : Int) + sumC xs p (k + 1)
    omega
/-- a row whose numbers behind the first are not below nought never falls -/
theorem wor_rise (row : List Int) (h : ∀ x ∈ row.tail, 0 ≤ x) (p : Nat) : wor row (p : Int) ≤ wor row ((p + 1 : Nat) : Int) := by
  rw [wor_succ]
  have := sumC_nonneg row.tail p 0 h
  rw [← wor_sum] at this
  omega
/-- what does not fall step by step does not fall -/
theorem mono_of (f : Nat → Int) (m : Nat) (h : ∀ p, p < m → f p ≤ f (p + 1)) : ∀ (q p : Nat), p ≤ q → q ≤ m → f p ≤ f q
  | 0, p, h1, _ => by
    have : p = 0 := by omega
    subst this
    exact Int.le_refl _
  | q + 1, p, h1, h2 => by
    by_cases e : p = q + 1
    · subst e; exact Int.le_refl _
    · exact Int.le_trans (mono_of f m h q p (by omega) (by omega)) (h q (by omega))
end Lw
end
section
set_option exponentiation.threshold 300
namespace Lw
open Mi
theorem cut_ints (row : List Int) (k : Nat) (hk : k ≤ row.length) : cut (intL row) (some (k : Int)) none = intL (row.drop k) := by
  unfold cut
  have hlen : (intL row).length = row.length := by unfold intL; simp
  have b1 : bnd (intL row).length 0 (some (k : Int)) = k := by
    unfold bnd
    simp only []
    rw [if_neg (by omega), hlen]
    omega
  have b2 : bnd (intL row).length (intL row).length none = row.length := by rw [hlen]; rfl
  rw [b1, b2]
  unfold intL
  rw [← List.map_drop, List.take_of_length_le (by simp)]
theorem RowOk.drop {row : List Int} (h : RowOk row) (k : Nat) : RowOk (row.drop k) := ⟨by rw [List.length_drop]; have := h.1; omega, fun x hx => h.2 x (List.mem_of_mem_drop hx)⟩
def movedElt : MExp := .call i_worth [.slc (.var 0) (some (.var 2)) none, .var 1]
theorem moved_elt (n : Nat) (row : List Int) (by_ : Int) (k : Nat) (hrow : RowOk row) (hb : by_.natAbs < 2 ^ 4000) (hk : k ≤ row.length) :
    ev (G (n + 1)) movedElt [.sh (.tup (intL row)), .sh (.int by_), .sh (.int (k : Int))] = .ok (.d (.int (wor (row.drop k) by_))) [.sh (.tup (intL row)), .sh (.int by_), .sh (.int (k : Int))] := by
  have hw := worth_eq n (row.drop k) by_ (hrow.drop k) hb
  have hc := cut_ints row k hk
  simp [movedElt, ev, evs, evp, partO, slcD, hc, callS, lent, noTwice, passAll, passS, hw, backAll, backS, Out.bind, Rs.see, Out.of]
theorem moved_loop (n : Nat) (row : List Int) (by_ : Int) (hrow : RowOk row) (hb : by_.natAbs < 2 ^ 4000) : ∀ (left k : Nat) (acc : List D), k + left = row.length → acc.length = k →
    compLoop (.rng 0 row.length) (.nm 2) (evc (G (n + 1)) none) (ev (G (n + 1)) movedElt) left k acc [.sh (.tup (intL row)), .sh (.int by_), .un] = .ok (acc ++ intL (movedFrom row by_ k left)) [.sh (.tup (intL row)), .sh (.int by_), .un]
  | 0, k, acc, h, ha => by
    have e : acc ++ intL (movedFrom row by_ k 0) = acc := List.append_nil acc
    rw [e]
    rfl
  | left + 1, k, acc, h, ha => by
    have he := moved_elt n row by_ k hrow hb (by omega)
    have hz : szOk acc.length = true := by unfold szOk; have := hrow.1; exact decide_eq_true (by omega)
    have ih := moved_loop n row by_ hrow hb left (k + 1) (acc ++ [.int (wor (row.drop k) by_)]) (by omega) (by simp [ha])
    have at_ : (It.rng 0 row.length).at_ k [.sh (.tup (intL row)), .sh (.int by_), .un] = some (.int (k : Int)) := by
      show some (D.int (0 + (k : Nat))) = _
      rw [Int.zero_add]
    have hc : evc (G (n + 1)) none [.sh (.tup (intL row)), .sh (.int by_), .sh (.int (k : Int))] = .ok true [.sh (.tup (intL row)), .sh (.int by_), .sh (.int (k : Int))] := by simp [evc]
    have e : acc ++ intL (movedFrom row by_ k (left + 1)) = (acc ++ [.int (wor (row.drop k) by_)]) ++ intL (movedFrom row by_ (k + 1) left) := by
      rw [List.append_assoc]
      rfl
    rw [e, ← ih]
    conv => lhs; unfold compLoop
    rw [at_]
    simp only [Tgt.put, mayPut, List.getElem?_cons_succ, List.getElem?_cons_zero, if_true, List.set, hc, he, Rs.hold, hz, Tgt.is, wipeE]
def movedComp : MExp := .comp movedElt (.nm 2) (.rng none (.len1 (.var 0))) none
theorem moved_comp (n : Nat) (row : List Int) (by_ : Int) (hrow : RowOk row) (hb : by_.natAbs < 2 ^ 4000) :
    ev (G (n + 1)) movedComp [.sh (.tup (intL row)), .sh (.int by_), .un] = .ok (.fr (.lst (intL (moved row by_)))) [.sh (.tup (intL row)), .sh (.int by_), .un] := by
  have h := moved_loop n row by_ hrow hb row.length 0 [] (by omega) rfl
  have hlen : (intL row).length = row.length := by unfold intL; simp
  have hr : rngOk 0 (row.length : Int) = true := by
    have := hrow.1
    unfold rngOk
    simp
    omega
  have hit : evIt (G (n + 1)) (.rng none (.len1 (.var 0))) [.sh (.tup (intL row)), .sh (.int by_), .un] = .ok (.rng 0 row.length) [.sh (.tup (intL row)), .sh (.int by_), .un] := by
    simp [evIt, ev, evs, bltS, sees, bltD, len1S, Out.bind, Rs.see, Out.of, partO, hlen, hr]
  have e : ev (G (n + 1)) movedComp [.sh (.tup (intL row)), .sh (.int by_), .un] = (evIt (G (n + 1)) (.rng none (.len1 (.var 0))) [.sh (.tup (intL row)), .sh (.int by_), .un]).bind fun w e1 =>
      if wipeOk e1 [2] && w.slots.all (fun i => ![2].contains i) then
        match compLoop w (.nm 2) (evc (G (n + 1)) none) (ev (G (n + 1)) movedElt) w.len 0 [] (wipeE e1 [2]) with
        | .ok xs e2 => .ok (.fr (.lst xs)) (unwipe e1 e2 [2])
        | _ => .no
      else .no := rfl
  rw [e, hit]
  show (match compLoop (.rng 0 row.length) (.nm 2) (evc (G (n + 1)) none) (ev (G (n + 1)) movedElt) row.length 0 [] [.sh (.tup (intL row)), .sh (.int by_), .un] with
        | .ok xs e2 => Out.ok (Rs.fr (.lst xs)) (unwipe [.sh (.tup (intL row)), .sh (.int by_), .un] e2 [2])
        | _ => .no) = _
  rw [h]
  rfl
theorem moved_eq (n : Nat) (row : List Int) (by_ : Int) (hrow : RowOk row) (hz : LastOk row) (h0 : 0 ≤ by_) (hb : by_.natAbs < 2 ^ 4000) :
    (G (n + 4)).fn i_moved_by [.sh (.tup (intL row)), .sh (.int by_)] = .ok (.d (.tup (intL (moved row by_)))) [.sh (.tup (intL row)), .sh (.int by_)] := by
  have hwant := wantDiff_eq n row hrow.1 hz
  have hcount := count_eq (n + 1) by_ h0
  have hc := moved_comp (n + 2) row by_ hrow hb
  rw [fn_succ (n + 3) _ _ d_moved_by rfl]
  have e : d_moved_by = ⟨2, 3, [.exp (.call i_want_differences [.var 0]), .ite (.not_ (.call i_is_count [.var 1])) [.raise x_NoCount [] []] [], .ret (.blt .tuple [movedComp])]⟩ := rfl
  rw [e]
  simp [runDef, execs, exec, tst, ev, evs, callS, lent, noTwice, passAll, passS, hwant, hcount, hc, backAll, backS, bltS, sees, bltD, len1S, Ob.d, Out.bind, Out.thn, Rs.see, Out.of, tstR, truD, SOut.seq, retR, pasKept, backP]
end Lw
end
section
set_option exponentiation.threshold 300
namespace Lw
open Mi
theorem lawWhole_ex (n : Nat) (a b w : Int) (hw : 0 < w) (hw2 : w.natAbs < 2 ^ 4000) (hb : 0 ≤ b ∧ b < 2147483629) :
    ∃ x a' b' : Int, x.natAbs < w.natAbs + 20 ∧ (0 ≤ b' ∧ b' < 2147483629) ∧ (G (n + 2)).fn i_law_whole [.pa (.lst [.int a, .int b]), .sh (.int w)] = .ok (.d (.int x)) [.pa (.lst [.int a', .int b']), .sh (.int w)] := by
  obtain ⟨d1, a1, b1, r1, p1, h1⟩ := take_ex n a b 3 (by decide) (lt4000 (by decide)) hb
  obtain ⟨d2, a2, b2, r2, p2, h2⟩ := take_ex n a1 b1 20 (by decide) (lt4000 (by decide)) p1
  obtain ⟨d3, a3, b3, r3, p3, h3⟩ := take_ex n a2 b2 w hw hw2 p2
  obtain ⟨d4, a4, b4, r4, p4, h4⟩ := take_ex n a3 b3 3 (by decide) (lt4000 (by decide)) p3
  obtain ⟨s, hs, e4⟩ := idx3 d1 d2 d3 d4 r4
  obtain ⟨d5, a5, b5, r5, p5, h5⟩ := take_ex n a4 b4 2 (by decide) (lt4000 (by decide)) p4
  obtain ⟨x, hx, e5⟩ := idx2 s (-s) d5 r5
  refine ⟨x, a5, b5, ?_, p5, ?_⟩
  · omega
  · rw [fn_succ (n + 1) _ _ d_law_whole rfl]
    simp [runDef, d_law_whole, b_law_whole, execs, exec, ev, evs, callS, lent, noTwice, passAll, passS, h1, h2, h3, h4, h5, e4, e5, backAll, backS, holds, Rs.hold, negD, Ob.d, Out.bind, Out.thn, Rs.see, Out.of, sees1, sees2, SOut.seq, SOut.of, putR, mayPut, retR, pasKept, backP]
def rowElt : MExp := .call i_law_whole [.var 0, .var 2]
theorem row_loop (n m : Nat) (most w : Int) (s3 : Sl) (hw : 0 < w) (hw2 : w.natAbs < 2 ^ 4000) (hm : m ≤ 1000) : ∀ (left k : Nat) (acc : List D) (a b : Int), k + left = m → acc.length = k → (0 ≤ b ∧ b < 2147483629) →
    ∃ (xs : List Int) (a' b' : Int), xs.length = left ∧ (∀ x ∈ xs, x.natAbs < w.natAbs + 20) ∧ (0 ≤ b' ∧ b' < 2147483629) ∧
      compLoop (.rng 0 m) (.nm 4) (evc (G (n + 2)) none) (ev (G (n + 2)) rowElt) left k acc [.pa (.lst [.int a, .int b]), .sh (.int most), .sh (.int w), s3, .un] = .ok (acc ++ intL xs) [.pa (.lst [.int a', .int b']), .sh (.int most), .sh (.int w), s3, .un]
  | 0, k, acc, a, b, h, ha, hb => ⟨[], a, b, rfl, fun x h => by simp at h, hb, by
      have e : acc ++ intL [] = acc := List.append_nil acc
      rw [e]
      rfl⟩
  | left + 1, k, acc, a, b, h, ha, hb => by
    obtain ⟨x, a1, b1, hx, p1, h1⟩ := lawWhole_ex n a b w hw hw2 hb
    obtain ⟨xs, a', b', l1, l2, p2, ih⟩ := row_loop n m most w s3 hw hw2 hm left (k + 1) (acc ++ [.int x]) a1 b1 (by omega) (by simp [ha]) p1
    refine ⟨x :: xs, a', b', by simp [l1], fun y hy => ?_, p2, ?_⟩
    · rcases List.mem_cons.mp hy with rfl | hy
      · exact hx
      · exact l2 y hy
    · have hz : szOk acc.length = true := by unfold szOk; exact decide_eq_true (by omega)
      have he : ev (G (n + 2)) rowElt [.pa (.lst [.int a, .int b]), .sh (.int most), .sh (.int w), s3, .sh (.int (k : Int))] = .ok (.d (.int x)) [.pa (.lst [.int a1, .int b1]), .sh (.int most), .sh (.int w), s3, .sh (.int (k : Int))] := by
        simp [rowElt, ev, evs, callS, lent, noTwice, passAll, passS, h1, backAll, backS, Out.bind]
      have hc : evc (G (n + 2)) none [.pa (.lst [.int a, .int b]), .sh (.int most), .sh (.int w), s3, .sh (.int (k : Int))] = .ok true [.pa (.lst [.int a, .int b]), .sh (.int most), .sh (.int w), s3, .sh (.int (k : Int))] := by simp [evc]
      have at_ : (It.rng 0 m).at_ k [.pa (.lst [.int a, .int b]), .sh (.int most), .sh (.int w), s3, .un] = some (.int (k : Int)) := by
        show some (D.int (0 + (k : Nat))) = _
        rw [Int.zero_add]
      have e : acc ++ intL (x :: xs) = (acc ++ [.int x]) ++ intL xs := by
        rw [List.append_assoc]
        rfl
      rw [e, ← ih]
      conv => lhs; unfold compLoop
      rw [at_]
      simp only [Tgt.put, mayPut, List.getElem?_cons_succ, List.getElem?_cons_zero, if_true, List.set, hc, he, Rs.hold, hz, Tgt.is, wipeE]
def rowComp : MExp := .comp rowElt (.nm 4) (.rng none (.call i_law_take [.var 0, .bin .add (.var 1) (.cst (.int 1))])) none
theorem row_comp (n : Nat) (most w : Int) (hm0 : 0 ≤ most) (hm : most ≤ 60) (hw : 0 < w) (hw2 : w.natAbs < 2 ^ 4000) (a b : Int) (hb : 0 ≤ b ∧ b < 2147483629) :
    ∃ (xs : List Int) (a' b' : Int), (xs.length : Int) ≤ most ∧ (∀ x ∈ xs, x.natAbs < w.natAbs + 20) ∧ (0 ≤ b' ∧ b' < 2147483629) ∧
      ev (G (n + 2)) rowComp [.pa (.lst [.int a, .int b]), .sh (.int most), .sh (.int w), .un, .un] = .ok (.fr (.lst (intL xs))) [.pa (.lst [.int a', .int b']), .sh (.int most), .sh (.int w), .un, .un] := by
  obtain ⟨d, a1, b1, r1, p1, h1⟩ := take_ex (n + 1) a b (most + 1) (by omega) (lt4000 (by omega)) hb
  obtain ⟨xs, a', b', l1, l2, p2, h2⟩ := row_loop n d.toNat most w .un hw hw2 (by omega) d.toNat 0 [] a1 b1 (by omega) rfl p1
  refine ⟨xs, a', b', by omega, l2, p2, ?_⟩
  have hr : rngOk 0 d = true := by
    unfold rngOk
    simp
    omega
  have hit : evIt (G (n + 2)) (.rng none (.call i_law_take [.var 0, .bin .add (.var 1) (.cst (.int 1))])) [.pa (.lst [.int a, .int b]), .sh (.int most), .sh (.int w), .un, .un] = .ok (.rng 0 d.toNat) [.pa (.lst [.int a1, .int b1]), .sh (.int most), .sh (.int w), .un, .un] := by
    simp [evIt, ev, evs, callS, lent, noTwice, passAll, passS, h1, backAll, backS, Out.bind, Rs.see, Out.of, sees2, binD, partO, hr]
  have e : ev (G (n + 2)) rowComp [.pa (.lst [.int a, .int b]), .sh (.int most), .sh (.int w), .un, .un] = (evIt (G (n + 2)) (.rng none (.call i_law_take [.var 0, .bin .add (.var 1) (.cst (.int 1))])) [.pa (.lst [.int a, .int b]), .sh (.int most), .sh (.int w), .un, .un]).bind fun w e1 =>
      if wipeOk e1 [4] && w.slots.all (fun i => ![4].contains i) then
        match compLoop w (.nm 4) (evc (G (n + 2)) none) (ev (G (n + 2)) rowElt) w.len 0 [] (wipeE e1 [4]) with
        | .ok xs e2 => .ok (.fr (.lst xs)) (unwipe e1 e2 [4])
        | _ => .no
      else .no := rfl
  rw [e, hit]
  show (match compLoop (.rng 0 d.toNat) (.nm 4) (evc (G (n + 2)) none) (ev (G (n + 2)) rowElt) d.toNat 0 [] [.pa (.lst [.int a1, .int b1]), .sh (.int most), .sh (.int w), .un, .un] with
        | .ok xs e2 => Out.ok (Rs.fr (.lst xs)) (unwipe [.pa (.lst [.int a1, .int b1]), .sh (.int most), .sh (.int w), .un, .un] e2 [4])
        | _ => .no) = _
  rw [h2]
  rfl
theorem ints_set (xs : List Int) (k : Nat) (v : Int) : (intL xs).set k (.int v) = intL (xs.set k v) := by
  unfold intL
  rw [List.map_set]
theorem row_ex (n : Nat) (most w : Int) (hm0 : 0 ≤ most) (hm : most ≤ 60) (hw : 0 < w) (hw2 : w.natAbs < 2 ^ 4000) (a b : Int) (hb : 0 ≤ b ∧ b < 2147483629) :
    ∃ (row : List Int) (a' b' : Int), (row.length : Int) ≤ most ∧ (∀ x ∈ row, x.natAbs < w.natAbs + 20) ∧ LastOk row ∧ (0 ≤ b' ∧ b' < 2147483629) ∧
      (G (n + 3)).fn i_law_row [.pa (.lst [.int a, .int b]), .sh (.int most), .sh (.int w)] = .ok (.d (.tup (intL row))) [.pa (.lst [.int a', .int b']), .sh (.int most), .sh (.int w)] := by
  obtain ⟨xs, a1, b1, l1, l2, p1, h1⟩ := row_comp n most w hm0 hm hw hw2 a b hb
  rw [fn_succ (n + 2) _ _ d_law_row rfl]
  have e : d_law_row = ⟨3, 5, [.set 3 true rowComp, .ite (.and_ (.cmp .ne (.var 3) (.lst [])) (.cmp .eq (.idx (.var 3) (.neg (.cst (.int 1)))) (.cst (.int 0)))) [.setSub (.var 3) (.neg (.cst (.int 1))) (.bin .add (.cst (.int 1)) (.call i_law_take [.var 0, .cst (.int 9)]))] [], .ret (.blt .tuple [.var 3])]⟩ := rfl
  rw [e]
  have hp := plain_ints 39 xs
  cases xs with
  | nil =>
    refine ⟨[], a1, b1, l1, l2, fun x h => by simp at h, p1, ?_⟩
    simp [intL] at h1 ⊢
    simp [runDef, execs, exec, tst, ev, evs, h1, Ob.d, holds, Rs.hold, putR, mayPut, SOut.of, Out.bind, Out.thn, Rs.see, Out.of, sees2, cmpS, cmpD, sameD, plainD, plainDs, eqD, eqDs, blR, tstR, truD, bltS, sees, bltD, len1S, SOut.seq, retR, pasKept, backP]
  | cons x xs =>
    have hlen : (intL (x :: xs)).length = xs.length + 1 := by unfold intL; simp
    have hx : (intL (x :: xs))[xs.length]? = some (.int ((x :: xs)[xs.length]'(by simp))) := by
      rw [ints_get, List.getElem?_eq_getElem (by simp)]
      rfl
    have heq : eqDs (intL (x :: xs)) [] = false := by simp [intL, eqDs]
    have hplc : plc (xs.length + 1) (-1) = some xs.length := by
      unfold plc
      rw [if_neg (by decide), if_pos (by omega)]
      congr 1
      omega
    generalize hg : (x :: xs)[xs.length]'(by simp) = y at hx
    have hset := ints_set (x :: xs) xs.length
    generalize hr : intL (x :: xs) = rr at h1 hp hx hlen heq hset
    have hix : idxD (.lst rr) (.int (-1)) = some (.int y) := by
      show ((plc rr.length (-1)).bind fun k => rr[k]?) = _
      rw [hlen, hplc]
      exact hx
    by_cases hy : y = 0
    · obtain ⟨d, a2, b2, r2, p2, h2⟩ := take_ex (n + 1) a1 b1 9 (by decide) (lt4000 (by decide)) p1
      refine ⟨(x :: xs).set xs.length (1 + d), a2, b2, by simpa using l1, fun z hz => ?_, fun z hz => ?_, p2, ?_⟩
      · rcases List.mem_or_eq_of_mem_set hz with hz | hz
        · exact l2 z hz
        · omega
      · simp at hz
        omega
      · subst hy
        rw [← hset]
        simp [runDef, execs, exec, tst, ev, evs, h1, h2, callS, lent, noTwice, passAll, passS, backAll, backS, Ob.d, holds, Rs.hold, putR, mayPut, SOut.of, Out.bind, Out.thn, Rs.see, Out.of, sees1, sees2, negD, binD, cmpS, cmpD, sameD, plainD, plainDs, hp, eqD, heq, hix, blR, tstR, truD, setSubS, obAt, putOb, hlen, hplc, bltS, sees, bltD, len1S, SOut.seq, retR, pasKept, backP]
    · refine ⟨x :: xs, a1, b1, l1, l2, fun z hz => ?_, p1, ?_⟩
      · have hz : (x :: xs)[xs.length]? = some z := by simpa using hz
        rw [List.getElem?_eq_getElem (by simp)] at hz
        cases hz
        rw [hg]
        exact hy
      · have hyb : (y == 0) = false := by simpa using hy
        rw [hr]
        simp [runDef, execs, exec, tst, ev, evs, h1, Ob.d, holds, Rs.hold, putR, mayPut, SOut.of, Out.bind, Out.thn, Rs.see, Out.of, sees1, sees2, negD, cmpS, cmpD, sameD, plainD, plainDs, hp, eqD, heq, hix, hyb, hy, blR, tstR, truD, bltS, sees, bltD, len1S, SOut.seq, retR, pasKept, backP]
end Lw
end
section
set_option exponentiation.threshold 300
namespace Lw
open Mi
/-! ### texts of numbers -/
theorem numT_len {i : Int} {k : Nat} (hk : 0 < k) (h : i.natAbs < 10 ^ k) : (numT i).length ≤ k + 1 := by
  unfold numT txOf
  rw [List.length_map]
  cases i with
  | ofNat n =>
    show (String.ofList (Nat.toDigits 10 n)).toList.length ≤ k + 1
    rw [String.toList_ofList]
    have := (Nat.length_toDigits_le_iff (b := 10) (n := n) (k := k) (by decide) hk).mpr h
    omega
  | negSucc n =>
    show ("-" ++ String.ofList (Nat.toDigits 10 (n + 1))).toList.length ≤ k + 1
    have := (Nat.length_toDigits_le_iff (b := 10) (n := n + 1) (k := k) (by decide) hk).mpr h
    have e : "-".toList.length = 1 := rfl
    have e2 : (String.ofList (Nat.toDigits 10 (n + 1))).toList.length = (Nat.toDigits 10 (n + 1)).length := by rw [String.toList_ofList]
    rw [String.toList_append, List.length_append]
    omega
theorem pow_28 (k : Nat) : 2 ^ (3 * k) ≤ 10 ^ k := by
  rw [Nat.pow_mul]
  exact Nat.pow_le_pow_left (by decide) k
theorem numT_len2 {i : Int} (h : i.natAbs.log2 < 1920) : (numT i).length ≤ 641 := by
  have h1 : i.natAbs < 2 ^ 1920 := by
    by_cases z : i.natAbs = 0
    · rw [z]; exact Nat.two_pow_pos _
    · exact (Nat.log2_lt z).mp h
  have h2 : 2 ^ 1920 ≤ 10 ^ 640 := pow_28 640
  exact numT_len (by decide) (Nat.lt_of_lt_of_le h1 h2)
theorem log_of {i : Int} {k : Nat} (h : i.natAbs < 2 ^ k) (hk : k < 1920) : i.natAbs.log2 < 1920 := Nat.lt_of_le_of_lt (log2_le h) hk
theorem sep_len (sep : Tx) (B : Nat) (hs : sep.length = 2) : ∀ l : List Tx, (∀ t ∈ l, t.length ≤ B) → (sepT sep l).length ≤ l.length * (B + 2)
  | [], _ => by simp [sepT]
  | [t], h => by
    have := h t (List.mem_cons_self ..)
    simp [sepT]
    omega
  | t :: u :: l, h => by
    have h1 := h t (List.mem_cons_self ..)
    have h2 := sep_len sep B hs (u :: l) fun v hv => h v (List.mem_cons_of_mem _ hv)
    show (t ++ sep ++ sepT sep (u :: l)).length ≤ (u :: l).length.succ * (B + 2)
    rw [Nat.succ_mul, List.length_append, List.length_append, hs]
    omega
theorem repr_ints : ∀ row : List Int, (∀ x ∈ row, x.natAbs < 2 ^ 1900) → reprDs (intL row) = some (row.map numT)
  | [], _ => by simp [intL, reprDs]
  | x :: row, h => by
    have h1 := log_of (h x (List.mem_cons_self ..)) (by decide)
    have h2 := repr_ints row fun y hy => h y (List.mem_cons_of_mem _ hy)
    unfold intL at h2 ⊢
    rw [List.map_cons]
    simp only [reprDs, reprD, decide_eq_true h1, if_true, h2, List.map_cons]
theorem reprX_tup (row : List Int) (hl : row.length ≤ 1000) (h : ∀ x ∈ row, x.natAbs < 2 ^ 1900) : reprX (.tup (intL row)) = some (tupT (row.map numT)) := by
  unfold reprX
  simp only [reprD, repr_ints row h]
  have hb : ∀ t ∈ row.map numT, t.length ≤ 641 := fun t ht => by
    obtain ⟨x, hx, rfl⟩ := List.mem_map.mp ht
    exact numT_len2 (log_of (h x hx) (by decide))
  have h1 := sep_len [44, 32] 641 rfl (row.map numT) hb
  rw [List.length_map] at h1
  have h2 : row.length * (641 + 2) ≤ 1000 * 643 := Nat.mul_le_mul hl (by decide)
  have h3 : (tupT (row.map numT)).length ≤ 16000000 := by
    unfold tupT
    split <;> simp <;> omega
  rw [if_pos (szOk_of h3)]
theorem reprX_lst (row : List Int) (hl : row.length ≤ 1000) (h : ∀ x ∈ row, x.natAbs < 2 ^ 1900) : reprX (.lst (intL row)) = some (lstT (row.map numT)) := by
  unfold reprX
  simp only [reprD, repr_ints row h]
  have hb : ∀ t ∈ row.map numT, t.length ≤ 641 := fun t ht => by
    obtain ⟨x, hx, rfl⟩ := List.mem_map.mp ht
    exact numT_len2 (log_of (h x hx) (by decide))
  have h1 := sep_len [44, 32] 641 rfl (row.map numT) hb
  rw [List.length_map] at h1
  have h2 : row.length * (641 + 2) ≤ 1000 * 643 := Nat.mul_le_mul hl (by decide)
  have h3 : (lstT (row.map numT)).length ≤ 16000000 := by
    unfold lstT
    simp
    omega
  rw [if_pos (szOk_of h3)]
theorem plain_tup (row : List Int) : plainD 40 (.tup (intL row)) = true := by
  simp only [plainD]
  exact plain_ints 39 row
/-- equal rows -/
theorem eq_ints : ∀ a b : List Int, eqDs (intL a) (intL b) = decide (a = b)
  | [], [] => rfl
  | [], _ :: _ => rfl
  | _ :: _, [] => rfl
  | x :: a, y :: b => by
    have ih := eq_ints a b
    unfold intL at ih ⊢
    rw [List.map_cons, List.map_cons]
    simp only [eqDs, eqD, ih, List.cons.injEq]
    by_cases h : x = y
    · subst h; simp
    · have e : (x == y) = false := by simpa using h
      rw [e]
      simp [h]
theorem same_tup (a b : List Int) : sameD (.tup (intL a)) (.tup (intL b)) = some (decide (a = b)) := by
  unfold sameD
  simp only [plain_tup, Bool.and_self, if_true, eqD, eq_ints]
/-! ### moved twice -/
theorem drop_movedFrom (row : List Int) (by_ : Int) : ∀ (j k left : Nat), j ≤ left → (movedFrom row by_ k left).drop j = movedFrom row by_ (k + j) (left - j)
  | 0, k, left, _ => by simp
  | j + 1, k, left + 1, h => by
    show (movedFrom row by_ (k + 1) left).drop j = _
    rw [drop_movedFrom row by_ j (k + 1) left (by omega), show k + 1 + j = k + (j + 1) by omega, show left + 1 - (j + 1) = left - j by omega]
  | j + 1, k, 0, h => by omega
theorem movedFrom_drop (row : List Int) (by_ : Int) (j : Nat) : ∀ (left k : Nat), movedFrom (row.drop j) by_ k left = movedFrom row by_ (j + k) left
  | 0, k => rfl
  | left + 1, k => by
    show wor ((row.drop j).drop k) by_ :: movedFrom (row.drop j) by_ (k + 1) left = wor (row.drop (j + k)) by_ :: movedFrom row by_ (j + k + 1) left
    rw [List.drop_drop, movedFrom_drop row by_ j left (k + 1), show j + (k + 1) = j + k + 1 by omega]
theorem moved_drop (row : List Int) (by_ : Int) (j : Nat) (h : j ≤ row.length) : (moved row by_).drop j = moved (row.drop j) by_ := by
  unfold moved
  rw [drop_movedFrom row by_ j 0 row.length h, movedFrom_drop row by_ j, List.length_drop, Nat.zero_add, Nat.add_zero]
theorem moved_len (row : List Int) (by_ : Int) : (moved row by_).length = row.length := movedFrom_len row by_ _ _
theorem moved_get (row : List Int) (by_ : Int) (i : Nat) (h : i < row.length) : (moved row by_)[i]? = some (wor (row.drop i) by_) := by
  unfold moved
  rw [movedFrom_get row by_ _ 0 i h, Nat.zero_add]
theorem moved_moved (row : List Int) (a b : Nat) : moved (moved row (a : Int)) (b : Int) = moved row ((b + a : Nat) : Int) := by
  apply List.ext_getElem?
  intro i
  by_cases h : i < row.length
  · rw [moved_get _ _ i (by rw [moved_len]; exact h), moved_get _ _ i h, moved_drop row _ i (by omega), wor_moved]
  · rw [List.getElem?_eq_none (by rw [moved_len, moved_len]; omega), List.getElem?_eq_none (by rw [moved_len]; omega)]
theorem moved_zero (row : List Int) : moved row 0 = row := by
  apply List.ext_getElem?
  intro i
  by_cases h : i < row.length
  · rw [moved_get _ _ i h, wor_zero, List.getElem?_eq_getElem h]
    rw [List.drop_eq_getElem_cons h]
    rfl
  · rw [List.getElem?_eq_none (by rw [moved_len]; omega), List.getElem?_eq_none (by omega)]
end Lw
end
section
set_option exponentiation.threshold 300
namespace Lw
open Mi
/-! ### the maths of rows -/
theorem wor_nil (p : Int) : wor [] p = 0 := rfl
/-- rows that agree at the first places agree everywhere -/
theorem wor_uniq : ∀ (N : Nat) (r s : List Int), r.length ≤ N → s.length ≤ N → (∀ p : Nat, p < N → wor r (p : Int) = wor s (p : Int)) → ∀ p : Nat, wor r (p : Int) = wor s (p : Int)
  | 0, r, s, hr, hs, _, p => by
    rw [List.length_eq_zero_iff.mp (by omega : r.length = 0), List.length_eq_zero_iff.mp (by omega : s.length = 0)]
  | N + 1, r, s, hr, hs, h, p => by
    have ht : ∀ p : Nat, wor r.tail (p : Int) = wor s.tail (p : Int) := wor_uniq N r.tail s.tail (by simp; omega) (by simp; omega) fun p hp => by
      have h1 := h p (by omega)
      have h2 := h (p + 1) (by omega)
      rw [wor_succ, wor_succ] at h2
      omega
    induction p with
    | zero => exact h 0 (by omega)
    | succ p ih => rw [wor_succ, wor_succ, ih, ht p]
theorem lastOk_tail {x : Int} {xs : List Int} (h : LastOk (x :: xs)) : LastOk xs := by
  cases xs with
  | nil => intro y hy; simp at hy
  | cons z zs =>
    intro y hy
    refine h y ?_
    simpa using hy
theorem canon_nil : ∀ s : List Int, LastOk s → (∀ p : Nat, wor s (p : Int) = 0) → s = []
  | [], _, _ => rfl
  | y :: ys, hl, h => by
    have ht : ∀ p : Nat, wor ys (p : Int) = 0 := fun p => by
      have h1 := h p
      have h2 := h (p + 1)
      rw [wor_succ] at h2
      have e : (y :: ys).tail = ys := rfl
      rw [e] at h2
      omega
    have e := canon_nil ys (lastOk_tail hl) ht
    subst e
    have h0 := h 0
    rw [show ((0 : Nat) : Int) = 0 from rfl, wor_zero] at h0
    exact (hl y rfl h0).elim
/-- a row without a nought at its end is known by its values -/
theorem canon : ∀ r s : List Int, LastOk r → LastOk s → (∀ p : Nat, wor r (p : Int) = wor s (p : Int)) → r = s
  | [], s, _, hs, h => (canon_nil s hs fun p => (h p).symm).symm
  | r, [], hr, _, h => canon_nil r hr h
  | x :: xs, y :: ys, hr, hs, h => by
    have h0 := h 0
    rw [show ((0 : Nat) : Int) = 0 from rfl, wor_zero, wor_zero] at h0
    have e : x = y := h0
    have ht : ∀ p : Nat, wor xs (p : Int) = wor ys (p : Int) := fun p => by
      have h1 := h p
      have h2 := h (p + 1)
      rw [wor_succ, wor_succ] at h2
      have e1 : (x :: xs).tail = xs := rfl
      have e2 : (y :: ys).tail = ys := rfl
      rw [e1, e2] at h2
      omega
    rw [e, canon xs ys (lastOk_tail hr) (lastOk_tail hs) ht]
/-! #### sums -/
def addr : List Int → List Int → List Int
  | [], s => s
  | r, [] => r
  | x :: r, y :: s => (x + y) :: addr r s
theorem addr_nil (r : List Int) : addr r [] = r := by cases r <;> rfl
theorem addr_tail : ∀ r s : List Int, (addr r s).tail = addr r.tail s.tail
  | [], s => by cases s <;> rfl
  | x :: r, [] => by show r = addr r []; rw [addr_nil]
  | x :: r, y :: s => rfl
theorem addr_head : ∀ r s : List Int, (addr r s).headD 0 = r.headD 0 + s.headD 0
  | [], s => by simp [addr]
  | x :: r, [] => by simp [addr]
  | x :: r, y :: s => by simp [addr]
theorem wor_addr (r s : List Int) : ∀ p : Nat, wor (addr r s) (p : Int) = wor r (p : Int) + wor s (p : Int) := fun p => by
  induction p generalizing r s with
  | zero => rw [show ((0 : Nat) : Int) = 0 from rfl, wor_zero, wor_zero, wor_zero, addr_head]
  | succ p ih =>
    rw [wor_succ, wor_succ, wor_succ, addr_tail, ih, ih]
    omega
theorem addr_len : ∀ r s : List Int, (addr r s).length = max r.length s.length
  | [], s => by simp [addr]
  | x :: r, [] => by simp [addr]
  | x :: r, y :: s => by
    show (addr r s).length + 1 = max (r.length + 1) (s.length + 1)
    rw [addr_len r s]
    omega
theorem addr_mem (A : Nat) : ∀ r s : List Int, (∀ x ∈ r, x.natAbs < 2 ^ A) → (∀ x ∈ s, x.natAbs < 2 ^ A) → ∀ x ∈ addr r s, x.natAbs < 2 ^ (A + 1)
  | [], s, _, hs, x, hx => Nat.lt_trans (hs x hx) (Nat.pow_lt_pow_right (by decide) (by omega))
  | y :: r, [], hr, _, x, hx => Nat.lt_trans (hr x hx) (Nat.pow_lt_pow_right (by decide) (by omega))
  | y :: r, z :: s, hr, hs, x, hx => by
    rcases List.mem_cons.mp hx with rfl | hx
    · have h1 := hr y (List.mem_cons_self ..)
      have h2 := hs z (List.mem_cons_self ..)
      rw [Nat.pow_succ]
      omega
    · exact addr_mem A r s (fun a ha => hr a (List.mem_cons_of_mem _ ha)) (fun a ha => hs a (List.mem_cons_of_mem _ ha)) x hx
/-! #### products -/
def prodr (r s : List Int) : List Int := match r, s with
  | [], _ => []
  | _, [] => []
  | x :: r, y :: s => (x * y) :: addr (prodr r (y :: s)) (addr (prodr (x :: r) s) (prodr r s))
termination_by r.length + s.length
theorem wor_prodr (p : Nat) : ∀ r s : List Int, wor (prodr r s) (p : Int) = wor r (p : Int) * wor s (p : Int) := by
  induction p with
  | zero =>
    intro r s
    rw [show ((0 : Nat) : Int) = 0 from rfl, wor_zero, wor_zero, wor_zero]
    cases r with
    | nil => simp [prodr]
    | cons x r => cases s <;> simp [prodr]
  | succ p ih =>
    intro r s
    cases r with
    | nil => simp [prodr, wor_nil]
    | cons x r =>
      cases s with
      | nil => simp [prodr, wor_nil]
      | cons y s =>
        have e : prodr (x :: r) (y :: s) = (x * y) :: addr (prodr r (y :: s)) (addr (prodr (x :: r) s) (prodr r s)) := by rw [prodr]
        have et : (prodr (x :: r) (y :: s)).tail = addr (prodr r (y :: s)) (addr (prodr (x :: r) s) (prodr r s)) := by rw [e]; rfl
        have e1 : (x :: r).tail = r := rfl
        have e2 : (y :: s).tail = s := rfl
        rw [wor_succ, wor_succ, wor_succ, et, wor_addr, wor_addr, ih, ih, ih, ih, e1, e2, Int.add_mul, Int.mul_add, Int.mul_add]
        omega
theorem prodr_len (r s : List Int) : (prodr r s).length ≤ r.length + s.length - 1 := by
  induction h : r.length + s.length using Nat.strongRecOn generalizing r s with
  | ind N ih =>
    cases r with
    | nil => simp [prodr]
    | cons x r =>
      cases s with
      | nil => simp [prodr]
      | cons y s =>
        have e : prodr (x :: r) (y :: s) = (x * y) :: addr (prodr r (y :: s)) (addr (prodr (x :: r) s) (prodr r s)) := by rw [prodr]
        simp only [List.length_cons] at h
        have h1 := ih (r.length + (y :: s).length) (by simp; omega) r (y :: s) rfl
        have h2 := ih ((x :: r).length + s.length) (by simp; omega) (x :: r) s rfl
        have h3 := ih (r.length + s.length) (by omega) r s rfl
        simp only [List.length_cons] at h1 h2
        rw [e, List.length_cons, addr_len, addr_len]
        omega
/-! #### differences -/
def dlt (l : List Int) : List Int := List.zipWith (fun a b => b - a) l l.tail
theorem dlt_len (l : List Int) : (dlt l).length = l.length - 1 := by
  unfold dlt
  rw [List.length_zipWith, List.length_tail]
  omega
def dif (l : List Int) : List Int := match l with
  | [] => []
  | x :: xs => x :: dif (dlt (x :: xs))
termination_by l.length
decreasing_by rw [dlt_len]; simp
theorem dif_len (l : List Int) : (dif l).length = l.length := by
  induction h : l.length using Nat.strongRecOn generalizing l with
  | ind N ih =>
    cases l with
    | nil => rw [dif]; exact h
    | cons x xs =>
      rw [dif, List.length_cons, ih _ (by rw [dlt_len]; simp at h ⊢; omega) _ rfl, dlt_len]
      simp at h ⊢
      omega
theorem dlt_get {l : List Int} {k : Nat} (h : k + 1 < l.length) : ∃ a b, l[k]? = some a ∧ l[k + 1]? = some b ∧ (dlt l)[k]? = some (b - a) := by
  refine ⟨l[k], l[k + 1], List.getElem?_eq_getElem (by omega), List.getElem?_eq_getElem h, ?_⟩
  unfold dlt
  rw [List.getElem?_zipWith, List.getElem?_eq_getElem (by omega : k < l.length), List.getElem?_tail, List.getElem?_eq_getElem h]
/-- the values of the differences are the numbers -/
theorem wor_dif (l : List Int) (k : Nat) (v : Int) (h : l[k]? = some v) : wor (dif l) (k : Int) = v := by
  induction k generalizing l v with
  | zero =>
    cases l with
    | nil => simp at h
    | cons x xs =>
      simp at h
      subst h
      rw [show ((0 : Nat) : Int) = 0 from rfl, wor_zero, dif]
      rfl
  | succ k ih =>
    cases l with
    | nil => simp at h
    | cons x xs =>
      have hk : k + 1 < (x :: xs).length := (List.getElem?_eq_some_iff.mp h).1
      obtain ⟨a, b, h1, h2, h3⟩ := dlt_get hk
      rw [h] at h2
      cases h2
      have e : (dif (x :: xs)).tail = dif (dlt (x :: xs)) := by rw [dif]; rfl
      rw [wor_succ, ih _ a h1, e, ih _ (v - a) h3]
      omega
theorem dif_mem (l : List Int) (M : Nat) (h : ∀ x ∈ l, x.natAbs ≤ M) : ∀ x ∈ dif l, x.natAbs ≤ 2 ^ l.length * M := by
  induction hn : l.length using Nat.strongRecOn generalizing l M with
  | ind N ih =>
    cases l with
    | nil => rw [dif]; intro x hx; simp at hx
    | cons y ys =>
      intro x hx
      rw [dif] at hx
      have h2 : ∀ z ∈ dlt (y :: ys), z.natAbs ≤ 2 * M := fun z hz => by
        unfold dlt at hz
        obtain ⟨k, hk⟩ := List.getElem?_of_mem hz
        have hk' : k + 1 < (y :: ys).length := by
          have := (List.getElem?_eq_some_iff.mp hk).1
          rw [List.length_zipWith, List.length_tail] at this
          omega
        obtain ⟨a, b, q1, q2, q3⟩ := dlt_get hk'
        unfold dlt at q3
        rw [q3] at hk
        cases hk
        have := h a (List.mem_of_getElem? q1)
        have := h b (List.mem_of_getElem? q2)
        omega
      have hl : (y :: ys).length = ys.length + 1 := rfl
      rcases List.mem_cons.mp hx with rfl | hx
      · have h1 := h x (List.mem_cons_self ..)
        have : M ≤ 2 ^ N * M := Nat.le_mul_of_pos_left M (Nat.two_pow_pos N)
        omega
      · have := ih (dlt (y :: ys)).length (by rw [dlt_len]; omega) (dlt (y :: ys)) (2 * M) h2 rfl x hx
        rw [dlt_len, show (y :: ys).length - 1 = ys.length from rfl] at this
        have e : 2 ^ N * M = 2 ^ ys.length * (2 * M) := by
          rw [← hn, hl, Nat.pow_succ, Nat.mul_assoc]
        omega
/-! #### without the noughts at the end -/
def trimC (x : Int) : List Int → List Int
  | [] => if x = 0 then [] else [x]
  | y :: ys => x :: y :: ys
def trim : List Int → List Int
  | [] => []
  | x :: xs => trimC x (trim xs)
theorem trim_cons (x : Int) (xs : List Int) : trim (x :: xs) = trimC x (trim xs) := rfl
theorem trim_last : ∀ l : List Int, LastOk (trim l)
  | [] => fun x hx => by simp [trim] at hx
  | x :: xs => by
    have ih := trim_last xs
    rw [trim_cons]
    cases e : trim xs with
    | nil =>
      by_cases h : x = 0
      · simp only [trimC, if_pos h]; intro z hz; simp at hz
      · simp only [trimC, if_neg h]
        intro z hz
        simp at hz
        omega
    | cons y ys =>
      rw [e] at ih
      intro z hz
      refine ih z ?_
      simpa [trimC] using hz
theorem wor_nought (p : Nat) : wor [0] (p : Int) = 0 := by
  induction p with
  | zero => rfl
  | succ p ih => rw [wor_succ, ih]; rfl
theorem wor_cons_eq {x : Int} {r s : List Int} (h : ∀ p : Nat, wor r (p : Int) = wor s (p : Int)) : ∀ p : Nat, wor (x :: r) (p : Int) = wor (x :: s) (p : Int)
  | 0 => by rw [show ((0 : Nat) : Int) = 0 from rfl, wor_zero, wor_zero]; rfl
  | p + 1 => by
    rw [wor_succ, wor_succ, wor_cons_eq h p]
    exact congrArg _ (h p)
theorem wor_trimC (x : Int) (t : List Int) (p : Nat) : wor (trimC x t) (p : Int) = wor (x :: t) (p : Int) := by
  cases t with
  | nil =>
    by_cases h : x = 0
    · simp only [trimC, if_pos h]
      rw [h, wor_nought]
      rfl
    · simp only [trimC, if_neg h]
  | cons y ys => rfl
theorem wor_trim : ∀ (l : List Int) (p : Nat), wor (trim l) (p : Int) = wor l (p : Int)
  | [], p => rfl
  | x :: xs, p => by
    rw [trim_cons, wor_trimC]
    exact wor_cons_eq (wor_trim xs) p
theorem trim_len : ∀ l : List Int, (trim l).length ≤ l.length
  | [] => Nat.le_refl _
  | x :: xs => by
    have ih := trim_len xs
    rw [trim_cons]
    cases e : trim xs with
    | nil =>
      simp only [trimC]
      split <;> simp
    | cons y ys => rw [e] at ih; simpa [trimC] using ih
theorem trim_mem : ∀ (l : List Int), ∀ x ∈ trim l, x ∈ l
  | [], x, h => by simp [trim] at h
  | y :: ys, x, h => by
    have ih := trim_mem ys
    rw [trim_cons] at h
    cases e : trim ys with
    | nil =>
      rw [e] at h
      by_cases hy : y = 0
      · simp [trimC, hy] at h
      · simp [trimC, hy] at h
        subst h
        exact List.mem_cons_self ..
    | cons z zs =>
      rw [e] at h ih
      rcases List.mem_cons.mp h with rfl | h
      · exact List.mem_cons_self ..
      · exact List.mem_cons_of_mem _ (ih x h)
/-- how many numbers are left: the front of the list -/
theorem trim_take : ∀ l : List Int, trim l = l.take (trim l).length
  | [] => rfl
  | x :: xs => by
    have ih := trim_take xs
    rw [trim_cons]
    cases e : trim xs with
    | nil =>
      by_cases h : x = 0
      · simp [trimC, h]
      · simp [trimC, h]
    | cons y ys =>
      rw [e] at ih
      simp only [trimC, List.length_cons, List.take_succ_cons] at ih ⊢
      rw [← ih]
theorem trim_stop (l : List Int) : (trim l).length = 0 ∨ ∃ x, l[(trim l).length - 1]? = some x ∧ x ≠ 0 := by
  have hl := trim_last l
  have ht := trim_take l
  generalize trim l = t at hl ht
  cases t with
  | nil => exact .inl rfl
  | cons y ys =>
    refine .inr ?_
    have hlen : ys.length < (y :: ys).length := by simp
    refine ⟨(y :: ys)[ys.length], ?_, hl _ (by simp [List.getElem?_eq_getElem hlen])⟩
    have h1 : (l.take (y :: ys).length)[ys.length]? = some (y :: ys)[ys.length] := by rw [← ht]; exact List.getElem?_eq_getElem hlen
    rw [List.getElem?_take_of_lt hlen] at h1
    simpa using h1
theorem trim_above : ∀ (l : List Int) (k : Nat), (trim l).length ≤ k → ∀ x, l[k]? = some x → x = 0
  | [], k, _, x, h => by simp at h
  | y :: ys, 0, hk, x, h => by
    simp at h
    subst h
    rw [trim_cons] at hk
    cases e : trim ys with
    | nil =>
      rw [e] at hk
      by_cases hy : y = 0
      · exact hy
      · simp [trimC, hy] at hk
    | cons z zs => rw [e] at hk; simp [trimC] at hk
  | y :: ys, k + 1, hk, x, h => by
    refine trim_above ys k ?_ x (by simpa using h)
    rw [trim_cons] at hk
    cases e : trim ys with
    | nil => simp
    | cons z zs => rw [e] at hk; simp [trimC] at hk ⊢; omega
end Lw
end
section
set_option exponentiation.threshold 300
namespace Lw
open Mi
theorem intL_len (xs : List Int) : (intL xs).length = xs.length := by unfold intL; simp
theorem intL_app (xs ys : List Int) : intL (xs ++ ys) = intL xs ++ intL ys := by unfold intL; simp
theorem idx_lst {l : List Int} {k : Nat} {x : Int} (h : l[k]? = some x) : idxD (.lst (intL l)) (.int (k : Int)) = some (.int x) := by
  have hk : k < l.length := (List.getElem?_eq_some_iff.mp h).1
  show ((plc (intL l).length (k : Int)).bind fun k => (intL l)[k]?) = _
  rw [intL_len, plc_nat hk]
  show (intL l)[k]? = _
  rw [ints_get, h]
  rfl
def trimTest : MExp := .and_ (.cmp .gt (.var 1) (.cst (.int 0))) (.cmp .eq (.idx (.var 0) (.bin .sub (.var 1) (.cst (.int 1)))) (.cst (.int 0)))
/-- a list that is handed in: data, or the caller's own -/
def IsL (s0 : Sl) (l : List Int) : Prop := s0 = .sh (.lst (intL l)) ∨ s0 = .pa (.lst (intL l))
theorem trim_test0 (n : Nat) (s0 : Sl) : tst (G n) trimTest [s0, .sh (.int 0)] = .ok false [s0, .sh (.int 0)] := by
  simp [Ob.d, binD, Rs.hold, holds, runDef, execs, exec, tst, ev, evs, callS, lent, noTwice, passAll, passS, backAll, backS, Out.bind, Out.thn, tstR, Rs.see, Out.of, sees1, sees2, negD, cmpS, cmpD, sameD, plainD, plainDs, eqD, blR, truD, SOut.seq, SOut.of, bltS, sees, bltD, tupD, seqD, putTgs, putTg, setSubS, obAt, putOb, mayPut_eq, mpO_un, mpO_sh, mpO_ow, putR, retR, pasKept, backP, noEx, len1S, trimTest]
theorem trim_test (n : Nat) (l : List Int) (s0 : Sl) (hs : IsL s0 l) (m : Nat) (x : Int) (h : l[m]? = some x) : tst (G n) trimTest [s0, .sh (.int ((m + 1 : Nat) : Int))] = .ok (x == 0) [s0, .sh (.int ((m + 1 : Nat) : Int))] := by
  have hi := idx_lst h
  have e : ((m + 1 : Nat) : Int) - 1 = (m : Int) := by omega
  have h0 : (0 : Int) < ((m + 1 : Nat) : Int) := by omega
  generalize ((m + 1 : Nat) : Int) = mm at e h0
  unfold IsL at hs
  generalize intL l = rr at hi hs
  rcases hs with rfl | rfl <;> simp [Ob.d, binD, Rs.hold, holds, runDef, execs, exec, tst, ev, evs, callS, lent, noTwice, passAll, passS, backAll, backS, Out.bind, Out.thn, tstR, Rs.see, Out.of, sees1, sees2, negD, cmpS, cmpD, sameD, plainD, plainDs, eqD, blR, truD, SOut.seq, SOut.of, bltS, sees, bltD, tupD, seqD, putTgs, putTg, setSubS, obAt, putOb, mayPut_eq, mpO_un, mpO_sh, mpO_ow, putR, retR, pasKept, backP, noEx, len1S, trimTest, e, h0, hi]
theorem trim_loop (n : Nat) (l : List Int) (s0 : Sl) (hs : IsL s0 l) (hl : l.length ≤ 3000) : exec (G n) (.whl trimTest [.aug 1 .sub (.cst (.int 1))]) [s0, .sh (.int (l.length : Int))] = .nx [s0, .sh (.int ((trim l).length : Int))] := by
  rw [exec_whl]
  have hf : (G n).fuel = 4000 := by cases n <;> rfl
  obtain ⟨e', h1, h2⟩ := whl_by (test := tst (G n) trimTest) (body := execs (G n) [.aug 1 .sub (.cst (.int 1))])
    (fun m e => (trim l).length ≤ m ∧ m ≤ l.length ∧ e = [s0, .sh (.int (m : Int))]) (fun e => e = [s0, .sh (.int ((trim l).length : Int))])
    (fun m e ⟨q1, q2, q3⟩ => by
      subst q3
      cases m with
      | zero =>
        refine .inl ⟨_, trim_test0 n _, ?_⟩
        rw [show (trim l).length = 0 by omega]
        rfl
      | succ m =>
        have hg : l[m]? = some l[m] := List.getElem?_eq_getElem (by omega)
        have ht := trim_test n l s0 hs m _ hg
        by_cases c : (trim l).length = m + 1
        · refine .inl ⟨_, ?_, by rw [c]⟩
          rw [ht]
          rcases trim_stop l with z | ⟨x, z1, z2⟩
          · omega
          · rw [c, show m + 1 - 1 = m by omega, hg] at z1
            cases z1
            have : (l[m] == 0) = false := by simpa using z2
            rw [this]
        · have z := trim_above l m (by omega) _ hg
          refine .inr ⟨[s0, .sh (.int ((m + 1 : Nat) : Int))], [s0, .sh (.int (m : Int))], m, ?_, ?_, by omega, by omega, by omega, rfl⟩
          · rw [ht, z]; rfl
          · have e : ((m + 1 : Nat) : Int) - 1 = (m : Int) := by omega
            generalize ((m + 1 : Nat) : Int) = mm at e
            simp [Ob.d, binD, Rs.hold, holds, runDef, execs, exec, tst, ev, evs, callS, lent, noTwice, passAll, passS, backAll, backS, Out.bind, Out.thn, tstR, Rs.see, Out.of, sees1, sees2, negD, cmpS, cmpD, sameD, plainD, plainDs, eqD, blR, truD, SOut.seq, SOut.of, bltS, sees, bltD, tupD, seqD, putTgs, putTg, setSubS, obAt, putOb, mayPut_eq, mpO_un, mpO_sh, mpO_ow, putR, retR, pasKept, backP, noEx, len1S, e])
    (G n).fuel l.length [s0, .sh (.int (l.length : Int))] (by omega) ⟨trim_len l, Nat.le_refl _, rfl⟩
  rw [h1, h2]
theorem cut_take (l : List Int) (m : Nat) (h : m ≤ l.length) : cut (intL l) none (some (m : Int)) = intL (l.take m) := by
  unfold cut
  have b1 : bnd (intL l).length 0 none = 0 := rfl
  have b2 : bnd (intL l).length (intL l).length (some (m : Int)) = m := by
    unfold bnd
    simp only []
    rw [if_neg (by omega), intL_len]
    omega
  rw [b1, b2, List.drop_zero, Nat.sub_zero]
  unfold intL
  rw [List.map_take]
theorem trimmed_eq (n : Nat) (l : List Int) (s0 : Sl) (hs : IsL s0 l) (hl : l.length ≤ 3000) : (G (n + 1)).fn i_trimmed [s0] = .ok (.d (.tup (intL (trim l)))) [s0] := by
  have h1 := trim_loop n l s0 hs hl
  have h2 := cut_take l (trim l).length (trim_len l)
  rw [← trim_take] at h2
  have hlen := intL_len l
  have e : d_trimmed = ⟨1, 2, [.set 1 false (.len1 (.var 0)), .whl trimTest [.aug 1 .sub (.cst (.int 1))], .ret (.blt .tuple [.slc (.var 0) none (some (.var 1))])]⟩ := rfl
  rw [fn_succ n _ _ d_trimmed rfl, e]
  generalize hw : MStmt.whl trimTest [.aug 1 .sub (.cst (.int 1))] = w at h1
  unfold IsL at hs
  generalize intL l = rr at hs h2 hlen
  rcases hs with rfl | rfl <;> simp [Ob.d, binD, Rs.hold, holds, runDef, execs, exec, tst, ev, evs, callS, lent, noTwice, passAll, passS, backAll, backS, Out.bind, Out.thn, tstR, Rs.see, Out.of, sees1, sees2, negD, cmpS, cmpD, sameD, plainD, plainDs, eqD, blR, truD, SOut.seq, SOut.of, bltS, sees, bltD, tupD, seqD, putTgs, putTg, setSubS, obAt, putOb, mayPut_eq, mpO_un, mpO_sh, mpO_ow, putR, retR, pasKept, backP, noEx, len1S, hlen, h1, evp, partO, slcD, h2]
/-! ### differences_of -/
def wholeComp : MExp := .comp (.call i_is_whole_differences [.var 5]) (.nm 5) (.seq (.var 0)) none
theorem whole_comp (n : Nat) (l : List Int) (hl : l.length ≤ 3000) (r : D) (hr : r = .lst (intL l) ∨ r = .tup (intL l)) (s1 s2 s3 s4 s6 : Sl) :
    ev (G (n + 1)) (.blt .all [wholeComp]) [.sh r, s1, s2, s3, s4, .un, s6] = .ok (.d (.bl true)) [.sh r, s1, s2, s3, s4, .un, s6] := by
  have hit : evIt (G (n + 1)) (.seq (.var 0)) [.sh r, s1, s2, s3, s4, .un, s6] = .ok (.one (.snap (intL l))) [.sh r, s1, s2, s3, s4, .un, s6] := by
    rcases hr with rfl | rfl <;> simp [evIt, srcL, srcOf, It.slots, Src.slots, It.len, Src.len, partO, It.at_, Src.at_, It.fine, Src.fine, ev, evs, evp, callS, lent, noTwice, passAll, passS, backAll, backS, Out.bind, Out.thn, Rs.see, Rs.hold, holds, Out.of, sees1, sees2, binD, bltS, sees, bltD, Ob.d, obAt, len1S]
  obtain ⟨acc, e2, g1, g2, g3⟩ := ev_comp_by (G := G (n + 1)) (a := .call i_is_whole_differences [.var 5]) (t := .nm 5) (c := none) l.length
    (fun k acc e => acc = List.replicate k (.bl true) ∧ e = [.sh r, s1, s2, s3, s4, .un, s6]) hit (intL_len l) rfl ⟨rfl, rfl⟩
    (fun k acc e hk ⟨q1, q2⟩ hlen => by
      subst q2
      refine ⟨.int l[k], [.sh r, s1, s2, s3, s4, .sh (.int l[k]), s6], ?_, rfl, .inl ⟨_, .d (.bl true), [.sh r, s1, s2, s3, s4, .sh (.int l[k]), s6], .bl true, _, by simp [evc]; rfl, ?_, rfl, ?_, rfl⟩⟩
      · show (intL l)[k]? = _
        rw [ints_get, List.getElem?_eq_getElem hk]
        rfl
      · have hw := wholeD_eq n l[k]
        simp [Ob.d, binD, Rs.hold, holds, runDef, execs, exec, tst, ev, evs, callS, lent, noTwice, passAll, passS, backAll, backS, Out.bind, Out.thn, tstR, Rs.see, Out.of, sees1, sees2, negD, cmpS, cmpD, sameD, plainD, plainDs, eqD, blR, truD, SOut.seq, SOut.of, bltS, sees, bltD, tupD, seqD, putTgs, putTg, setSubS, obAt, putOb, mayPut_eq, mpO_un, mpO_sh, mpO_ow, putR, retR, pasKept, backP, noEx, len1S, hw]
      · rw [q1, List.replicate_succ'])
    (fun _ _ _ => rfl) (by omega)
  subst g2
  subst g3
  have hb := bls_rep l.length
  have e : ev (G (n + 1)) (.blt .all [wholeComp]) [.sh r, s1, s2, s3, s4, .un, s6] = (evs (G (n + 1)) [wholeComp] [.sh r, s1, s2, s3, s4, .un, s6]).bind fun rs e1 => bltS .all rs e1 := rfl
  have e3 : evs (G (n + 1)) [wholeComp] [.sh r, s1, s2, s3, s4, .un, s6] = (ev (G (n + 1)) wholeComp [.sh r, s1, s2, s3, s4, .un, s6]).bind fun r e1 => (Out.ok [] e1).bind fun rs e2 => .ok (r :: rs) e2 := rfl
  have g1 : ev (G (n + 1)) wholeComp [.sh r, s1, s2, s3, s4, .un, s6] = _ := g1
  rw [e, e3, g1]
  simp [Out.bind, bltS, sees, Rs.see, Ob.d, bltD, len1S, hb, Out.of, unwipe, wipeE, Tgt.is]
def dltComp : MExp := .comp (.bin .sub (.var 6) (.var 5)) (.tp [5, 6]) (.zip (.var 2) (.var 4)) none
theorem dlt_comp (n : Nat) (x : Int) (xs : List Int) (hl : xs.length ≤ 3000) (s0 s1 s3 s5 s6 : Sl) (h5 : s5 = .un) (h6 : s6 = .un) :
    ev (G n) dltComp [s0, s1, .sh (.lst (intL (x :: xs))), s3, .sh (.lst (intL xs)), s5, s6] = .ok (.fr (.lst (intL (dlt (x :: xs))))) [s0, s1, .sh (.lst (intL (x :: xs))), s3, .sh (.lst (intL xs)), s5, s6] := by
  subst h5
  subst h6
  have hit : evIt (G n) (.zip (.var 2) (.var 4)) [s0, s1, .sh (.lst (intL (x :: xs))), s3, .sh (.lst (intL xs)), .un, .un] = .ok (.zip (.snap (intL (x :: xs))) (.snap (intL xs))) [s0, s1, .sh (.lst (intL (x :: xs))), s3, .sh (.lst (intL xs)), .un, .un] := by
    generalize intL (x :: xs) = rr
    generalize intL xs = tt
    simp [evIt, srcL, srcOf, It.slots, Src.slots, It.len, Src.len, partO, It.at_, Src.at_, It.fine, Src.fine, ev, evs, evp, callS, lent, noTwice, passAll, passS, backAll, backS, Out.bind, Out.thn, Rs.see, Rs.hold, holds, Out.of, sees1, sees2, binD, bltS, sees, bltD, Ob.d, obAt, len1S]
  have hlen : (It.zip (.snap (intL (x :: xs))) (.snap (intL xs))).len = xs.length := by
    show min (intL (x :: xs)).length (intL xs).length = _
    rw [intL_len, intL_len]
    simp
  have hdl : (dlt (x :: xs)).length = xs.length := by rw [dlt_len]; rfl
  obtain ⟨acc, e2, g1, g2, g3⟩ := ev_comp_by (G := G n) (a := .bin .sub (.var 6) (.var 5)) (t := .tp [5, 6]) (c := none) xs.length
    (fun k acc e => acc = intL ((dlt (x :: xs)).take k) ∧ e = [s0, s1, .sh (.lst (intL (x :: xs))), s3, .sh (.lst (intL xs)), .un, .un]) hit hlen rfl ⟨rfl, rfl⟩
    (fun k acc e hk ⟨q1, q2⟩ hlen => by
      subst q2
      obtain ⟨a, b, z1, z2, z3⟩ := dlt_get (l := x :: xs) (k := k) (by simp; omega)
      refine ⟨.tup [.int a, .int b], [s0, s1, .sh (.lst (intL (x :: xs))), s3, .sh (.lst (intL xs)), .sh (.int a), .sh (.int b)], ?_, ?_, .inl ⟨_, .d (.int (b - a)), [s0, s1, .sh (.lst (intL (x :: xs))), s3, .sh (.lst (intL xs)), .sh (.int a), .sh (.int b)], .int (b - a), _, by simp [evc]; rfl, ?_, rfl, ?_, rfl⟩⟩
      · show ((intL (x :: xs))[k]?).bind (fun y => ((intL xs)[k]?).map fun z => D.tup [y, z]) = _
        rw [ints_get, ints_get, z1]
        have z2 : xs[k]? = some b := by simpa using z2
        rw [z2]
        rfl
      · simp [Tgt.put, tupD, putNs, mayPut_eq, mpO_un]
      · generalize intL (x :: xs) = rr
        generalize intL xs = tt
        simp [Ob.d, binD, Rs.hold, holds, runDef, execs, exec, tst, ev, evs, callS, lent, noTwice, passAll, passS, backAll, backS, Out.bind, Out.thn, tstR, Rs.see, Out.of, sees1, sees2, negD, cmpS, cmpD, sameD, plainD, plainDs, eqD, blR, truD, SOut.seq, SOut.of, bltS, sees, bltD, tupD, seqD, putTgs, putTg, setSubS, obAt, putOb, mayPut_eq, mpO_un, mpO_sh, mpO_ow, putR, retR, pasKept, backP, noEx, len1S]
      · rw [List.take_add_one, z3, q1, intL_app]
        rfl)
    (fun _ _ _ => rfl) (by omega)
  rw [List.take_of_length_le (by omega)] at g2
  subst g2
  subst g3
  exact g1
def difB : List MStmt := [.star [3] 4 (.var 2), .exp (.met .append (.var 1) [.var 3]), .set 2 false dltComp]
def difTest : MExp := .cmp .ne (.var 2) (.lst [])
theorem dif_test (n : Nat) (s0 s1 s3 s4 : Sl) (l : List Int) : tst (G n) difTest [s0, s1, .sh (.lst (intL l)), s3, s4, .un, .un] = .ok (decide (l ≠ [])) [s0, s1, .sh (.lst (intL l)), s3, s4, .un, .un] := by
  have hp : plainDs 39 (intL l) = true := plain_ints 39 l
  have heq : eqDs (intL l) [] = decide (l = []) := eq_ints l []
  generalize intL l = rr at hp heq
  simp [Ob.d, binD, Rs.hold, holds, runDef, execs, exec, tst, ev, evs, callS, lent, noTwice, passAll, passS, backAll, backS, Out.bind, Out.thn, tstR, Rs.see, Out.of, sees1, sees2, negD, cmpS, cmpD, sameD, plainD, plainDs, eqD, blR, truD, SOut.seq, SOut.of, bltS, sees, bltD, tupD, seqD, putTgs, putTg, setSubS, obAt, putOb, mayPut_eq, mpO_un, mpO_sh, mpO_ow, putR, retR, pasKept, backP, noEx, len1S, difTest, hp, heq]
theorem dif_body (n : Nat) (s0 s3 s4 : Sl) (f : List Int) (x : Int) (xs : List Int) (hf : f.length ≤ 3000) (hl : xs.length ≤ 3000) (m3 : mpO (some s3) = true) (m4 : mpO (some s4) = true) :
    execs (G n) difB [s0, .ow (.lst (intL f)), .sh (.lst (intL (x :: xs))), s3, s4, .un, .un] = .nx [s0, .ow (.lst (intL (f ++ [x]))), .sh (.lst (intL (dlt (x :: xs)))), .sh (.int x), .sh (.lst (intL xs)), .un, .un] := by
  have hd := dlt_comp n x xs hl s0 (.ow (.lst (intL (f ++ [x])))) (.sh (.int x)) .un .un rfl rfl
  have hz : szOk (intL f).length = true := szOk_of (by rw [intL_len]; omega)
  have ha : intL (f ++ [x]) = intL f ++ [.int x] := intL_app f [x]
  have hc : intL (x :: xs) = .int x :: intL xs := rfl
  have hl1 : decide ((intL xs).length + 1 ≤ 16000) = true := decide_eq_true (by rw [intL_len]; omega)
  have hl2 : (intL xs).length + 1 ≤ 16000 := by rw [intL_len]; omega
  rw [hc] at hd ⊢
  rw [ha] at hd ⊢
  generalize intL (dlt (x :: xs)) = dd at hd
  generalize intL f = ff at hz hd
  generalize intL xs = tt at hl1 hl2 hd
  generalize hm : dltComp = m at hd
  have e : difB = [.star [3] 4 (.var 2), .exp (.met .append (.var 1) [.var 3]), .set 2 false m] := by rw [← hm]; rfl
  rw [e]
  simp [Ob.d, binD, Rs.hold, holds, runDef, execs, exec, tst, ev, evs, callS, lent, noTwice, passAll, passS, backAll, backS, Out.bind, Out.thn, tstR, Rs.see, Out.of, sees1, sees2, negD, cmpS, cmpD, sameD, plainD, plainDs, eqD, blR, truD, SOut.seq, SOut.of, bltS, sees, bltD, tupD, seqD, putTgs, putTg, setSubS, obAt, putOb, mayPut_eq, mpO_un, mpO_sh, mpO_ow, putR, retR, pasKept, backP, noEx, len1S, seqD, putNs, hl2, m3, m4, metOk, isMut, metS, metO, hz, hd]
theorem dif_loop (n : Nat) (s0 : Sl) (l : List Int) (hl : l.length ≤ 3000) :
    ∃ t3 t4, exec (G n) (.whl difTest difB) [s0, .ow (.lst []), .sh (.lst (intL l)), .un, .un, .un, .un] = .nx [s0, .ow (.lst (intL (dif l))), .sh (.lst []), t3, t4, .un, .un] := by
  rw [exec_whl]
  have hf : (G n).fuel = 4000 := by cases n <;> rfl
  obtain ⟨e', h1, t3, t4, h2⟩ := whl_by (test := tst (G n) difTest) (body := execs (G n) difB)
    (fun m e => ∃ (f r : List Int) (s3 s4 : Sl), r.length = m ∧ f.length + m = l.length ∧ f ++ dif r = dif l ∧ mpO (some s3) = true ∧ mpO (some s4) = true ∧ e = [s0, .ow (.lst (intL f)), .sh (.lst (intL r)), s3, s4, .un, .un])
    (fun e => ∃ t3 t4, e = [s0, .ow (.lst (intL (dif l))), .sh (.lst []), t3, t4, .un, .un])
    (fun m e ⟨f, r, s3, s4, q1, q2, q3, m3, m4, q4⟩ => by
      subst q4
      have ht := dif_test n s0 (.ow (.lst (intL f))) s3 s4 r
      cases r with
      | nil =>
        rw [dif, List.append_nil] at q3
        refine .inl ⟨_, ht, s3, s4, ?_⟩
        rw [q3]
        rfl
      | cons x xs =>
        simp at q1
        refine .inr ⟨_, _, xs.length, ht, dif_body n s0 s3 s4 f x xs (by omega) (by omega) m3 m4, by omega, f ++ [x], dlt (x :: xs), _, _, by rw [dlt_len]; rfl, by simp; omega, ?_, rfl, rfl, rfl⟩
        rw [← q3, dif]
        simp)
    (G n).fuel l.length [s0, .ow (.lst []), .sh (.lst (intL l)), .un, .un, .un, .un] (by omega) ⟨[], l, .un, .un, rfl, by simp, rfl, rfl, rfl, rfl⟩
  exact ⟨t3, t4, by rw [h1, h2]⟩
/-- the DIFFERENCES of some numbers -/
theorem differences_eq (n : Nat) (l : List Int) (hl : l.length ≤ 3000) (r : D) (hr : r = .lst (intL l) ∨ r = .tup (intL l)) :
    (G (n + 2)).fn i_differences_of [.sh r] = .ok (.d (.tup (intL (trim (dif l))))) [.sh r] := by
  have h1 := whole_comp n l hl r hr .un .un .un .un .un
  obtain ⟨t3, t4, h2⟩ := dif_loop (n + 1) (.sh r) l hl
  have h3' := trimmed_eq n (dif l) (.pa (.lst (intL (dif l)))) (.inr rfl) (by rw [dif_len]; exact hl)
  have e : d_differences_of = ⟨1, 7, [.ite (.or_ (.not_ (.isk (.var 0) [.list, .tuple])) (.not_ (.blt .all [wholeComp]))) [.raise x_NoDifferences [] []] [], .set 1 true (.lst []), .set 2 false (.blt .list [.var 0]), .whl difTest difB, .ret (.call i_trimmed [.var 1])]⟩ := rfl
  rw [fn_succ (n + 1) _ _ d_differences_of rfl, e]
  generalize hw : MStmt.whl difTest difB = w at h2
  generalize hm : MExp.blt .all [wholeComp] = m at h1
  have k1 : (Kd.list == Kd.list) = true := rfl
  have k2 : (Kd.tuple == Kd.tuple) = true := rfl
  have k3 : (Kd.list == Kd.tuple) = false := rfl
  have k4 : (Kd.tuple == Kd.list) = false := rfl
  rcases hr with rfl | rfl
  · generalize intL l = rr at h1 h2
    generalize intL (dif l) = dd at h2 h3'
    simp [Ob.d, binD, Rs.hold, holds, runDef, execs, exec, tst, ev, evs, callS, lent, noTwice, passAll, passS, backAll, backS, Out.bind, Out.thn, tstR, Rs.see, Out.of, sees1, sees2, negD, cmpS, cmpD, sameD, plainD, plainDs, eqD, blR, truD, SOut.seq, SOut.of, bltS, sees, bltD, tupD, seqD, putTgs, putTg, setSubS, obAt, putOb, mayPut_eq, mpO_un, mpO_sh, mpO_ow, putR, retR, pasKept, backP, noEx, len1S, iskD, isKd, kdOf, k1, k2, k3, k4, h1, h2, h3', List.any]
  · generalize intL l = rr at h1 h2
    generalize intL (dif l) = dd at h2 h3'
    simp [Ob.d, binD, Rs.hold, holds, runDef, execs, exec, tst, ev, evs, callS, lent, noTwice, passAll, passS, backAll, backS, Out.bind, Out.thn, tstR, Rs.see, Out.of, sees1, sees2, negD, cmpS, cmpD, sameD, plainD, plainDs, eqD, blR, truD, SOut.seq, SOut.of, bltS, sees, bltD, tupD, seqD, putTgs, putTg, setSubS, obAt, putOb, mayPut_eq, mpO_un, mpO_sh, mpO_ow, putR, retR, pasKept, backP, noEx, len1S, iskD, isKd, kdOf, k1, k2, k3, k4, h1, h2, h3', List.any]
end Lw
end
section
set_option exponentiation.threshold 300
namespace Lw
open Mi
theorem evc_none (Gg : Gs) (e : Env) : evc Gg none e = .ok true e := rfl
theorem set_un {e : Env} {j : Nat} (hj : e[j]? = some .un) : e.set j .un = e := by
  have jl : j < e.length := (List.getElem?_eq_some_iff.mp hj).1
  apply List.ext_getElem?
  intro q
  by_cases c : j = q
  · subst c
    rw [List.getElem?_set_self jl, hj]
  · rw [List.getElem?_set_ne c]
/-- a comprehension over one name that changes nothing: what is kept, mapped -/
theorem comp_mfk {α : Type} {Gg : Gs} {a : MExp} {c : Option MExp} {it : MIt} {w : It} (ys : List α) (f : α → D) (keep : α → Bool) (val : α → D) {j : Nat} {e e0 : Env} (hj : e[j]? = some .un) (hl : ys.length ≤ 16000000)
    (hit : evIt Gg it e0 = .ok w e) (hw : w.len = ys.length) (hs : w.slots = []) (hat : ∀ k e, k < ys.length → w.at_ k e = (ys[k]?).map f) (hf : ∀ e, w.fine e = true)
    (hb : ∀ y, y ∈ ys → evc Gg c (e.set j (.sh (f y))) = .ok (keep y) (e.set j (.sh (f y))) ∧ (keep y = true → ev Gg a (e.set j (.sh (f y))) = .ok (.d (val y)) (e.set j (.sh (f y))))) :
    ev Gg (.comp a (.nm j) it c) e0 = .ok (.fr (.lst ((ys.filter keep).map val))) e := by
  have jl : j < e.length := (List.getElem?_eq_some_iff.mp hj).1
  have hset := set_un hj
  have hwi : wipeE e [j] = e := hset
  have hwo : wipeOk e [j] = true := by simp [wipeOk, hj]
  obtain ⟨acc, e2, g1, g2, g3⟩ := ev_comp_by (G := Gg) (a := a) (t := .nm j) (c := c) ys.length
    (fun k acc e2 => acc = ((ys.take k).filter keep).map val ∧ e2 = e) hit hw (by show (wipeOk e [j] && _) = true; rw [hwo, hs]; rfl) ⟨rfl, hwi⟩
    (fun k acc e2 hk ⟨q1, q2⟩ hlen => by
      subst q2
      obtain ⟨b1, b2⟩ := hb ys[k] (List.getElem_mem hk)
      have hj2 : (e2.set j (.sh (f ys[k]))).set j .un = e2 := by rw [List.set_set]; exact hset
      have hat' : w.at_ k e2 = some (f ys[k]) := by rw [hat k e2 hk, List.getElem?_eq_getElem hk]; rfl
      refine ⟨f ys[k], e2.set j (.sh (f ys[k])), hat', ?_, ?_⟩
      · simp [Tgt.put, mayPut_eq, hj, mpO]
      · cases hk2 : keep ys[k] with
        | true =>
          rw [hk2] at b1
          refine .inl ⟨_, .d (val ys[k]), _, val ys[k], _, b1, b2 hk2, rfl, ?_, hj2⟩
          rw [q1, List.take_add_one, List.getElem?_eq_getElem hk, List.filter_append, List.map_append]
          simp [hk2]
        | false =>
          rw [hk2] at b1
          refine .inr ⟨_, b1, ?_, hj2⟩
          rw [q1, List.take_add_one, List.getElem?_eq_getElem hk, List.filter_append, List.map_append]
          simp [hk2])
    (fun _ e2 _ => hf e2) hl
  subst g2
  subst g3
  rw [List.take_length] at g1
  have hun : unwipe e2 e2 [j] = e2 := by
    show e2.set j ((wipeE e2 [])[j]?.getD .un) = e2
    show e2.set j (e2[j]?.getD .un) = e2
    rw [hj]
    exact hset
  rw [g1]
  exact congrArg _ hun
theorem comp_mf {α : Type} {Gg : Gs} {a : MExp} {c : Option MExp} {it : MIt} {w : It} (ys : List α) (f : α → D) (keep : α → Bool) (val : α → D) {j : Nat} {e e0 : Env} (hj : e[j]? = some .un) (hl : ys.length ≤ 16000000)
    (hit : evIt Gg it e0 = .ok w e) (hw : w.len = ys.length) (hs : w.slots = []) (hat : ∀ k e, w.at_ k e = (ys[k]?).map f) (hf : ∀ e, w.fine e = true)
    (hb : ∀ y, y ∈ ys → evc Gg c (e.set j (.sh (f y))) = .ok (keep y) (e.set j (.sh (f y))) ∧ (keep y = true → ev Gg a (e.set j (.sh (f y))) = .ok (.d (val y)) (e.set j (.sh (f y))))) :
    ev Gg (.comp a (.nm j) it c) e0 = .ok (.fr (.lst ((ys.filter keep).map val))) e :=
  comp_mfk ys f keep val hj hl hit hw hs (fun k e _ => hat k e) hf hb
theorem filter_all {α : Type} (l : List α) : l.filter (fun _ => true) = l := by simp
/-- .. of which all are kept -/
theorem comp_mapk {α : Type} {Gg : Gs} {a : MExp} {it : MIt} {w : It} (ys : List α) (f : α → D) (val : α → D) {j : Nat} {e e0 : Env} (hj : e[j]? = some .un) (hl : ys.length ≤ 16000000)
    (hit : evIt Gg it e0 = .ok w e) (hw : w.len = ys.length) (hs : w.slots = []) (hat : ∀ k e, k < ys.length → w.at_ k e = (ys[k]?).map f) (hf : ∀ e, w.fine e = true)
    (hb : ∀ y, y ∈ ys → ev Gg a (e.set j (.sh (f y))) = .ok (.d (val y)) (e.set j (.sh (f y)))) :
    ev Gg (.comp a (.nm j) it none) e0 = .ok (.fr (.lst (ys.map val))) e := by
  have h := comp_mfk (c := none) ys f (fun _ => true) val hj hl hit hw hs hat hf fun y hy => ⟨rfl, fun _ => hb y hy⟩
  rw [filter_all] at h
  exact h
theorem comp_map {α : Type} {Gg : Gs} {a : MExp} {it : MIt} {w : It} (ys : List α) (f : α → D) (val : α → D) {j : Nat} {e e0 : Env} (hj : e[j]? = some .un) (hl : ys.length ≤ 16000000)
    (hit : evIt Gg it e0 = .ok w e) (hw : w.len = ys.length) (hs : w.slots = []) (hat : ∀ k e, w.at_ k e = (ys[k]?).map f) (hf : ∀ e, w.fine e = true)
    (hb : ∀ y, y ∈ ys → ev Gg a (e.set j (.sh (f y))) = .ok (.d (val y)) (e.set j (.sh (f y)))) :
    ev Gg (.comp a (.nm j) it none) e0 = .ok (.fr (.lst (ys.map val))) e :=
  comp_mapk ys f val hj hl hit hw hs (fun k e _ => hat k e) hf hb
theorem at_snap {α : Type} (ys : List α) (f : α → D) (k : Nat) (e : Env) : (It.one (.snap (ys.map f))).at_ k e = (ys[k]?).map f := by
  show (ys.map f)[k]? = _
  rw [List.getElem?_map]
theorem ev_blt1 (Gg : Gs) (b : Blt) (m : MExp) (e e1 : Env) (r : Rs) (h : ev Gg m e = .ok r e1) : ev Gg (.blt b [m]) e = bltS b [r] e1 := by
  have ee : ev Gg (.blt b [m]) e = (evs Gg [m] e).bind fun rs e1 => bltS b rs e1 := rfl
  have e3 : evs Gg [m] e = (ev Gg m e).bind fun r e1 => (Out.ok [] e1).bind fun rs e2 => .ok (r :: rs) e2 := rfl
  rw [ee, e3, h]
  rfl
end Lw
end
section
set_option exponentiation.threshold 300
namespace Lw
open Mi
theorem rok_of {x : D} (h : plainD 40 x = true) : rokD x = true := by
  unfold rokD
  simp [h]
theorem plain_lst (row : List Int) : plainD 40 (.lst (intL row)) = true := by
  simp only [plainD]
  exact plain_ints 39 row
theorem same_lst (a b : List Int) : sameD (.lst (intL a)) (.lst (intL b)) = some (decide (a = b)) := by
  unfold sameD
  simp only [plain_lst, Bool.and_self, if_true, eqD, eq_ints]
theorem txt_same (t : Tx) : sameD (.str t) (.str t) = some true := by
  show some (t == t) = some true
  simp
theorem txt_ne (t : Tx) : cmpD .ne (.str t) (.str t) = some false := by
  show some (!(t == t)) = some false
  simp
theorem txt_eq (t : Tx) : cmpD .eq (.str t) (.str t) = some true := by
  show some (t == t) = some true
  simp
def intB : D → Bool
  | .int _ => true
  | _ => false
def okD : D → Bool
  | .ins _ _ => false
  | .scr _ => false
  | _ => true
theorem wholeD_any (n : Nat) (x : D) (hx : okD x = true) : (G (n + 1)).fn i_is_whole_differences [.sh x] = .ok (.d (.bl (intB x))) [.sh x] := by
  have k1 : (Kd.int == Kd.int) = true := rfl
  have k2 : (Kd.int == Kd.bool) = false := rfl
  have k3 : (Kd.bool == Kd.int) = false := rfl
  have k4 : (Kd.bool == Kd.bool) = true := rfl
  have k5 : (Kd.str == Kd.int) = false := rfl
  have k6 : (Kd.str == Kd.bool) = false := rfl
  have k7 : (Kd.tuple == Kd.int) = false := rfl
  have k8 : (Kd.tuple == Kd.bool) = false := rfl
  have k9 : (Kd.list == Kd.int) = false := rfl
  have k10 : (Kd.list == Kd.bool) = false := rfl
  have k11 : (Kd.dict == Kd.int) = false := rfl
  have k12 : (Kd.dict == Kd.bool) = false := rfl
  rw [fn_succ n _ _ d_is_whole_differences rfl]
  cases x <;> first | cases hx; done | simp [Ob.d, binD, Rs.hold, holds, runDef, execs, exec, tst, ev, evs, callS, lent, noTwice, passAll, passS, backAll, backS, Out.bind, Out.thn, tstR, Rs.see, Out.of, sees1, sees2, negD, cmpS, cmpD, sameD, plainD, plainDs, eqD, blR, truD, SOut.seq, SOut.of, bltS, sees, bltD, tupD, seqD, putTgs, putTg, setSubS, obAt, putOb, mayPut_eq, mpO_un, mpO_sh, mpO_ow, putR, retR, pasKept, backP, noEx, len1S, d_is_whole_differences, b_is_whole_differences, iskD, isKd, kdOf, List.any, intB, k1, k2, k3, k4, k5, k6, k7, k8, k9, k10, k11, k12]
theorem bls_ofD : ∀ (xs : List D) (f : D → Bool), blsOf (xs.map fun y => .bl (f y)) = some (xs.map f)
  | [], _ => rfl
  | x :: xs, f => by
    have ih := bls_ofD xs f
    show (match blsOf (xs.map fun y => .bl (f y)) with
      | some l => some (f x :: l)
      | none => none) = _
    rw [ih]
    rfl
theorem all_any (n : Nat) (xs : List D) (hx : ∀ x ∈ xs, okD x = true) (hl : xs.length ≤ 1000) (r : D) (hr : r = .lst xs ∨ r = .tup xs) (s1 s2 s3 s4 s6 : Sl) :
    ev (G (n + 1)) (.blt .all [wholeComp]) [.sh r, s1, s2, s3, s4, .un, s6] = .ok (.d (.bl (xs.all intB))) [.sh r, s1, s2, s3, s4, .un, s6] := by
  have hc := comp_map (Gg := G (n + 1)) (a := .call i_is_whole_differences [.var 5]) (it := .seq (.var 0)) (w := .one (.snap (xs.map id))) xs id (fun y => .bl (intB y)) (j := 5)
    (e := [.sh r, s1, s2, s3, s4, .un, s6]) (e0 := [.sh r, s1, s2, s3, s4, .un, s6]) rfl (by omega)
    (by rw [List.map_id]; rcases hr with rfl | rfl <;> simp [evIt, srcL, srcOf, It.slots, Src.slots, It.len, Src.len, partO, It.at_, Src.at_, It.fine, Src.fine, ev, evs, evp, callS, lent, noTwice, passAll, passS, backAll, backS, Out.bind, Out.thn, Rs.see, Rs.hold, holds, Out.of, sees1, sees2, binD, bltS, sees, bltD, Ob.d, obAt, len1S]) (by rw [List.map_id]; rfl) rfl (fun k e => at_snap _ _ k e) (fun _ => rfl)
    (fun y hy => by
      have hw := wholeD_any n y (hx y hy)
      simp [Ob.d, binD, Rs.hold, holds, runDef, execs, exec, tst, ev, evs, callS, lent, noTwice, passAll, passS, backAll, backS, Out.bind, Out.thn, tstR, Rs.see, Out.of, sees1, sees2, negD, cmpS, cmpD, sameD, plainD, plainDs, eqD, blR, truD, SOut.seq, SOut.of, bltS, sees, bltD, tupD, seqD, putTgs, putTg, setSubS, obAt, putOb, mayPut_eq, mpO_un, mpO_sh, mpO_ow, putR, retR, pasKept, backP, noEx, len1S, hw, id])
  have hc : ev (G (n + 1)) wholeComp [.sh r, s1, s2, s3, s4, .un, s6] = _ := hc
  rw [ev_blt1 _ _ _ _ _ _ hc]
  have hb := bls_ofD xs intB
  simp [bltS, sees, Rs.see, Ob.d, bltD, hb, Out.of, List.all_map]
theorem no_seq (n : Nat) (xs : List D) (hx : ∀ x ∈ xs, okD x = true) (hl : xs.length ≤ 1000) (hn : xs.all intB = false) (r : D) (hr : r = .lst xs ∨ r = .tup xs) :
    (G (n + 2)).fn i_differences_of [.sh r] = .ex ⟨x_NoDifferences, []⟩ [.sh r] := by
  have h1 := all_any n xs hx hl r hr .un .un .un .un .un
  rw [hn] at h1
  have e : d_differences_of = ⟨1, 7, [.ite (.or_ (.not_ (.isk (.var 0) [.list, .tuple])) (.not_ (.blt .all [wholeComp]))) [.raise x_NoDifferences [] []] [], .set 1 true (.lst []), .set 2 false (.blt .list [.var 0]), .whl difTest difB, .ret (.call i_trimmed [.var 1])]⟩ := rfl
  rw [fn_succ (n + 1) _ _ d_differences_of rfl, e]
  generalize MStmt.whl difTest difB = w
  generalize MExp.blt .all [wholeComp] = m at h1
  have k1 : (Kd.list == Kd.list) = true := rfl
  have k2 : (Kd.tuple == Kd.tuple) = true := rfl
  have k4 : (Kd.tuple == Kd.list) = false := rfl
  rcases hr with rfl | rfl
  · simp [Ob.d, binD, Rs.hold, holds, runDef, execs, exec, tst, ev, evs, callS, lent, noTwice, passAll, passS, backAll, backS, Out.bind, Out.thn, tstR, Rs.see, Out.of, sees1, sees2, negD, cmpS, cmpD, sameD, plainD, plainDs, eqD, blR, truD, SOut.seq, SOut.of, bltS, sees, bltD, tupD, seqD, putTgs, putTg, setSubS, obAt, putOb, mayPut_eq, mpO_un, mpO_sh, mpO_ow, putR, retR, pasKept, backP, noEx, len1S, iskD, isKd, kdOf, k1, k2, k4, h1, List.any]
  · simp [Ob.d, binD, Rs.hold, holds, runDef, execs, exec, tst, ev, evs, callS, lent, noTwice, passAll, passS, backAll, backS, Out.bind, Out.thn, tstR, Rs.see, Out.of, sees1, sees2, negD, cmpS, cmpD, sameD, plainD, plainDs, eqD, blR, truD, SOut.seq, SOut.of, bltS, sees, bltD, tupD, seqD, putTgs, putTg, setSubS, obAt, putOb, mayPut_eq, mpO_un, mpO_sh, mpO_ow, putR, retR, pasKept, backP, noEx, len1S, iskD, isKd, kdOf, k1, k2, k4, h1, List.any]
theorem no_kind (n : Nat) (r : D) (hr : iskD [.list, .tuple] r = some (.d (.bl false))) : (G (n + 2)).fn i_differences_of [.sh r] = .ex ⟨x_NoDifferences, []⟩ [.sh r] := by
  have e : d_differences_of = ⟨1, 7, [.ite (.or_ (.not_ (.isk (.var 0) [.list, .tuple])) (.not_ (.blt .all [wholeComp]))) [.raise x_NoDifferences [] []] [], .set 1 true (.lst []), .set 2 false (.blt .list [.var 0]), .whl difTest difB, .ret (.call i_trimmed [.var 1])]⟩ := rfl
  rw [fn_succ (n + 1) _ _ d_differences_of rfl, e]
  generalize MStmt.whl difTest difB = w
  generalize MExp.blt .all [wholeComp] = m
  simp [Ob.d, binD, Rs.hold, holds, runDef, execs, exec, tst, ev, evs, callS, lent, noTwice, passAll, passS, backAll, backS, Out.bind, Out.thn, tstR, Rs.see, Out.of, sees1, sees2, negD, cmpS, cmpD, sameD, plainD, plainDs, eqD, blR, truD, SOut.seq, SOut.of, bltS, sees, bltD, tupD, seqD, putTgs, putTg, setSubS, obAt, putOb, mayPut_eq, mpO_un, mpO_sh, mpO_ow, putR, retR, pasKept, backP, noEx, len1S, hr]
theorem idx_in {l : List D} {d : Int} (h : 0 ≤ d ∧ d < l.length) : ∃ x ∈ l, idxD (.lst l) (.int d) = some x := by
  obtain ⟨k, rfl⟩ := Int.eq_ofNat_of_zero_le h.1
  have hk : k < l.length := by omega
  refine ⟨l[k], List.getElem_mem hk, ?_⟩
  show ((plc l.length (k : Int)).bind fun k => l[k]?) = _
  rw [plc_nat hk]
  exact List.getElem?_eq_getElem hk
theorem ints_ok (l : List Int) : ∀ x ∈ intL l, okD x = true := fun x hx => by
  unfold intL at hx
  obtain ⟨i, _, rfl⟩ := List.mem_map.mp hx
  rfl
end Lw
end
section
set_option exponentiation.threshold 300
namespace Lw
open Mi
/-! ### summed -/
def sumd (row : List Int) : List Int := if row = [] then [] else 0 :: row
theorem sumd_tail (row : List Int) : (sumd row).tail = row := by
  unfold sumd
  split
  · rename_i h; rw [h]; rfl
  · rfl
theorem sumd_zero (row : List Int) : wor (sumd row) 0 = 0 := by
  rw [wor_zero]
  unfold sumd
  split <;> rfl
theorem sumd_succ (row : List Int) (p : Nat) : wor (sumd row) ((p + 1 : Nat) : Int) = wor (sumd row) (p : Int) + wor row (p : Int) := by
  rw [wor_succ, sumd_tail]
theorem sumd_last {row : List Int} (h : LastOk row) : LastOk (sumd row) := by
  unfold sumd
  split
  · intro x hx; simp at hx
  · rename_i ne
    intro x hx
    cases row with
    | nil => exact (ne rfl).elim
    | cons y ys =>
      refine h x ?_
      simpa using hx
theorem sumd_len (row : List Int) : (sumd row).length ≤ row.length + 1 := by
  unfold sumd
  split <;> simp
theorem sumd_mem {row : List Int} {A : Nat} (h : ∀ x ∈ row, x.natAbs < 2 ^ A) : ∀ x ∈ sumd row, x.natAbs < 2 ^ A := by
  unfold sumd
  split
  · intro x hx; simp at hx
  · intro x hx
    rcases List.mem_cons.mp hx with rfl | hx
    · exact Nat.two_pow_pos _
    · exact h x hx
/-- summed of the moved one and the values ahead are those of the summed one moved -/
theorem sumd_moved (row : List Int) (a : Nat) (p : Nat) : wor (sumd row) (a : Int) + wor (sumd (moved row (a : Int))) (p : Int) = wor (moved (sumd row) (a : Int)) (p : Int) := by
  rw [wor_moved]
  induction p with
  | zero =>
    rw [show ((0 : Nat) : Int) = 0 from rfl, sumd_zero, Nat.zero_add]
    omega
  | succ p ih =>
    rw [sumd_succ, show p + 1 + a = (p + a) + 1 by omega, sumd_succ, wor_moved]
    omega
theorem summed_eq (n : Nat) (row : List Int) (hl : row.length ≤ 199) (hz : LastOk row) : (G (n + 4)).fn i_summed_up [.sh (.tup (intL row))] = .ok (.d (.tup (intL (sumd row)))) [.sh (.tup (intL row))] := by
  have hw := wantDiff_eq n row (by omega) hz
  rw [fn_succ (n + 3) _ _ d_summed_up rfl]
  have hp := plain_tup row
  cases row with
  | nil =>
    have e : intL [] = [] := rfl
    rw [e] at hw ⊢
    have e2 : intL (sumd []) = [] := rfl
    rw [e2]
    simp [Ob.d, binD, Rs.hold, holds, runDef, execs, exec, tst, ev, evs, callS, lent, noTwice, passAll, passS, backAll, backS, Out.bind, Out.thn, tstR, Rs.see, Out.of, sees1, sees2, negD, cmpS, cmpD, sameD, plainD, plainDs, eqD, blR, truD, SOut.seq, SOut.of, bltS, sees, bltD, tupD, seqD, putTgs, putTg, setSubS, obAt, putOb, mayPut_eq, mpO_un, mpO_sh, mpO_ow, putR, retR, pasKept, backP, noEx, len1S, d_summed_up, b_summed_up, hw, eqDs]
  | cons x xs =>
    have e3 : intL (sumd (x :: xs)) = .int 0 :: intL (x :: xs) := rfl
    have heq : eqDs (intL (x :: xs)) [] = false := eq_ints (x :: xs) []
    have hlen : (intL (x :: xs)).length = xs.length + 1 := by unfold intL; simp
    rw [e3]
    generalize intL (x :: xs) = rr at hw hp heq hlen ⊢
    have hsz : szOk (1 + rr.length) = true := szOk_of (by simp at hl; omega)
    have hsz2 : szOk (rr.length + 1) = true := szOk_of (by simp at hl; omega)
    have hp' : plainDs 39 rr = true := by simpa [plainD] using hp
    simp [Ob.d, binD, Rs.hold, holds, runDef, execs, exec, tst, ev, evs, callS, lent, noTwice, passAll, passS, backAll, backS, Out.bind, Out.thn, tstR, Rs.see, Out.of, sees1, sees2, negD, cmpS, cmpD, sameD, plainD, plainDs, eqD, blR, truD, SOut.seq, SOut.of, bltS, sees, bltD, tupD, seqD, putTgs, putTg, setSubS, obAt, putOb, mayPut_eq, mpO_un, mpO_sh, mpO_ow, putR, retR, pasKept, backP, noEx, len1S, d_summed_up, b_summed_up, hw, heq, hp', hsz, hsz2, eqDs]
end Lw
end
section
set_option exponentiation.threshold 300
namespace Lw
open Mi
/-! ### sum_of -/
def zipS (a b : List Int) : List Int := List.zipWith (fun x y => x + y) a b
theorem zipS_addr : ∀ a b : List Int, zipS a b ++ a.drop (min a.length b.length) ++ b.drop (min a.length b.length) = addr a b
  | [], b => by simp [zipS, addr]
  | x :: a, [] => by simp [zipS, addr]
  | x :: a, y :: b => by
    have ih := zipS_addr a b
    have e : min (x :: a).length (y :: b).length = min a.length b.length + 1 := by simp only [List.length_cons]; omega
    rw [e]
    show (x + y) :: (zipS a b ++ a.drop _ ++ b.drop _) = (x + y) :: addr a b
    rw [ih]
theorem zipS_len (a b : List Int) : (zipS a b).length = min a.length b.length := by
  unfold zipS
  rw [List.length_zipWith]
theorem zipS_get {a b : List Int} {k : Nat} (h1 : k < a.length) (h2 : k < b.length) : (zipS a b)[k]? = some (a[k] + b[k]) := by
  unfold zipS
  rw [List.getElem?_zipWith, List.getElem?_eq_getElem h1, List.getElem?_eq_getElem h2]
def sumComp : MExp := .comp (.bin .add (.var 4) (.var 5)) (.tp [4, 5]) (.zip (.var 0) (.var 1)) none
theorem sum_comp (n : Nat) (a b : List Int) (ha : a.length ≤ 1000) (s2 s3 : Sl) :
    ev (G n) sumComp [.sh (.tup (intL a)), .sh (.tup (intL b)), s2, s3, .un, .un] = .ok (.fr (.lst (intL (zipS a b)))) [.sh (.tup (intL a)), .sh (.tup (intL b)), s2, s3, .un, .un] := by
  have hit : evIt (G n) (.zip (.var 0) (.var 1)) [.sh (.tup (intL a)), .sh (.tup (intL b)), s2, s3, .un, .un] = .ok (.zip (.snap (intL a)) (.snap (intL b))) [.sh (.tup (intL a)), .sh (.tup (intL b)), s2, s3, .un, .un] := by
    generalize intL a = rr
    generalize intL b = tt
    simp [evIt, srcL, srcOf, It.slots, Src.slots, It.len, Src.len, partO, It.at_, Src.at_, It.fine, Src.fine, ev, evs, evp, callS, lent, noTwice, passAll, passS, backAll, backS, Out.bind, Out.thn, Rs.see, Rs.hold, holds, Out.of, sees1, sees2, binD, bltS, sees, bltD, Ob.d, obAt, len1S]
  have hlen : (It.zip (.snap (intL a)) (.snap (intL b))).len = min a.length b.length := by
    show min (intL a).length (intL b).length = _
    rw [intL_len, intL_len]
  obtain ⟨acc, e2, g1, g2, g3⟩ := ev_comp_by (G := G n) (a := .bin .add (.var 4) (.var 5)) (t := .tp [4, 5]) (c := none) (min a.length b.length)
    (fun k acc e => acc = intL ((zipS a b).take k) ∧ e = [.sh (.tup (intL a)), .sh (.tup (intL b)), s2, s3, .un, .un]) hit hlen rfl ⟨rfl, rfl⟩
    (fun k acc e hk ⟨q1, q2⟩ hlen => by
      subst q2
      have h1 : k < a.length := by omega
      have h2 : k < b.length := by omega
      refine ⟨.tup [.int a[k], .int b[k]], [.sh (.tup (intL a)), .sh (.tup (intL b)), s2, s3, .sh (.int a[k]), .sh (.int b[k])], ?_, ?_, .inl ⟨_, .d (.int (a[k] + b[k])), [.sh (.tup (intL a)), .sh (.tup (intL b)), s2, s3, .sh (.int a[k]), .sh (.int b[k])], .int (a[k] + b[k]), _, by simp [evc]; rfl, ?_, rfl, ?_, rfl⟩⟩
      · show ((intL a)[k]?).bind (fun y => ((intL b)[k]?).map fun z => D.tup [y, z]) = _
        rw [ints_get, ints_get, List.getElem?_eq_getElem h1, List.getElem?_eq_getElem h2]
        rfl
      · simp [Tgt.put, tupD, putNs, mayPut_eq, mpO_un]
      · generalize intL a = rr
        generalize intL b = tt
        simp [Ob.d, binD, Rs.hold, holds, runDef, execs, exec, tst, ev, evs, callS, lent, noTwice, passAll, passS, backAll, backS, Out.bind, Out.thn, tstR, Rs.see, Out.of, sees1, sees2, negD, cmpS, cmpD, sameD, plainD, plainDs, eqD, blR, truD, SOut.seq, SOut.of, bltS, sees, bltD, tupD, seqD, putTgs, putTg, setSubS, obAt, putOb, mayPut_eq, mpO_un, mpO_sh, mpO_ow, putR, retR, pasKept, backP, noEx, len1S]
      · rw [List.take_add_one, zipS_get h1 h2, q1, intL_app]
        rfl)
    (fun _ _ _ => rfl) (by omega)
  rw [List.take_of_length_le (by rw [zipS_len]; omega)] at g2
  subst g2
  subst g3
  exact g1
theorem sum_eq (n : Nat) (a b : List Int) (ha : a.length ≤ 200) (hb : b.length ≤ 200) (za : LastOk a) (zb : LastOk b) :
    (G (n + 4)).fn i_sum_of [.sh (.tup (intL a)), .sh (.tup (intL b))] = .ok (.d (.tup (intL (trim (addr a b))))) [.sh (.tup (intL a)), .sh (.tup (intL b))] := by
  have h1 := wantDiff_eq n a ha za
  have h2 := wantDiff_eq n b hb zb
  have h3 := sum_comp (n + 3) a b (by omega) (.sh (.int ((min a.length b.length : Nat) : Int))) .un
  have h4 := cut_ints a (min a.length b.length) (by omega)
  have h5 := cut_ints b (min a.length b.length) (by omega)
  have hz := zipS_addr a b
  have h6 := trimmed_eq (n + 2) (addr a b) (.sh (.lst (intL (addr a b)))) (.inl rfl) (by rw [addr_len]; omega)
  have l1 := intL_len a
  have l2 := intL_len b
  have hm : (if (b.length : Int) < (a.length : Int) then (b.length : Int) else (a.length : Int)) = ((min a.length b.length : Nat) : Int) := by split <;> omega
  have hm' : (if b.length < a.length then (b.length : Int) else (a.length : Int)) = ((min a.length b.length : Nat) : Int) := by split <;> omega
  have hz2 : intL (zipS a b) ++ intL (a.drop (min a.length b.length)) ++ intL (b.drop (min a.length b.length)) = intL (addr a b) := by rw [← hz, intL_app, intL_app]
  have s1 : szOk ((intL (zipS a b)).length + (intL (a.drop (min a.length b.length))).length) = true := szOk_of (by rw [intL_len, intL_len, zipS_len, List.length_drop]; omega)
  have s2 : szOk ((intL (zipS a b) ++ intL (a.drop (min a.length b.length))).length + (intL (b.drop (min a.length b.length))).length) = true := szOk_of (by rw [List.length_append, intL_len, intL_len, intL_len, zipS_len, List.length_drop, List.length_drop]; omega)
  have e : d_sum_of = ⟨2, 6, [.exp (.call i_want_differences [.var 0]), .exp (.call i_want_differences [.var 1]), .set 2 false (.blt .min2 [.len1 (.var 0), .len1 (.var 1)]), .set 3 false sumComp, .ret (.call i_trimmed [.bin .add (.bin .add (.var 3) (.blt .list [.slc (.var 0) (some (.var 2)) none])) (.blt .list [.slc (.var 1) (some (.var 2)) none])])]⟩ := rfl
  rw [fn_succ (n + 3) _ _ d_sum_of rfl, e]
  generalize hq : sumComp = q at h3
  generalize ((min a.length b.length : Nat) : Int) = mm at h3 h4 h5 hm hm'
  generalize intL (a.drop (min a.length b.length)) = da at h4 hz2 s1 s2
  generalize intL (b.drop (min a.length b.length)) = db at h5 hz2 s2
  generalize intL (zipS a b) = zz at h3 hz2 s1 s2
  generalize intL (addr a b) = ad at h6 hz2
  generalize intL a = ra at h1 h3 h4 l1
  generalize intL b = rb at h2 h3 h5 l2
  subst hz2
  have s2' := s2
  rw [List.length_append] at s2'
  have h6' : (G (n + 3)).fn i_trimmed [.sh (.lst (zz ++ (da ++ db)))] = .ok (.d (.tup (intL (trim (addr a b))))) [.sh (.lst (zz ++ (da ++ db)))] := by rw [← List.append_assoc]; exact h6
  simp [Ob.d, binD, Rs.hold, holds, runDef, execs, exec, tst, ev, evs, callS, lent, noTwice, passAll, passS, backAll, backS, Out.bind, Out.thn, tstR, Rs.see, Out.of, sees1, sees2, negD, cmpS, cmpD, sameD, plainD, plainDs, eqD, blR, truD, SOut.seq, SOut.of, bltS, sees, bltD, tupD, seqD, putTgs, putTg, setSubS, obAt, putOb, mayPut_eq, mpO_un, mpO_sh, mpO_ow, putR, retR, pasKept, backP, noEx, len1S, h1, h2, l1, l2, hm, hm', h3, evp, partO, slcD, h4, h5, s1, s2, s2', h6, h6']
/-! ### product_of -/
def vals (a b : List Int) : List Int := (List.range (a.length + b.length - 1)).map fun k : Nat => wor a (k : Int) * wor b (k : Int)
def prodT (a b : List Int) : List Int := if a = [] ∨ b = [] then [] else trim (dif (vals a b))
theorem vals_len (a b : List Int) : (vals a b).length = a.length + b.length - 1 := by unfold vals; simp
theorem vals_get {a b : List Int} {k : Nat} (h : k < a.length + b.length - 1) : (vals a b)[k]? = some (wor a (k : Int) * wor b (k : Int)) := by
  unfold vals
  rw [List.getElem?_map, List.getElem?_range h]
  rfl
theorem prodT_last (a b : List Int) : LastOk (prodT a b) := by
  unfold prodT
  split
  · intro x hx; simp at hx
  · exact trim_last _
theorem wor_prodT (a b : List Int) (p : Nat) : wor (prodT a b) (p : Int) = wor a (p : Int) * wor b (p : Int) := by
  unfold prodT
  split
  · rename_i h
    rcases h with rfl | rfl
    · rw [wor_nil, Int.zero_mul]
    · rw [wor_nil, Int.mul_zero]
  · rw [wor_trim, ← wor_prodr p a b]
    refine wor_uniq (a.length + b.length - 1) _ _ (by rw [dif_len, vals_len]; exact Nat.le_refl _) (prodr_len a b) (fun k hk => ?_) p
    rw [wor_dif _ k _ (vals_get hk), wor_prodr]
theorem prodT_len (a b : List Int) : (prodT a b).length ≤ a.length + b.length - 1 := by
  unfold prodT
  split
  · simp
  · refine Nat.le_trans (trim_len _) ?_
    rw [dif_len, vals_len]
    exact Nat.le_refl _
theorem prodT_mem (a b : List Int) (M : Nat) (h : ∀ k, k < a.length + b.length - 1 → (wor a (k : Int) * wor b (k : Int)).natAbs ≤ M) : ∀ x ∈ prodT a b, x.natAbs ≤ 2 ^ (a.length + b.length - 1) * M := by
  unfold prodT
  split
  · intro x hx; simp at hx
  · intro x hx
    have := dif_mem (vals a b) M (fun y hy => by
      obtain ⟨k, hk⟩ := List.getElem?_of_mem hy
      have hk' : k < a.length + b.length - 1 := by
        have := (List.getElem?_eq_some_iff.mp hk).1
        rw [vals_len] at this
        exact this
      rw [vals_get hk'] at hk
      cases hk
      exact h k hk') x (trim_mem _ x hx)
    rw [vals_len] at this
    exact this
def prodComp : MExp := .comp (.bin .mul (.call i_worth [.var 0, .var 2]) (.call i_worth [.var 1, .var 2])) (.nm 2) (.rng none (.bin .sub (.bin .add (.len1 (.var 0)) (.len1 (.var 1))) (.cst (.int 1)))) none
theorem prod_comp (n : Nat) (a b : List Int) (ha : RowOk a) (hb : RowOk b) (h0 : 1 ≤ a.length) (hm : ∀ k, k < a.length + b.length - 1 → mulOk (wor a (k : Int)) (wor b (k : Int)) = true) :
    ev (G (n + 1)) prodComp [.sh (.tup (intL a)), .sh (.tup (intL b)), .un] = .ok (.fr (.lst (intL (vals a b)))) [.sh (.tup (intL a)), .sh (.tup (intL b)), .un] := by
  have l1 := intL_len a
  have l2 := intL_len b
  have a200 := ha.1
  have b200 := hb.1
  have hr : rngOk 0 ((a.length : Int) + (b.length : Int) - 1) = true := rng_ok (by omega) (by omega)
  have ht : ((a.length : Int) + (b.length : Int) - 1).toNat = a.length + b.length - 1 := by omega
  have hit : evIt (G (n + 1)) (.rng none (.bin .sub (.bin .add (.len1 (.var 0)) (.len1 (.var 1))) (.cst (.int 1)))) [.sh (.tup (intL a)), .sh (.tup (intL b)), .un] = .ok (.rng 0 (a.length + b.length - 1)) [.sh (.tup (intL a)), .sh (.tup (intL b)), .un] := by
    generalize intL a = rr at l1
    generalize intL b = tt at l2
    generalize hj : (a.length : Int) + (b.length : Int) - 1 = j at hr ht
    simp [evIt, srcL, srcOf, It.slots, Src.slots, It.len, Src.len, partO, It.at_, Src.at_, It.fine, Src.fine, ev, evs, evp, callS, lent, noTwice, passAll, passS, backAll, backS, Out.bind, Out.thn, Rs.see, Rs.hold, holds, Out.of, sees1, sees2, binD, bltS, sees, bltD, Ob.d, obAt, len1S, l1, l2, hj, hr, ht]
  obtain ⟨acc, e2, g1, g2, g3⟩ := ev_comp_by (G := G (n + 1)) (a := .bin .mul (.call i_worth [.var 0, .var 2]) (.call i_worth [.var 1, .var 2])) (t := .nm 2) (c := none) (a.length + b.length - 1)
    (fun k acc e => acc = intL ((vals a b).take k) ∧ e = [.sh (.tup (intL a)), .sh (.tup (intL b)), .un]) hit rfl rfl ⟨rfl, rfl⟩
    (fun k acc e hk ⟨q1, q2⟩ hlen => by
      subst q2
      have k4 : ((k : Nat) : Int).natAbs < 2 ^ 4000 := by
        have : 1000 < 2 ^ 4000 := Nat.lt_of_lt_of_le (by decide : 1000 < 2 ^ 10) (Nat.pow_le_pow_right (by decide) (by decide))
        omega
      have w1 := worth_eq n a (k : Int) ha k4
      have w2 := worth_eq n b (k : Int) hb k4
      have mk := hm k hk
      refine ⟨.int (k : Int), [.sh (.tup (intL a)), .sh (.tup (intL b)), .sh (.int (k : Int))], ?_, rfl, .inl ⟨_, .d (.int (wor a (k : Int) * wor b (k : Int))), [.sh (.tup (intL a)), .sh (.tup (intL b)), .sh (.int (k : Int))], .int (wor a (k : Int) * wor b (k : Int)), _, by simp [evc]; rfl, ?_, rfl, ?_, rfl⟩⟩
      · show some (D.int (0 + (k : Nat))) = _
        rw [Int.zero_add]
      · generalize intL a = rr at w1
        generalize intL b = tt at w2
        simp [Ob.d, binD, Rs.hold, holds, runDef, execs, exec, tst, ev, evs, callS, lent, noTwice, passAll, passS, backAll, backS, Out.bind, Out.thn, tstR, Rs.see, Out.of, sees1, sees2, negD, cmpS, cmpD, sameD, plainD, plainDs, eqD, blR, truD, SOut.seq, SOut.of, bltS, sees, bltD, tupD, seqD, putTgs, putTg, setSubS, obAt, putOb, mayPut_eq, mpO_un, mpO_sh, mpO_ow, putR, retR, pasKept, backP, noEx, len1S, w1, w2, mk]
      · rw [List.take_add_one, vals_get hk, q1, intL_app]
        rfl)
    (fun _ _ _ => rfl) (by omega)
  rw [List.take_of_length_le (by rw [vals_len]; omega)] at g2
  subst g2
  subst g3
  exact g1
theorem product_eq (n : Nat) (a b : List Int) (ha : RowOk a) (hb : RowOk b) (za : LastOk a) (zb : LastOk b) (hm : ∀ k, k < a.length + b.length - 1 → mulOk (wor a (k : Int)) (wor b (k : Int)) = true) :
    (G (n + 4)).fn i_product_of [.sh (.tup (intL a)), .sh (.tup (intL b))] = .ok (.d (.tup (intL (prodT a b)))) [.sh (.tup (intL a)), .sh (.tup (intL b))] := by
  have h1 := wantDiff_eq n a ha.1 za
  have h2 := wantDiff_eq n b hb.1 zb
  have e : d_product_of = ⟨2, 3, [.exp (.call i_want_differences [.var 0]), .exp (.call i_want_differences [.var 1]), .ite (.or_ (.cmp .eq (.var 0) (.tup [])) (.cmp .eq (.var 1) (.tup []))) [.ret (.tup [])] [], .ret (.call i_differences_of [prodComp])]⟩ := rfl
  have p1 : plainDs 39 (intL a) = true := plain_ints 39 a
  have p2 : plainDs 39 (intL b) = true := plain_ints 39 b
  have q1 : eqDs (intL a) [] = decide (a = []) := eq_ints a []
  have q2 : eqDs (intL b) [] = decide (b = []) := eq_ints b []
  rw [fn_succ (n + 3) _ _ d_product_of rfl, e]
  by_cases c1 : a = []
  · have e1 : prodT a b = [] := by unfold prodT; rw [if_pos (.inl c1)]
    have e2 : intL [] = [] := rfl
    rw [e1, e2]
    have q1' : eqDs (intL a) [] = true := by rw [q1]; exact decide_eq_true c1
    generalize intL a = ra at h1 p1 q1'
    generalize intL b = rb at h2 p2
    generalize prodComp = m
    simp [Ob.d, binD, Rs.hold, holds, runDef, execs, exec, tst, ev, evs, callS, lent, noTwice, passAll, passS, backAll, backS, Out.bind, Out.thn, tstR, Rs.see, Out.of, sees1, sees2, negD, cmpS, cmpD, sameD, plainD, plainDs, eqD, blR, truD, SOut.seq, SOut.of, bltS, sees, bltD, tupD, seqD, putTgs, putTg, setSubS, obAt, putOb, mayPut_eq, mpO_un, mpO_sh, mpO_ow, putR, retR, pasKept, backP, noEx, len1S, h1, h2, p1, p2, q1']
  · have q1' : eqDs (intL a) [] = false := by rw [q1]; exact decide_eq_false c1
    by_cases c2 : b = []
    · have e1 : prodT a b = [] := by unfold prodT; rw [if_pos (.inr c2)]
      have e2 : intL [] = [] := rfl
      rw [e1, e2]
      have q2' : eqDs (intL b) [] = true := by rw [q2]; exact decide_eq_true c2
      generalize intL a = ra at h1 p1 q1'
      generalize intL b = rb at h2 p2 q2'
      generalize prodComp = m
      simp [Ob.d, binD, Rs.hold, holds, runDef, execs, exec, tst, ev, evs, callS, lent, noTwice, passAll, passS, backAll, backS, Out.bind, Out.thn, tstR, Rs.see, Out.of, sees1, sees2, negD, cmpS, cmpD, sameD, plainD, plainDs, eqD, blR, truD, SOut.seq, SOut.of, bltS, sees, bltD, tupD, seqD, putTgs, putTg, setSubS, obAt, putOb, mayPut_eq, mpO_un, mpO_sh, mpO_ow, putR, retR, pasKept, backP, noEx, len1S, h1, h2, p1, p2, q1', q2']
    · have q2' : eqDs (intL b) [] = false := by rw [q2]; exact decide_eq_false c2
      have e1 : prodT a b = trim (dif (vals a b)) := by unfold prodT; rw [if_neg (by simp [c1, c2])]
      have h3 := prod_comp (n + 2) a b ha hb (List.length_pos_iff.mpr c1) hm
      have h4 := differences_eq (n + 1) (vals a b) (by rw [vals_len]; have := ha.1; have := hb.1; omega) (.lst (intL (vals a b))) (.inl rfl)
      rw [e1]
      generalize hq : prodComp = q at h3
      generalize intL (vals a b) = vv at h3 h4
      generalize intL a = ra at h1 h3 p1 q1'
      generalize intL b = rb at h2 h3 p2 q2'
      simp [Ob.d, binD, Rs.hold, holds, runDef, execs, exec, tst, ev, evs, callS, lent, noTwice, passAll, passS, backAll, backS, Out.bind, Out.thn, tstR, Rs.see, Out.of, sees1, sees2, negD, cmpS, cmpD, sameD, plainD, plainDs, eqD, blR, truD, SOut.seq, SOut.of, bltS, sees, bltD, tupD, seqD, putTgs, putTg, setSubS, obAt, putOb, mayPut_eq, mpO_un, mpO_sh, mpO_ow, putR, retR, pasKept, backP, noEx, len1S, h1, h2, p1, p2, q1', q2', h3, h4]
end Lw
end
section
set_option exponentiation.threshold 300
namespace Lw
open Mi
/-- things drawn one by one -/
theorem draw_gen {α : Type} (Gg : Gs) (f : α → D) (P : α → Prop) (B : MExp) (rest : Env) (j : Nat) (hj : rest[j]? = some .un) (hB : ∀ (a b : Int) (x : D), PB b → ∃ (y : α) (a' b' : Int), P y ∧ PB b' ∧ ev Gg B (potS a b :: rest.set j (.sh x)) = .ok (.d (f y)) (potS a' b' :: rest.set j (.sh x)))
    (N : Nat) (hN : N ≤ 1000) (it : MIt) (w : It) (a0 b0 a b : Int) (hb : PB b) (hit : evIt Gg it (potS a0 b0 :: rest) = .ok w (potS a b :: rest)) (hw : w.len = N) (hs : w.slots = []) (hat : ∀ k e, k < N → ∃ x, w.at_ k e = some x) (hf : ∀ e, w.fine e = true) :
    ∃ (vs : List α) (a' b' : Int), vs.length = N ∧ (∀ y ∈ vs, P y) ∧ PB b' ∧ ev Gg (.comp B (.nm (j + 1)) it none) (potS a0 b0 :: rest) = .ok (.fr (.lst (vs.map f))) (potS a' b' :: rest) := by
  have hset := set_un hj
  have hse : ∀ (s : Sl) , (s :: rest).set (j + 1) .un = s :: rest := fun s => by rw [List.set_cons_succ, hset]
  obtain ⟨acc, e2, g1, vs, a', b', g2, g3, gm, g4, g5⟩ := ev_comp_by (G := Gg) (a := B) (t := .nm (j + 1)) (c := none) N
    (fun k acc e => ∃ (vs : List α) (a b : Int), acc = vs.map f ∧ vs.length = k ∧ (∀ y ∈ vs, P y) ∧ PB b ∧ e = potS a b :: rest) hit hw (by
      have hwo : wipeOk (potS a b :: rest) [j + 1] = true := by simp [wipeOk, hj]
      show (wipeOk (potS a b :: rest) [j + 1] && _) = true
      rw [hwo, hs]
      rfl) ⟨[], a, b, rfl, rfl, fun x hx => by simp at hx, hb, hse _⟩
    (fun k acc e hk ⟨vs, a, b, q1, q2, qm, q3, q4⟩ hlen => by
      subst q4
      obtain ⟨x, hx⟩ := hat k (potS a b :: rest) hk
      obtain ⟨y, a', b', hy, p', h'⟩ := hB a b x q3
      refine ⟨x, potS a b :: rest.set j (.sh x), hx, ?_, .inl ⟨_, .d (f y), potS a' b' :: rest.set j (.sh x), f y, _, by simp [evc], h', rfl, vs ++ [y], a', b', ?_, by simp [q2], ?_, p', ?_⟩⟩
      · have hm : (potS a b :: rest)[j + 1]? = some .un := by simpa using hj
        simp only [Tgt.put, mayPut_eq, hm, mpO_un, if_true]
        rfl
      · rw [q1, List.map_append]
        rfl
      · intro z hz
        rcases List.mem_append.mp hz with hz | hz
        · exact qm z hz
        · rw [List.mem_singleton.mp hz]; exact hy
      · show (potS a' b' :: rest.set j (.sh x)).set (j + 1) .un = potS a' b' :: rest
        rw [List.set_cons_succ, List.set_set, hset])
    (fun _ e _ => hf e) (by omega)
  subst g2
  subst g5
  refine ⟨vs, a', b', g3, gm, g4, ?_⟩
  rw [g1]
  have : unwipe (potS a b :: rest) (potS a' b' :: rest) [j + 1] = potS a' b' :: rest := by
    show (potS a' b' :: rest).set (j + 1) ((potS a b :: rest)[j + 1]?.getD .un) = _
    have hm : (potS a b :: rest)[j + 1]? = some .un := by simpa using hj
    rw [hm]
    exact hse _
  exact congrArg _ this
end Lw
end
section
set_option exponentiation.threshold 300
namespace Lw
open Mi
/-! a list so many times: kept away from the kernel's own counting -/
theorem ml_a (x : D) (m : Int) (a : decide (-1000000 ≤ m) = true) (b : decide (m < 1000000) = true) (c : szOk m.toNat = true) : binD .mul (.lst [x]) (.int m) = some (.fr (.lst (List.replicate m.toNat [x]).flatten)) := by
  have e : szOk (([x] : List D).length * m.toNat) = true := by
    rw [List.length_singleton, Nat.one_mul]
    exact c
  simp only [binD]
  rw [a, b, e]
  rfl
theorem ml_flat (x : D) (m : Nat) : (List.replicate m [x]).flatten = List.replicate m x := by
  induction m with
  | zero => rfl
  | succ m ih => rw [List.replicate_succ, List.flatten_cons, ih, List.replicate_succ]; rfl
theorem ml_lst (x : D) (m : Nat) (h : m ≤ 1000) : binD .mul (.lst [x]) (.int (m : Int)) = some (.fr (.lst (List.replicate m x))) := by
  have e := ml_a x (m : Int) (decide_eq_true (by omega)) (decide_eq_true (by omega)) (szOk_of (by omega))
  rw [Int.toNat_natCast, ml_flat] at e
  exact e
theorem ml_bin (Gg : Gs) (op : Bop) (a b : MExp) (e : Env) : ev Gg (.bin op a b) e = (ev Gg a e).bind fun ra e1 => (ev Gg b e1).bind fun rb e2 => sees2 (binD op) ra rb e2 := by
  conv => lhs; unfold ev
theorem ml_ok {α β : Type} (a : α) (e : Env) (f : α → Env → Out β) : (Out.ok a e).bind f = f a e := rfl
theorem ml_sees (f : D → D → Option Rs) (ra rb : Rs) (e : Env) (x y : D) (r : Rs) (h1 : ra.see e = some x) (h2 : rb.see e = some y) (h3 : f x y = some r) : sees2 f ra rb e = .ok r e := by
  unfold sees2
  rw [h1, h2]
  simp only [h3]
  rfl
/-- [x] * m -/
theorem ml_ev (Gg : Gs) (a b : MExp) (e e1 e2 : Env) (x : D) (m : Nat) (hm : m ≤ 1000) (ha : ev Gg a e = .ok (.d x) e1) (hb : ev Gg b e1 = .ok (.d (.int (m : Int))) e2) :
    ev Gg (.bin .mul (.lst [a]) b) e = .ok (.fr (.lst (List.replicate m x))) e2 := by
  have hl : ev Gg (.lst [a]) e = .ok (.fr (.lst [x])) e1 := by
    simp [ev, evs, Out.bind, ha, holds, Rs.hold]
  rw [ml_bin, hl, ml_ok, hb, ml_ok]
  exact ml_sees _ _ _ _ _ _ _ rfl rfl (ml_lst x m hm)
/-! a body, statement by statement -/
theorem xs_nx {Gg : Gs} {s : MStmt} {ss : List MStmt} {e e1 : Env} (h : exec Gg s e = .nx e1) : execs Gg (s :: ss) e = execs Gg ss e1 := by
  simp only [execs, h, SOut.seq]
theorem xs_rt {Gg : Gs} {s : MStmt} {ss : List MStmt} {e e1 : Env} {r : Rs} (h : exec Gg s e = .rt r e1) : execs Gg (s :: ss) e = .rt r e1 := by
  simp only [execs, h, SOut.seq]
theorem x_ite1 {Gg : Gs} {c : MExp} {a b : List MStmt} {e e1 : Env} (h : tst Gg c e = .ok true e1) : exec Gg (.ite c a b) e = execs Gg a e1 := by
  simp only [exec, h, Out.thn, if_true]
theorem x_ite0 {Gg : Gs} {c : MExp} {a b : List MStmt} {e e1 : Env} (h : tst Gg c e = .ok false e1) : exec Gg (.ite c a b) e = execs Gg b e1 := by
  simp only [exec, h, Out.thn, Bool.false_eq_true, if_false]
theorem x_ret {Gg : Gs} {m : MExp} {e e1 : Env} {o : Ob} (h : ev Gg m e = .ok (.fr o) e1) : exec Gg (.ret m) e = .rt (.fr o) e1 := by
  simp only [exec, h, Out.thn, retR]
theorem rd_rt {Gg : Gs} {np sz : Nat} {b : List MStmt} {l l' : List Sl} {e0 e1 : Env} {r : Rs} (hl : l.length = np) (h0 : l ++ List.replicate (sz - np) .un = e0) (h : execs Gg b e0 = .rt r e1) (hk : pasKept l e1 = true) (hb : backP l e1 = l') :
    runDef Gg ⟨np, sz, b⟩ l = .ok r l' := by
  subst h0
  subst hb
  unfold runDef
  rw [if_pos (by simpa using hl)]
  simp only [h, hk, if_true]
end Lw
end
section
set_option exponentiation.threshold 300
namespace Lw
open Mi
/-! ### what is no DIFFERENCES -/
def wdC : MExp := .comp (.call i_is_whole_differences [.var 1]) (.nm 1) (.seq (.var 0)) none
theorem wd_any (n : Nat) (xs : List D) (hx : ∀ x ∈ xs, okD x = true) (hl : xs.length ≤ 1000) :
    ev (G (n + 1)) (.blt .all [wdC]) [.sh (.tup xs), .un] = .ok (.d (.bl (xs.all intB))) [.sh (.tup xs), .un] := by
  have hc := comp_map (Gg := G (n + 1)) (a := .call i_is_whole_differences [.var 1]) (it := .seq (.var 0)) (w := .one (.snap (xs.map id))) xs id (fun y => .bl (intB y)) (j := 1)
    (e := [.sh (.tup xs), .un]) (e0 := [.sh (.tup xs), .un]) rfl (by omega)
    (by rw [List.map_id]; simp [evIt, srcL, srcOf, It.slots, Src.slots, It.len, Src.len, partO, It.at_, Src.at_, It.fine, Src.fine, ev, evs, evp, callS, lent, noTwice, passAll, passS, backAll, backS, Out.bind, Out.thn, Rs.see, Rs.hold, holds, Out.of, sees1, sees2, binD, bltS, sees, bltD, Ob.d, obAt, len1S]) (by rw [List.map_id]; rfl) rfl (fun k e => at_snap _ _ k e) (fun _ => rfl)
    (fun y hy => by
      have hw := wholeD_any n y (hx y hy)
      simp [Ob.d, binD, Rs.hold, holds, runDef, execs, exec, tst, ev, evs, callS, lent, noTwice, passAll, passS, backAll, backS, Out.bind, Out.thn, tstR, Rs.see, Out.of, sees1, sees2, negD, cmpS, cmpD, sameD, plainD, plainDs, eqD, blR, truD, SOut.seq, SOut.of, bltS, sees, bltD, tupD, seqD, putTgs, putTg, setSubS, obAt, putOb, mayPut_eq, mpO_un, mpO_sh, mpO_ow, putR, retR, pasKept, backP, noEx, len1S, hw, id])
  have hc : ev (G (n + 1)) wdC [.sh (.tup xs), .un] = _ := hc
  rw [ev_blt1 _ _ _ _ _ _ hc]
  have hb := bls_ofD xs intB
  simp [bltS, sees, Rs.see, Ob.d, bltD, hb, Out.of, List.all_map]
inductive NoG : D → Prop
  | kind (x : D) (h : iskD [.tuple] x = some (.d (.bl false))) : NoG x
  | part (xs : List D) (h : ∀ y ∈ xs, okD y = true) (hl : xs.length ≤ 1000) (hn : xs.all intB = false) : NoG (.tup xs)
  | last (l : List Int) (hl : l.length ≤ 900) : NoG (.tup (intL (l ++ [0])))
theorem ints_all (l : List Int) : (intL l).all intB = true := by
  unfold intL
  rw [List.all_map]
  apply List.all_eq_true.mpr
  intro x _
  rfl
theorem idx_end (xs : List D) (x : D) : idxD (.tup (xs ++ [x])) (.int (-1)) = some x := by
  show ((plc (xs ++ [x]).length (-1)).bind fun k => (xs ++ [x])[k]?) = _
  have hplc : plc (xs.length + 1) (-1) = some xs.length := by
    unfold plc
    rw [if_neg (by decide), if_pos (by omega)]
    congr 1
    omega
  rw [List.length_append, List.length_singleton, hplc]
  show (xs ++ [x])[xs.length]? = _
  simp
theorem isDiff_no (n : Nat) {x : D} (h : NoG x) : (G (n + 2)).fn i_is_differences [.sh x] = .ok (.d (.bl false)) [.sh x] := by
  have e0 : d_is_differences = ⟨1, 2, [.ite (.or_ (.not_ (.isk (.var 0) [.tuple])) (.not_ (.blt .all [wdC]))) [.ret (.cst (.bl false))] [], .ret (.or_ (.cmp .eq (.var 0) (.tup [])) (.cmp .ne (.idx (.var 0) (.neg (.cst (.int 1)))) (.cst (.int 0))))]⟩ := rfl
  have k1 : (Kd.tuple == Kd.tuple) = true := rfl
  rw [fn_succ (n + 1) _ _ d_is_differences rfl, e0]
  cases h with
  | kind _ h =>
    generalize MExp.blt .all [wdC] = m
    simp [Ob.d, binD, Rs.hold, holds, runDef, execs, exec, tst, ev, evs, callS, lent, noTwice, passAll, passS, backAll, backS, Out.bind, Out.thn, tstR, Rs.see, Out.of, sees1, sees2, negD, cmpS, cmpD, sameD, plainD, plainDs, eqD, blR, truD, SOut.seq, SOut.of, bltS, sees, bltD, tupD, seqD, putTgs, putTg, setSubS, obAt, putOb, mayPut_eq, mpO_un, mpO_sh, mpO_ow, putR, retR, pasKept, backP, noEx, len1S, h]
  | part xs h hl hn =>
    have h1 := wd_any n xs h hl
    rw [hn] at h1
    generalize MExp.blt .all [wdC] = m at h1 ⊢
    simp [Ob.d, binD, Rs.hold, holds, runDef, execs, exec, tst, ev, evs, callS, lent, noTwice, passAll, passS, backAll, backS, Out.bind, Out.thn, tstR, Rs.see, Out.of, sees1, sees2, negD, cmpS, cmpD, sameD, plainD, plainDs, eqD, blR, truD, SOut.seq, SOut.of, bltS, sees, bltD, tupD, seqD, putTgs, putTg, setSubS, obAt, putOb, mayPut_eq, mpO_un, mpO_sh, mpO_ow, putR, retR, pasKept, backP, noEx, len1S, h1, iskD, isKd, kdOf, List.any, k1]
  | last l hl =>
    have h1 := wd_any n (intL (l ++ [0])) (ints_ok _) (by rw [intL_len]; simp; omega)
    rw [ints_all] at h1
    have hs : sameD (.tup (intL (l ++ [0]))) (.tup []) = some false := by
      have e : (.tup [] : D) = .tup (intL []) := rfl
      rw [e, same_tup]
      simp
    have hi : idxD (.tup (intL (l ++ [0]))) (.int (-1)) = some (.int 0) := by
      rw [intL_app]
      exact idx_end (intL l) (.int 0)
    have hs0 : sameD (.int 0) (.int 0) = some true := rfl
    generalize MExp.blt .all [wdC] = m at h1 ⊢
    generalize intL (l ++ [0]) = q at h1 hs hi ⊢
    simp [runDef, execs, exec, tst, ev, evs, Out.bind, Out.thn, tstR, Rs.see, Rs.hold, holds, Out.of, sees1, sees2, negD, cmpS, cmpD, blR, truD, SOut.seq, retR, pasKept, backP, h1, hs, hi, hs0, iskD, isKd, kdOf, List.any, k1]
theorem want_no (n : Nat) {x : D} (h : NoG x) : (G (n + 3)).fn i_want_differences [.sh x] = .ex ⟨x_NoDifferences, []⟩ [.sh x] := by
  have h1 := isDiff_no n h
  rw [fn_succ (n + 2) _ _ d_want_differences rfl]
  simp [Ob.d, binD, Rs.hold, holds, runDef, execs, exec, tst, ev, evs, callS, lent, noTwice, passAll, passS, backAll, backS, Out.bind, Out.thn, tstR, Rs.see, Out.of, sees1, sees2, negD, cmpS, cmpD, sameD, plainD, plainDs, eqD, blR, truD, SOut.seq, SOut.of, bltS, sees, bltD, tupD, seqD, putTgs, putTg, setSubS, obAt, putOb, mayPut_eq, mpO_un, mpO_sh, mpO_ow, putR, retR, pasKept, backP, noEx, len1S, d_want_differences, b_want_differences, h1]
/-! ### what is no count -/
theorem wholeR_any (n : Nat) (x : D) (hx : okD x = true) : (G (n + 1)).fn i_is_whole_rows [.sh x] = .ok (.d (.bl (intB x))) [.sh x] := by
  have k1 : (Kd.int == Kd.int) = true := rfl
  have k2 : (Kd.int == Kd.bool) = false := rfl
  have k3 : (Kd.bool == Kd.int) = false := rfl
  have k4 : (Kd.bool == Kd.bool) = true := rfl
  have k5 : (Kd.str == Kd.int) = false := rfl
  have k6 : (Kd.str == Kd.bool) = false := rfl
  have k7 : (Kd.tuple == Kd.int) = false := rfl
  have k8 : (Kd.tuple == Kd.bool) = false := rfl
  have k9 : (Kd.list == Kd.int) = false := rfl
  have k10 : (Kd.list == Kd.bool) = false := rfl
  have k11 : (Kd.dict == Kd.int) = false := rfl
  have k12 : (Kd.dict == Kd.bool) = false := rfl
  rw [fn_succ n _ _ d_is_whole_rows rfl]
  cases x <;> first | cases hx; done | simp [Ob.d, binD, Rs.hold, holds, runDef, execs, exec, tst, ev, evs, callS, lent, noTwice, passAll, passS, backAll, backS, Out.bind, Out.thn, tstR, Rs.see, Out.of, sees1, sees2, negD, cmpS, cmpD, sameD, plainD, plainDs, eqD, blR, truD, SOut.seq, SOut.of, bltS, sees, bltD, tupD, seqD, putTgs, putTg, setSubS, obAt, putOb, mayPut_eq, mpO_un, mpO_sh, mpO_ow, putR, retR, pasKept, backP, noEx, len1S, d_is_whole_rows, b_is_whole_rows, iskD, isKd, kdOf, List.any, intB, k1, k2, k3, k4, k5, k6, k7, k8, k9, k10, k11, k12]
def cntB : D → Bool
  | .int i => decide (0 ≤ i)
  | _ => false
theorem count_any (n : Nat) (x : D) (hx : okD x = true) : (G (n + 2)).fn i_is_count [.sh x] = .ok (.d (.bl (cntB x))) [.sh x] := by
  have h := wholeR_any n x hx
  rw [fn_succ (n + 1) _ _ d_is_count rfl]
  cases x <;> simp only [intB] at h <;> simp [Ob.d, binD, Rs.hold, holds, runDef, execs, exec, tst, ev, evs, callS, lent, noTwice, passAll, passS, backAll, backS, Out.bind, Out.thn, tstR, Rs.see, Out.of, sees1, sees2, negD, cmpS, cmpD, sameD, plainD, plainDs, eqD, blR, truD, SOut.seq, SOut.of, bltS, sees, bltD, tupD, seqD, putTgs, putTg, setSubS, obAt, putOb, mayPut_eq, mpO_un, mpO_sh, mpO_ow, putR, retR, pasKept, backP, noEx, len1S, d_is_count, b_is_count, h, cntB]
/-! ### good rows -/
structure Gd (r : List Int) : Prop where
  len : r.length ≤ 12
  sm : ∀ x ∈ r, x.natAbs < 2 ^ 101
  last : LastOk r
theorem Gd.row {r : List Int} (h : Gd r) : RowOk r := ⟨by have := h.len; omega, fun x hx => Nat.lt_trans (h.sm x hx) (Nat.pow_lt_pow_right (by decide) (by decide))⟩
theorem Gd.want {r : List Int} (h : Gd r) (n : Nat) : (G (n + 3)).fn i_want_differences [.sh (.tup (intL r))] = .ok (.d .non) [.sh (.tup (intL r))] := wantDiff_eq n r (by have := h.len; omega) h.last
theorem Gd.mul {a b : List Int} (ha : Gd a) (hb : Gd b) : ∀ k, k < a.length + b.length - 1 → mulOk (wor a (k : Int)) (wor b (k : Int)) = true := fun k hk => by
  have la := ha.len
  have lb := hb.len
  have ha' := wor_le 101 6 11 a (k : Int) (by omega) (by omega) ha.sm (by omega) (by decide) (by decide)
  have hb' := wor_le 101 6 11 b (k : Int) (by omega) (by omega) hb.sm (by omega) (by decide) (by decide)
  exact mul_ok 4000 4000 ha' hb' (by decide)
end Lw
end
section
set_option exponentiation.threshold 300
namespace Lw
open Mi
abbrev xND : Xc := ⟨x_NoDifferences, []⟩
abbrev xNC : Xc := ⟨x_NoCount, []⟩
section
variable {x : D}
theorem summed_no (n : Nat) (h : NoG x) : (G (n + 4)).fn i_summed_up [.sh x] = .ex xND [.sh x] := by
  have h1 := want_no n h
  rw [fn_succ (n + 3) _ _ d_summed_up rfl]
  simp [Ob.d, binD, Rs.hold, holds, runDef, execs, exec, tst, ev, evs, callS, lent, noTwice, passAll, passS, backAll, backS, Out.bind, Out.thn, tstR, Rs.see, Out.of, sees1, sees2, negD, cmpS, cmpD, sameD, plainD, plainDs, eqD, blR, truD, SOut.seq, SOut.of, bltS, sees, bltD, tupD, seqD, putTgs, putTg, setSubS, obAt, putOb, mayPut_eq, mpO_un, mpO_sh, mpO_ow, putR, retR, pasKept, backP, noEx, len1S, d_summed_up, b_summed_up, h1]
theorem sum_no1 (n : Nat) (h : NoG x) (m : D) : (G (n + 4)).fn i_sum_of [.sh x, .sh m] = .ex xND [.sh x, .sh m] := by
  have h1 := want_no n h
  rw [fn_succ (n + 3) _ _ d_sum_of rfl]
  simp [Ob.d, binD, Rs.hold, holds, runDef, execs, exec, tst, ev, evs, callS, lent, noTwice, passAll, passS, backAll, backS, Out.bind, Out.thn, tstR, Rs.see, Out.of, sees1, sees2, negD, cmpS, cmpD, sameD, plainD, plainDs, eqD, blR, truD, SOut.seq, SOut.of, bltS, sees, bltD, tupD, seqD, putTgs, putTg, setSubS, obAt, putOb, mayPut_eq, mpO_un, mpO_sh, mpO_ow, putR, retR, pasKept, backP, noEx, len1S, d_sum_of, b_sum_of, h1]
theorem sum_no2 (n : Nat) (h : NoG x) {r : List Int} (hr : Gd r) : (G (n + 4)).fn i_sum_of [.sh (.tup (intL r)), .sh x] = .ex xND [.sh (.tup (intL r)), .sh x] := by
  have h1 := want_no n h
  have h2 := hr.want n
  rw [fn_succ (n + 3) _ _ d_sum_of rfl]
  generalize intL r = q at h2 ⊢
  simp [Ob.d, binD, Rs.hold, holds, runDef, execs, exec, tst, ev, evs, callS, lent, noTwice, passAll, passS, backAll, backS, Out.bind, Out.thn, tstR, Rs.see, Out.of, sees1, sees2, negD, cmpS, cmpD, sameD, plainD, plainDs, eqD, blR, truD, SOut.seq, SOut.of, bltS, sees, bltD, tupD, seqD, putTgs, putTg, setSubS, obAt, putOb, mayPut_eq, mpO_un, mpO_sh, mpO_ow, putR, retR, pasKept, backP, noEx, len1S, d_sum_of, b_sum_of, h1, h2]
theorem prod_no1 (n : Nat) (h : NoG x) (m : D) : (G (n + 4)).fn i_product_of [.sh x, .sh m] = .ex xND [.sh x, .sh m] := by
  have h1 := want_no n h
  rw [fn_succ (n + 3) _ _ d_product_of rfl]
  simp [Ob.d, binD, Rs.hold, holds, runDef, execs, exec, tst, ev, evs, callS, lent, noTwice, passAll, passS, backAll, backS, Out.bind, Out.thn, tstR, Rs.see, Out.of, sees1, sees2, negD, cmpS, cmpD, sameD, plainD, plainDs, eqD, blR, truD, SOut.seq, SOut.of, bltS, sees, bltD, tupD, seqD, putTgs, putTg, setSubS, obAt, putOb, mayPut_eq, mpO_un, mpO_sh, mpO_ow, putR, retR, pasKept, backP, noEx, len1S, d_product_of, b_product_of, h1]
theorem prod_no2 (n : Nat) (h : NoG x) {r : List Int} (hr : Gd r) : (G (n + 4)).fn i_product_of [.sh (.tup (intL r)), .sh x] = .ex xND [.sh (.tup (intL r)), .sh x] := by
  have h1 := want_no n h
  have h2 := hr.want n
  rw [fn_succ (n + 3) _ _ d_product_of rfl]
  generalize intL r = q at h2 ⊢
  simp [Ob.d, binD, Rs.hold, holds, runDef, execs, exec, tst, ev, evs, callS, lent, noTwice, passAll, passS, backAll, backS, Out.bind, Out.thn, tstR, Rs.see, Out.of, sees1, sees2, negD, cmpS, cmpD, sameD, plainD, plainDs, eqD, blR, truD, SOut.seq, SOut.of, bltS, sees, bltD, tupD, seqD, putTgs, putTg, setSubS, obAt, putOb, mayPut_eq, mpO_un, mpO_sh, mpO_ow, putR, retR, pasKept, backP, noEx, len1S, d_product_of, b_product_of, h1, h2]
theorem moved_no (n : Nat) (h : NoG x) (m : D) : (G (n + 4)).fn i_moved_by [.sh x, .sh m] = .ex xND [.sh x, .sh m] := by
  have h1 := want_no n h
  rw [fn_succ (n + 3) _ _ d_moved_by rfl]
  simp [Ob.d, binD, Rs.hold, holds, runDef, execs, exec, tst, ev, evs, callS, lent, noTwice, passAll, passS, backAll, backS, Out.bind, Out.thn, tstR, Rs.see, Out.of, sees1, sees2, negD, cmpS, cmpD, sameD, plainD, plainDs, eqD, blR, truD, SOut.seq, SOut.of, bltS, sees, bltD, tupD, seqD, putTgs, putTg, setSubS, obAt, putOb, mayPut_eq, mpO_un, mpO_sh, mpO_ow, putR, retR, pasKept, backP, noEx, len1S, d_moved_by, b_moved_by, h1]
theorem least_no (n : Nat) (h : NoG x) (g m : D) : (G (n + 4)).fn i_least_at [.sh x, .sh g, .sh m] = .ex xND [.sh x, .sh g, .sh m] := by
  have h1 := want_no n h
  rw [fn_succ (n + 3) _ _ d_least_at rfl]
  simp [Ob.d, binD, Rs.hold, holds, runDef, execs, exec, tst, ev, evs, callS, lent, noTwice, passAll, passS, backAll, backS, Out.bind, Out.thn, tstR, Rs.see, Out.of, sees1, sees2, negD, cmpS, cmpD, sameD, plainD, plainDs, eqD, blR, truD, SOut.seq, SOut.of, bltS, sees, bltD, tupD, seqD, putTgs, putTg, setSubS, obAt, putOb, mayPut_eq, mpO_un, mpO_sh, mpO_ow, putR, retR, pasKept, backP, noEx, len1S, d_least_at, b_least_at, h1]
theorem moved_cnt (n : Nat) {r : List Int} (hr : Gd r) {m : D} (h1 : okD m = true) (h2 : cntB m = false) : (G (n + 4)).fn i_moved_by [.sh (.tup (intL r)), .sh m] = .ex xNC [.sh (.tup (intL r)), .sh m] := by
  have h3 := hr.want n
  have h4 := count_any (n + 1) m h1
  rw [h2] at h4
  rw [fn_succ (n + 3) _ _ d_moved_by rfl]
  generalize intL r = q at h3 ⊢
  simp [Ob.d, binD, Rs.hold, holds, runDef, execs, exec, tst, ev, evs, callS, lent, noTwice, passAll, passS, backAll, backS, Out.bind, Out.thn, tstR, Rs.see, Out.of, sees1, sees2, negD, cmpS, cmpD, sameD, plainD, plainDs, eqD, blR, truD, SOut.seq, SOut.of, bltS, sees, bltD, tupD, seqD, putTgs, putTg, setSubS, obAt, putOb, mayPut_eq, mpO_un, mpO_sh, mpO_ow, putR, retR, pasKept, backP, noEx, len1S, d_moved_by, b_moved_by, h3, h4]
theorem least_cnt (n : Nat) {r : List Int} (hr : Gd r) {m : D} (h1 : okD m = true) (h2 : cntB m = false) (g : D) : (G (n + 4)).fn i_least_at [.sh (.tup (intL r)), .sh g, .sh m] = .ex xNC [.sh (.tup (intL r)), .sh g, .sh m] := by
  have h3 := hr.want n
  have h4 := count_any (n + 1) m h1
  rw [h2] at h4
  rw [fn_succ (n + 3) _ _ d_least_at rfl]
  generalize intL r = q at h3 ⊢
  simp [Ob.d, binD, Rs.hold, holds, runDef, execs, exec, tst, ev, evs, callS, lent, noTwice, passAll, passS, backAll, backS, Out.bind, Out.thn, tstR, Rs.see, Out.of, sees1, sees2, negD, cmpS, cmpD, sameD, plainD, plainDs, eqD, blR, truD, SOut.seq, SOut.of, bltS, sees, bltD, tupD, seqD, putTgs, putTg, setSubS, obAt, putOb, mayPut_eq, mpO_un, mpO_sh, mpO_ow, putR, retR, pasKept, backP, noEx, len1S, d_least_at, b_least_at, h3, h4]
end
theorem least_5 (n : Nat) : (G (n + 4)).fn i_least_at [.sh (.tup [.int 5]), .sh (.int 3), .sh (.int 2)] = .ok (.d (.int 0)) [.sh (.tup [.int 5]), .sh (.int 3), .sh (.int 2)] := by
  have z : LastOk [5] := fun x h => by simp at h; omega
  have h1 := wantDiff_eq n [5] (by decide) z
  have h2 := count_eq (n + 1) 2 (by decide)
  have h3 := worth_eq (n + 2) [5] 0 ⟨by decide, fun x hx => by simp at hx; subst hx; exact lt4000 (by decide)⟩ (lt4000 (by decide))
  have e : intL [5] = [.int 5] := rfl
  have w : wor [5] 0 = 5 := by rw [wor_zero]; rfl
  rw [e, w] at h3
  rw [e] at h1
  rw [fn_succ (n + 3) _ _ d_least_at rfl]
  simp [Ob.d, binD, Rs.hold, holds, runDef, execs, exec, tst, ev, evs, callS, lent, noTwice, passAll, passS, backAll, backS, Out.bind, Out.thn, tstR, Rs.see, Out.of, sees1, sees2, negD, cmpS, cmpD, sameD, plainD, plainDs, eqD, blR, truD, SOut.seq, SOut.of, bltS, sees, bltD, tupD, seqD, putTgs, putTg, setSubS, obAt, putOb, mayPut_eq, mpO_un, mpO_sh, mpO_ow, putR, retR, pasKept, backP, noEx, len1S, d_least_at, b_least_at, h1, h2, h3]
/-! ### done -/
def dn (w : Int) (x m : D) : List Sl := [.sh (.int w), .sh x, .sh m]
theorem done_no (n : Nat) {x : D} (h : NoG x) (m : D) (w : Int) (hw : w = 0 ∨ w = 1 ∨ w = 2 ∨ w = 3 ∨ w = 4) : (G (n + 5)).fn i_law_done (dn w x m) = .ex xND (dn w x m) := by
  have h1 := summed_no n h
  have h2 := sum_no1 n h m
  have h3 := prod_no1 n h m
  have h4 := moved_no n h m
  have h5 := least_no n h (.int 3) m
  unfold dn
  rw [fn_succ (n + 4) _ _ d_law_done rfl]
  rcases hw with rfl | rfl | rfl | rfl | rfl <;> simp [Ob.d, binD, Rs.hold, holds, runDef, execs, exec, tst, ev, evs, callS, lent, noTwice, passAll, passS, backAll, backS, Out.bind, Out.thn, tstR, Rs.see, Out.of, sees1, sees2, negD, cmpS, cmpD, sameD, plainD, plainDs, eqD, blR, truD, SOut.seq, SOut.of, bltS, sees, bltD, tupD, seqD, putTgs, putTg, setSubS, obAt, putOb, mayPut_eq, mpO_un, mpO_sh, mpO_ow, putR, retR, pasKept, backP, noEx, len1S, d_law_done, b_law_done, h1, h2, h3, h4, h5]
theorem done_no2 (n : Nat) {x : D} (h : NoG x) {r : List Int} (hr : Gd r) (w : Int) (hw : w = 1 ∨ w = 2) : (G (n + 5)).fn i_law_done (dn w (.tup (intL r)) x) = .ex xND (dn w (.tup (intL r)) x) := by
  have h2 := sum_no2 n h hr
  have h3 := prod_no2 n h hr
  unfold dn
  rw [fn_succ (n + 4) _ _ d_law_done rfl]
  generalize intL r = q at h2 h3 ⊢
  rcases hw with rfl | rfl <;> simp [Ob.d, binD, Rs.hold, holds, runDef, execs, exec, tst, ev, evs, callS, lent, noTwice, passAll, passS, backAll, backS, Out.bind, Out.thn, tstR, Rs.see, Out.of, sees1, sees2, negD, cmpS, cmpD, sameD, plainD, plainDs, eqD, blR, truD, SOut.seq, SOut.of, bltS, sees, bltD, tupD, seqD, putTgs, putTg, setSubS, obAt, putOb, mayPut_eq, mpO_un, mpO_sh, mpO_ow, putR, retR, pasKept, backP, noEx, len1S, d_law_done, b_law_done, h2, h3]
theorem done_cnt (n : Nat) {r : List Int} (hr : Gd r) {m : D} (h1 : okD m = true) (h2 : cntB m = false) (w : Int) (hw : w = 3 ∨ w = 4) : (G (n + 5)).fn i_law_done (dn w (.tup (intL r)) m) = .ex xNC (dn w (.tup (intL r)) m) := by
  have h3 := moved_cnt n hr h1 h2
  have h4 := least_cnt n hr h1 h2 (.int 3)
  unfold dn
  rw [fn_succ (n + 4) _ _ d_law_done rfl]
  generalize intL r = q at h3 h4 ⊢
  rcases hw with rfl | rfl <;> simp [Ob.d, binD, Rs.hold, holds, runDef, execs, exec, tst, ev, evs, callS, lent, noTwice, passAll, passS, backAll, backS, Out.bind, Out.thn, tstR, Rs.see, Out.of, sees1, sees2, negD, cmpS, cmpD, sameD, plainD, plainDs, eqD, blR, truD, SOut.seq, SOut.of, bltS, sees, bltD, tupD, seqD, putTgs, putTg, setSubS, obAt, putOb, mayPut_eq, mpO_un, mpO_sh, mpO_ow, putR, retR, pasKept, backP, noEx, len1S, d_law_done, b_law_done, h3, h4]
theorem done_5 (n : Nat) {x m : D} {o : Xc} (h : (G (n + 4)).fn i_differences_of [.sh x] = .ex o [.sh x]) : (G (n + 5)).fn i_law_done (dn 5 x m) = .ex o (dn 5 x m) := by
  unfold dn
  rw [fn_succ (n + 4) _ _ d_law_done rfl]
  simp [Ob.d, binD, Rs.hold, holds, runDef, execs, exec, tst, ev, evs, callS, lent, noTwice, passAll, passS, backAll, backS, Out.bind, Out.thn, tstR, Rs.see, Out.of, sees1, sees2, negD, cmpS, cmpD, sameD, plainD, plainDs, eqD, blR, truD, SOut.seq, SOut.of, bltS, sees, bltD, tupD, seqD, putTgs, putTg, setSubS, obAt, putOb, mayPut_eq, mpO_un, mpO_sh, mpO_ow, putR, retR, pasKept, backP, noEx, len1S, d_law_done, b_law_done, h]
theorem done_5k (n : Nat) {x m z : D} (h : (G (n + 4)).fn i_differences_of [.sh x] = .ok (.d z) [.sh x]) : (G (n + 5)).fn i_law_done (dn 5 x m) = .ok (.d z) (dn 5 x m) := by
  unfold dn
  rw [fn_succ (n + 4) _ _ d_law_done rfl]
  simp [Ob.d, binD, Rs.hold, holds, runDef, execs, exec, tst, ev, evs, callS, lent, noTwice, passAll, passS, backAll, backS, Out.bind, Out.thn, tstR, Rs.see, Out.of, sees1, sees2, negD, cmpS, cmpD, sameD, plainD, plainDs, eqD, blR, truD, SOut.seq, SOut.of, bltS, sees, bltD, tupD, seqD, putTgs, putTg, setSubS, obAt, putOb, mayPut_eq, mpO_un, mpO_sh, mpO_ow, putR, retR, pasKept, backP, noEx, len1S, d_law_done, b_law_done, h]
theorem done_ok (n : Nat) {r s : List Int} (hr : Gd r) (hs : Gd s) :
    (∃ R, (G (n + 5)).fn i_law_done (dn 0 (.tup (intL r)) (.int 0)) = .ok (.d R) (dn 0 (.tup (intL r)) (.int 0))) ∧ (∃ R, (G (n + 5)).fn i_law_done (dn 1 (.tup (intL r)) (.tup (intL s))) = .ok (.d R) (dn 1 (.tup (intL r)) (.tup (intL s)))) ∧
    (∃ R, (G (n + 5)).fn i_law_done (dn 2 (.tup (intL r)) (.tup (intL s))) = .ok (.d R) (dn 2 (.tup (intL r)) (.tup (intL s)))) ∧ (∃ R, (G (n + 5)).fn i_law_done (dn 3 (.tup (intL r)) (.int 2)) = .ok (.d R) (dn 3 (.tup (intL r)) (.int 2))) ∧
    (∃ R, (G (n + 5)).fn i_law_done (dn 5 (.tup (intL r)) (.int 0)) = .ok (.d R) (dn 5 (.tup (intL r)) (.int 0))) ∧ (∃ R, (G (n + 5)).fn i_law_done (dn 5 (.lst (intL r)) (.int 0)) = .ok (.d R) (dn 5 (.lst (intL r)) (.int 0))) := by
  have lr := hr.len
  have ls := hs.len
  have h0 := summed_eq n r (by omega) hr.last
  have h1 := sum_eq n r s (by omega) (by omega) hr.last hs.last
  have h2 := product_eq n r s hr.row hs.row hr.last hs.last (hr.mul hs)
  have h3 := moved_eq n r 2 hr.row hr.last (by decide) (lt4000 (by decide))
  have h4 := differences_eq (n + 2) r (by omega) (.tup (intL r)) (.inr rfl)
  have h5 := differences_eq (n + 2) r (by omega) (.lst (intL r)) (.inl rfl)
  unfold dn
  refine ⟨⟨.tup (intL (sumd r)), ?_⟩, ⟨.tup (intL (trim (addr r s))), ?_⟩, ⟨.tup (intL (prodT r s)), ?_⟩, ⟨.tup (intL (moved r 2)), ?_⟩, ⟨.tup (intL (trim (dif r))), ?_⟩, ⟨.tup (intL (trim (dif r))), ?_⟩⟩
  · rw [fn_succ (n + 4) _ _ d_law_done rfl]
    generalize intL (sumd r) = z at h0 ⊢
    generalize intL r = q at h0 ⊢
    simp [Ob.d, binD, Rs.hold, holds, runDef, execs, exec, tst, ev, evs, callS, lent, noTwice, passAll, passS, backAll, backS, Out.bind, Out.thn, tstR, Rs.see, Out.of, sees1, sees2, negD, cmpS, cmpD, sameD, plainD, plainDs, eqD, blR, truD, SOut.seq, SOut.of, bltS, sees, bltD, tupD, seqD, putTgs, putTg, setSubS, obAt, putOb, mayPut_eq, mpO_un, mpO_sh, mpO_ow, putR, retR, pasKept, backP, noEx, len1S, d_law_done, b_law_done, h0]
  · rw [fn_succ (n + 4) _ _ d_law_done rfl]
    generalize intL (trim (addr r s)) = z at h1 ⊢
    generalize intL r = q at h1 ⊢
    generalize intL s = q2 at h1 ⊢
    simp [Ob.d, binD, Rs.hold, holds, runDef, execs, exec, tst, ev, evs, callS, lent, noTwice, passAll, passS, backAll, backS, Out.bind, Out.thn, tstR, Rs.see, Out.of, sees1, sees2, negD, cmpS, cmpD, sameD, plainD, plainDs, eqD, blR, truD, SOut.seq, SOut.of, bltS, sees, bltD, tupD, seqD, putTgs, putTg, setSubS, obAt, putOb, mayPut_eq, mpO_un, mpO_sh, mpO_ow, putR, retR, pasKept, backP, noEx, len1S, d_law_done, b_law_done, h1]
  · rw [fn_succ (n + 4) _ _ d_law_done rfl]
    generalize intL (prodT r s) = z at h2 ⊢
    generalize intL r = q at h2 ⊢
    generalize intL s = q2 at h2 ⊢
    simp [Ob.d, binD, Rs.hold, holds, runDef, execs, exec, tst, ev, evs, callS, lent, noTwice, passAll, passS, backAll, backS, Out.bind, Out.thn, tstR, Rs.see, Out.of, sees1, sees2, negD, cmpS, cmpD, sameD, plainD, plainDs, eqD, blR, truD, SOut.seq, SOut.of, bltS, sees, bltD, tupD, seqD, putTgs, putTg, setSubS, obAt, putOb, mayPut_eq, mpO_un, mpO_sh, mpO_ow, putR, retR, pasKept, backP, noEx, len1S, d_law_done, b_law_done, h2]
  · rw [fn_succ (n + 4) _ _ d_law_done rfl]
    generalize intL (moved r 2) = z at h3 ⊢
    generalize intL r = q at h3 ⊢
    simp [Ob.d, binD, Rs.hold, holds, runDef, execs, exec, tst, ev, evs, callS, lent, noTwice, passAll, passS, backAll, backS, Out.bind, Out.thn, tstR, Rs.see, Out.of, sees1, sees2, negD, cmpS, cmpD, sameD, plainD, plainDs, eqD, blR, truD, SOut.seq, SOut.of, bltS, sees, bltD, tupD, seqD, putTgs, putTg, setSubS, obAt, putOb, mayPut_eq, mpO_un, mpO_sh, mpO_ow, putR, retR, pasKept, backP, noEx, len1S, d_law_done, b_law_done, h3]
  · rw [fn_succ (n + 4) _ _ d_law_done rfl]
    generalize intL (trim (dif r)) = z at h4 ⊢
    generalize intL r = q at h4 ⊢
    simp [Ob.d, binD, Rs.hold, holds, runDef, execs, exec, tst, ev, evs, callS, lent, noTwice, passAll, passS, backAll, backS, Out.bind, Out.thn, tstR, Rs.see, Out.of, sees1, sees2, negD, cmpS, cmpD, sameD, plainD, plainDs, eqD, blR, truD, SOut.seq, SOut.of, bltS, sees, bltD, tupD, seqD, putTgs, putTg, setSubS, obAt, putOb, mayPut_eq, mpO_un, mpO_sh, mpO_ow, putR, retR, pasKept, backP, noEx, len1S, d_law_done, b_law_done, h4]
  · rw [fn_succ (n + 4) _ _ d_law_done rfl]
    generalize intL (trim (dif r)) = z at h5 ⊢
    generalize intL r = q at h5 ⊢
    simp [Ob.d, binD, Rs.hold, holds, runDef, execs, exec, tst, ev, evs, callS, lent, noTwice, passAll, passS, backAll, backS, Out.bind, Out.thn, tstR, Rs.see, Out.of, sees1, sees2, negD, cmpS, cmpD, sameD, plainD, plainDs, eqD, blR, truD, SOut.seq, SOut.of, bltS, sees, bltD, tupD, seqD, putTgs, putTg, setSubS, obAt, putOb, mayPut_eq, mpO_un, mpO_sh, mpO_ow, putR, retR, pasKept, backP, noEx, len1S, d_law_done, b_law_done, h5]
end Lw
end
section
set_option exponentiation.threshold 300
namespace Lw
open Mi
/-! ### what can be shown -/
structure Sh (n L : Nat) (x : D) : Prop where
  p : mixD n x = true
  r : ∃ t, reprD x = some t ∧ t.length ≤ L
theorem Sh.le {n L L' : Nat} {x : D} (h : Sh n L x) (hl : L ≤ L') : Sh n L' x := by
  obtain ⟨t, e, l⟩ := h.r
  exact ⟨h.p, t, e, by omega⟩
theorem shs_mix {n L : Nat} : ∀ {xs : List D}, (∀ x ∈ xs, Sh n L x) → mixDs n xs = true
  | [], _ => by simp [mixDs]
  | x :: xs, h => by
    have h1 := (h x (List.mem_cons_self ..)).p
    have h2 := shs_mix fun y hy => h y (List.mem_cons_of_mem _ hy)
    simp only [mixDs, h1, h2, Bool.and_self]
theorem shs_repr {n L : Nat} : ∀ {xs : List D}, (∀ x ∈ xs, Sh n L x) → ∃ ts, reprDs xs = some ts ∧ ts.length = xs.length ∧ ∀ t ∈ ts, t.length ≤ L
  | [], _ => ⟨[], by simp [reprDs], rfl, by simp⟩
  | x :: xs, h => by
    obtain ⟨t, e, l⟩ := (h x (List.mem_cons_self ..)).r
    obtain ⟨ts, e2, l2, h2⟩ := shs_repr fun y hy => h y (List.mem_cons_of_mem _ hy)
    refine ⟨t :: ts, by simp only [reprDs, e, e2], by simp [l2], fun u hu => ?_⟩
    rcases List.mem_cons.mp hu with rfl | hu
    · exact l
    · exact h2 u hu
theorem Sh.tup {n L : Nat} {xs : List D} (h : ∀ x ∈ xs, Sh n L x) (hl : xs.length ≤ 16) : Sh (n + 1) (3 + 16 * (L + 2)) (.tup xs) := by
  obtain ⟨ts, e, l, ht⟩ := shs_repr h
  refine ⟨by simp only [mixD]; exact shs_mix h, tupT ts, by simp only [reprD, e], ?_⟩
  have := sep_len [44, 32] L rfl ts ht
  have h2 : ts.length * (L + 2) ≤ 16 * (L + 2) := Nat.mul_le_mul_right _ (by omega)
  unfold tupT
  by_cases c : (ts.length == 1) = true
  · rw [if_pos c]; simp; omega
  · rw [if_neg c]; simp; omega
theorem Sh.lst {n L : Nat} {xs : List D} (h : ∀ x ∈ xs, Sh n L x) (hl : xs.length ≤ 16) : Sh (n + 1) (3 + 16 * (L + 2)) (.lst xs) := by
  obtain ⟨ts, e, l, ht⟩ := shs_repr h
  refine ⟨by simp only [mixD]; exact shs_mix h, lstT ts, by simp only [reprD, e], ?_⟩
  have := sep_len [44, 32] L rfl ts ht
  have h2 : ts.length * (L + 2) ≤ 16 * (L + 2) := Nat.mul_le_mul_right _ (by omega)
  unfold lstT
  simp
  omega
theorem Sh.int {n : Nat} {i : Int} (h : i.natAbs < 2 ^ 200) : Sh n 641 (.int i) := by
  have hl : i.natAbs.log2 < 1920 := Nat.lt_of_le_of_lt (log2_le h) (by decide)
  exact ⟨by cases n <;> simp [mixD], numT i, by simp only [reprD, decide_eq_true hl, if_true], numT_len2 hl⟩
theorem Sh.non {n : Nat} : Sh n 641 .non := ⟨by cases n <;> simp [mixD], _, rfl, by decide⟩
theorem Sh.bl {n : Nat} (b : Bool) : Sh n 641 (.bl b) := ⟨by cases n <;> simp [mixD], by cases b <;> exact ⟨_, rfl, by decide⟩⟩
theorem Sh.str {n : Nat} {s : Tx} (h : ∃ t, reprD (.str s) = some t ∧ t.length ≤ 641) : Sh n 641 (.str s) := ⟨by cases n <;> simp [mixD], h⟩
theorem Sh.dic0 {n : Nat} : Sh (n + 2) 641 (.dic []) := ⟨by simp [mixD], _, rfl, by decide⟩
theorem Sh.dic1 {n : Nat} : Sh (n + 2) 641 (.dic [(.int 0, .int 1)]) := ⟨by simp [mixD, flatB], ⟨dicT [numT 0 ++ [58, 32] ++ numT 1], by decide, by decide⟩⟩
theorem ints_sh {n : Nat} {l : List Int} (h : ∀ x ∈ l, x.natAbs < 2 ^ 200) : ∀ y ∈ intL l, Sh n 641 y := fun y hy => by
  unfold intL at hy
  obtain ⟨i, hi, rfl⟩ := List.mem_map.mp hy
  exact Sh.int (h i hi)
/-- one part of a pair -/
def Pt (x : D) : Prop := Sh 39 500000 x
theorem pair_shown {x m : D} (hx : Pt x) (hm : Pt m) : rokD (.tup [x, m]) = true ∧ ∃ t, reprX (.tup [x, m]) = some t := by
  have h : Sh 40 (3 + 16 * (500000 + 2)) (.tup [x, m]) := Sh.tup (n := 39) (fun y hy => by
    simp only [List.mem_cons, List.mem_nil_iff, or_false] at hy
    rcases hy with rfl | rfl
    · exact hx
    · exact hm) (by simp)
  obtain ⟨t, e, l⟩ := h.r
  refine ⟨by unfold rokD; rw [h.p]; simp, t, ?_⟩
  unfold reprX
  rw [e]
  show (if szOk t.length then some t else none) = some t
  rw [if_pos (szOk_of (by omega))]
/-! ### why -/
abbrev tTold : Tx := [116, 111, 108, 100]
abbrev tGear : Tx := [103, 101, 97, 114]
abbrev tCount : Tx := [99, 111, 117, 110, 116]
def gearR : D := .lst [.str tGear, .str [], .bl false]
def countR : D := .lst [.str [], .str tCount, .bl false]
section
variable {x m : D} {w : Int}
theorem why_told (n : Nat) (hx : Pt x) (hm : Pt m) {z : D} (h : (G (n + 5)).fn i_law_done (dn w x m) = .ok (.d z) (dn w x m)) : (G (n + 6)).fn i_law_why (dn w x m) = .ok (.d (.str tTold)) (dn w x m) := by
  obtain ⟨h1, t, h2⟩ := pair_shown hx hm
  unfold dn at h ⊢
  have ht : sameD (.str t) (.str t) = some true := txt_same t
  rw [fn_succ (n + 5) _ _ d_law_why rfl]
  simp [d_law_why, b_law_why, Ob.d, Rs.hold, holds, runDef, execs, exec, tst, ev, evs, callS, lent, noTwice, passAll, passS, backAll, backS, Out.bind, Out.thn, tstR, Rs.see, Out.of, sees2, cmpS, cmpD, blR, truD, SOut.seq, SOut.of, bltS, sees, bltD, mayPut_eq, mpO_un, mpO_sh, putR, retR, pasKept, backP, h, h1, h2, ht]
theorem why_gear (n : Nat) (hx : Pt x) (hm : Pt m) (h : (G (n + 5)).fn i_law_done (dn w x m) = .ex xND (dn w x m)) : (G (n + 6)).fn i_law_why (dn w x m) = .ok (.d gearR) (dn w x m) := by
  obtain ⟨h1, t, h2⟩ := pair_shown hx hm
  unfold dn at h ⊢
  have ht : sameD (.str t) (.str t) = some true := txt_same t
  have q0 : (G (n + 5)).isa x_NoDifferences x_NoDifferences = some true := rfl
  have q1 : (G (n + 5)).isa x_NoDifferences x_NoCount = some false := rfl
  have q2 : (G (n + 5)).isa x_NoDifferences x_FarError = some true := rfl
  have q3 : (G (n + 5)).isa x_NoDifferences x_NoLeap = some false := rfl
  have q4 : (G (n + 5)).isa x_NoDifferences x_NoMoment = some false := rfl
  have q5 : (G (n + 5)).isa x_NoDifferences x_NoPatch = some false := rfl
  have q6 : (G (n + 5)).isa x_NoDifferences x_NoProgram = some false := rfl
  have q7 : (G (n + 5)).isa x_NoDifferences x_NoText = some false := rfl
  have q8 : (G (n + 5)).isa x_NoDifferences x_NoValues = some false := rfl
  have q9 : (G (n + 5)).isa x_NoDifferences x_ValueError = some true := rfl
  rw [fn_succ (n + 5) _ _ d_law_why rfl]
  simp [d_law_why, b_law_why, gearR, binD, b2i, Ob.d, Rs.hold, holds, runDef, execs, exec, tst, ev, evs, callS, lent, noTwice, passAll, passS, backAll, backS, Out.bind, Out.thn, tstR, Rs.see, Out.of, sees2, cmpS, cmpD, blR, truD, SOut.seq, SOut.of, bltS, sees, bltD, mayPut_eq, mpO_un, mpO_sh, putR, retR, pasKept, backP, isUn, noXc, isXc, anyIs, q0, q1, q2, q3, q4, q5, q6, q7, q8, q9, h, h1, h2, ht]
theorem why_count (n : Nat) (hx : Pt x) (hm : Pt m) (h : (G (n + 5)).fn i_law_done (dn w x m) = .ex xNC (dn w x m)) : (G (n + 6)).fn i_law_why (dn w x m) = .ok (.d countR) (dn w x m) := by
  obtain ⟨h1, t, h2⟩ := pair_shown hx hm
  unfold dn at h ⊢
  have ht : sameD (.str t) (.str t) = some true := txt_same t
  have q0 : (G (n + 5)).isa x_NoCount x_NoDifferences = some false := rfl
  have q1 : (G (n + 5)).isa x_NoCount x_NoCount = some true := rfl
  have q2 : (G (n + 5)).isa x_NoCount x_FarError = some true := rfl
  have q3 : (G (n + 5)).isa x_NoCount x_NoLeap = some false := rfl
  have q4 : (G (n + 5)).isa x_NoCount x_NoMoment = some false := rfl
  have q5 : (G (n + 5)).isa x_NoCount x_NoPatch = some false := rfl
  have q6 : (G (n + 5)).isa x_NoCount x_NoProgram = some false := rfl
  have q7 : (G (n + 5)).isa x_NoCount x_NoText = some false := rfl
  have q8 : (G (n + 5)).isa x_NoCount x_NoValues = some false := rfl
  have q9 : (G (n + 5)).isa x_NoCount x_ValueError = some true := rfl
  rw [fn_succ (n + 5) _ _ d_law_why rfl]
  simp [d_law_why, b_law_why, countR, binD, b2i, Ob.d, Rs.hold, holds, runDef, execs, exec, tst, ev, evs, callS, lent, noTwice, passAll, passS, backAll, backS, Out.bind, Out.thn, tstR, Rs.see, Out.of, sees2, cmpS, cmpD, blR, truD, SOut.seq, SOut.of, bltS, sees, bltD, mayPut_eq, mpO_un, mpO_sh, putR, retR, pasKept, backP, isUn, noXc, isXc, anyIs, q0, q1, q2, q3, q4, q5, q6, q7, q8, q9, h, h1, h2, ht]
end
end Lw
end
section
set_option exponentiation.threshold 300
namespace Lw
open Mi
/-! ### the menus -/
theorem cut_all (l : List D) (m : Nat) : cut l none (some (m : Int)) = l.take m := by
  have hb : bnd l.length l.length (some (m : Int)) = min m l.length := by
    show (if (m : Int) < 0 then ((m : Int) + (l.length : Int)).toNat else min (m : Int).toNat l.length) = _
    rw [if_neg (by omega), Int.toNat_natCast]
  have h0 : bnd l.length 0 none = 0 := rfl
  unfold cut
  rw [hb, h0, List.drop_zero, Nat.sub_zero]
  by_cases c : m ≤ l.length
  · rw [Nat.min_eq_left c]
  · rw [Nat.min_eq_right (by omega), List.take_of_length_le (Nat.le_refl _), List.take_of_length_le (by omega)]
theorem one_ex (n : Nat) (l : List D) (hl : 0 < l.length) (hl2 : l.length < 1000) (a b : Int) (hb : PB b) : ∃ (x : D) (a' b' : Int), x ∈ l ∧ PB b' ∧
    (G (n + 2)).fn i_law_one [potS a b, .sh (.lst l)] = .ok (.d x) [potS a' b', .sh (.lst l)] := by
  obtain ⟨d, a1, b1, r1, p1, h1⟩ := take_ex n a b (l.length : Int) (by omega) (lt4000 (by omega)) hb
  obtain ⟨x, hx, hi⟩ := idx_in (l := l) (d := d) r1
  refine ⟨x, a1, b1, hx, p1, ?_⟩
  rw [fn_succ (n + 1) _ _ d_law_one rfl]
  simp [Ob.d, binD, Rs.hold, holds, runDef, execs, exec, tst, ev, evs, callS, lent, noTwice, passAll, passS, backAll, backS, Out.bind, Out.thn, tstR, Rs.see, Out.of, sees1, sees2, negD, cmpS, cmpD, sameD, plainD, plainDs, eqD, blR, truD, SOut.seq, SOut.of, bltS, sees, bltD, tupD, seqD, putTgs, putTg, setSubS, obAt, putOb, mayPut_eq, mpO_un, mpO_sh, mpO_ow, putR, retR, pasKept, backP, noEx, len1S, d_law_one, b_law_one, h1, hi]
def oddL : List D := [.bl true, .bl false, .non, .str [49], .str [], .tup [.int 1], .lst [.int 1], .dic [], .tup []]
theorem odd_no : ∀ x ∈ oddL, okD x = true ∧ intB x = false ∧ ∀ m, Sh (m + 2) 11000 x := by
  intro x hx
  simp only [oddL, List.mem_cons, List.mem_nil_iff, or_false] at hx
  have e : ∀ m, ∀ y ∈ [D.int 1], Sh (m + 1) 641 y := fun m y hy => by rw [List.mem_singleton.mp hy]; exact Sh.int (by decide)
  rcases hx with rfl | rfl | rfl | rfl | rfl | rfl | rfl | rfl | rfl
  · exact ⟨rfl, rfl, fun m => (Sh.bl true).le (by decide)⟩
  · exact ⟨rfl, rfl, fun m => (Sh.bl false).le (by decide)⟩
  · exact ⟨rfl, rfl, fun m => Sh.non.le (by decide)⟩
  · exact ⟨rfl, rfl, fun m => (Sh.str ⟨_, rfl, by decide⟩).le (by decide)⟩
  · exact ⟨rfl, rfl, fun m => (Sh.str ⟨_, rfl, by decide⟩).le (by decide)⟩
  · exact ⟨rfl, rfl, fun m => (Sh.tup (e m) (by simp)).le (by decide)⟩
  · exact ⟨rfl, rfl, fun m => (Sh.lst (e m) (by simp)).le (by decide)⟩
  · exact ⟨rfl, rfl, fun m => Sh.dic0.le (by decide)⟩
  · exact ⟨rfl, rfl, fun m => (Sh.tup (n := m + 1) (L := 0) (by simp) (by simp)).le (by decide)⟩
theorem odd_ex (n : Nat) (a b : Int) (hb : PB b) : ∃ (x : D) (a' b' : Int), x ∈ oddL ∧ PB b' ∧ (G (n + 3)).fn i_law_odd [potS a b] = .ok (.d x) [potS a' b'] := by
  obtain ⟨x, a1, b1, hx, p1, h1⟩ := one_ex n oddL (by decide) (by decide) a b hb
  refine ⟨x, a1, b1, hx, p1, ?_⟩
  unfold oddL at h1
  rw [fn_succ (n + 2) _ _ d_law_odd rfl]
  simp [Ob.d, binD, Rs.hold, holds, runDef, execs, exec, tst, ev, evs, callS, lent, noTwice, passAll, passS, backAll, backS, Out.bind, Out.thn, tstR, Rs.see, Out.of, sees1, sees2, negD, cmpS, cmpD, sameD, plainD, plainDs, eqD, blR, truD, SOut.seq, SOut.of, bltS, sees, bltD, tupD, seqD, putTgs, putTg, setSubS, obAt, putOb, mayPut_eq, mpO_un, mpO_sh, mpO_ow, putR, retR, pasKept, backP, noEx, len1S, d_law_odd, b_law_odd, h1]
/-- numbers with an odd thing put in -/
def put_ (l : List Int) (s : Nat) (o : D) : List D := intL (l.take s) ++ [o] ++ intL (l.drop s)
theorem put_ok {l : List Int} {s : Nat} {o : D} (ho : okD o = true) : ∀ y ∈ put_ l s o, okD y = true := fun y hy => by
  rcases List.mem_append.mp hy with hy | hy
  · rcases List.mem_append.mp hy with hy | hy
    · exact ints_ok _ y hy
    · rw [List.mem_singleton.mp hy]; exact ho
  · exact ints_ok _ y hy
theorem put_no {l : List Int} {s : Nat} {o : D} (ho : intB o = false) : (put_ l s o).all intB = false := by simp [put_, ho]
theorem put_len (l : List Int) (s : Nat) (o : D) : (put_ l s o).length ≤ 2 * l.length + 1 := by
  unfold put_
  rw [List.length_append, List.length_append, intL_len, intL_len, List.length_take, List.length_drop]
  simp
  omega
theorem put_len2 (l : List Int) (s : Nat) (hs : s ≤ l.length) (o : D) : (put_ l s o).length = l.length + 1 := by
  unfold put_
  rw [List.length_append, List.length_append, intL_len, intL_len, List.length_take, List.length_drop]
  simp
  omega
theorem put_sh {l : List Int} {s : Nat} {o : D} (hl : ∀ x ∈ l, x.natAbs < 2 ^ 101) {m : Nat} (ho : Sh (m + 2) 11000 o) : ∀ y ∈ put_ l s o, Sh (m + 2) 11000 y := fun y hy => by
  have e : ∀ (l' : List Int), (∀ x ∈ l', x ∈ l) → ∀ y ∈ intL l', Sh (m + 2) 11000 y := fun l' h y hy => (ints_sh (fun x hx => Nat.lt_trans (hl x (h x hx)) (by decide)) y hy).le (by decide)
  rcases List.mem_append.mp hy with hy | hy
  · rcases List.mem_append.mp hy with hy | hy
    · exact e _ (fun x hx => List.mem_of_mem_take hx) y hy
    · rw [List.mem_singleton.mp hy]; exact ho
  · exact e _ (fun x hx => List.mem_of_mem_drop hx) y hy
theorem Gd.sh {r : List Int} (h : Gd r) {m : Nat} : ∀ y ∈ intL r, Sh m 641 y := ints_sh fun x hx => Nat.lt_trans (h.sm x hx) (by decide)
theorem Gd.pt {r : List Int} (h : Gd r) : Pt (.tup (intL r)) ∧ Pt (.lst (intL r)) :=
  ⟨(Sh.tup (n := 38) h.sh (by rw [intL_len]; have := h.len; omega)).le (by decide), (Sh.lst (n := 38) h.sh (by rw [intL_len]; have := h.len; omega)).le (by decide)⟩
/-- things that are no DIFFERENCES, of a row -/
def ngL (r : List Int) (s : Nat) (o : D) : List D := [.tup (intL r ++ [.int 0]), .lst (intL r), .tup (put_ r s o), .tup (intL r ++ [.int 0, .int 0]), .tup [.tup (intL r)]] ++ [.non, .int 0, .int 7, .str [], .str [40, 49, 44, 41], .bl true, .lst [], .dic [], .dic [(.int 0, .int 1)], .tup [.int 0], .tup [.tup []], .tup (intL r ++ [.bl false])]
theorem ng_no {r : List Int} (h : Gd r) (s : Nat) (hs : s ≤ r.length) {o : D} (ho : o ∈ oddL) : ∀ x ∈ ngL r s o, NoG x ∧ Pt x := by
  obtain ⟨o1, o2, o3⟩ := odd_no o ho
  have hl := h.len
  have hn := intL_len r
  have e0 : intL r ++ [.int 0] = intL (r ++ [0]) := by rw [intL_app]; rfl
  have e1 : intL r ++ [.int 0, .int 0] = intL ((r ++ [0]) ++ [0]) := by rw [intL_app, intL_app]; simp [intL]
  have sm0 : ∀ (l : List Int), (∀ x ∈ l, x ∈ r ∨ x = 0) → ∀ x ∈ l, x.natAbs < 2 ^ 200 := fun l q x hx => by
    rcases q x hx with q | q
    · exact Nat.lt_trans (h.sm x q) (by decide)
    · subst q; decide
  intro x hx
  simp only [ngL, List.cons_append, List.nil_append, List.mem_cons, List.mem_nil_iff, or_false] at hx
  rcases hx with rfl | rfl | rfl | rfl | rfl | rfl | rfl | rfl | rfl | rfl | rfl | rfl | rfl | rfl | rfl | rfl | rfl
  · refine ⟨by rw [e0]; exact .last r (by omega), ?_⟩
    rw [e0]
    exact (Sh.tup (n := 38) (ints_sh (sm0 _ fun x hx => by simpa using hx)) (by rw [intL_len]; simp; omega)).le (by decide)
  · exact ⟨.kind _ rfl, h.pt.2⟩
  · exact ⟨.part _ (put_ok o1) (by have := put_len r s o; omega) (put_no o2), (Sh.tup (n := 38) (put_sh h.sm (o3 36)) (by rw [put_len2 r s hs o]; omega)).le (by decide)⟩
  · refine ⟨by rw [e1]; exact .last (r ++ [0]) (by simp; omega), ?_⟩
    rw [e1]
    exact (Sh.tup (n := 38) (ints_sh (sm0 _ fun x hx => by simp at hx; omega)) (by rw [intL_len]; simp; omega)).le (by decide)
  · refine ⟨.part _ (fun y hy => by rw [List.mem_singleton.mp hy]; rfl) (by simp) rfl, ?_⟩
    exact (Sh.tup (n := 38) (L := 11000) (fun y hy => by
      rw [List.mem_singleton.mp hy]
      exact (Sh.tup (n := 37) h.sh (by omega)).le (by decide)) (by simp)).le (by decide)
  · exact ⟨.kind _ rfl, Sh.non.le (by decide)⟩
  · exact ⟨.kind _ rfl, (Sh.int (by decide)).le (by decide)⟩
  · exact ⟨.kind _ rfl, (Sh.int (by decide)).le (by decide)⟩
  · exact ⟨.kind _ rfl, (Sh.str ⟨_, rfl, by decide⟩).le (by decide)⟩
  · exact ⟨.kind _ rfl, (Sh.str ⟨_, rfl, by decide⟩).le (by decide)⟩
  · exact ⟨.kind _ rfl, (Sh.bl true).le (by decide)⟩
  · exact ⟨.kind _ rfl, (Sh.lst (n := 38) (L := 0) (by simp) (by simp)).le (by decide)⟩
  · exact ⟨.kind _ rfl, Sh.dic0.le (by decide)⟩
  · exact ⟨.kind _ rfl, Sh.dic1.le (by decide)⟩
  · exact ⟨.last [] (by decide), (Sh.tup (n := 38) (L := 641) (fun y hy => by rw [List.mem_singleton.mp hy]; exact Sh.int (by decide)) (by simp)).le (by decide)⟩
  · refine ⟨.part _ (fun y hy => by rw [List.mem_singleton.mp hy]; rfl) (by simp) rfl, ?_⟩
    exact (Sh.tup (n := 38) (L := 11000) (fun y hy => by
      rw [List.mem_singleton.mp hy]
      exact (Sh.tup (n := 37) (L := 0) (by simp) (by simp)).le (by decide)) (by simp)).le (by decide)
  · refine ⟨.part _ (fun y hy => ?_) (by simp; omega) (by simp [intB]), (Sh.tup (n := 38) (L := 641) (fun y hy => ?_) (by simp; omega)).le (by decide)⟩
    · rcases List.mem_append.mp hy with hy | hy
      · exact ints_ok _ y hy
      · rw [List.mem_singleton.mp hy]; rfl
    · rcases List.mem_append.mp hy with hy | hy
      · exact h.sh y hy
      · rw [List.mem_singleton.mp hy]; exact Sh.bl false
end Lw
end
section
set_option exponentiation.threshold 300
namespace Lw
open Mi
def T40 : Int := 10000000000000000000000000000000000000000
theorem t40 : T40.natAbs < 2 ^ 4000 := Nat.lt_of_lt_of_le (show T40.natAbs < 2 ^ 140 by unfold T40; decide) (Nat.pow_le_pow_right (by decide) (by decide))
theorem t40p : 0 < T40 := by unfold T40; decide
def p40 : MExp := .bin .pow (.cst (.int 10)) (.cst (.int 40))
theorem p40_ev (Gg : Gs) (e : Env) : ev Gg p40 e = .ok (.d (.int T40)) e := by
  unfold p40
  rw [ml_bin]
  rfl
theorem intL_take (l : List Int) (k : Nat) : (intL l).take k = intL (l.take k) := by unfold intL; rw [List.map_take]
theorem no_gear_ex (n : Nat) {r : List Int} (h : Gd r) (a b : Int) (hb : PB b) : ∃ (x : D) (a' b' : Int), (NoG x ∧ Pt x) ∧ PB b' ∧ (G (n + 4)).fn i_law_no_gear [potS a b, .sh (.tup (intL r))] = .ok (.d x) [potS a' b', .sh (.tup (intL r))] := by
  have hl := h.len
  have hln := intL_len r
  obtain ⟨s, a1, b1, r1, p1, h1⟩ := take_ex (n + 2) a b ((r.length : Int) + 1) (by omega) (lt4000 (by omega)) hb
  obtain ⟨s, rfl⟩ := Int.eq_ofNat_of_zero_le r1.1
  obtain ⟨o, a2, b2, ho, p2, h2⟩ := odd_ex n a1 b1 p1
  obtain ⟨x, a3, b3, hx, p3, h3⟩ := one_ex (n + 1) (ngL r s o) (by simp [ngL]) (by simp [ngL]) a2 b2 p2
  refine ⟨x, a3, b3, ng_no h s (by omega) ho x hx, p3, ?_⟩
  have k1 : cut (intL r) none (some (s : Int)) = intL (r.take s) := by rw [cut_all, intL_take]
  have k2 := cut_ints r s (by omega)
  have m1 := intL_len (r.take s)
  have m2 := intL_len (r.drop s)
  have m3 : (r.take s).length ≤ 12 := by rw [List.length_take]; omega
  have m4 : (r.drop s).length ≤ 12 := by rw [List.length_drop]; omega
  have z0 : szOk 17 = true := by decide
  have z1 : szOk ((intL (r.take s)).length + 1) = true := szOk_of (by omega)
  have z2 : szOk ((intL (r.take s)).length + 1 + (intL (r.drop s)).length) = true := szOk_of (by omega)
  have z2' : szOk ((intL (r.take s)).length + ((intL (r.drop s)).length + 1)) = true := szOk_of (by omega)
  have z3 : szOk (r.length + 1) = true := szOk_of (by omega)
  have z4 : szOk (r.length + 2) = true := szOk_of (by omega)
  have e0 : (ngL r s o) = [.tup (intL r ++ [.int 0]), .lst (intL r), .tup (intL (r.take s) ++ ([o] ++ intL (r.drop s))), .tup (intL r ++ [.int 0, .int 0]), .tup [.tup (intL r)]] ++ [.non, .int 0, .int 7, .str [], .str [40, 49, 44, 41], .bl true, .lst [], .dic [], .dic [(.int 0, .int 1)], .tup [.int 0], .tup [.tup []], .tup (intL r ++ [.bl false])] := by
    unfold ngL put_
    rw [List.append_assoc]
  rw [e0] at h3
  rw [fn_succ (n + 3) _ _ d_law_no_gear rfl]
  generalize intL (r.take s) = A at k1 z1 z2 z2' h3
  generalize intL (r.drop s) = B at k2 z2 z2' h3
  generalize intL r = q at hln k1 k2 h3 ⊢
  simp only [List.append_assoc, List.cons_append, List.nil_append] at h3
  simp [Ob.d, binD, Rs.hold, holds, runDef, execs, exec, tst, ev, evs, callS, lent, noTwice, passAll, passS, backAll, backS, Out.bind, Out.thn, tstR, Rs.see, Out.of, sees1, sees2, negD, cmpS, cmpD, sameD, plainD, plainDs, eqD, blR, truD, SOut.seq, SOut.of, bltS, sees, bltD, tupD, seqD, putTgs, putTg, setSubS, obAt, putOb, mayPut_eq, mpO_un, mpO_sh, mpO_ow, putR, retR, pasKept, backP, noEx, len1S, d_law_no_gear, b_law_no_gear, hln, h1, h2, h3, slcD, evp, partO, k1, k2, z0, z1, z2, z2', z3, z4, putD]
def NoL (x : D) : Prop := (∀ n, (G (n + 2)).fn i_differences_of [.sh x] = .ex xND [.sh x]) ∧ Pt x
def nlL (r : List Int) (s : Nat) (o o' : D) : List D := [.lst (put_ r s o), .tup (put_ r s o')] ++ [.non, .int 0, .int 7, .str [], .str [49, 50], .bl true, .dic [], .dic [(.int 0, .int 1)], .lst [.lst (intL r)], .lst [.tup (intL r)]]
theorem nl_no {r : List Int} (h : Gd r) (s : Nat) (hs : s ≤ r.length) {o o' : D} (ho : o ∈ oddL) (ho' : o' ∈ oddL) : ∀ x ∈ nlL r s o o', NoL x := by
  obtain ⟨o1, o2, o3⟩ := odd_no o ho
  obtain ⟨o1', o2', o3'⟩ := odd_no o' ho'
  have hl := h.len
  have hn := intL_len r
  intro x hx
  simp only [nlL, List.cons_append, List.nil_append, List.mem_cons, List.mem_nil_iff, or_false] at hx
  rcases hx with rfl | rfl | rfl | rfl | rfl | rfl | rfl | rfl | rfl | rfl | rfl | rfl
  · exact ⟨fun n => no_seq n _ (put_ok o1) (by have := put_len r s o; omega) (put_no o2) _ (.inl rfl), (Sh.lst (n := 38) (put_sh h.sm (o3 36)) (by rw [put_len2 r s hs o]; omega)).le (by decide)⟩
  · exact ⟨fun n => no_seq n _ (put_ok o1') (by have := put_len r s o'; omega) (put_no o2') _ (.inr rfl), (Sh.tup (n := 38) (put_sh h.sm (o3' 36)) (by rw [put_len2 r s hs o']; omega)).le (by decide)⟩
  · exact ⟨fun n => no_kind n _ rfl, Sh.non.le (by decide)⟩
  · exact ⟨fun n => no_kind n _ rfl, (Sh.int (by decide)).le (by decide)⟩
  · exact ⟨fun n => no_kind n _ rfl, (Sh.int (by decide)).le (by decide)⟩
  · exact ⟨fun n => no_kind n _ rfl, (Sh.str ⟨_, rfl, by decide⟩).le (by decide)⟩
  · exact ⟨fun n => no_kind n _ rfl, (Sh.str ⟨_, rfl, by decide⟩).le (by decide)⟩
  · exact ⟨fun n => no_kind n _ rfl, (Sh.bl true).le (by decide)⟩
  · exact ⟨fun n => no_kind n _ rfl, Sh.dic0.le (by decide)⟩
  · exact ⟨fun n => no_kind n _ rfl, Sh.dic1.le (by decide)⟩
  · refine ⟨fun n => no_seq n [.lst (intL r)] (fun y hy => by rw [List.mem_singleton.mp hy]; rfl) (by simp) rfl _ (.inl rfl), ?_⟩
    exact (Sh.lst (n := 38) (L := 11000) (fun y hy => by
      rw [List.mem_singleton.mp hy]
      exact (Sh.lst (n := 37) h.sh (by omega)).le (by decide)) (by simp)).le (by decide)
  · refine ⟨fun n => no_seq n [.tup (intL r)] (fun y hy => by rw [List.mem_singleton.mp hy]; rfl) (by simp) rfl _ (.inl rfl), ?_⟩
    exact (Sh.lst (n := 38) (L := 11000) (fun y hy => by
      rw [List.mem_singleton.mp hy]
      exact (Sh.tup (n := 37) h.sh (by omega)).le (by decide)) (by simp)).le (by decide)
theorem no_list_ex (n : Nat) {r : List Int} (h : Gd r) (a b : Int) (hb : PB b) : ∃ (x : D) (a' b' : Int), NoL x ∧ PB b' ∧ (G (n + 4)).fn i_law_no_list [potS a b, .sh (.tup (intL r))] = .ok (.d x) [potS a' b', .sh (.tup (intL r))] := by
  have hl := h.len
  have hln := intL_len r
  obtain ⟨s, a1, b1, r1, p1, h1⟩ := take_ex (n + 2) a b ((r.length : Int) + 1) (by omega) (lt4000 (by omega)) hb
  obtain ⟨s, rfl⟩ := Int.eq_ofNat_of_zero_le r1.1
  obtain ⟨o, a2, b2, ho, p2, h2⟩ := odd_ex n a1 b1 p1
  obtain ⟨o', a3, b3, ho', p3, h3⟩ := odd_ex n a2 b2 p2
  obtain ⟨x, a4, b4, hx, p4, h4⟩ := one_ex (n + 1) (nlL r s o o') (by simp [nlL]) (by simp [nlL]) a3 b3 p3
  refine ⟨x, a4, b4, nl_no h s (by omega) ho ho' x hx, p4, ?_⟩
  have k1 : cut (intL r) none (some (s : Int)) = intL (r.take s) := by rw [cut_all, intL_take]
  have k2 := cut_ints r s (by omega)
  have m1 := intL_len (r.take s)
  have m2 := intL_len (r.drop s)
  have m3 : (r.take s).length ≤ 12 := by rw [List.length_take]; omega
  have m4 : (r.drop s).length ≤ 12 := by rw [List.length_drop]; omega
  have z0 : szOk 12 = true := by decide
  have z1 : szOk ((intL (r.take s)).length + 1) = true := szOk_of (by omega)
  have z2 : szOk ((intL (r.take s)).length + 1 + (intL (r.drop s)).length) = true := szOk_of (by omega)
  have z2' : szOk ((intL (r.take s)).length + ((intL (r.drop s)).length + 1)) = true := szOk_of (by omega)
  have e0 : (nlL r s o o') = [.lst (intL (r.take s) ++ ([o] ++ intL (r.drop s))), .tup (intL (r.take s) ++ ([o'] ++ intL (r.drop s)))] ++ [.non, .int 0, .int 7, .str [], .str [49, 50], .bl true, .dic [], .dic [(.int 0, .int 1)], .lst [.lst (intL r)], .lst [.tup (intL r)]] := by
    unfold nlL put_
    rw [List.append_assoc, List.append_assoc]
  rw [e0] at h4
  rw [fn_succ (n + 3) _ _ d_law_no_list rfl]
  generalize intL (r.take s) = A at k1 z1 z2 z2' h4
  generalize intL (r.drop s) = B at k2 z2 z2' h4
  generalize intL r = q at hln k1 k2 h4 ⊢
  simp only [List.append_assoc, List.cons_append, List.nil_append] at h4
  simp [Ob.d, binD, Rs.hold, holds, runDef, execs, exec, tst, ev, evs, callS, lent, noTwice, passAll, passS, backAll, backS, Out.bind, Out.thn, tstR, Rs.see, Out.of, sees1, sees2, negD, cmpS, cmpD, sameD, plainD, plainDs, eqD, blR, truD, SOut.seq, SOut.of, bltS, sees, bltD, tupD, seqD, putTgs, putTg, setSubS, obAt, putOb, mayPut_eq, mpO_un, mpO_sh, mpO_ow, putR, retR, pasKept, backP, noEx, len1S, d_law_no_list, b_law_no_list, hln, h1, h2, h3, h4, slcD, evp, partO, k1, k2, z0, z1, z2, z2', putD]
def NoC (m : D) : Prop := okD m = true ∧ cntB m = false ∧ Pt m
theorem no_count_ex (n : Nat) (a b : Int) (hb : PB b) : ∃ (x : D) (a' b' : Int), NoC x ∧ PB b' ∧ (G (n + 3)).fn i_law_no_count [potS a b] = .ok (.d x) [potS a' b'] := by
  obtain ⟨f, a1, b1, r1, p1, h1⟩ := take_ex (n + 1) a b T40 t40p t40 hb
  obtain ⟨x, a2, b2, hx, p2, h2⟩ := one_ex n [.int (-1), .int (-1 - f), .bl true, .bl false, .non, .str [48], .str [], .tup [.int 0], .lst [.int 0], .dic []] (by simp) (by simp) a1 b1 p1
  have hf : f.natAbs < 2 ^ 150 := by
    have : T40 < 2 ^ 149 := by unfold T40; decide
    omega
  have hN : NoC x := by
    have e : ∀ y ∈ [D.int 0], Sh 38 641 y := fun y hy => by rw [List.mem_singleton.mp hy]; exact Sh.int (by decide)
    simp only [List.mem_cons, List.mem_nil_iff, or_false] at hx
    rcases hx with rfl | rfl | rfl | rfl | rfl | rfl | rfl | rfl | rfl | rfl
    · exact ⟨rfl, rfl, (Sh.int (by decide)).le (by decide)⟩
    · exact ⟨rfl, by simp [cntB]; omega, (Sh.int (by omega)).le (by decide)⟩
    · exact ⟨rfl, rfl, (Sh.bl true).le (by decide)⟩
    · exact ⟨rfl, rfl, (Sh.bl false).le (by decide)⟩
    · exact ⟨rfl, rfl, Sh.non.le (by decide)⟩
    · exact ⟨rfl, rfl, (Sh.str ⟨_, rfl, by decide⟩).le (by decide)⟩
    · exact ⟨rfl, rfl, (Sh.str ⟨_, rfl, by decide⟩).le (by decide)⟩
    · exact ⟨rfl, rfl, (Sh.tup (n := 38) e (by simp)).le (by decide)⟩
    · exact ⟨rfl, rfl, (Sh.lst (n := 38) e (by simp)).le (by decide)⟩
    · exact ⟨rfl, rfl, Sh.dic0.le (by decide)⟩
  refine ⟨x, a2, b2, hN, p2, ?_⟩
  have hp := p40_ev (G (n + 2))
  have e0 : d_law_no_count = ⟨1, 2, [.set 1 false (.call i_law_take [.var 0, p40]), .ret (.call i_law_one [.var 0, .lst [.neg (.cst (.int 1)), .bin .sub (.neg (.cst (.int 1))) (.var 1), .cst (.bl true), .cst (.bl false), .cst .non, .cst (.str [48]), .cst (.str []), .tup [.cst (.int 0)], .lst [.cst (.int 0)], .dic [] []]])]⟩ := rfl
  rw [fn_succ (n + 2) _ _ d_law_no_count rfl, e0]
  generalize p40 = pe at hp ⊢
  generalize T40 = t at hp h1
  simp [Ob.d, binD, Rs.hold, holds, runDef, execs, exec, tst, ev, evs, callS, lent, noTwice, passAll, passS, backAll, backS, Out.bind, Out.thn, tstR, Rs.see, Out.of, sees1, sees2, negD, cmpS, cmpD, sameD, plainD, plainDs, eqD, blR, truD, SOut.seq, SOut.of, bltS, sees, bltD, tupD, seqD, putTgs, putTg, setSubS, obAt, putOb, mayPut_eq, mpO_un, mpO_sh, mpO_ow, putR, retR, pasKept, backP, noEx, len1S, hp, h1, h2]
end Lw
end
section
set_option exponentiation.threshold 300
namespace Lw
open Mi
/-- a comprehension over any target, that changes nothing: what is kept, mapped -/
theorem comp_g {α : Type} {Gg : Gs} {a : MExp} {c : Option MExp} {it : MIt} {w : It} {t : Tgt} (ys : List α) (f : α → D) (keep : α → Bool) (val : α → D) (E : α → Env) {e e0 : Env}
    (hwo : wipeOk e t.is = true) (hwi : wipeE e t.is = e) (hun : unwipe e e t.is = e)
    (hput : ∀ y ∈ ys, t.put (f y) e = some (E y)) (hback : ∀ y ∈ ys, wipeE (E y) t.is = e) (hl : ys.length ≤ 16000000)
    (hit : evIt Gg it e0 = .ok w e) (hw : w.len = ys.length) (hs : w.slots.all (fun i => !t.is.contains i) = true) (hat : ∀ k, k < ys.length → w.at_ k e = (ys[k]?).map f) (hf : w.fine e = true)
    (hb : ∀ y ∈ ys, evc Gg c (E y) = .ok (keep y) (E y) ∧ (keep y = true → ev Gg a (E y) = .ok (.d (val y)) (E y))) :
    ev Gg (.comp a t it c) e0 = .ok (.fr (.lst ((ys.filter keep).map val))) e := by
  obtain ⟨acc, e2, g1, g2, g3⟩ := ev_comp_by (G := Gg) (a := a) (t := t) (c := c) ys.length
    (fun k acc e2 => acc = ((ys.take k).filter keep).map val ∧ e2 = e) hit hw (by rw [hwo, hs]; rfl) ⟨rfl, hwi⟩
    (fun k acc e2 hk ⟨q1, q2⟩ hlen => by
      subst q2
      have hm := List.getElem_mem hk
      obtain ⟨b1, b2⟩ := hb ys[k] hm
      have hat' : w.at_ k e2 = some (f ys[k]) := by rw [hat k hk, List.getElem?_eq_getElem hk]; rfl
      refine ⟨f ys[k], E ys[k], hat', hput _ hm, ?_⟩
      cases hk2 : keep ys[k] with
      | true =>
        rw [hk2] at b1
        refine .inl ⟨_, .d (val ys[k]), _, val ys[k], _, b1, b2 hk2, rfl, ?_, hback _ hm⟩
        rw [q1, List.take_add_one, List.getElem?_eq_getElem hk, List.filter_append, List.map_append]
        simp [hk2]
      | false =>
        rw [hk2] at b1
        refine .inr ⟨_, b1, ?_, hback _ hm⟩
        rw [q1, List.take_add_one, List.getElem?_eq_getElem hk, List.filter_append, List.map_append]
        simp [hk2])
    (fun _ e2 h => by rw [h.2]; exact hf) hl
  subst g2
  subst g3
  rw [List.take_length] at g1
  rw [g1, hun]
theorem comp_gm {α : Type} {Gg : Gs} {a : MExp} {it : MIt} {w : It} {t : Tgt} (ys : List α) (f : α → D) (val : α → D) (E : α → Env) {e e0 : Env}
    (hwo : wipeOk e t.is = true) (hwi : wipeE e t.is = e) (hun : unwipe e e t.is = e)
    (hput : ∀ y ∈ ys, t.put (f y) e = some (E y)) (hback : ∀ y ∈ ys, wipeE (E y) t.is = e) (hl : ys.length ≤ 16000000)
    (hit : evIt Gg it e0 = .ok w e) (hw : w.len = ys.length) (hs : w.slots.all (fun i => !t.is.contains i) = true) (hat : ∀ k, k < ys.length → w.at_ k e = (ys[k]?).map f) (hf : w.fine e = true)
    (hb : ∀ y ∈ ys, ev Gg a (E y) = .ok (.d (val y)) (E y)) :
    ev Gg (.comp a t it none) e0 = .ok (.fr (.lst (ys.map val))) e := by
  have h := comp_g (c := none) ys f (fun _ => true) val E hwo hwi hun hput hback hl hit hw hs hat hf fun y hy => ⟨rfl, fun _ => hb y hy⟩
  rw [filter_all] at h
  exact h
end Lw
end
section
set_option exponentiation.threshold 300
namespace Lw
open Mi
abbrev Ask := Int × D × D
def Ask.d (y : Ask) : D := .tup [.int y.1, y.2.1, y.2.2]
/-! ### good ones -/
def gtC : MExp := .comp (.call i_law_why [.var 3, .var 4, .var 5]) (.tp [3, 4, 5]) (.seq (.var 2)) none
theorem gt_ev (n : Nat) (L : List Ask) (z : D) (hL : L.length ≤ 100) (h : ∀ y ∈ L, (G (n + 6)).fn i_law_why (dn y.1 y.2.1 y.2.2) = .ok (.d z) (dn y.1 y.2.1 y.2.2)) (s0 s1 : Sl) :
    ev (G (n + 6)) gtC [s0, s1, .sh (.lst (L.map Ask.d)), .un, .un, .un] = .ok (.fr (.lst (L.map fun _ => z))) [s0, s1, .sh (.lst (L.map Ask.d)), .un, .un, .un] := by
  refine comp_gm (w := .one (.snap (L.map Ask.d))) L Ask.d (fun _ => z) (fun y => [s0, s1, .sh (.lst (L.map Ask.d)), .sh (.int y.1), .sh y.2.1, .sh y.2.2]) rfl rfl rfl (fun y _ => rfl) (fun y _ => rfl) (by omega) (by simp [evIt, srcL, srcOf, It.slots, Src.slots, It.len, Src.len, partO, It.at_, Src.at_, It.fine, Src.fine, ev, evs, evp, callS, lent, noTwice, passAll, passS, backAll, backS, Out.bind, Out.thn, Rs.see, Rs.hold, holds, Out.of, sees1, sees2, binD, bltS, sees, bltD, Ob.d, obAt, len1S]) (by simp [It.len, Src.len]) rfl (fun k _ => at_snap _ _ k _) rfl (fun y hy => ?_)
  have h := h y hy
  unfold dn at h
  simp [Ob.d, binD, Rs.hold, holds, runDef, execs, exec, tst, ev, evs, callS, lent, noTwice, passAll, passS, backAll, backS, Out.bind, Out.thn, tstR, Rs.see, Out.of, sees1, sees2, negD, cmpS, cmpD, sameD, plainD, plainDs, eqD, blR, truD, SOut.seq, SOut.of, bltS, sees, bltD, tupD, seqD, putTgs, putTg, setSubS, obAt, putOb, mayPut_eq, mpO_un, mpO_sh, mpO_ow, putR, retR, pasKept, backP, noEx, len1S, h]
theorem same_rep (z : D) (h : sameD z z = some true) : True := trivial
theorem good_ex (n : Nat) {r s : List Int} (hr : Gd r) (hs : Gd s) : (G (n + 7)).fn i_law_good_told [.sh (.tup (intL r)), .sh (.tup (intL s))] = .ok (.d (.bl true)) [.sh (.tup (intL r)), .sh (.tup (intL s))] := by
  obtain ⟨⟨z0, d0⟩, ⟨z1, d1⟩, ⟨z2, d2⟩, ⟨z3, d3⟩, ⟨z5, d5⟩, ⟨z6, d6⟩⟩ := done_ok n hr hs
  have p0 : Pt (.int 0) := (Sh.int (by decide)).le (by decide)
  have p2 : Pt (.int 2) := (Sh.int (by decide)).le (by decide)
  have w0 := why_told n hr.pt.1 p0 d0
  have w1 := why_told n hr.pt.1 hs.pt.1 d1
  have w2 := why_told n hr.pt.1 hs.pt.1 d2
  have w3 := why_told n hr.pt.1 p2 d3
  have w5 := why_told n hr.pt.1 p0 d5
  have w6 := why_told n hr.pt.2 p0 d6
  have p5 : Pt (.tup [.int 5]) := (Sh.tup (n := 38) (L := 641) (fun y hy => by rw [List.mem_singleton.mp hy]; exact Sh.int (by decide)) (by simp)).le (by decide)
  have d7 : (G (n + 5)).fn i_law_done (dn 4 (.tup [.int 5]) (.int 2)) = .ok (.d (.int 0)) (dn 4 (.tup [.int 5]) (.int 2)) := by
    have h := least_5 n
    unfold dn
    rw [fn_succ (n + 4) _ _ d_law_done rfl]
    simp [Ob.d, binD, Rs.hold, holds, runDef, execs, exec, tst, ev, evs, callS, lent, noTwice, passAll, passS, backAll, backS, Out.bind, Out.thn, tstR, Rs.see, Out.of, sees1, sees2, negD, cmpS, cmpD, sameD, plainD, plainDs, eqD, blR, truD, SOut.seq, SOut.of, bltS, sees, bltD, tupD, seqD, putTgs, putTg, setSubS, obAt, putOb, mayPut_eq, mpO_un, mpO_sh, mpO_ow, putR, retR, pasKept, backP, noEx, len1S, d_law_done, b_law_done, h]
  have w7 := why_told n p5 p2 d7
  have hc := gt_ev n [(0, .tup (intL r), .int 0), (1, .tup (intL r), .tup (intL s)), (2, .tup (intL r), .tup (intL s)), (3, .tup (intL r), .int 2), (5, .tup (intL r), .int 0), (5, .lst (intL r), .int 0)] (.str tTold) (by simp) (fun y hy => by
    simp only [List.mem_cons, List.mem_nil_iff, or_false] at hy
    rcases hy with rfl | rfl | rfl | rfl | rfl | rfl
    · exact w0
    · exact w1
    · exact w2
    · exact w3
    · exact w5
    · exact w6) (.sh (.tup (intL r))) (.sh (.tup (intL s)))
  have e0 : d_law_good_told = ⟨2, 6, [.set 2 false (.lst [.tup [.cst (.int 0), .var 0, .cst (.int 0)], .tup [.cst (.int 1), .var 0, .var 1], .tup [.cst (.int 2), .var 0, .var 1], .tup [.cst (.int 3), .var 0, .cst (.int 2)], .tup [.cst (.int 5), .var 0, .cst (.int 0)], .tup [.cst (.int 5), .blt .list [.var 0], .cst (.int 0)]]), .ite (.cmp .ne gtC (.bin .mul (.lst [.cst (.str [116, 111, 108, 100])]) (.cst (.int 6)))) [.ret (.cst (.bl false))] [], .ret (.cmp .eq (.call i_law_why [.cst (.int 4), .tup [.cst (.int 5)], .cst (.int 2)]) (.cst (.str [116, 111, 108, 100])))]⟩ := rfl
  have hm : binD .mul (.lst [.str tTold]) (.int 6) = some (.fr (.lst [.str tTold, .str tTold, .str tTold, .str tTold, .str tTold, .str tTold])) := rfl
  have hq : sameD (.lst [.str tTold, .str tTold, .str tTold, .str tTold, .str tTold, .str tTold]) (.lst [.str tTold, .str tTold, .str tTold, .str tTold, .str tTold, .str tTold]) = some true := by decide
  have hq2 : sameD (.str tTold) (.str tTold) = some true := rfl
  rw [fn_succ (n + 6) _ _ d_law_good_told rfl, e0]
  simp only [List.map_cons, List.map_nil, Ask.d] at hc
  unfold dn at w7
  generalize gtC = C at hc ⊢
  generalize intL r = q at hc ⊢
  generalize intL s = q' at hc ⊢
  simp only [runDef, execs, exec, tst, ev, evs, callS, lent, noTwice, passAll, passS, backAll, backS, Out.bind, Out.thn, tstR, Rs.see, Rs.hold, holds, Out.of, sees1, sees2, bltS, sees, bltD, Ob.d, cmpS, cmpD, blR, truD, SOut.seq, SOut.of, mayPut_eq, mpO_un, mpO_sh, putR, retR, pasKept, backP, List.length_cons, List.length_nil, List.replicate, List.cons_append, List.nil_append, List.append_nil, hc, hm, hq, hq2, w7, List.getElem?_cons_zero, List.getElem?_cons_succ, Option.map_some, Option.bind_some]
  simp [w7, hq2, hc, hm, hq, cmpD, blR, truD, runDef, execs, exec, tst, ev, evs, callS, lent, noTwice, passAll, passS, backAll, backS, Out.bind, Out.thn, tstR, Rs.see, Rs.hold, holds, Out.of, sees1, sees2, bltS, sees, bltD, Ob.d, cmpS, SOut.seq, SOut.of, mayPut_eq, mpO_un, mpO_sh, putR, retR, pasKept, backP]
end Lw
end
section
set_option exponentiation.threshold 300
namespace Lw
open Mi
theorem bls_true {α : Type} : ∀ L : List α, blsOf (L.map fun _ => D.bl true) = some (L.map fun _ => true)
  | [] => rfl
  | x :: L => by
    have ih := bls_true L
    simp only [List.map_cons, blsOf, ih]
theorem gear_same : sameD gearR gearR = some true := by decide
theorem count_same : sameD countR countR = some true := by decide
def grC : MExp := .comp (.cmp .eq (.call i_law_why [.var 8, .var 9, .var 10]) (.var 3)) (.tp [8, 9, 10]) (.seq (.var 4)) none
theorem gr_ev (n : Nat) (L : List Ask) (hL : L.length ≤ 100) (h : ∀ y ∈ L, (G (n + 6)).fn i_law_why (dn y.1 y.2.1 y.2.2) = .ok (.d gearR) (dn y.1 y.2.1 y.2.2)) (s0 s1 s2 s5 s6 s7 : Sl) :
    ev (G (n + 6)) (.blt .all [grC]) [s0, s1, s2, .sh gearR, .ow (.lst (L.map Ask.d)), s5, s6, s7, .un, .un, .un] = .ok (.d (.bl true)) [s0, s1, s2, .sh gearR, .ow (.lst (L.map Ask.d)), s5, s6, s7, .un, .un, .un] := by
  have hc := comp_gm (Gg := G (n + 6)) (a := .cmp .eq (.call i_law_why [.var 8, .var 9, .var 10]) (.var 3)) (it := .seq (.var 4)) (t := .tp [8, 9, 10]) (w := .one (.slot 4 L.length)) L Ask.d (fun _ => .bl true) (fun y => [s0, s1, s2, .sh gearR, .ow (.lst (L.map Ask.d)), s5, s6, s7, .sh (.int y.1), .sh y.2.1, .sh y.2.2]) (e0 := [s0, s1, s2, .sh gearR, .ow (.lst (L.map Ask.d)), s5, s6, s7, .un, .un, .un]) (e := [s0, s1, s2, .sh gearR, .ow (.lst (L.map Ask.d)), s5, s6, s7, .un, .un, .un]) rfl rfl rfl (fun y _ => rfl) (fun y _ => rfl) (by omega) (by simp [evIt, srcL, srcOf, It.slots, Src.slots, It.len, Src.len, partO, It.at_, Src.at_, It.fine, Src.fine, ev, evs, evp, callS, lent, noTwice, passAll, passS, backAll, backS, Out.bind, Out.thn, Rs.see, Rs.hold, holds, Out.of, sees1, sees2, binD, bltS, sees, bltD, Ob.d, obAt, len1S]) rfl rfl (fun k _ => by show (L.map Ask.d)[k]? = _; rw [List.getElem?_map]) (by simp [It.fine, Src.fine, obAt]) (fun y hy => by
    have h := h y hy
    unfold dn at h
    have hg := gear_same
    generalize gearR = g at h hg ⊢
    simp [ev, evs, callS, lent, noTwice, passAll, passS, backAll, backS, Out.bind, Rs.see, Out.of, sees2, cmpS, cmpD, blR, h, hg])
  have hc : ev _ grC _ = _ := hc
  rw [ev_blt1 _ _ _ _ _ _ hc]
  have hb := bls_true L
  simp [bltS, sees, Rs.see, Ob.d, bltD, hb, Out.of, List.all_map]
theorem gears_ex (n : Nat) {r s : List Int} (hr : Gd r) (hs : Gd s) (a b : Int) (hb : PB b) : ∃ a' b' : Int, PB b' ∧ (G (n + 7)).fn i_law_gears_refused [potS a b, .sh (.tup (intL r)), .sh (.tup (intL s))] = .ok (.d (.bl true)) [potS a' b', .sh (.tup (intL r)), .sh (.tup (intL s))] := by
  obtain ⟨x, a1, b1, ⟨hx, px⟩, p1, h1⟩ := no_gear_ex (n + 2) hr a b hb
  obtain ⟨y, a2, b2, ⟨hy, py⟩, p2, h2⟩ := no_gear_ex (n + 2) hs a1 b1 p1
  obtain ⟨o, a3, b3, ⟨o1, o2, po⟩, p3, h3⟩ := no_count_ex (n + 3) a2 b2 p2
  refine ⟨a3, b3, p3, ?_⟩
  have p0 : Pt (.int 0) := (Sh.int (by decide)).le (by decide)
  have p2 : Pt (.int 2) := (Sh.int (by decide)).le (by decide)
  have pn : Pt (.tup []) := (Sh.tup (n := 38) (L := 0) (by simp) (by simp)).le (by decide)
  have gn : Gd [] := ⟨by simp, by simp, fun x h => by simp at h⟩
  have hc := gr_ev n [(0, x, .int 0), (1, x, .tup (intL s)), (1, .tup (intL r), x), (1, x, y), (2, x, .tup (intL s)), (2, .tup (intL r), x), (2, x, y), (2, .tup (intL []), x), (2, x, .tup []), (3, x, .int 2), (3, x, o), (4, x, .int 2), (4, x, o)] (by simp) (fun z hz => by
    simp only [List.mem_cons, List.mem_nil_iff, or_false] at hz
    rcases hz with rfl | rfl | rfl | rfl | rfl | rfl | rfl | rfl | rfl | rfl | rfl | rfl | rfl
    · exact why_gear n px p0 (done_no n hx _ _ (by omega))
    · exact why_gear n px hs.pt.1 (done_no n hx _ _ (by omega))
    · exact why_gear n hr.pt.1 px (done_no2 n hx hr _ (by omega))
    · exact why_gear n px py (done_no n hx _ _ (by omega))
    · exact why_gear n px hs.pt.1 (done_no n hx _ _ (by omega))
    · exact why_gear n hr.pt.1 px (done_no2 n hx hr _ (by omega))
    · exact why_gear n px py (done_no n hx _ _ (by omega))
    · exact why_gear n pn px (done_no2 n hx gn _ (by omega))
    · exact why_gear n px pn (done_no n hx _ _ (by omega))
    · exact why_gear n px p2 (done_no n hx _ _ (by omega))
    · exact why_gear n px po (done_no n hx _ _ (by omega))
    · exact why_gear n px p2 (done_no n hx _ _ (by omega))
    · exact why_gear n px po (done_no n hx _ _ (by omega))) (potS a3 b3) (.sh (.tup (intL r))) (.sh (.tup (intL s))) (.sh x) (.sh y) (.sh o)
  have e0 : d_law_gears_refused = ⟨3, 11, [.par3 5 6 7 false false false (.call i_law_no_gear [.var 0, .var 1]) (.call i_law_no_gear [.var 0, .var 2]) (.call i_law_no_count [.var 0]), .set 3 false (.lst [.cst (.str [103, 101, 97, 114]), .cst (.str []), .cst (.bl false)]), .set 4 true (.lst [.tup [.cst (.int 0), .var 5, .cst (.int 0)], .tup [.cst (.int 1), .var 5, .var 2], .tup [.cst (.int 1), .var 1, .var 5], .tup [.cst (.int 1), .var 5, .var 6], .tup [.cst (.int 2), .var 5, .var 2], .tup [.cst (.int 2), .var 1, .var 5]]), .set 4 true (.bin .add (.var 4) (.lst [.tup [.cst (.int 2), .var 5, .var 6], .tup [.cst (.int 2), .tup [], .var 5], .tup [.cst (.int 2), .var 5, .tup []], .tup [.cst (.int 3), .var 5, .cst (.int 2)], .tup [.cst (.int 3), .var 5, .var 7], .tup [.cst (.int 4), .var 5, .cst (.int 2)]])), .exp (.met .append (.var 4) [.tup [.cst (.int 4), .var 5, .var 7]]), .ret (.blt .all [grC])]⟩ := rfl
  have en : intL [] = [] := rfl
  have hz : szOk 12 = true := by decide
  rw [fn_succ (n + 6) _ _ d_law_gears_refused rfl, e0]
  rw [en] at hc
  unfold gearR at hc
  simp only [List.map_cons, List.map_nil, Ask.d] at hc
  generalize MExp.blt .all [grC] = C at hc ⊢
  generalize intL r = q at hc h1 h2 ⊢
  generalize intL s = q' at hc h1 h2 ⊢
  simp [runDef, execs, exec, tst, ev, evs, callS, lent, noTwice, passAll, passS, backAll, backS, Out.bind, Out.thn, tstR, Rs.see, Rs.hold, holds, Out.of, sees1, sees2, binD, metS, metOk, metO, isMut, obAt, putOb, Ob.d, unbo, SOut.seq, SOut.of, mayPut_eq, mpO_un, mpO_sh, mpO_ow, putR, retR, pasKept, backP, hc, h1, h2, h3, hz]
end Lw
end
section
set_option exponentiation.threshold 300
namespace Lw
open Mi
def T30 : Int := 1000000000000000000000000000000
def p30 : MExp := .bin .pow (.cst (.int 10)) (.cst (.int 30))
theorem p30_ev (Gg : Gs) (e : Env) : ev Gg p30 e = .ok (.d (.int T30)) e := by
  unfold p30
  rw [ml_bin]
  rfl
theorem gd_row {row : List Int} {w : Int} (h1 : (row.length : Int) ≤ 12) (h2 : ∀ x ∈ row, x.natAbs < w.natAbs + 20) (h3 : LastOk row) (hw : w.natAbs < 2 ^ 100) : Gd row :=
  ⟨by omega, fun x hx => by have := h2 x hx; omega, h3⟩
def tB : List MStmt := [.ite (.or_ (.not_ (.call i_law_good_told [.var 4, .var 5])) (.not_ (.call i_law_gears_refused [.var 2, .var 4, .var 5]))) [.ret (.cst (.bl false))] [], .set 6 false (.call i_law_no_count [.var 2]), .ite (.or_ (.cmp .ne (.call i_law_why [.cst (.int 3), .var 4, .var 6]) (.lst [.cst (.str []), .cst (.str [99, 111, 117, 110, 116]), .cst (.bl false)])) (.cmp .ne (.call i_law_why [.cst (.int 4), .var 4, .var 6]) (.lst [.cst (.str []), .cst (.str [99, 111, 117, 110, 116]), .cst (.bl false)]))) [.ret (.cst (.bl false))] [], .ite (.cmp .ne (.call i_law_why [.cst (.int 5), .call i_law_no_list [.var 2, .var 4], .cst (.int 0)]) (.lst [.cst (.str [103, 101, 97, 114]), .cst (.str []), .cst (.bl false)])) [.ret (.cst (.bl false))] []]
theorem tB_ex (n : Nat) {r s : List Int} (hr : Gd r) (hs : Gd s) (s0 s1 s3 s6 : Sl) (m6 : mpO (some s6) = true) (a b : Int) (hb : PB b) :
    ∃ (a' b' : Int) (t6 : Sl), PB b' ∧ mpO (some t6) = true ∧ execs (G (n + 7)) tB [s0, s1, .ow (.lst [.int a, .int b]), s3, .sh (.tup (intL r)), .sh (.tup (intL s)), s6] = .nx [s0, s1, .ow (.lst [.int a', .int b']), s3, .sh (.tup (intL r)), .sh (.tup (intL s)), t6] := by
  have h1 := good_ex n hr hs
  obtain ⟨a1, b1, p1, h2⟩ := gears_ex n hr hs a b hb
  obtain ⟨o, a2, b2, ⟨o1, o2, po⟩, p2, h3⟩ := no_count_ex (n + 4) a1 b1 p1
  obtain ⟨x, a3, b3, ⟨hx, px⟩, p3, h4⟩ := no_list_ex (n + 3) hr a2 b2 p2
  refine ⟨a3, b3, .sh o, p3, rfl, ?_⟩
  have w3 := why_count (n + 1) hr.pt.1 po (done_cnt (n + 1) hr o1 o2 3 (.inl rfl))
  have w4 := why_count (n + 1) hr.pt.1 po (done_cnt (n + 1) hr o1 o2 4 (.inr rfl))
  have w5 := why_gear (n + 1) px ((Sh.int (i := 0) (by decide)).le (by decide)) (done_5 (n + 1) (m := .int 0) (hx (n + 3)))
  have g1 := gear_same
  have g2 := count_same
  unfold dn at w3 w4 w5
  unfold gearR at g1 w5
  unfold countR at g2 w3 w4
  generalize intL r = q at h1 h2 h3 h4 w3 w4 ⊢
  generalize intL s = q' at h1 h2 ⊢
  simp [tB, Ob.d, Rs.hold, holds, execs, exec, tst, ev, evs, callS, lent, noTwice, passAll, passS, backAll, backS, Out.bind, Out.thn, tstR, Rs.see, Out.of, sees1, sees2, cmpS, cmpD, blR, truD, SOut.seq, SOut.of, mayPut_eq, mpO_un, mpO_sh, mpO_ow, putR, m6, h1, h2, h3, h4, w3, w4, w5, g1, g2]
def lB : List MStmt := [.set 2 true (.call i_law_pot [.var 0, .var 1]), .par 4 5 false false (.call i_law_row [.var 2, .cst (.int 12), p30]) (.call i_law_row [.var 2, .cst (.int 12), .cst (.int 10)]), .for_ (.nm 3) (.rng none (.cst (.int 2))) tB, .ite (.not_ (.call i_law_good_told [.var 4, .var 5])) [.ret (.cst (.bl false))] []]
theorem lB_ex (n k : Nat) (hk : k < 64) (ns : List Int) (s2 s3 s4 s5 s6 : Sl) (m2 : mpO (some s2) = true) (m3 : mpO (some s3) = true) (m4 : mpO (some s4) = true) (m5 : mpO (some s5) = true) (m6 : mpO (some s6) = true) :
    ∃ t2 t3 t4 t5 t6 : Sl, mpO (some t2) = true ∧ mpO (some t3) = true ∧ mpO (some t4) = true ∧ mpO (some t5) = true ∧ mpO (some t6) = true ∧ execs (G (n + 7)) lB [.sh (.scr ns), .sh (.int (k : Int)), s2, s3, s4, s5, s6] = .nx [.sh (.scr ns), .sh (.int (k : Int)), t2, t3, t4, t5, t6] := by
  obtain ⟨a0, b0, p0, p0', h0⟩ := pot_of (n + 6) ns k hk
  obtain ⟨r, a1, b1, l1, sm1, z1, p1, h1⟩ := row_ex (n + 4) 12 T30 (by decide) (by decide) (by unfold T30; decide) (Nat.lt_of_lt_of_le (show T30.natAbs < 2 ^ 100 by unfold T30; decide) (Nat.pow_le_pow_right (by decide) (by decide))) a0 b0 ⟨p0, p0'⟩
  obtain ⟨s, a2, b2, l2, sm2, z2, p2, h2⟩ := row_ex (n + 4) 12 10 (by decide) (by decide) (by decide) (lt4000 (by decide)) a1 b1 p1
  have hr : Gd r := gd_row l1 sm1 z1 (by unfold T30; decide)
  have hs : Gd s := gd_row l2 sm2 z2 (by decide)
  obtain ⟨e', hf, a3, b3, t3, t6, p3, m3', m6', q⟩ := exec_for_by (G := G (n + 7)) (t := .nm 3) (it := .rng none (.cst (.int 2))) (b := tB) (e := [.sh (.scr ns), .sh (.int (k : Int)), .ow (.lst [.int a2, .int b2]), s3, .sh (.tup (intL r)), .sh (.tup (intL s)), s6]) (w := .rng 0 2) 2
    (fun k' e => ∃ (a b : Int) (s3 s6 : Sl), PB b ∧ mpO (some s3) = true ∧ mpO (some s6) = true ∧ e = [.sh (.scr ns), .sh (.int (k : Int)), .ow (.lst [.int a, .int b]), s3, .sh (.tup (intL r)), .sh (.tup (intL s)), s6])
    (by simp [evIt, srcL, srcOf, It.slots, Src.slots, It.len, Src.len, partO, It.at_, Src.at_, It.fine, Src.fine, ev, evs, evp, callS, lent, noTwice, passAll, passS, backAll, backS, Out.bind, Out.thn, Rs.see, Rs.hold, holds, Out.of, sees1, sees2, binD, bltS, sees, bltD, Ob.d, obAt, len1S]; decide) rfl rfl ⟨a2, b2, s3, s6, p2, m3, m6, rfl⟩
    (fun k' e hk' ⟨a, b, s3, s6, hb, m3, m6, he⟩ => by
      subst he
      obtain ⟨a', b', t6, p', mt, h⟩ := tB_ex n hr hs (.sh (.scr ns)) (.sh (.int (k : Int))) (.sh (.int (0 + (k' : Nat)))) s6 m6 a b hb
      exact ⟨.int (0 + (k' : Nat)), _, _, rfl, by simp [Tgt.put, mayPut_eq, m3], h, a', b', _, t6, p', rfl, mt, rfl⟩)
    (fun _ _ => rfl)
  subst q
  have hg := good_ex n hr hs
  have hp := p30_ev (G (n + 7))
  refine ⟨.ow (.lst [.int a3, .int b3]), t3, .sh (.tup (intL r)), .sh (.tup (intL s)), t6, rfl, m3', rfl, rfl, m6', ?_⟩
  unfold lB
  generalize hw : MStmt.for_ (.nm 3) (.rng none (.cst (.int 2))) tB = w at hf ⊢
  generalize p30 = P at hp ⊢
  generalize T30 = T at hp h1
  generalize intL r = q at h1 hf hg ⊢
  generalize intL s = q' at h2 hf hg ⊢
  simp [Ob.d, Rs.hold, holds, execs, exec, tst, ev, evs, callS, lent, noTwice, passAll, passS, backAll, backS, Out.bind, Out.thn, tstR, Rs.see, Out.of, sees1, sees2, cmpS, cmpD, blR, truD, SOut.seq, SOut.of, mayPut_eq, mpO_un, mpO_sh, mpO_ow, putR, unbo, m2, m3, m4, m5, m6, h0, h1, h2, hf, hg, hp]
theorem law_ex (n : Nat) (ns : List Int) : ∃ l, (G (n + 8)).fn i_law [.sh (.scr ns)] = .ok (.d (.bl true)) l := by
  obtain ⟨m, hm, hm8⟩ : ∃ m : Nat, (if (if (ns.length : Int) < 8 then (ns.length : Int) else 8) > 1 then (if (ns.length : Int) < 8 then (ns.length : Int) else 8) else 1) = (m : Int) ∧ m ≤ 8 := by
    refine ⟨(if (if (ns.length : Int) < 8 then (ns.length : Int) else 8) > 1 then (if (ns.length : Int) < 8 then (ns.length : Int) else 8) else 1).toNat, ?_, ?_⟩ <;> split <;> split <;> omega
  have hr : rngOk 0 (m : Int) = true := rng_ok (by omega) (by omega)
  have e0 : d_law = ⟨1, 7, [.for_ (.nm 1) (.rng none (.blt .max2 [.cst (.int 1), .blt .min2 [.cst (.int 8), .len1 (.var 0)]])) lB, .ret (.cst (.bl true))]⟩ := rfl
  obtain ⟨e', h, s1, s2, s3, s4, s5, s6, -, -, -, -, -, -, q⟩ := exec_for_by (G := G (n + 7)) (t := .nm 1) (it := .rng none (.blt .max2 [.cst (.int 1), .blt .min2 [.cst (.int 8), .len1 (.var 0)]])) (b := lB) (e := [.sh (.scr ns), .un, .un, .un, .un, .un, .un]) (w := .rng 0 m) m
    (fun k e => ∃ s1 s2 s3 s4 s5 s6 : Sl, mpO (some s1) = true ∧ mpO (some s2) = true ∧ mpO (some s3) = true ∧ mpO (some s4) = true ∧ mpO (some s5) = true ∧ mpO (some s6) = true ∧ e = [.sh (.scr ns), s1, s2, s3, s4, s5, s6])
    (by simp [evIt, srcL, srcOf, It.slots, Src.slots, It.len, Src.len, partO, It.at_, Src.at_, It.fine, Src.fine, ev, evs, evp, callS, lent, noTwice, passAll, passS, backAll, backS, Out.bind, Out.thn, Rs.see, Rs.hold, holds, Out.of, sees1, sees2, binD, bltS, sees, bltD, Ob.d, obAt, len1S, hr, hm]) rfl rfl ⟨.un, .un, .un, .un, .un, .un, rfl, rfl, rfl, rfl, rfl, rfl, rfl⟩
    (fun k e hk ⟨s1, s2, s3, s4, s5, s6, m1, m2, m3, m4, m5, m6, he⟩ => by
      subst he
      obtain ⟨t2, t3, t4, t5, t6, q2, q3, q4, q5, q6, h⟩ := lB_ex n k (by omega) ns s2 s3 s4 s5 s6 m2 m3 m4 m5 m6
      refine ⟨.int (k : Int), [.sh (.scr ns), .sh (.int (k : Int)), s2, s3, s4, s5, s6], _, ?_, ?_, h, _, t2, t3, t4, t5, t6, rfl, q2, q3, q4, q5, q6, rfl⟩
      · show some (D.int (0 + (k : Nat))) = _
        rw [Int.zero_add]
      · simp [Tgt.put, mayPut_eq, m1])
    (fun _ _ => rfl)
  subst q
  rw [fn_succ (n + 7) _ _ d_law rfl, e0]
  refine ⟨[.sh (.scr ns)], ?_⟩
  generalize hw : MStmt.for_ (.nm 1) (.rng none (.blt .max2 [.cst (.int 1), .blt .min2 [.cst (.int 8), .len1 (.var 0)]])) lB = w at h ⊢
  simp [runDef, execs, exec, ev, Out.thn, SOut.seq, retR, pasKept, backP, h]
theorem pure_law (ns : List Int) (h : ns.length ≤ 63) : ∃ l, (G 14).fn i_law [.sh (.scr ns)] = .ok (.d (.bl true)) l := law_ex 6 ns
end Lw
end
namespace Lw
open PySem PySem.Spec PyProof.Rows L2 Mi
def top (i : Nat) : Stmt := PySem.Challenge.pw_farsteps_k37_differences_refused.main.body.getD i (.Pass ⟨0, 0, 0, 0⟩)
def anL : List Str := ["__eq__", "__len__", "__str__", "__repr__"]
def Tt (K : PySem.W.Frag) : Tb := ⟨K, anT anL, fun i => match i with
  | 0 => He.ga K "NoDifferences"
  | 1 => He.ga K "NoCount"
  | 2 => He.ga K "FarError"
  | 3 => He.ga K "NoLeap"
  | 4 => He.ga K "NoMoment"
  | 5 => He.ga K "NoPatch"
  | 6 => He.ga K "NoProgram"
  | 7 => He.ga K "NoText"
  | 8 => He.ga K "NoValues"
  | _ => 0, fun i j h => an_inj anL (by decide +kernel) (by decide +kernel) i j h, none⟩
abbrev Bm_NoDifferences : List Value := [.type "ValueError", .type "Exception", .type "BaseException", .type "object"]
theorem Fx_NoDifferences : ExcBaseFacts "ValueError" "ValueError.__new__" "ValueError.__init__" Bm_NoDifferences := PySem.F.excBase_ValueError
abbrev Bm_NoCount : List Value := [.type "ValueError", .type "Exception", .type "BaseException", .type "object"]
theorem Fx_NoCount : ExcBaseFacts "ValueError" "ValueError.__new__" "ValueError.__init__" Bm_NoCount := PySem.F.excBase_ValueError
theorem isa_n (n : Nat) : (G n).isa = isaF := by cases n <;> rfl
theorem isn {k : Nat} {Q : Nat → Bool → Prop} (n : Nat) (h : ∀ c b, isaF c k = some b → Q c b) (c : Nat) (b : Bool) (e : (G n).isa c k = some b) : Q c b := h c b (by rw [← isa_n n]; exact e)
theorem isf {k : Nat} {Q : Nat → Prop} (n : Nat) (h : ∀ c, isaF c k = some true → Q c) (c : Nat) (e : (G n).isa c k = some true) : Q c := h c (by rw [← isa_n n]; exact e)
abbrev st_is_whole_rows : Stmt := top 11
abbrev sc_is_whole_rows : Scope := defScope st_is_whole_rows
abbrev N_is_whole_rows : List Str := ["thing"]
abbrev P_is_whole_rows : List Str := ["thing"]
abbrev Fd_is_whole_rows (K : PySem.W.Frag) (f : Addr) (fd : FuncData) : Prop := FunD K "is_whole" "is_whole" (defArgs st_is_whole_rows) (defBody st_is_whole_rows) sc_is_whole_rows [] [] f fd
theorem S_is_whole_rows : FnScope N_is_whole_rows P_is_whole_rows sc_is_whole_rows := ⟨rfl, rfl, rfl, by decide +kernel, rfl, by decide +kernel, by decide +kernel⟩
abbrev st_is_count : Stmt := top 13
abbrev sc_is_count : Scope := defScope st_is_count
abbrev N_is_count : List Str := ["thing"]
abbrev P_is_count : List Str := ["thing"]
abbrev Fd_is_count (K : PySem.W.Frag) (f : Addr) (fd : FuncData) : Prop := FunD K "is_count" "is_count" (defArgs st_is_count) (defBody st_is_count) sc_is_count [] [] f fd
theorem S_is_count : FnScope N_is_count P_is_count sc_is_count := ⟨rfl, rfl, rfl, by decide +kernel, rfl, by decide +kernel, by decide +kernel⟩
abbrev st_is_whole_differences : Stmt := top 15
abbrev sc_is_whole_differences : Scope := defScope st_is_whole_differences
abbrev N_is_whole_differences : List Str := ["thing"]
abbrev P_is_whole_differences : List Str := ["thing"]
abbrev Fd_is_whole_differences (K : PySem.W.Frag) (f : Addr) (fd : FuncData) : Prop := FunD K "is_whole" "is_whole" (defArgs st_is_whole_differences) (defBody st_is_whole_differences) sc_is_whole_differences [] [] f fd
theorem S_is_whole_differences : FnScope N_is_whole_differences P_is_whole_differences sc_is_whole_differences := ⟨rfl, rfl, rfl, by decide +kernel, rfl, by decide +kernel, by decide +kernel⟩
abbrev st_is_differences : Stmt := top 17
abbrev sc_is_differences : Scope := defScope st_is_differences
abbrev N_is_differences : List Str := ["thing", "one"]
abbrev P_is_differences : List Str := ["thing"]
abbrev Fd_is_differences (K : PySem.W.Frag) (f : Addr) (fd : FuncData) : Prop := FunD K "is_differences" "is_differences" (defArgs st_is_differences) (defBody st_is_differences) sc_is_differences [] [] f fd
theorem S_is_differences : FnScope N_is_differences P_is_differences sc_is_differences := ⟨rfl, rfl, rfl, by decide +kernel, rfl, by decide +kernel, by decide +kernel⟩
abbrev st_want_differences : Stmt := top 18
abbrev sc_want_differences : Scope := defScope st_want_differences
abbrev N_want_differences : List Str := ["thing"]
abbrev P_want_differences : List Str := ["thing"]
abbrev Fd_want_differences (K : PySem.W.Frag) (f : Addr) (fd : FuncData) : Prop := FunD K "want_differences" "want_differences" (defArgs st_want_differences) (defBody st_want_differences) sc_want_differences [] [] f fd
theorem S_want_differences : FnScope N_want_differences P_want_differences sc_want_differences := ⟨rfl, rfl, rfl, by decide +kernel, rfl, by decide +kernel, by decide +kernel⟩
abbrev st_trimmed : Stmt := top 19
abbrev sc_trimmed : Scope := defScope st_trimmed
abbrev N_trimmed : List Str := ["numbers", "many"]
abbrev P_trimmed : List Str := ["numbers"]
abbrev Fd_trimmed (K : PySem.W.Frag) (f : Addr) (fd : FuncData) : Prop := FunD K "trimmed" "trimmed" (defArgs st_trimmed) (defBody st_trimmed) sc_trimmed [] [] f fd
theorem S_trimmed : FnScope N_trimmed P_trimmed sc_trimmed := ⟨rfl, rfl, rfl, by decide +kernel, rfl, by decide +kernel, by decide +kernel⟩
abbrev st_worth : Stmt := top 20
abbrev sc_worth : Scope := defScope st_worth
abbrev N_worth : List Str := ["row", "place", "found", "ways", "at", "number"]
abbrev P_worth : List Str := ["row", "place"]
abbrev Fd_worth (K : PySem.W.Frag) (f : Addr) (fd : FuncData) : Prop := FunD K "worth" "worth" (defArgs st_worth) (defBody st_worth) sc_worth [] [] f fd
theorem S_worth : FnScope N_worth P_worth sc_worth := ⟨rfl, rfl, rfl, by decide +kernel, rfl, by decide +kernel, by decide +kernel⟩
abbrev st_differences_of : Stmt := top 21
abbrev sc_differences_of : Scope := defScope st_differences_of
abbrev N_differences_of : List Str := ["values", "found", "left", "first", "rest", "one", "later"]
abbrev P_differences_of : List Str := ["values"]
abbrev Fd_differences_of (K : PySem.W.Frag) (f : Addr) (fd : FuncData) : Prop := FunD K "differences_of" "differences_of" (defArgs st_differences_of) (defBody st_differences_of) sc_differences_of [] [] f fd
theorem S_differences_of : FnScope N_differences_of P_differences_of sc_differences_of := ⟨rfl, rfl, rfl, by decide +kernel, rfl, by decide +kernel, by decide +kernel⟩
abbrev st_summed_up : Stmt := top 22
abbrev sc_summed_up : Scope := defScope st_summed_up
abbrev N_summed_up : List Str := ["row"]
abbrev P_summed_up : List Str := ["row"]
abbrev Fd_summed_up (K : PySem.W.Frag) (f : Addr) (fd : FuncData) : Prop := FunD K "summed_up" "summed_up" (defArgs st_summed_up) (defBody st_summed_up) sc_summed_up [] [] f fd
theorem S_summed_up : FnScope N_summed_up P_summed_up sc_summed_up := ⟨rfl, rfl, rfl, by decide +kernel, rfl, by decide +kernel, by decide +kernel⟩
abbrev st_sum_of : Stmt := top 23
abbrev sc_sum_of : Scope := defScope st_sum_of
abbrev N_sum_of : List Str := ["one", "other", "least", "both", "number", "more"]
abbrev P_sum_of : List Str := ["one", "other"]
abbrev Fd_sum_of (K : PySem.W.Frag) (f : Addr) (fd : FuncData) : Prop := FunD K "sum_of" "sum_of" (defArgs st_sum_of) (defBody st_sum_of) sc_sum_of [] [] f fd
theorem S_sum_of : FnScope N_sum_of P_sum_of sc_sum_of := ⟨rfl, rfl, rfl, by decide +kernel, rfl, by decide +kernel, by decide +kernel⟩
abbrev st_product_of : Stmt := top 24
abbrev sc_product_of : Scope := defScope st_product_of
abbrev N_product_of : List Str := ["one", "other", "place"]
abbrev P_product_of : List Str := ["one", "other"]
abbrev Fd_product_of (K : PySem.W.Frag) (f : Addr) (fd : FuncData) : Prop := FunD K "product_of" "product_of" (defArgs st_product_of) (defBody st_product_of) sc_product_of [] [] f fd
theorem S_product_of : FnScope N_product_of P_product_of sc_product_of := ⟨rfl, rfl, rfl, by decide +kernel, rfl, by decide +kernel, by decide +kernel⟩
abbrev st_moved_by : Stmt := top 25
abbrev sc_moved_by : Scope := defScope st_moved_by
abbrev N_moved_by : List Str := ["row", "by", "at"]
abbrev P_moved_by : List Str := ["row", "by"]
abbrev Fd_moved_by (K : PySem.W.Frag) (f : Addr) (fd : FuncData) : Prop := FunD K "moved_by" "moved_by" (defArgs st_moved_by) (defBody st_moved_by) sc_moved_by [] [] f fd
theorem S_moved_by : FnScope N_moved_by P_moved_by sc_moved_by := ⟨rfl, rfl, rfl, by decide +kernel, rfl, by decide +kernel, by decide +kernel⟩
abbrev st_far_enough : Stmt := top 27
abbrev sc_far_enough : Scope := defScope st_far_enough
abbrev N_far_enough : List Str := ["row", "goal", "upto", "low", "high"]
abbrev P_far_enough : List Str := ["row", "goal", "upto"]
abbrev Fd_far_enough (K : PySem.W.Frag) (f : Addr) (fd : FuncData) : Prop := FunD K "far_enough" "far_enough" (defArgs st_far_enough) (defBody st_far_enough) sc_far_enough [] [] f fd
theorem S_far_enough : FnScope N_far_enough P_far_enough sc_far_enough := ⟨rfl, rfl, rfl, by decide +kernel, rfl, by decide +kernel, by decide +kernel⟩
abbrev st_halved : Stmt := top 28
abbrev sc_halved : Scope := defScope st_halved
abbrev N_halved : List Str := ["row", "goal", "low", "high", "middle"]
abbrev P_halved : List Str := ["row", "goal", "low", "high"]
abbrev Fd_halved (K : PySem.W.Frag) (f : Addr) (fd : FuncData) : Prop := FunD K "halved" "halved" (defArgs st_halved) (defBody st_halved) sc_halved [] [] f fd
theorem S_halved : FnScope N_halved P_halved sc_halved := ⟨rfl, rfl, rfl, by decide +kernel, rfl, by decide +kernel, by decide +kernel⟩
abbrev st_least_at : Stmt := top 29
abbrev sc_least_at : Scope := defScope st_least_at
abbrev N_least_at : List Str := ["row", "goal", "upto", "low", "high"]
abbrev P_least_at : List Str := ["row", "goal", "upto"]
abbrev Fd_least_at (K : PySem.W.Frag) (f : Addr) (fd : FuncData) : Prop := FunD K "least_at" "least_at" (defArgs st_least_at) (defBody st_least_at) sc_least_at [] [] f fd
theorem S_least_at : FnScope N_least_at P_least_at sc_least_at := ⟨rfl, rfl, rfl, by decide +kernel, rfl, by decide +kernel, by decide +kernel⟩
abbrev st_law_pot : Stmt := top 31
abbrev sc_law_pot : Scope := defScope st_law_pot
abbrev N_law_pot : List Str := ["_law_script", "_law_k", "_law_cell"]
abbrev P_law_pot : List Str := ["_law_script", "_law_k"]
abbrev Fd_law_pot (K : PySem.W.Frag) (f : Addr) (fd : FuncData) : Prop := FunD K "_law_pot" "_law_pot" (defArgs st_law_pot) (defBody st_law_pot) sc_law_pot [] [] f fd
theorem S_law_pot : FnScope N_law_pot P_law_pot sc_law_pot := ⟨rfl, rfl, rfl, by decide +kernel, rfl, by decide +kernel, by decide +kernel⟩
abbrev st_law_take : Stmt := top 32
abbrev sc_law_take : Scope := defScope st_law_take
abbrev N_law_take : List Str := ["_law_pot_here", "_law_wide", "_law_digit"]
abbrev P_law_take : List Str := ["_law_pot_here", "_law_wide"]
abbrev Fd_law_take (K : PySem.W.Frag) (f : Addr) (fd : FuncData) : Prop := FunD K "_law_take" "_law_take" (defArgs st_law_take) (defBody st_law_take) sc_law_take [] [] f fd
theorem S_law_take : FnScope N_law_take P_law_take sc_law_take := ⟨rfl, rfl, rfl, by decide +kernel, rfl, by decide +kernel, by decide +kernel⟩
abbrev st_law_one : Stmt := top 33
abbrev sc_law_one : Scope := defScope st_law_one
abbrev N_law_one : List Str := ["_law_pot_here", "_law_some"]
abbrev P_law_one : List Str := ["_law_pot_here", "_law_some"]
abbrev Fd_law_one (K : PySem.W.Frag) (f : Addr) (fd : FuncData) : Prop := FunD K "_law_one" "_law_one" (defArgs st_law_one) (defBody st_law_one) sc_law_one [] [] f fd
theorem S_law_one : FnScope N_law_one P_law_one sc_law_one := ⟨rfl, rfl, rfl, by decide +kernel, rfl, by decide +kernel, by decide +kernel⟩
abbrev st_law_whole : Stmt := top 34
abbrev sc_law_whole : Scope := defScope st_law_whole
abbrev N_law_whole : List Str := ["_law_pot_here", "_law_beyond", "_law_size"]
abbrev P_law_whole : List Str := ["_law_pot_here", "_law_beyond"]
abbrev Fd_law_whole (K : PySem.W.Frag) (f : Addr) (fd : FuncData) : Prop := FunD K "_law_whole" "_law_whole" (defArgs st_law_whole) (defBody st_law_whole) sc_law_whole [] [] f fd
theorem S_law_whole : FnScope N_law_whole P_law_whole sc_law_whole := ⟨rfl, rfl, rfl, by decide +kernel, rfl, by decide +kernel, by decide +kernel⟩
abbrev st_law_row : Stmt := top 35
abbrev sc_law_row : Scope := defScope st_law_row
abbrev N_law_row : List Str := ["_law_pot_here", "_law_most", "_law_beyond", "_law_numbers", "_law_k"]
abbrev P_law_row : List Str := ["_law_pot_here", "_law_most", "_law_beyond"]
abbrev Fd_law_row (K : PySem.W.Frag) (f : Addr) (fd : FuncData) : Prop := FunD K "_law_row" "_law_row" (defArgs st_law_row) (defBody st_law_row) sc_law_row [] [] f fd
theorem S_law_row : FnScope N_law_row P_law_row sc_law_row := ⟨rfl, rfl, rfl, by decide +kernel, rfl, by decide +kernel, by decide +kernel⟩
abbrev st_law_odd : Stmt := top 36
abbrev sc_law_odd : Scope := defScope st_law_odd
abbrev N_law_odd : List Str := ["_law_pot_here"]
abbrev P_law_odd : List Str := ["_law_pot_here"]
abbrev Fd_law_odd (K : PySem.W.Frag) (f : Addr) (fd : FuncData) : Prop := FunD K "_law_odd" "_law_odd" (defArgs st_law_odd) (defBody st_law_odd) sc_law_odd [] [] f fd
theorem S_law_odd : FnScope N_law_odd P_law_odd sc_law_odd := ⟨rfl, rfl, rfl, by decide +kernel, rfl, by decide +kernel, by decide +kernel⟩
abbrev st_law_no_gear : Stmt := top 37
abbrev sc_law_no_gear : Scope := defScope st_law_no_gear
abbrev N_law_no_gear : List Str := ["_law_pot_here", "_law_gear", "_law_numbers", "_law_spot", "_law_some"]
abbrev P_law_no_gear : List Str := ["_law_pot_here", "_law_gear"]
abbrev Fd_law_no_gear (K : PySem.W.Frag) (f : Addr) (fd : FuncData) : Prop := FunD K "_law_no_gear" "_law_no_gear" (defArgs st_law_no_gear) (defBody st_law_no_gear) sc_law_no_gear [] [] f fd
theorem S_law_no_gear : FnScope N_law_no_gear P_law_no_gear sc_law_no_gear := ⟨rfl, rfl, rfl, by decide +kernel, rfl, by decide +kernel, by decide +kernel⟩
abbrev st_law_no_list : Stmt := top 38
abbrev sc_law_no_list : Scope := defScope st_law_no_list
abbrev N_law_no_list : List Str := ["_law_pot_here", "_law_gear", "_law_numbers", "_law_spot", "_law_some"]
abbrev P_law_no_list : List Str := ["_law_pot_here", "_law_gear"]
abbrev Fd_law_no_list (K : PySem.W.Frag) (f : Addr) (fd : FuncData) : Prop := FunD K "_law_no_list" "_law_no_list" (defArgs st_law_no_list) (defBody st_law_no_list) sc_law_no_list [] [] f fd
theorem S_law_no_list : FnScope N_law_no_list P_law_no_list sc_law_no_list := ⟨rfl, rfl, rfl, by decide +kernel, rfl, by decide +kernel, by decide +kernel⟩
abbrev st_law_no_count : Stmt := top 39
abbrev sc_law_no_count : Scope := defScope st_law_no_count
abbrev N_law_no_count : List Str := ["_law_pot_here", "_law_far"]
abbrev P_law_no_count : List Str := ["_law_pot_here"]
abbrev Fd_law_no_count (K : PySem.W.Frag) (f : Addr) (fd : FuncData) : Prop := FunD K "_law_no_count" "_law_no_count" (defArgs st_law_no_count) (defBody st_law_no_count) sc_law_no_count [] [] f fd
theorem S_law_no_count : FnScope N_law_no_count P_law_no_count sc_law_no_count := ⟨rfl, rfl, rfl, by decide +kernel, rfl, by decide +kernel, by decide +kernel⟩
abbrev st_law_done : Stmt := top 40
abbrev sc_law_done : Scope := defScope st_law_done
abbrev N_law_done : List Str := ["_law_way", "_law_piece", "_law_mate"]
abbrev P_law_done : List Str := ["_law_way", "_law_piece", "_law_mate"]
abbrev Fd_law_done (K : PySem.W.Frag) (f : Addr) (fd : FuncData) : Prop := FunD K "_law_done" "_law_done" (defArgs st_law_done) (defBody st_law_done) sc_law_done [] [] f fd
theorem S_law_done : FnScope N_law_done P_law_done sc_law_done := ⟨rfl, rfl, rfl, by decide +kernel, rfl, by decide +kernel, by decide +kernel⟩
abbrev st_law_why : Stmt := top 41
abbrev sc_law_why : Scope := defScope st_law_why
abbrev N_law_why : List Str := ["_law_way", "_law_piece", "_law_mate", "_law_told", "_law_shown", "e", "_law_others"]
abbrev P_law_why : List Str := ["_law_way", "_law_piece", "_law_mate"]
abbrev Fd_law_why (K : PySem.W.Frag) (f : Addr) (fd : FuncData) : Prop := FunD K "_law_why" "_law_why" (defArgs st_law_why) (defBody st_law_why) sc_law_why [] [] f fd
theorem S_law_why : FnScope N_law_why P_law_why sc_law_why := ⟨rfl, rfl, rfl, by decide +kernel, rfl, by decide +kernel, by decide +kernel⟩
abbrev st_law_gears_refused : Stmt := top 42
abbrev sc_law_gears_refused : Scope := defScope st_law_gears_refused
abbrev N_law_gears_refused : List Str := ["_law_pot_here", "_law_good", "_law_mate", "_law_due", "_law_asked", "_law_bad", "_law_worse", "_law_odd_here", "_law_way", "_law_piece", "_law_more"]
abbrev P_law_gears_refused : List Str := ["_law_pot_here", "_law_good", "_law_mate"]
abbrev Fd_law_gears_refused (K : PySem.W.Frag) (f : Addr) (fd : FuncData) : Prop := FunD K "_law_gears_refused" "_law_gears_refused" (defArgs st_law_gears_refused) (defBody st_law_gears_refused) sc_law_gears_refused [] [] f fd
theorem S_law_gears_refused : FnScope N_law_gears_refused P_law_gears_refused sc_law_gears_refused := ⟨rfl, rfl, rfl, by decide +kernel, rfl, by decide +kernel, by decide +kernel⟩
abbrev st_law_good_told : Stmt := top 43
abbrev sc_law_good_told : Scope := defScope st_law_good_told
abbrev N_law_good_told : List Str := ["_law_good", "_law_mate", "_law_asked", "_law_way", "_law_piece", "_law_more"]
abbrev P_law_good_told : List Str := ["_law_good", "_law_mate"]
abbrev Fd_law_good_told (K : PySem.W.Frag) (f : Addr) (fd : FuncData) : Prop := FunD K "_law_good_told" "_law_good_told" (defArgs st_law_good_told) (defBody st_law_good_told) sc_law_good_told [] [] f fd
theorem S_law_good_told : FnScope N_law_good_told P_law_good_told sc_law_good_told := ⟨rfl, rfl, rfl, by decide +kernel, rfl, by decide +kernel, by decide +kernel⟩
abbrev st_law : Stmt := top 44
abbrev sc_law : Scope := defScope st_law
abbrev N_law : List Str := ["_law_script", "_law_k", "_law_pot_here", "_law_turn", "_law_good", "_law_mate", "_law_odd_here"]
abbrev P_law : List Str := ["_law_script"]
abbrev Fd_law (K : PySem.W.Frag) (f : Addr) (fd : FuncData) : Prop := FunD K "law" "law" (defArgs st_law) (defBody st_law) sc_law [] [] f fd
theorem S_law : FnScope N_law P_law sc_law := ⟨rfl, rfl, rfl, by decide +kernel, rfl, by decide +kernel, by decide +kernel⟩
structure Bs_ (mg : Str → Option Value) : Prop where
  b_ValueError : mg "ValueError" = none
  b_abs : mg "abs" = none
  b_all : mg "all" = none
  b_bool : mg "bool" = none
  b_divmod : mg "divmod" = none
  b_enumerate : mg "enumerate" = none
  b_int : mg "int" = none
  b_isinstance : mg "isinstance" = none
  b_len : mg "len" = none
  b_list : mg "list" = none
  b_max : mg "max" = none
  b_min : mg "min" = none
  b_range : mg "range" = none
  b_repr : mg "repr" = none
  b_tuple : mg "tuple" = none
  b_zip : mg "zip" = none
structure Zs_ (K : PySem.W.Frag) (mg : Str → Option Value) : Prop where
  sm : Sm (Tt K).K
  xa_NoDifferences : mg "NoDifferences" = some (.ref ((Tt K).cA 0))
  xa_NoCount : mg "NoCount" = some (.ref ((Tt K).cA 1))
  xa_FarError : mg "FarError" = some (.ref ((Tt K).cA 2))
  xa_NoLeap : mg "NoLeap" = some (.ref ((Tt K).cA 3))
  xa_NoMoment : mg "NoMoment" = some (.ref ((Tt K).cA 4))
  xa_NoPatch : mg "NoPatch" = some (.ref ((Tt K).cA 5))
  xa_NoProgram : mg "NoProgram" = some (.ref ((Tt K).cA 6))
  xa_NoText : mg "NoText" = some (.ref ((Tt K).cA 7))
  xa_NoValues : mg "NoValues" = some (.ref ((Tt K).cA 8))
  x0_NoDifferences : Ex0 K ((Tt K).cA 0) Bm_NoDifferences "ValueError.__new__"
  x0_NoCount : Ex0 K ((Tt K).cA 1) Bm_NoCount "ValueError.__new__"
  xi_NoLeap : ∀ c b, isaF c x_NoLeap = some b → ExcC K ((Tt K).cA c) ∧ PySem.W.kitOne K (.ref ((Tt K).cA c)) (.ref ((Tt K).cA 3)) = some b
  xi_NoMoment : ∀ c b, isaF c x_NoMoment = some b → ExcC K ((Tt K).cA c) ∧ PySem.W.kitOne K (.ref ((Tt K).cA c)) (.ref ((Tt K).cA 4)) = some b
  xi_NoPatch : ∀ c b, isaF c x_NoPatch = some b → ExcC K ((Tt K).cA c) ∧ PySem.W.kitOne K (.ref ((Tt K).cA c)) (.ref ((Tt K).cA 5)) = some b
  xi_NoProgram : ∀ c b, isaF c x_NoProgram = some b → ExcC K ((Tt K).cA c) ∧ PySem.W.kitOne K (.ref ((Tt K).cA c)) (.ref ((Tt K).cA 6)) = some b
  xi_NoText : ∀ c b, isaF c x_NoText = some b → ExcC K ((Tt K).cA c) ∧ PySem.W.kitOne K (.ref ((Tt K).cA c)) (.ref ((Tt K).cA 7)) = some b
  xi_NoValues : ∀ c b, isaF c x_NoValues = some b → ExcC K ((Tt K).cA c) ∧ PySem.W.kitOne K (.ref ((Tt K).cA c)) (.ref ((Tt K).cA 8)) = some b
  xi_ValueError : ∀ c b, isaF c x_ValueError = some b → ExcC K ((Tt K).cA c) ∧ PySem.W.kitOne K (.ref ((Tt K).cA c)) (.type "ValueError") = some b
  xi_NoDifferences : ∀ c b, isaF c x_NoDifferences = some b → ExcC K ((Tt K).cA c) ∧ PySem.W.kitOne K (.ref ((Tt K).cA c)) (.ref ((Tt K).cA 0)) = some b
  xi_NoCount : ∀ c b, isaF c x_NoCount = some b → ExcC K ((Tt K).cA c) ∧ PySem.W.kitOne K (.ref ((Tt K).cA c)) (.ref ((Tt K).cA 1)) = some b
  xm_FarError : ∀ c b, isaF c x_FarError = some b → PySem.W.exmOne K (.ref ((Tt K).cA c)) (.ref ((Tt K).cA 2)) = some b
theorem clsok {K : PySem.W.Frag} {mg : Str → Option Value} (Z : Zs_ K mg) (n : Nat) : ClsOk (Tt K) (G n) := by
  have go : ∀ c f, freeF c f = true → False := fun c f h => by
    unfold freeF at h
    simp at h
  have e : ∀ c f, (G n).free c f = freeF c f := fun c f => by cases n <;> rfl
  exact ⟨fun c f h => (go c f (by rw [← e]; exact h)).elim, fun c f h => (go c f (by rw [← e]; exact h)).elim⟩
structure Xs_ (K : PySem.W.Frag) (mg : Str → Option Value) : Prop where
structure Cs (P : Program) (w : World) (K : PySem.W.Frag) (mg : Str → Option Value) (base : Heap) (n : Nat) : Prop where
  c_is_whole_rows : CalG P w K mg base (Tt K) ((G n).fn i_is_whole_rows) (n + 2) 1 "is_whole_rows" 1 [] (List.range 1) []
  c_is_count : CalG P w K mg base (Tt K) ((G n).fn i_is_count) (n + 2) 1 "is_count" 1 [] (List.range 1) []
  c_is_whole_differences : CalG P w K mg base (Tt K) ((G n).fn i_is_whole_differences) (n + 2) 1 "is_whole_differences" 1 [] (List.range 1) []
  c_is_differences : CalG P w K mg base (Tt K) ((G n).fn i_is_differences) (n + 2) 1 "is_differences" 1 [] (List.range 1) []
  c_want_differences : CalG P w K mg base (Tt K) ((G n).fn i_want_differences) (n + 2) 1 "want_differences" 1 [] (List.range 1) []
  c_trimmed : CalG P w K mg base (Tt K) ((G n).fn i_trimmed) (n + 2) 1 "trimmed" 1 [] (List.range 1) []
  c_worth : CalG P w K mg base (Tt K) ((G n).fn i_worth) (n + 2) 2 "worth" 2 [] (List.range 2) []
  c_differences_of : CalG P w K mg base (Tt K) ((G n).fn i_differences_of) (n + 2) 1 "differences_of" 1 [] (List.range 1) []
  c_summed_up : CalG P w K mg base (Tt K) ((G n).fn i_summed_up) (n + 2) 1 "summed_up" 1 [] (List.range 1) []
  c_sum_of : CalG P w K mg base (Tt K) ((G n).fn i_sum_of) (n + 2) 2 "sum_of" 2 [] (List.range 2) []
  c_product_of : CalG P w K mg base (Tt K) ((G n).fn i_product_of) (n + 2) 2 "product_of" 2 [] (List.range 2) []
  c_moved_by : CalG P w K mg base (Tt K) ((G n).fn i_moved_by) (n + 2) 2 "moved_by" 2 [] (List.range 2) []
  c_far_enough : CalG P w K mg base (Tt K) ((G n).fn i_far_enough) (n + 2) 3 "far_enough" 3 [] (List.range 3) []
  c_halved : CalG P w K mg base (Tt K) ((G n).fn i_halved) (n + 2) 4 "halved" 4 [] (List.range 4) []
  c_law_pot : CalG P w K mg base (Tt K) ((G n).fn i_law_pot) (n + 2) 2 "_law_pot" 2 [] (List.range 2) []
  c_law_take : CalG P w K mg base (Tt K) ((G n).fn i_law_take) (n + 2) 2 "_law_take" 2 [] (List.range 2) []
  c_law_one : CalG P w K mg base (Tt K) ((G n).fn i_law_one) (n + 2) 2 "_law_one" 2 [] (List.range 2) []
  c_law_whole : CalG P w K mg base (Tt K) ((G n).fn i_law_whole) (n + 2) 2 "_law_whole" 2 [] (List.range 2) []
  c_law_row : CalG P w K mg base (Tt K) ((G n).fn i_law_row) (n + 2) 3 "_law_row" 3 [] (List.range 3) []
  c_law_odd : CalG P w K mg base (Tt K) ((G n).fn i_law_odd) (n + 2) 1 "_law_odd" 1 [] (List.range 1) []
  c_law_no_gear : CalG P w K mg base (Tt K) ((G n).fn i_law_no_gear) (n + 2) 2 "_law_no_gear" 2 [] (List.range 2) []
  c_law_no_list : CalG P w K mg base (Tt K) ((G n).fn i_law_no_list) (n + 2) 2 "_law_no_list" 2 [] (List.range 2) []
  c_law_no_count : CalG P w K mg base (Tt K) ((G n).fn i_law_no_count) (n + 2) 1 "_law_no_count" 1 [] (List.range 1) []
  c_law_done : CalG P w K mg base (Tt K) ((G n).fn i_law_done) (n + 2) 3 "_law_done" 3 [] (List.range 3) []
  c_law_why : CalG P w K mg base (Tt K) ((G n).fn i_law_why) (n + 2) 3 "_law_why" 3 [] (List.range 3) []
  c_law_gears_refused : CalG P w K mg base (Tt K) ((G n).fn i_law_gears_refused) (n + 2) 3 "_law_gears_refused" 3 [] (List.range 3) []
  c_law_good_told : CalG P w K mg base (Tt K) ((G n).fn i_law_good_told) (n + 2) 2 "_law_good_told" 2 [] (List.range 2) []
  c_law : CalG P w K mg base (Tt K) ((G n).fn i_law) (n + 2) 1 "law" 1 [] (List.range 1) []
  k_differences_of_0_values : CalG P w K mg base (Tt K) ((G n).fn i_differences_of) (n + 2) 1 "differences_of" 0 ["values"] [0] []
  k_least_at_2_upto : CalG P w K mg base (Tt K) ((G n).fn i_least_at) (n + 2) 3 "least_at" 2 ["upto"] [0, 1, 2] []
  k_product_of_0_one_other : CalG P w K mg base (Tt K) ((G n).fn i_product_of) (n + 2) 2 "product_of" 0 ["one", "other"] [0, 1] []
  l_len : ∀ c f, (G n).meth c 1 = some f → CalS P w K mg base (Tt K) ((G n).fn f) (n + 2) c "__len__"
section
variable {P : Program} {w : World} {K : PySem.W.Frag} {mg : Str → Option Value} {base : Heap} {n : Nat} {f : Addr} {fd : FuncData}
theorem ok_is_whole_rows (B : Bs_ mg) (Z : Zs_ K mg) (Co : Cs P w K mg base n) (F : Fd_is_whole_rows K f fd) : FnG P w K mg base (n + 3) f fd P_is_whole_rows (SpF (Tt K) 1 ((G (n + 1)).fn i_is_whole_rows)) :=
  fn_okG0 (T := Tt K) (G := G n) (d := d_is_whole_rows) (N := N_is_whole_rows) F S_is_whole_rows rfl rfl rfl Z.sm fun cdv A outer s H E c hr =>
    pss0 <| show PSs _ _ (rdS (Tt K) (WD E) (MStmt.sts b_is_whole_rows) (execs (G n) b_is_whole_rows)) from
    (ss_cons (s_ret (r_and (r_isk c.ok.toCk B.b_isinstance B.b_int (by decide +kernel) (r_var)) (r_one (r_not c.ok.toCk (r_isk c.ok.toCk B.b_isinstance B.b_bool (by decide +kernel) (r_var)))))) ss_nil)
theorem ok_is_count (B : Bs_ mg) (Z : Zs_ K mg) (Co : Cs P w K mg base n) (F : Fd_is_count K f fd) : FnG P w K mg base (n + 3) f fd P_is_count (SpF (Tt K) 1 ((G (n + 1)).fn i_is_count)) :=
  fn_okG0 (T := Tt K) (G := G n) (d := d_is_count) (N := N_is_count) F S_is_count rfl rfl rfl Z.sm fun cdv A outer s H E c hr =>
    pss0 <| show PSs _ _ (rdS (Tt K) (WD E) (MStmt.sts b_is_count) (execs (G n) b_is_count)) from
    (ss_cons (s_ret (r_and (r_callG c Co.c_is_whole_rows hr rfl (a_cons (r_var) a_nil)) (r_one (r_cmp c.ok.toCk .ge (r_var) r_int)))) ss_nil)
theorem ok_is_whole_differences (B : Bs_ mg) (Z : Zs_ K mg) (Co : Cs P w K mg base n) (F : Fd_is_whole_differences K f fd) : FnG P w K mg base (n + 3) f fd P_is_whole_differences (SpF (Tt K) 1 ((G (n + 1)).fn i_is_whole_differences)) :=
  fn_okG0 (T := Tt K) (G := G n) (d := d_is_whole_differences) (N := N_is_whole_differences) F S_is_whole_differences rfl rfl rfl Z.sm fun cdv A outer s H E c hr =>
    pss0 <| show PSs _ _ (rdS (Tt K) (WD E) (MStmt.sts b_is_whole_differences) (execs (G n) b_is_whole_differences)) from
    (ss_cons (s_ret (r_and (r_isk c.ok.toCk B.b_isinstance B.b_int (by decide +kernel) (r_var)) (r_one (r_not c.ok.toCk (r_isk c.ok.toCk B.b_isinstance B.b_bool (by decide +kernel) (r_var)))))) ss_nil)
theorem ok_is_differences (B : Bs_ mg) (Z : Zs_ K mg) (Co : Cs P w K mg base n) (F : Fd_is_differences K f fd) : FnG P w K mg base (n + 3) f fd P_is_differences (SpF (Tt K) 1 ((G (n + 1)).fn i_is_differences)) :=
  fn_okG0 (T := Tt K) (G := G n) (d := d_is_differences) (N := N_is_differences) F S_is_differences rfl rfl rfl Z.sm fun cdv A outer s H E c hr =>
    pss0 <| show PSs _ _ (rdS (Tt K) (WD E) (MStmt.sts b_is_differences) (execs (G n) b_is_differences)) from
    (ss_cons (s_if (t_w (t_or (t_not (t_val c.ok.toCk (r_isk c.ok.toCk B.b_isinstance B.b_tuple (by decide +kernel) (r_var)))) (t_or1 (t_not (t_val c.ok.toCk (r_blt c.ok .all B.b_all (by decide +kernel) (a_cons (r_comp c.ok [("one", 1)] (i_seq c.ok.toCk (r_var)) (blkOk_by (N := N_is_differences) (sc := sc_is_differences) (by decide +kernel)) (fun _ _ _ _ _ => (g_nm (c.blk _ _ _ _ _).ok.nd)) (fun _ _ _ _ _ => c_no) (fun _ _ _ _ _ => (r_callG (c.blk _ _ _ _ _) Co.c_is_whole_differences hr rfl (a_cons (r_var) a_nil)))) a_nil))))))) (ss_cons (s_ret r_bl) ss_nil) ss_nil) (ss_cons (s_ret (r_or (r_cmp c.ok.toCk .eq (r_var) (r_tup a_nil)) (r_one (r_cmp c.ok.toCk .ne (r_idx c.ok.toCk (r_var) (r_neg r_int)) r_int)))) ss_nil))
theorem ok_want_differences (B : Bs_ mg) (Z : Zs_ K mg) (Co : Cs P w K mg base n) (F : Fd_want_differences K f fd) : FnG P w K mg base (n + 3) f fd P_want_differences (SpF (Tt K) 1 ((G (n + 1)).fn i_want_differences)) :=
  fn_okG0 (T := Tt K) (G := G n) (d := d_want_differences) (N := N_want_differences) F S_want_differences rfl rfl rfl Z.sm fun cdv A outer s H E c hr =>
    pss0 <| show PSs _ _ (rdS (Tt K) (WD E) (MStmt.sts b_want_differences) (execs (G n) b_want_differences)) from
    (ss_cons (s_if (t_not (t_val c.ok.toCk (r_callG c Co.c_is_differences hr rfl (a_cons (r_var) a_nil)))) (ss_cons (s_raise0 c.ok c.tk (c := x_NoDifferences) Fx_NoDifferences Z.x0_NoDifferences.q Z.xa_NoDifferences Z.x0_NoDifferences.k Z.x0_NoDifferences.s Z.x0_NoDifferences.t) ss_nil) ss_nil) ss_nil)
theorem ok_trimmed (B : Bs_ mg) (Z : Zs_ K mg) (Co : Cs P w K mg base n) (F : Fd_trimmed K f fd) : FnG P w K mg base (n + 3) f fd P_trimmed (SpF (Tt K) 1 ((G (n + 1)).fn i_trimmed)) :=
  fn_okG0 (T := Tt K) (G := G n) (d := d_trimmed) (N := N_trimmed) F S_trimmed rfl rfl rfl Z.sm fun cdv A outer s H E c hr =>
    pss0 <| show PSs _ _ (rdS (Tt K) (WD E) (MStmt.sts b_trimmed) (execs (G n) b_trimmed)) from
    (ss_cons (s_set false c.ok.nd (r_len1 c.ok.toCk Co.l_len hr c.tk B.b_len (r_var))) (ss_cons (s_whl c.po (t_w (t_and (t_cmp c.ok.toCk .gt (r_var) r_int) (t_and1 (t_cmp c.ok.toCk .eq (r_idx c.ok.toCk (r_var) (r_bin c.ok.toCk .sub (r_var) r_int)) r_int)))) (ss_cons (s_aug c.ok.nd (op := .sub) r_int) ss_nil)) (ss_cons (s_ret (r_blt c.ok .tuple B.b_tuple (by decide +kernel) (a_cons (r_slc c.ok.toCk (r_var) o_no (o_yes (r_var))) a_nil))) ss_nil)))
theorem ok_worth (B : Bs_ mg) (Z : Zs_ K mg) (Co : Cs P w K mg base n) (F : Fd_worth K f fd) : FnG P w K mg base (n + 3) f fd P_worth (SpF (Tt K) 2 ((G (n + 1)).fn i_worth)) :=
  fn_okG0 (T := Tt K) (G := G n) (d := d_worth) (N := N_worth) F S_worth rfl rfl rfl Z.sm fun cdv A outer s H E c hr =>
    pss0 <| show PSs _ _ (rdS (Tt K) (WD E) (MStmt.sts b_worth) (execs (G n) b_worth)) from
    (ss_cons (s_unp c.ok (r_tup (a_cons r_int (a_cons r_int a_nil))) (qs_nm (q_nm c.ok.nd) (qs_nm (q_nm c.ok.nd) qs_nil))) (ss_cons (s_for c.ok c.po (i_enum c.ok.toCk B.b_enumerate (r_var)) (g_tp c.ok (gs_cons (g_nm c.ok.nd) (gs_cons (g_nm c.ok.nd) gs_nil))) (ss_cons (s_aug c.ok.nd (op := .add) (r_bin c.ok.toCk .mul (r_var) (r_var))) (ss_cons (s_set false c.ok.nd (r_bin c.ok.toCk .fdiv (r_bin c.ok.toCk .mul (r_var) (r_bin c.ok.toCk .sub (r_var) (r_var))) (r_bin c.ok.toCk .add (r_var) r_int))) ss_nil))) (ss_cons (s_ret (r_var)) ss_nil)))
theorem ok_differences_of (B : Bs_ mg) (Z : Zs_ K mg) (Co : Cs P w K mg base n) (F : Fd_differences_of K f fd) : FnG P w K mg base (n + 3) f fd P_differences_of (SpF (Tt K) 1 ((G (n + 1)).fn i_differences_of)) :=
  fn_okG0 (T := Tt K) (G := G n) (d := d_differences_of) (N := N_differences_of) F S_differences_of rfl rfl rfl Z.sm fun cdv A outer s H E c hr =>
    pss0 <| show PSs _ _ (rdS (Tt K) (WD E) (MStmt.sts b_differences_of) (execs (G n) b_differences_of)) from
    (ss_cons (s_if (t_w (t_or (t_not (t_val c.ok.toCk (r_isk2 c.ok.toCk B.b_isinstance B.b_list B.b_tuple (by decide +kernel) (by decide +kernel) (r_var)))) (t_or1 (t_not (t_val c.ok.toCk (r_blt c.ok .all B.b_all (by decide +kernel) (a_cons (r_comp c.ok [("one", 5)] (i_seq c.ok.toCk (r_var)) (blkOk_by (N := N_differences_of) (sc := sc_differences_of) (by decide +kernel)) (fun _ _ _ _ _ => (g_nm (c.blk _ _ _ _ _).ok.nd)) (fun _ _ _ _ _ => c_no) (fun _ _ _ _ _ => (r_callG (c.blk _ _ _ _ _) Co.c_is_whole_differences hr rfl (a_cons (r_var) a_nil)))) a_nil))))))) (ss_cons (s_raise0 c.ok c.tk (c := x_NoDifferences) Fx_NoDifferences Z.x0_NoDifferences.q Z.xa_NoDifferences Z.x0_NoDifferences.k Z.x0_NoDifferences.s Z.x0_NoDifferences.t) ss_nil) ss_nil) (ss_cons (s_set true c.ok.nd (r_lst a_nil)) (ss_cons (s_set false c.ok.nd (r_blt c.ok .list B.b_list (by decide +kernel) (a_cons (r_var) a_nil))) (ss_cons (s_whl c.po (t_cmp c.ok.toCk .ne (r_var) (r_lst a_nil)) (ss_cons (s_star c.ok (r_var) (gs_cons (g_nm c.ok.nd) (gs_star1 (gs_cons (g_nm c.ok.nd) gs_nil)))) (ss_cons (s_exp (r_m_append c.ok.toCk (r_var) (a_cons (r_var) a_nil))) (ss_cons (s_setc c.ok false [("one", 5), ("later", 6)] (i_zip c.ok.toCk B.b_zip (r_var) (r_var)) (blkOk_by (N := N_differences_of) (sc := sc_differences_of) (by decide +kernel)) (sw_true rfl rfl rfl (by decide +kernel)) (fun _ _ _ _ _ => (g_tp (c.blk _ _ _ _ _).ok (gs_cons (g_nm (c.blk _ _ _ _ _).ok.nd) (gs_cons (g_nm (c.blk _ _ _ _ _).ok.nd) gs_nil)))) (fun _ _ _ _ _ => c_no) (fun _ _ _ _ _ => (r_bin (c.blk _ _ _ _ _).ok.toCk .sub (r_var) (r_var)))) ss_nil)))) (ss_cons (s_ret (r_callG c Co.c_trimmed hr rfl (a_cons (r_var) a_nil))) ss_nil)))))
theorem ok_summed_up (B : Bs_ mg) (Z : Zs_ K mg) (Co : Cs P w K mg base n) (F : Fd_summed_up K f fd) : FnG P w K mg base (n + 3) f fd P_summed_up (SpF (Tt K) 1 ((G (n + 1)).fn i_summed_up)) :=
  fn_okG0 (T := Tt K) (G := G n) (d := d_summed_up) (N := N_summed_up) F S_summed_up rfl rfl rfl Z.sm fun cdv A outer s H E c hr =>
    pss0 <| show PSs _ _ (rdS (Tt K) (WD E) (MStmt.sts b_summed_up) (execs (G n) b_summed_up)) from
    (ss_cons (s_exp (r_callG c Co.c_want_differences hr rfl (a_cons (r_var) a_nil))) (ss_cons (s_ret (r_ite (t_cmp c.ok.toCk .eq (r_var) (r_tup a_nil)) (r_var) (r_bin c.ok.toCk .add (r_tup (a_cons r_int a_nil)) (r_var)))) ss_nil))
theorem ok_sum_of (B : Bs_ mg) (Z : Zs_ K mg) (Co : Cs P w K mg base n) (F : Fd_sum_of K f fd) : FnG P w K mg base (n + 3) f fd P_sum_of (SpF (Tt K) 2 ((G (n + 1)).fn i_sum_of)) :=
  fn_okG0 (T := Tt K) (G := G n) (d := d_sum_of) (N := N_sum_of) F S_sum_of rfl rfl rfl Z.sm fun cdv A outer s H E c hr =>
    pss0 <| show PSs _ _ (rdS (Tt K) (WD E) (MStmt.sts b_sum_of) (execs (G n) b_sum_of)) from
    (ss_cons (s_exp (r_callG c Co.c_want_differences hr rfl (a_cons (r_var) a_nil))) (ss_cons (s_exp (r_callG c Co.c_want_differences hr rfl (a_cons (r_var) a_nil))) (ss_cons (s_set false c.ok.nd (r_blt c.ok .min2 B.b_min (by decide +kernel) (a_cons (r_len1 c.ok.toCk Co.l_len hr c.tk B.b_len (r_var)) (a_cons (r_len1 c.ok.toCk Co.l_len hr c.tk B.b_len (r_var)) a_nil)))) (ss_cons (s_setc c.ok false [("number", 4), ("more", 5)] (i_zip c.ok.toCk B.b_zip (r_var) (r_var)) (blkOk_by (N := N_sum_of) (sc := sc_sum_of) (by decide +kernel)) (sw_true rfl rfl rfl (by decide +kernel)) (fun _ _ _ _ _ => (g_tp (c.blk _ _ _ _ _).ok (gs_cons (g_nm (c.blk _ _ _ _ _).ok.nd) (gs_cons (g_nm (c.blk _ _ _ _ _).ok.nd) gs_nil)))) (fun _ _ _ _ _ => c_no) (fun _ _ _ _ _ => (r_bin (c.blk _ _ _ _ _).ok.toCk .add (r_var) (r_var)))) (ss_cons (s_ret (r_callG c Co.c_trimmed hr rfl (a_cons (r_bin c.ok.toCk .add (r_bin c.ok.toCk .add (r_var) (r_blt c.ok .list B.b_list (by decide +kernel) (a_cons (r_slc c.ok.toCk (r_var) (o_yes (r_var)) o_no) a_nil))) (r_blt c.ok .list B.b_list (by decide +kernel) (a_cons (r_slc c.ok.toCk (r_var) (o_yes (r_var)) o_no) a_nil))) a_nil))) ss_nil)))))
theorem ok_product_of (B : Bs_ mg) (Z : Zs_ K mg) (Co : Cs P w K mg base n) (F : Fd_product_of K f fd) : FnG P w K mg base (n + 3) f fd P_product_of (SpF (Tt K) 2 ((G (n + 1)).fn i_product_of)) :=
  fn_okG0 (T := Tt K) (G := G n) (d := d_product_of) (N := N_product_of) F S_product_of rfl rfl rfl Z.sm fun cdv A outer s H E c hr =>
    pss0 <| show PSs _ _ (rdS (Tt K) (WD E) (MStmt.sts b_product_of) (execs (G n) b_product_of)) from
    (ss_cons (s_exp (r_callG c Co.c_want_differences hr rfl (a_cons (r_var) a_nil))) (ss_cons (s_exp (r_callG c Co.c_want_differences hr rfl (a_cons (r_var) a_nil))) (ss_cons (s_if (t_w (t_or (t_cmp c.ok.toCk .eq (r_var) (r_tup a_nil)) (t_or1 (t_cmp c.ok.toCk .eq (r_var) (r_tup a_nil))))) (ss_cons (s_ret (r_tup a_nil)) ss_nil) ss_nil) (ss_cons (s_ret (r_callG c Co.c_differences_of hr rfl (a_cons (r_comp c.ok [("place", 2)] (i_rng1 B.b_range (r_bin c.ok.toCk .sub (r_bin c.ok.toCk .add (r_len1 c.ok.toCk Co.l_len hr c.tk B.b_len (r_var)) (r_len1 c.ok.toCk Co.l_len hr c.tk B.b_len (r_var))) r_int)) (blkOk_by (N := N_product_of) (sc := sc_product_of) (by decide +kernel)) (fun _ _ _ _ _ => (g_nm (c.blk _ _ _ _ _).ok.nd)) (fun _ _ _ _ _ => c_no) (fun _ _ _ _ _ => (r_bin (c.blk _ _ _ _ _).ok.toCk .mul (r_callG (c.blk _ _ _ _ _) Co.c_worth hr rfl (a_cons (r_var) (a_cons (r_var) a_nil))) (r_callG (c.blk _ _ _ _ _) Co.c_worth hr rfl (a_cons (r_var) (a_cons (r_var) a_nil)))))) a_nil))) ss_nil))))
theorem ok_moved_by (B : Bs_ mg) (Z : Zs_ K mg) (Co : Cs P w K mg base n) (F : Fd_moved_by K f fd) : FnG P w K mg base (n + 3) f fd P_moved_by (SpF (Tt K) 2 ((G (n + 1)).fn i_moved_by)) :=
  fn_okG0 (T := Tt K) (G := G n) (d := d_moved_by) (N := N_moved_by) F S_moved_by rfl rfl rfl Z.sm fun cdv A outer s H E c hr =>
    pss0 <| show PSs _ _ (rdS (Tt K) (WD E) (MStmt.sts b_moved_by) (execs (G n) b_moved_by)) from
    (ss_cons (s_exp (r_callG c Co.c_want_differences hr rfl (a_cons (r_var) a_nil))) (ss_cons (s_if (t_not (t_val c.ok.toCk (r_callG c Co.c_is_count hr rfl (a_cons (r_var) a_nil)))) (ss_cons (s_raise0 c.ok c.tk (c := x_NoCount) Fx_NoCount Z.x0_NoCount.q Z.xa_NoCount Z.x0_NoCount.k Z.x0_NoCount.s Z.x0_NoCount.t) ss_nil) ss_nil) (ss_cons (s_ret (r_blt c.ok .tuple B.b_tuple (by decide +kernel) (a_cons (r_comp c.ok [("at", 2)] (i_rng1 B.b_range (r_len1 c.ok.toCk Co.l_len hr c.tk B.b_len (r_var))) (blkOk_by (N := N_moved_by) (sc := sc_moved_by) (by decide +kernel)) (fun _ _ _ _ _ => (g_nm (c.blk _ _ _ _ _).ok.nd)) (fun _ _ _ _ _ => c_no) (fun _ _ _ _ _ => (r_callG (c.blk _ _ _ _ _) Co.c_worth hr rfl (a_cons (r_slc (c.blk _ _ _ _ _).ok.toCk (r_var) (o_yes (r_var)) o_no) (a_cons (r_var) a_nil))))) a_nil))) ss_nil)))
theorem ok_far_enough (B : Bs_ mg) (Z : Zs_ K mg) (Co : Cs P w K mg base n) (F : Fd_far_enough K f fd) : FnG P w K mg base (n + 3) f fd P_far_enough (SpF (Tt K) 3 ((G (n + 1)).fn i_far_enough)) :=
  fn_okG0 (T := Tt K) (G := G n) (d := d_far_enough) (N := N_far_enough) F S_far_enough rfl rfl rfl Z.sm fun cdv A outer s H E c hr =>
    pss0 <| show PSs _ _ (rdS (Tt K) (WD E) (MStmt.sts b_far_enough) (execs (G n) b_far_enough)) from
    (ss_cons (s_unp c.ok (r_tup (a_cons r_int (a_cons r_int a_nil))) (qs_nm (q_nm c.ok.nd) (qs_nm (q_nm c.ok.nd) qs_nil))) (ss_cons (s_whl c.po (t_w (t_and (t_cmp c.ok.toCk .lt (r_var) (r_var)) (t_and1 (t_cmp c.ok.toCk .lt (r_callG c Co.c_worth hr rfl (a_cons (r_var) (a_cons (r_var) a_nil))) (r_var))))) (ss_cons (s_par c.ok false false (r_var) (r_blt c.ok .min2 B.b_min (by decide +kernel) (a_cons (r_bin c.ok.toCk .mul r_int (r_var)) (a_cons (r_var) a_nil)))) ss_nil)) (ss_cons (s_ret (r_tup (a_cons (r_var) (a_cons (r_var) a_nil)))) ss_nil)))
theorem ok_halved (B : Bs_ mg) (Z : Zs_ K mg) (Co : Cs P w K mg base n) (F : Fd_halved K f fd) : FnG P w K mg base (n + 3) f fd P_halved (SpF (Tt K) 4 ((G (n + 1)).fn i_halved)) :=
  fn_okG0 (T := Tt K) (G := G n) (d := d_halved) (N := N_halved) F S_halved rfl rfl rfl Z.sm fun cdv A outer s H E c hr =>
    pss0 <| show PSs _ _ (rdS (Tt K) (WD E) (MStmt.sts b_halved) (execs (G n) b_halved)) from
    (ss_cons (s_whl c.po (t_cmp c.ok.toCk .gt (r_bin c.ok.toCk .sub (r_var) (r_var)) r_int) (ss_cons (s_set false c.ok.nd (r_bin c.ok.toCk .fdiv (r_bin c.ok.toCk .add (r_var) (r_var)) r_int)) (ss_cons (s_if (t_cmp c.ok.toCk .lt (r_callG c Co.c_worth hr rfl (a_cons (r_var) (a_cons (r_var) a_nil))) (r_var)) (ss_cons (s_set false c.ok.nd (r_var)) ss_nil) (ss_cons (s_set false c.ok.nd (r_var)) ss_nil)) ss_nil))) (ss_cons (s_ret (r_var)) ss_nil))
theorem ok_least_at (B : Bs_ mg) (Z : Zs_ K mg) (Co : Cs P w K mg base n) (F : Fd_least_at K f fd) : FnG P w K mg base (n + 3) f fd P_least_at (SpF (Tt K) 3 ((G (n + 1)).fn i_least_at)) :=
  fn_okG0 (T := Tt K) (G := G n) (d := d_least_at) (N := N_least_at) F S_least_at rfl rfl rfl Z.sm fun cdv A outer s H E c hr =>
    pss0 <| show PSs _ _ (rdS (Tt K) (WD E) (MStmt.sts b_least_at) (execs (G n) b_least_at)) from
    (ss_cons (s_exp (r_callG c Co.c_want_differences hr rfl (a_cons (r_var) a_nil))) (ss_cons (s_if (t_not (t_val c.ok.toCk (r_callG c Co.c_is_count hr rfl (a_cons (r_var) a_nil)))) (ss_cons (s_raise0 c.ok c.tk (c := x_NoCount) Fx_NoCount Z.x0_NoCount.q Z.xa_NoCount Z.x0_NoCount.k Z.x0_NoCount.s Z.x0_NoCount.t) ss_nil) ss_nil) (ss_cons (s_if (t_cmp c.ok.toCk .ge (r_callG c Co.c_worth hr rfl (a_cons (r_var) (a_cons r_int a_nil))) (r_var)) (ss_cons (s_ret r_int) ss_nil) ss_nil) (ss_cons (s_if (t_cmp c.ok.toCk .eq (r_var) r_int) (ss_cons (s_ret r_non) ss_nil) ss_nil) (ss_cons (s_unp c.ok (r_callG c Co.c_far_enough hr rfl (a_cons (r_var) (a_cons (r_var) (a_cons (r_var) a_nil)))) (qs_nm (q_nm c.ok.nd) (qs_nm (q_nm c.ok.nd) qs_nil))) (ss_cons (s_if (t_cmp c.ok.toCk .lt (r_callG c Co.c_worth hr rfl (a_cons (r_var) (a_cons (r_var) a_nil))) (r_var)) (ss_cons (s_ret r_non) ss_nil) ss_nil) (ss_cons (s_ret (r_callG c Co.c_halved hr rfl (a_cons (r_var) (a_cons (r_var) (a_cons (r_var) (a_cons (r_var) a_nil)))))) ss_nil)))))))
theorem ok_law_pot (B : Bs_ mg) (Z : Zs_ K mg) (Co : Cs P w K mg base n) (F : Fd_law_pot K f fd) : FnG P w K mg base (n + 3) f fd P_law_pot (SpF (Tt K) 2 ((G (n + 1)).fn i_law_pot)) :=
  fn_okG0 (T := Tt K) (G := G n) (d := d_law_pot) (N := N_law_pot) F S_law_pot rfl rfl rfl Z.sm fun cdv A outer s H E c hr =>
    pss0 <| show PSs _ _ (rdS (Tt K) (WD E) (MStmt.sts b_law_pot) (execs (G n) b_law_pot)) from
    (ss_cons (s_set false c.ok.nd (r_ite (t_cmp c.ok.toCk .lt (r_var) (r_len1 c.ok.toCk Co.l_len hr c.tk B.b_len (r_var))) (r_idx c.ok.toCk (r_var) (r_var)) r_int)) (ss_cons (s_ret (r_lst (a_cons (r_blt c.ok .max2 B.b_max (by decide +kernel) (a_cons r_int (a_cons (r_bin c.ok.toCk .sub (r_blt c.ok .abs B.b_abs (by decide +kernel) (a_cons (r_var) a_nil)) (r_bin c.ok.toCk .pow r_int r_int)) a_nil))) (a_cons (r_bin c.ok.toCk .mod (r_bin c.ok.toCk .add (r_bin c.ok.toCk .add (r_bin c.ok.toCk .mul (r_bin c.ok.toCk .mod (r_blt c.ok .abs B.b_abs (by decide +kernel) (a_cons (r_var) a_nil)) r_int) r_int) (r_bin c.ok.toCk .mul r_int (r_var))) r_int) r_int) a_nil)))) ss_nil))
theorem ok_law_take (B : Bs_ mg) (Z : Zs_ K mg) (Co : Cs P w K mg base n) (F : Fd_law_take K f fd) : FnG P w K mg base (n + 3) f fd P_law_take (SpF (Tt K) 2 ((G (n + 1)).fn i_law_take)) :=
  fn_okG0 (T := Tt K) (G := G n) (d := d_law_take) (N := N_law_take) F S_law_take rfl rfl rfl Z.sm fun cdv A outer s H E c hr =>
    pss0 <| show PSs _ _ (rdS (Tt K) (WD E) (MStmt.sts b_law_take) (execs (G n) b_law_take)) from
    (ss_cons (s_if (t_cmp c.ok.toCk .gt (r_idx c.ok.toCk (r_var) r_int) r_int) (ss_cons (s_unp c.ok (r_blt c.ok .divmod B.b_divmod (by decide +kernel) (a_cons (r_idx c.ok.toCk (r_var) r_int) (a_cons (r_var) a_nil))) (qs_sub (q_sub c.ok.toCk (r_var) r_int) (qs_nm (q_nm c.ok.nd) qs_nil))) (ss_cons (s_ret (r_var)) ss_nil)) ss_nil) (ss_cons (s_sub c.ok.toCk (r_bin c.ok.toCk .mod (r_bin c.ok.toCk .add (r_bin c.ok.toCk .mul (r_idx c.ok.toCk (r_var) r_int) r_int) r_int) r_int) (r_var) r_int) (ss_cons (s_ret (r_bin c.ok.toCk .mod (r_bin c.ok.toCk .fdiv (r_bin c.ok.toCk .mod (r_bin c.ok.toCk .mul (r_idx c.ok.toCk (r_var) r_int) (r_idx c.ok.toCk (r_var) r_int)) r_int) r_int) (r_var))) ss_nil)))
theorem ok_law_one (B : Bs_ mg) (Z : Zs_ K mg) (Co : Cs P w K mg base n) (F : Fd_law_one K f fd) : FnG P w K mg base (n + 3) f fd P_law_one (SpF (Tt K) 2 ((G (n + 1)).fn i_law_one)) :=
  fn_okG0 (T := Tt K) (G := G n) (d := d_law_one) (N := N_law_one) F S_law_one rfl rfl rfl Z.sm fun cdv A outer s H E c hr =>
    pss0 <| show PSs _ _ (rdS (Tt K) (WD E) (MStmt.sts b_law_one) (execs (G n) b_law_one)) from
    (ss_cons (s_ret (r_idx c.ok.toCk (r_var) (r_callG c Co.c_law_take hr rfl (a_cons (r_var) (a_cons (r_len1 c.ok.toCk Co.l_len hr c.tk B.b_len (r_var)) a_nil))))) ss_nil)
theorem ok_law_whole (B : Bs_ mg) (Z : Zs_ K mg) (Co : Cs P w K mg base n) (F : Fd_law_whole K f fd) : FnG P w K mg base (n + 3) f fd P_law_whole (SpF (Tt K) 2 ((G (n + 1)).fn i_law_whole)) :=
  fn_okG0 (T := Tt K) (G := G n) (d := d_law_whole) (N := N_law_whole) F S_law_whole rfl rfl rfl Z.sm fun cdv A outer s H E c hr =>
    pss0 <| show PSs _ _ (rdS (Tt K) (WD E) (MStmt.sts b_law_whole) (execs (G n) b_law_whole)) from
    (ss_cons (s_set false c.ok.nd (r_idx c.ok.toCk (r_lst (a_cons (r_callG c Co.c_law_take hr rfl (a_cons (r_var) (a_cons r_int a_nil))) (a_cons (r_callG c Co.c_law_take hr rfl (a_cons (r_var) (a_cons r_int a_nil))) (a_cons (r_callG c Co.c_law_take hr rfl (a_cons (r_var) (a_cons (r_var) a_nil))) a_nil)))) (r_callG c Co.c_law_take hr rfl (a_cons (r_var) (a_cons r_int a_nil))))) (ss_cons (s_ret (r_idx c.ok.toCk (r_lst (a_cons (r_var) (a_cons (r_neg (r_var)) a_nil))) (r_callG c Co.c_law_take hr rfl (a_cons (r_var) (a_cons r_int a_nil))))) ss_nil))
theorem ok_law_row (B : Bs_ mg) (Z : Zs_ K mg) (Co : Cs P w K mg base n) (F : Fd_law_row K f fd) : FnG P w K mg base (n + 3) f fd P_law_row (SpF (Tt K) 3 ((G (n + 1)).fn i_law_row)) :=
  fn_okG0 (T := Tt K) (G := G n) (d := d_law_row) (N := N_law_row) F S_law_row rfl rfl rfl Z.sm fun cdv A outer s H E c hr =>
    pss0 <| show PSs _ _ (rdS (Tt K) (WD E) (MStmt.sts b_law_row) (execs (G n) b_law_row)) from
    (ss_cons (s_setc c.ok true [("_law_k", 4)] (i_rng1 B.b_range (r_callG c Co.c_law_take hr rfl (a_cons (r_var) (a_cons (r_bin c.ok.toCk .add (r_var) r_int) a_nil)))) (blkOk_by (N := N_law_row) (sc := sc_law_row) (by decide +kernel)) (sw_true rfl rfl rfl (by decide +kernel)) (fun _ _ _ _ _ => (g_nm (c.blk _ _ _ _ _).ok.nd)) (fun _ _ _ _ _ => c_no) (fun _ _ _ _ _ => (r_callG (c.blk _ _ _ _ _) Co.c_law_whole hr rfl (a_cons (r_var) (a_cons (r_var) a_nil))))) (ss_cons (s_if (t_w (t_and (t_cmp c.ok.toCk .ne (r_var) (r_lst a_nil)) (t_and1 (t_cmp c.ok.toCk .eq (r_idx c.ok.toCk (r_var) (r_neg r_int)) r_int)))) (ss_cons (s_sub c.ok.toCk (r_bin c.ok.toCk .add r_int (r_callG c Co.c_law_take hr rfl (a_cons (r_var) (a_cons r_int a_nil)))) (r_var) (r_neg r_int)) ss_nil) ss_nil) (ss_cons (s_ret (r_blt c.ok .tuple B.b_tuple (by decide +kernel) (a_cons (r_var) a_nil))) ss_nil)))
theorem ok_law_odd (B : Bs_ mg) (Z : Zs_ K mg) (Co : Cs P w K mg base n) (F : Fd_law_odd K f fd) : FnG P w K mg base (n + 3) f fd P_law_odd (SpF (Tt K) 1 ((G (n + 1)).fn i_law_odd)) :=
  fn_okG0 (T := Tt K) (G := G n) (d := d_law_odd) (N := N_law_odd) F S_law_odd rfl rfl rfl Z.sm fun cdv A outer s H E c hr =>
    pss0 <| show PSs _ _ (rdS (Tt K) (WD E) (MStmt.sts b_law_odd) (execs (G n) b_law_odd)) from
    (ss_cons (s_ret (r_callG c Co.c_law_one hr rfl (a_cons (r_var) (a_cons (r_lst (a_cons r_bl (a_cons r_bl (a_cons r_non (a_cons (r_str (by decide +kernel)) (a_cons (r_str (by decide +kernel)) (a_cons (r_tup (a_cons r_int a_nil)) (a_cons (r_lst (a_cons r_int a_nil)) (a_cons r_dic0 (a_cons (r_tup a_nil) a_nil)))))))))) a_nil)))) ss_nil)
theorem ok_law_no_gear (B : Bs_ mg) (Z : Zs_ K mg) (Co : Cs P w K mg base n) (F : Fd_law_no_gear K f fd) : FnG P w K mg base (n + 3) f fd P_law_no_gear (SpF (Tt K) 2 ((G (n + 1)).fn i_law_no_gear)) :=
  fn_okG0 (T := Tt K) (G := G n) (d := d_law_no_gear) (N := N_law_no_gear) F S_law_no_gear rfl rfl rfl Z.sm fun cdv A outer s H E c hr =>
    pss0 <| show PSs _ _ (rdS (Tt K) (WD E) (MStmt.sts b_law_no_gear) (execs (G n) b_law_no_gear)) from
    (ss_cons (s_set false c.ok.nd (r_blt c.ok .list B.b_list (by decide +kernel) (a_cons (r_var) a_nil))) (ss_cons (s_set false c.ok.nd (r_callG c Co.c_law_take hr rfl (a_cons (r_var) (a_cons (r_bin c.ok.toCk .add (r_len1 c.ok.toCk Co.l_len hr c.tk B.b_len (r_var)) r_int) a_nil)))) (ss_cons (s_set false c.ok.nd (r_lst (a_cons (r_bin c.ok.toCk .add (r_var) (r_tup (a_cons r_int a_nil))) (a_cons (r_var) (a_cons (r_blt c.ok .tuple B.b_tuple (by decide +kernel) (a_cons (r_bin c.ok.toCk .add (r_bin c.ok.toCk .add (r_slc c.ok.toCk (r_var) o_no (o_yes (r_var))) (r_lst (a_cons (r_callG c Co.c_law_odd hr rfl (a_cons (r_var) a_nil)) a_nil))) (r_slc c.ok.toCk (r_var) (o_yes (r_var)) o_no)) a_nil)) (a_cons (r_bin c.ok.toCk .add (r_var) (r_tup (a_cons r_int (a_cons r_int a_nil)))) (a_cons (r_tup (a_cons (r_var) a_nil)) a_nil))))))) (ss_cons (s_ret (r_callG c Co.c_law_one hr rfl (a_cons (r_var) (a_cons (r_bin c.ok.toCk .add (r_var) (r_lst (a_cons r_non (a_cons r_int (a_cons r_int (a_cons (r_str (by decide +kernel)) (a_cons (r_str (by decide +kernel)) (a_cons r_bl (a_cons (r_lst a_nil) (a_cons r_dic0 (a_cons (r_dicc [(.inl 0, .int 1)] [((.int 0), (.int 1))] (pps_cons pe_int pe_int pps_nil) (fun _ _ _ q => q) (fun _ => .cons (.int 0) (.int 1) (.nil))) (a_cons (r_tup (a_cons r_int a_nil)) (a_cons (r_tup (a_cons (r_tup a_nil) a_nil)) (a_cons (r_bin c.ok.toCk .add (r_var) (r_tup (a_cons r_bl a_nil))) a_nil)))))))))))))) a_nil)))) ss_nil))))
theorem ok_law_no_list (B : Bs_ mg) (Z : Zs_ K mg) (Co : Cs P w K mg base n) (F : Fd_law_no_list K f fd) : FnG P w K mg base (n + 3) f fd P_law_no_list (SpF (Tt K) 2 ((G (n + 1)).fn i_law_no_list)) :=
  fn_okG0 (T := Tt K) (G := G n) (d := d_law_no_list) (N := N_law_no_list) F S_law_no_list rfl rfl rfl Z.sm fun cdv A outer s H E c hr =>
    pss0 <| show PSs _ _ (rdS (Tt K) (WD E) (MStmt.sts b_law_no_list) (execs (G n) b_law_no_list)) from
    (ss_cons (s_set false c.ok.nd (r_blt c.ok .list B.b_list (by decide +kernel) (a_cons (r_var) a_nil))) (ss_cons (s_set false c.ok.nd (r_callG c Co.c_law_take hr rfl (a_cons (r_var) (a_cons (r_bin c.ok.toCk .add (r_len1 c.ok.toCk Co.l_len hr c.tk B.b_len (r_var)) r_int) a_nil)))) (ss_cons (s_set false c.ok.nd (r_lst (a_cons (r_bin c.ok.toCk .add (r_bin c.ok.toCk .add (r_slc c.ok.toCk (r_var) o_no (o_yes (r_var))) (r_lst (a_cons (r_callG c Co.c_law_odd hr rfl (a_cons (r_var) a_nil)) a_nil))) (r_slc c.ok.toCk (r_var) (o_yes (r_var)) o_no)) (a_cons (r_blt c.ok .tuple B.b_tuple (by decide +kernel) (a_cons (r_bin c.ok.toCk .add (r_bin c.ok.toCk .add (r_slc c.ok.toCk (r_var) o_no (o_yes (r_var))) (r_lst (a_cons (r_callG c Co.c_law_odd hr rfl (a_cons (r_var) a_nil)) a_nil))) (r_slc c.ok.toCk (r_var) (o_yes (r_var)) o_no)) a_nil)) a_nil)))) (ss_cons (s_ret (r_callG c Co.c_law_one hr rfl (a_cons (r_var) (a_cons (r_bin c.ok.toCk .add (r_var) (r_lst (a_cons r_non (a_cons r_int (a_cons r_int (a_cons (r_str (by decide +kernel)) (a_cons (r_str (by decide +kernel)) (a_cons r_bl (a_cons r_dic0 (a_cons (r_dicc [(.inl 0, .int 1)] [((.int 0), (.int 1))] (pps_cons pe_int pe_int pps_nil) (fun _ _ _ q => q) (fun _ => .cons (.int 0) (.int 1) (.nil))) (a_cons (r_lst (a_cons (r_var) a_nil)) (a_cons (r_lst (a_cons (r_var) a_nil)) a_nil)))))))))))) a_nil)))) ss_nil))))
theorem ok_law_no_count (B : Bs_ mg) (Z : Zs_ K mg) (Co : Cs P w K mg base n) (F : Fd_law_no_count K f fd) : FnG P w K mg base (n + 3) f fd P_law_no_count (SpF (Tt K) 1 ((G (n + 1)).fn i_law_no_count)) :=
  fn_okG0 (T := Tt K) (G := G n) (d := d_law_no_count) (N := N_law_no_count) F S_law_no_count rfl rfl rfl Z.sm fun cdv A outer s H E c hr =>
    pss0 <| show PSs _ _ (rdS (Tt K) (WD E) (MStmt.sts b_law_no_count) (execs (G n) b_law_no_count)) from
    (ss_cons (s_set false c.ok.nd (r_callG c Co.c_law_take hr rfl (a_cons (r_var) (a_cons (r_bin c.ok.toCk .pow r_int r_int) a_nil)))) (ss_cons (s_ret (r_callG c Co.c_law_one hr rfl (a_cons (r_var) (a_cons (r_lst (a_cons (r_neg r_int) (a_cons (r_bin c.ok.toCk .sub (r_neg r_int) (r_var)) (a_cons r_bl (a_cons r_bl (a_cons r_non (a_cons (r_str (by decide +kernel)) (a_cons (r_str (by decide +kernel)) (a_cons (r_tup (a_cons r_int a_nil)) (a_cons (r_lst (a_cons r_int a_nil)) (a_cons r_dic0 a_nil))))))))))) a_nil)))) ss_nil))
theorem ok_law_done (B : Bs_ mg) (Z : Zs_ K mg) (Co : Cs P w K mg base n) (F : Fd_law_done K f fd) : FnG P w K mg base (n + 3) f fd P_law_done (SpF (Tt K) 3 ((G (n + 1)).fn i_law_done)) :=
  fn_okG0 (T := Tt K) (G := G n) (d := d_law_done) (N := N_law_done) F S_law_done rfl rfl rfl Z.sm fun cdv A outer s H E c hr =>
    pss0 <| show PSs _ _ (rdS (Tt K) (WD E) (MStmt.sts b_law_done) (execs (G n) b_law_done)) from
    (ss_cons (s_if (t_cmp c.ok.toCk .eq (r_var) r_int) (ss_cons (s_ret (r_callG c Co.c_summed_up hr rfl (a_cons (r_var) a_nil))) ss_nil) ss_nil) (ss_cons (s_if (t_cmp c.ok.toCk .eq (r_var) r_int) (ss_cons (s_ret (r_callG c Co.c_sum_of hr rfl (a_cons (r_var) (a_cons (r_var) a_nil)))) ss_nil) ss_nil) (ss_cons (s_if (t_cmp c.ok.toCk .eq (r_var) r_int) (ss_cons (s_ret (r_callk0G c Co.k_product_of_0_one_other hr rfl (k_cons (r_var) (k_cons (r_var) k_nil)))) ss_nil) ss_nil) (ss_cons (s_if (t_cmp c.ok.toCk .eq (r_var) r_int) (ss_cons (s_ret (r_callG c Co.c_moved_by hr rfl (a_cons (r_var) (a_cons (r_var) a_nil)))) ss_nil) ss_nil) (ss_cons (s_if (t_cmp c.ok.toCk .eq (r_var) r_int) (ss_cons (s_ret (r_callkG c Co.k_least_at_2_upto hr rfl rfl (a_cons (r_var) (a_cons r_int a_nil)) (k_cons (r_var) k_nil))) ss_nil) ss_nil) (ss_cons (s_ret (r_callk0G c Co.k_differences_of_0_values hr rfl (k_cons (r_var) k_nil))) ss_nil))))))
theorem ok_law_why (B : Bs_ mg) (Z : Zs_ K mg) (Co : Cs P w K mg base n) (F : Fd_law_why K f fd) : FnG P w K mg base (n + 3) f fd P_law_why (SpF (Tt K) 3 ((G (n + 1)).fn i_law_why)) :=
  fn_okG0 (T := Tt K) (G := G n) (d := d_law_why) (N := N_law_why) F S_law_why rfl rfl rfl Z.sm fun cdv A outer s H E c hr =>
    show PSs _ _ (rdS0 (Tt K) (WD E) (execs (G n) b_law_why)) from
    (ss_cons0 (ps0 (s_set false c.ok.nd (r_str (by decide +kernel)))) (ss_cons0 (ps0 (s_set false c.ok.nd (r_blt c.ok .repr B.b_repr (by decide +kernel) (a_cons (r_tup (a_cons (r_var) (a_cons (r_var) a_nil))) a_nil)))) (ss_cons0 (s_tri c ⟨rfl, by decide, .inl Z.xa_FarError⟩ (isn n Z.xm_FarError) (fun _ _ _ c => (ss_cons (s_exp (r_callG c Co.c_law_done hr rfl (a_cons (r_var) (a_cons (r_var) (a_cons (r_var) a_nil))))) ss_nil)) (fun _ _ _ _ _ q => (ss_cons (s_set false q.ok.nd (r_isxs (hl := Nat.le_of_ble_eq_true rfl) q B.b_isinstance (cn_own Z.xa_NoLeap (isn n Z.xi_NoLeap)) (cns_cons (hl := Nat.le_of_ble_eq_true rfl) (cn_own Z.xa_NoMoment (isn n Z.xi_NoMoment)) (cns_cons (hl := Nat.le_of_ble_eq_true rfl) (cn_own Z.xa_NoPatch (isn n Z.xi_NoPatch)) (cns_cons (hl := Nat.le_of_ble_eq_true rfl) (cn_own Z.xa_NoProgram (isn n Z.xi_NoProgram)) (cns_cons (hl := Nat.le_of_ble_eq_true rfl) (cn_own Z.xa_NoText (isn n Z.xi_NoText)) (cns_cons (hl := Nat.le_of_ble_eq_true rfl) (cn_own Z.xa_NoValues (isn n Z.xi_NoValues)) cns_nil))))))) (ss_cons (s_set false q.ok.nd (r_or (r_var) (r_one (r_not q.ok (r_isx q B.b_isinstance (cn_blt B.b_ValueError rfl (isn n Z.xi_ValueError))))))) (ss_cons (s_set false q.ok.nd (r_lst (a_cons (r_bin q.ok .mul (r_str (by decide +kernel)) (r_bltH q.ok .int B.b_int (by decide +kernel) (a_cons (r_isx q B.b_isinstance (cn_own Z.xa_NoDifferences (isn n Z.xi_NoDifferences))) a_nil))) (a_cons (r_bin q.ok .mul (r_str (by decide +kernel)) (r_bltH q.ok .int B.b_int (by decide +kernel) (a_cons (r_isx q B.b_isinstance (cn_own Z.xa_NoCount (isn n Z.xi_NoCount))) a_nil))) (a_cons (r_var) a_nil))))) ss_nil))))) (ss_cons0 (ps0 (s_ret (r_ite (t_cmp c.ok.toCk .eq (r_blt c.ok .repr B.b_repr (by decide +kernel) (a_cons (r_tup (a_cons (r_var) (a_cons (r_var) a_nil))) a_nil)) (r_var)) (r_var) (r_str (by decide +kernel))))) ss_nil0))))
theorem ok_law_gears_refused (B : Bs_ mg) (Z : Zs_ K mg) (Co : Cs P w K mg base n) (F : Fd_law_gears_refused K f fd) : FnG P w K mg base (n + 3) f fd P_law_gears_refused (SpF (Tt K) 3 ((G (n + 1)).fn i_law_gears_refused)) :=
  fn_okG0 (T := Tt K) (G := G n) (d := d_law_gears_refused) (N := N_law_gears_refused) F S_law_gears_refused rfl rfl rfl Z.sm fun cdv A outer s H E c hr =>
    pss0 <| show PSs _ _ (rdS (Tt K) (WD E) (MStmt.sts b_law_gears_refused) (execs (G n) b_law_gears_refused)) from
    (ss_cons (s_par3 c.ok false false false (r_callG c Co.c_law_no_gear hr rfl (a_cons (r_var) (a_cons (r_var) a_nil))) (r_callG c Co.c_law_no_gear hr rfl (a_cons (r_var) (a_cons (r_var) a_nil))) (r_callG c Co.c_law_no_count hr rfl (a_cons (r_var) a_nil))) (ss_cons (s_set false c.ok.nd (r_lst (a_cons (r_str (by decide +kernel)) (a_cons (r_str (by decide +kernel)) (a_cons r_bl a_nil))))) (ss_cons (s_set true c.ok.nd (r_lst (a_cons (r_tup (a_cons r_int (a_cons (r_var) (a_cons r_int a_nil)))) (a_cons (r_tup (a_cons r_int (a_cons (r_var) (a_cons (r_var) a_nil)))) (a_cons (r_tup (a_cons r_int (a_cons (r_var) (a_cons (r_var) a_nil)))) (a_cons (r_tup (a_cons r_int (a_cons (r_var) (a_cons (r_var) a_nil)))) (a_cons (r_tup (a_cons r_int (a_cons (r_var) (a_cons (r_var) a_nil)))) (a_cons (r_tup (a_cons r_int (a_cons (r_var) (a_cons (r_var) a_nil)))) a_nil)))))))) (ss_cons (s_set true c.ok.nd (r_bin c.ok.toCk .add (r_var) (r_lst (a_cons (r_tup (a_cons r_int (a_cons (r_var) (a_cons (r_var) a_nil)))) (a_cons (r_tup (a_cons r_int (a_cons (r_tup a_nil) (a_cons (r_var) a_nil)))) (a_cons (r_tup (a_cons r_int (a_cons (r_var) (a_cons (r_tup a_nil) a_nil)))) (a_cons (r_tup (a_cons r_int (a_cons (r_var) (a_cons r_int a_nil)))) (a_cons (r_tup (a_cons r_int (a_cons (r_var) (a_cons (r_var) a_nil)))) (a_cons (r_tup (a_cons r_int (a_cons (r_var) (a_cons r_int a_nil)))) a_nil))))))))) (ss_cons (s_exp (r_m_append c.ok.toCk (r_var) (a_cons (r_tup (a_cons r_int (a_cons (r_var) (a_cons (r_var) a_nil)))) a_nil))) (ss_cons (s_ret (r_blt c.ok .all B.b_all (by decide +kernel) (a_cons (r_comp c.ok [("_law_way", 8), ("_law_piece", 9), ("_law_more", 10)] (i_seq c.ok.toCk (r_var)) (blkOk_by (N := N_law_gears_refused) (sc := sc_law_gears_refused) (by decide +kernel)) (fun _ _ _ _ _ => (g_tp (c.blk _ _ _ _ _).ok (gs_cons (g_nm (c.blk _ _ _ _ _).ok.nd) (gs_cons (g_nm (c.blk _ _ _ _ _).ok.nd) (gs_cons (g_nm (c.blk _ _ _ _ _).ok.nd) gs_nil))))) (fun _ _ _ _ _ => c_no) (fun _ _ _ _ _ => (r_cmp (c.blk _ _ _ _ _).ok.toCk .eq (r_callG (c.blk _ _ _ _ _) Co.c_law_why hr rfl (a_cons (r_var) (a_cons (r_var) (a_cons (r_var) a_nil)))) (r_var)))) a_nil))) ss_nil))))))
theorem ok_law_good_told (B : Bs_ mg) (Z : Zs_ K mg) (Co : Cs P w K mg base n) (F : Fd_law_good_told K f fd) : FnG P w K mg base (n + 3) f fd P_law_good_told (SpF (Tt K) 2 ((G (n + 1)).fn i_law_good_told)) :=
  fn_okG0 (T := Tt K) (G := G n) (d := d_law_good_told) (N := N_law_good_told) F S_law_good_told rfl rfl rfl Z.sm fun cdv A outer s H E c hr =>
    pss0 <| show PSs _ _ (rdS (Tt K) (WD E) (MStmt.sts b_law_good_told) (execs (G n) b_law_good_told)) from
    (ss_cons (s_set false c.ok.nd (r_lst (a_cons (r_tup (a_cons r_int (a_cons (r_var) (a_cons r_int a_nil)))) (a_cons (r_tup (a_cons r_int (a_cons (r_var) (a_cons (r_var) a_nil)))) (a_cons (r_tup (a_cons r_int (a_cons (r_var) (a_cons (r_var) a_nil)))) (a_cons (r_tup (a_cons r_int (a_cons (r_var) (a_cons r_int a_nil)))) (a_cons (r_tup (a_cons r_int (a_cons (r_var) (a_cons r_int a_nil)))) (a_cons (r_tup (a_cons r_int (a_cons (r_blt c.ok .list B.b_list (by decide +kernel) (a_cons (r_var) a_nil)) (a_cons r_int a_nil)))) a_nil)))))))) (ss_cons (s_if (t_cmp c.ok.toCk .ne (r_comp c.ok [("_law_way", 3), ("_law_piece", 4), ("_law_more", 5)] (i_seq c.ok.toCk (r_var)) (blkOk_by (N := N_law_good_told) (sc := sc_law_good_told) (by decide +kernel)) (fun _ _ _ _ _ => (g_tp (c.blk _ _ _ _ _).ok (gs_cons (g_nm (c.blk _ _ _ _ _).ok.nd) (gs_cons (g_nm (c.blk _ _ _ _ _).ok.nd) (gs_cons (g_nm (c.blk _ _ _ _ _).ok.nd) gs_nil))))) (fun _ _ _ _ _ => c_no) (fun _ _ _ _ _ => (r_callG (c.blk _ _ _ _ _) Co.c_law_why hr rfl (a_cons (r_var) (a_cons (r_var) (a_cons (r_var) a_nil)))))) (r_bin c.ok.toCk .mul (r_lst (a_cons (r_str (by decide +kernel)) a_nil)) r_int)) (ss_cons (s_ret r_bl) ss_nil) ss_nil) (ss_cons (s_ret (r_cmp c.ok.toCk .eq (r_callG c Co.c_law_why hr rfl (a_cons r_int (a_cons (r_tup (a_cons r_int a_nil)) (a_cons r_int a_nil)))) (r_str (by decide +kernel)))) ss_nil)))
theorem ok_law (B : Bs_ mg) (Z : Zs_ K mg) (Co : Cs P w K mg base n) (F : Fd_law K f fd) : FnG P w K mg base (n + 3) f fd P_law (SpF (Tt K) 1 ((G (n + 1)).fn i_law)) :=
  fn_okG0 (T := Tt K) (G := G n) (d := d_law) (N := N_law) F S_law rfl rfl rfl Z.sm fun cdv A outer s H E c hr =>
    pss0 <| show PSs _ _ (rdS (Tt K) (WD E) (MStmt.sts b_law) (execs (G n) b_law)) from
    (ss_cons (s_for c.ok c.po (i_rng1 B.b_range (r_blt c.ok .max2 B.b_max (by decide +kernel) (a_cons r_int (a_cons (r_blt c.ok .min2 B.b_min (by decide +kernel) (a_cons r_int (a_cons (r_len1 c.ok.toCk Co.l_len hr c.tk B.b_len (r_var)) a_nil))) a_nil)))) (g_nm c.ok.nd) (ss_cons (s_set true c.ok.nd (r_callG c Co.c_law_pot hr rfl (a_cons (r_var) (a_cons (r_var) a_nil)))) (ss_cons (s_par c.ok false false (r_callG c Co.c_law_row hr rfl (a_cons (r_var) (a_cons r_int (a_cons (r_bin c.ok.toCk .pow r_int r_int) a_nil)))) (r_callG c Co.c_law_row hr rfl (a_cons (r_var) (a_cons r_int (a_cons r_int a_nil))))) (ss_cons (s_for c.ok c.po (i_rng1 B.b_range r_int) (g_nm c.ok.nd) (ss_cons (s_if (t_w (t_or (t_not (t_val c.ok.toCk (r_callG c Co.c_law_good_told hr rfl (a_cons (r_var) (a_cons (r_var) a_nil))))) (t_or1 (t_not (t_val c.ok.toCk (r_callG c Co.c_law_gears_refused hr rfl (a_cons (r_var) (a_cons (r_var) (a_cons (r_var) a_nil))))))))) (ss_cons (s_ret r_bl) ss_nil) ss_nil) (ss_cons (s_set false c.ok.nd (r_callG c Co.c_law_no_count hr rfl (a_cons (r_var) a_nil))) (ss_cons (s_if (t_w (t_or (t_cmp c.ok.toCk .ne (r_callG c Co.c_law_why hr rfl (a_cons r_int (a_cons (r_var) (a_cons (r_var) a_nil)))) (r_lst (a_cons (r_str (by decide +kernel)) (a_cons (r_str (by decide +kernel)) (a_cons r_bl a_nil))))) (t_or1 (t_cmp c.ok.toCk .ne (r_callG c Co.c_law_why hr rfl (a_cons r_int (a_cons (r_var) (a_cons (r_var) a_nil)))) (r_lst (a_cons (r_str (by decide +kernel)) (a_cons (r_str (by decide +kernel)) (a_cons r_bl a_nil)))))))) (ss_cons (s_ret r_bl) ss_nil) ss_nil) (ss_cons (s_if (t_cmp c.ok.toCk .ne (r_callG c Co.c_law_why hr rfl (a_cons r_int (a_cons (r_callG c Co.c_law_no_list hr rfl (a_cons (r_var) (a_cons (r_var) a_nil))) (a_cons r_int a_nil)))) (r_lst (a_cons (r_str (by decide +kernel)) (a_cons (r_str (by decide +kernel)) (a_cons r_bl a_nil))))) (ss_cons (s_ret r_bl) ss_nil) ss_nil) ss_nil))))) (ss_cons (s_if (t_not (t_val c.ok.toCk (r_callG c Co.c_law_good_told hr rfl (a_cons (r_var) (a_cons (r_var) a_nil))))) (ss_cons (s_ret r_bl) ss_nil) ss_nil) ss_nil))))) (ss_cons (s_ret r_bl) ss_nil))
end
end Lw
namespace Lw
open PySem PySem.Spec PyProof.Rows L2 Mi
theorem bn_is_whole_rows {K : PySem.W.Frag} {f : Addr} {fd : FuncData} (F : Fd_is_whole_rows K f fd) : Bn K (Tt K) fd P_is_whole_rows 1 [] (List.range 1) [] [] := bn_of F fun _ _ _ _ _ _ us ws h1 h2 => match us, ws, h1, h2 with
  | [_], [], _, _ => rfl
theorem bn_is_count {K : PySem.W.Frag} {f : Addr} {fd : FuncData} (F : Fd_is_count K f fd) : Bn K (Tt K) fd P_is_count 1 [] (List.range 1) [] [] := bn_of F fun _ _ _ _ _ _ us ws h1 h2 => match us, ws, h1, h2 with
  | [_], [], _, _ => rfl
theorem bn_is_whole_differences {K : PySem.W.Frag} {f : Addr} {fd : FuncData} (F : Fd_is_whole_differences K f fd) : Bn K (Tt K) fd P_is_whole_differences 1 [] (List.range 1) [] [] := bn_of F fun _ _ _ _ _ _ us ws h1 h2 => match us, ws, h1, h2 with
  | [_], [], _, _ => rfl
theorem bn_is_differences {K : PySem.W.Frag} {f : Addr} {fd : FuncData} (F : Fd_is_differences K f fd) : Bn K (Tt K) fd P_is_differences 1 [] (List.range 1) [] [] := bn_of F fun _ _ _ _ _ _ us ws h1 h2 => match us, ws, h1, h2 with
  | [_], [], _, _ => rfl
theorem bn_want_differences {K : PySem.W.Frag} {f : Addr} {fd : FuncData} (F : Fd_want_differences K f fd) : Bn K (Tt K) fd P_want_differences 1 [] (List.range 1) [] [] := bn_of F fun _ _ _ _ _ _ us ws h1 h2 => match us, ws, h1, h2 with
  | [_], [], _, _ => rfl
theorem bn_trimmed {K : PySem.W.Frag} {f : Addr} {fd : FuncData} (F : Fd_trimmed K f fd) : Bn K (Tt K) fd P_trimmed 1 [] (List.range 1) [] [] := bn_of F fun _ _ _ _ _ _ us ws h1 h2 => match us, ws, h1, h2 with
  | [_], [], _, _ => rfl
theorem bn_worth {K : PySem.W.Frag} {f : Addr} {fd : FuncData} (F : Fd_worth K f fd) : Bn K (Tt K) fd P_worth 2 [] (List.range 2) [] [] := bn_of F fun _ _ _ _ _ _ us ws h1 h2 => match us, ws, h1, h2 with
  | [_, _], [], _, _ => rfl
theorem bn_differences_of {K : PySem.W.Frag} {f : Addr} {fd : FuncData} (F : Fd_differences_of K f fd) : Bn K (Tt K) fd P_differences_of 1 [] (List.range 1) [] [] := bn_of F fun _ _ _ _ _ _ us ws h1 h2 => match us, ws, h1, h2 with
  | [_], [], _, _ => rfl
theorem bn_summed_up {K : PySem.W.Frag} {f : Addr} {fd : FuncData} (F : Fd_summed_up K f fd) : Bn K (Tt K) fd P_summed_up 1 [] (List.range 1) [] [] := bn_of F fun _ _ _ _ _ _ us ws h1 h2 => match us, ws, h1, h2 with
  | [_], [], _, _ => rfl
theorem bn_sum_of {K : PySem.W.Frag} {f : Addr} {fd : FuncData} (F : Fd_sum_of K f fd) : Bn K (Tt K) fd P_sum_of 2 [] (List.range 2) [] [] := bn_of F fun _ _ _ _ _ _ us ws h1 h2 => match us, ws, h1, h2 with
  | [_, _], [], _, _ => rfl
theorem bn_product_of {K : PySem.W.Frag} {f : Addr} {fd : FuncData} (F : Fd_product_of K f fd) : Bn K (Tt K) fd P_product_of 2 [] (List.range 2) [] [] := bn_of F fun _ _ _ _ _ _ us ws h1 h2 => match us, ws, h1, h2 with
  | [_, _], [], _, _ => rfl
theorem bn_moved_by {K : PySem.W.Frag} {f : Addr} {fd : FuncData} (F : Fd_moved_by K f fd) : Bn K (Tt K) fd P_moved_by 2 [] (List.range 2) [] [] := bn_of F fun _ _ _ _ _ _ us ws h1 h2 => match us, ws, h1, h2 with
  | [_, _], [], _, _ => rfl
theorem bn_far_enough {K : PySem.W.Frag} {f : Addr} {fd : FuncData} (F : Fd_far_enough K f fd) : Bn K (Tt K) fd P_far_enough 3 [] (List.range 3) [] [] := bn_of F fun _ _ _ _ _ _ us ws h1 h2 => match us, ws, h1, h2 with
  | [_, _, _], [], _, _ => rfl
theorem bn_halved {K : PySem.W.Frag} {f : Addr} {fd : FuncData} (F : Fd_halved K f fd) : Bn K (Tt K) fd P_halved 4 [] (List.range 4) [] [] := bn_of F fun _ _ _ _ _ _ us ws h1 h2 => match us, ws, h1, h2 with
  | [_, _, _, _], [], _, _ => rfl
theorem bn_law_pot {K : PySem.W.Frag} {f : Addr} {fd : FuncData} (F : Fd_law_pot K f fd) : Bn K (Tt K) fd P_law_pot 2 [] (List.range 2) [] [] := bn_of F fun _ _ _ _ _ _ us ws h1 h2 => match us, ws, h1, h2 with
  | [_, _], [], _, _ => rfl
theorem bn_law_take {K : PySem.W.Frag} {f : Addr} {fd : FuncData} (F : Fd_law_take K f fd) : Bn K (Tt K) fd P_law_take 2 [] (List.range 2) [] [] := bn_of F fun _ _ _ _ _ _ us ws h1 h2 => match us, ws, h1, h2 with
  | [_, _], [], _, _ => rfl
theorem bn_law_one {K : PySem.W.Frag} {f : Addr} {fd : FuncData} (F : Fd_law_one K f fd) : Bn K (Tt K) fd P_law_one 2 [] (List.range 2) [] [] := bn_of F fun _ _ _ _ _ _ us ws h1 h2 => match us, ws, h1, h2 with
  | [_, _], [], _, _ => rfl
theorem bn_law_whole {K : PySem.W.Frag} {f : Addr} {fd : FuncData} (F : Fd_law_whole K f fd) : Bn K (Tt K) fd P_law_whole 2 [] (List.range 2) [] [] := bn_of F fun _ _ _ _ _ _ us ws h1 h2 => match us, ws, h1, h2 with
  | [_, _], [], _, _ => rfl
theorem bn_law_row {K : PySem.W.Frag} {f : Addr} {fd : FuncData} (F : Fd_law_row K f fd) : Bn K (Tt K) fd P_law_row 3 [] (List.range 3) [] [] := bn_of F fun _ _ _ _ _ _ us ws h1 h2 => match us, ws, h1, h2 with
  | [_, _, _], [], _, _ => rfl
theorem bn_law_odd {K : PySem.W.Frag} {f : Addr} {fd : FuncData} (F : Fd_law_odd K f fd) : Bn K (Tt K) fd P_law_odd 1 [] (List.range 1) [] [] := bn_of F fun _ _ _ _ _ _ us ws h1 h2 => match us, ws, h1, h2 with
  | [_], [], _, _ => rfl
theorem bn_law_no_gear {K : PySem.W.Frag} {f : Addr} {fd : FuncData} (F : Fd_law_no_gear K f fd) : Bn K (Tt K) fd P_law_no_gear 2 [] (List.range 2) [] [] := bn_of F fun _ _ _ _ _ _ us ws h1 h2 => match us, ws, h1, h2 with
  | [_, _], [], _, _ => rfl
theorem bn_law_no_list {K : PySem.W.Frag} {f : Addr} {fd : FuncData} (F : Fd_law_no_list K f fd) : Bn K (Tt K) fd P_law_no_list 2 [] (List.range 2) [] [] := bn_of F fun _ _ _ _ _ _ us ws h1 h2 => match us, ws, h1, h2 with
  | [_, _], [], _, _ => rfl
theorem bn_law_no_count {K : PySem.W.Frag} {f : Addr} {fd : FuncData} (F : Fd_law_no_count K f fd) : Bn K (Tt K) fd P_law_no_count 1 [] (List.range 1) [] [] := bn_of F fun _ _ _ _ _ _ us ws h1 h2 => match us, ws, h1, h2 with
  | [_], [], _, _ => rfl
theorem bn_law_done {K : PySem.W.Frag} {f : Addr} {fd : FuncData} (F : Fd_law_done K f fd) : Bn K (Tt K) fd P_law_done 3 [] (List.range 3) [] [] := bn_of F fun _ _ _ _ _ _ us ws h1 h2 => match us, ws, h1, h2 with
  | [_, _, _], [], _, _ => rfl
theorem bn_law_why {K : PySem.W.Frag} {f : Addr} {fd : FuncData} (F : Fd_law_why K f fd) : Bn K (Tt K) fd P_law_why 3 [] (List.range 3) [] [] := bn_of F fun _ _ _ _ _ _ us ws h1 h2 => match us, ws, h1, h2 with
  | [_, _, _], [], _, _ => rfl
theorem bn_law_gears_refused {K : PySem.W.Frag} {f : Addr} {fd : FuncData} (F : Fd_law_gears_refused K f fd) : Bn K (Tt K) fd P_law_gears_refused 3 [] (List.range 3) [] [] := bn_of F fun _ _ _ _ _ _ us ws h1 h2 => match us, ws, h1, h2 with
  | [_, _, _], [], _, _ => rfl
theorem bn_law_good_told {K : PySem.W.Frag} {f : Addr} {fd : FuncData} (F : Fd_law_good_told K f fd) : Bn K (Tt K) fd P_law_good_told 2 [] (List.range 2) [] [] := bn_of F fun _ _ _ _ _ _ us ws h1 h2 => match us, ws, h1, h2 with
  | [_, _], [], _, _ => rfl
theorem bn_law {K : PySem.W.Frag} {f : Addr} {fd : FuncData} (F : Fd_law K f fd) : Bn K (Tt K) fd P_law 1 [] (List.range 1) [] [] := bn_of F fun _ _ _ _ _ _ us ws h1 h2 => match us, ws, h1, h2 with
  | [_], [], _, _ => rfl
theorem kn_differences_of_0_values {K : PySem.W.Frag} {f : Addr} {fd : FuncData} (F : Fd_differences_of K f fd) : Bn K (Tt K) fd P_differences_of 0 ["values"] [0] [] [] := bn_of F fun _ _ _ _ _ _ us ws h1 h2 => match us, ws, h1, h2 with
  | [], [_], _, _ => rfl
theorem kn_least_at_2_upto {K : PySem.W.Frag} {f : Addr} {fd : FuncData} (F : Fd_least_at K f fd) : Bn K (Tt K) fd P_least_at 2 ["upto"] [0, 1, 2] [] [] := bn_of F fun _ _ _ _ _ _ us ws h1 h2 => match us, ws, h1, h2 with
  | [_, _], [_], _, _ => rfl
theorem kn_product_of_0_one_other {K : PySem.W.Frag} {f : Addr} {fd : FuncData} (F : Fd_product_of K f fd) : Bn K (Tt K) fd P_product_of 0 ["one", "other"] [0, 1] [] [] := bn_of F fun _ _ _ _ _ _ us ws h1 h2 => match us, ws, h1, h2 with
  | [], [_, _], _, _ => rfl
structure Fs_ (K : PySem.W.Frag) (mg : Str → Option Value) : Prop where
  f_is_whole_rows : ∃ fa fd, Fd_is_whole_rows K fa fd ∧ mg "is_whole_rows" = some (.ref fa)
  f_is_count : ∃ fa fd, Fd_is_count K fa fd ∧ mg "is_count" = some (.ref fa)
  f_is_whole_differences : ∃ fa fd, Fd_is_whole_differences K fa fd ∧ mg "is_whole_differences" = some (.ref fa)
  f_is_differences : ∃ fa fd, Fd_is_differences K fa fd ∧ mg "is_differences" = some (.ref fa)
  f_want_differences : ∃ fa fd, Fd_want_differences K fa fd ∧ mg "want_differences" = some (.ref fa)
  f_trimmed : ∃ fa fd, Fd_trimmed K fa fd ∧ mg "trimmed" = some (.ref fa)
  f_worth : ∃ fa fd, Fd_worth K fa fd ∧ mg "worth" = some (.ref fa)
  f_differences_of : ∃ fa fd, Fd_differences_of K fa fd ∧ mg "differences_of" = some (.ref fa)
  f_summed_up : ∃ fa fd, Fd_summed_up K fa fd ∧ mg "summed_up" = some (.ref fa)
  f_sum_of : ∃ fa fd, Fd_sum_of K fa fd ∧ mg "sum_of" = some (.ref fa)
  f_product_of : ∃ fa fd, Fd_product_of K fa fd ∧ mg "product_of" = some (.ref fa)
  f_moved_by : ∃ fa fd, Fd_moved_by K fa fd ∧ mg "moved_by" = some (.ref fa)
  f_far_enough : ∃ fa fd, Fd_far_enough K fa fd ∧ mg "far_enough" = some (.ref fa)
  f_halved : ∃ fa fd, Fd_halved K fa fd ∧ mg "halved" = some (.ref fa)
  f_least_at : ∃ fa fd, Fd_least_at K fa fd ∧ mg "least_at" = some (.ref fa)
  f_law_pot : ∃ fa fd, Fd_law_pot K fa fd ∧ mg "_law_pot" = some (.ref fa)
  f_law_take : ∃ fa fd, Fd_law_take K fa fd ∧ mg "_law_take" = some (.ref fa)
  f_law_one : ∃ fa fd, Fd_law_one K fa fd ∧ mg "_law_one" = some (.ref fa)
  f_law_whole : ∃ fa fd, Fd_law_whole K fa fd ∧ mg "_law_whole" = some (.ref fa)
  f_law_row : ∃ fa fd, Fd_law_row K fa fd ∧ mg "_law_row" = some (.ref fa)
  f_law_odd : ∃ fa fd, Fd_law_odd K fa fd ∧ mg "_law_odd" = some (.ref fa)
  f_law_no_gear : ∃ fa fd, Fd_law_no_gear K fa fd ∧ mg "_law_no_gear" = some (.ref fa)
  f_law_no_list : ∃ fa fd, Fd_law_no_list K fa fd ∧ mg "_law_no_list" = some (.ref fa)
  f_law_no_count : ∃ fa fd, Fd_law_no_count K fa fd ∧ mg "_law_no_count" = some (.ref fa)
  f_law_done : ∃ fa fd, Fd_law_done K fa fd ∧ mg "_law_done" = some (.ref fa)
  f_law_why : ∃ fa fd, Fd_law_why K fa fd ∧ mg "_law_why" = some (.ref fa)
  f_law_gears_refused : ∃ fa fd, Fd_law_gears_refused K fa fd ∧ mg "_law_gears_refused" = some (.ref fa)
  f_law_good_told : ∃ fa fd, Fd_law_good_told K fa fd ∧ mg "_law_good_told" = some (.ref fa)
  f_law : ∃ fa fd, Fd_law K fa fd ∧ mg "law" = some (.ref fa)
theorem run_no {G : Gs} {d : Def} {l : List Sl} (h : l.length ≠ d.pars) : runDef G d l = .no := by
  unfold runDef
  rw [if_neg (by simpa using h)]
theorem cs {P : Program} {w : World} {K : PySem.W.Frag} {mg : Str → Option Value} {base : Heap} (B : Bs_ mg) (Z : Zs_ K mg) (X : Xs_ K mg) (F : Fs_ K mg) : ∀ n, Cs P w K mg base n
  | 0 => {
      c_is_whole_rows := by obtain ⟨fa, fd, F1, m⟩ := F.f_is_whole_rows; exact ⟨⟨fa, fd, P_is_whole_rows, [], fn_zeroG rfl, m, F1.kp, bn_is_whole_rows F1⟩, fun l _ => rfl⟩
      c_is_count := by obtain ⟨fa, fd, F1, m⟩ := F.f_is_count; exact ⟨⟨fa, fd, P_is_count, [], fn_zeroG rfl, m, F1.kp, bn_is_count F1⟩, fun l _ => rfl⟩
      c_is_whole_differences := by obtain ⟨fa, fd, F1, m⟩ := F.f_is_whole_differences; exact ⟨⟨fa, fd, P_is_whole_differences, [], fn_zeroG rfl, m, F1.kp, bn_is_whole_differences F1⟩, fun l _ => rfl⟩
      c_is_differences := by obtain ⟨fa, fd, F1, m⟩ := F.f_is_differences; exact ⟨⟨fa, fd, P_is_differences, [], fn_zeroG rfl, m, F1.kp, bn_is_differences F1⟩, fun l _ => rfl⟩
      c_want_differences := by obtain ⟨fa, fd, F1, m⟩ := F.f_want_differences; exact ⟨⟨fa, fd, P_want_differences, [], fn_zeroG rfl, m, F1.kp, bn_want_differences F1⟩, fun l _ => rfl⟩
      c_trimmed := by obtain ⟨fa, fd, F1, m⟩ := F.f_trimmed; exact ⟨⟨fa, fd, P_trimmed, [], fn_zeroG rfl, m, F1.kp, bn_trimmed F1⟩, fun l _ => rfl⟩
      c_worth := by obtain ⟨fa, fd, F1, m⟩ := F.f_worth; exact ⟨⟨fa, fd, P_worth, [], fn_zeroG rfl, m, F1.kp, bn_worth F1⟩, fun l _ => rfl⟩
      c_differences_of := by obtain ⟨fa, fd, F1, m⟩ := F.f_differences_of; exact ⟨⟨fa, fd, P_differences_of, [], fn_zeroG rfl, m, F1.kp, bn_differences_of F1⟩, fun l _ => rfl⟩
      c_summed_up := by obtain ⟨fa, fd, F1, m⟩ := F.f_summed_up; exact ⟨⟨fa, fd, P_summed_up, [], fn_zeroG rfl, m, F1.kp, bn_summed_up F1⟩, fun l _ => rfl⟩
      c_sum_of := by obtain ⟨fa, fd, F1, m⟩ := F.f_sum_of; exact ⟨⟨fa, fd, P_sum_of, [], fn_zeroG rfl, m, F1.kp, bn_sum_of F1⟩, fun l _ => rfl⟩
      c_product_of := by obtain ⟨fa, fd, F1, m⟩ := F.f_product_of; exact ⟨⟨fa, fd, P_product_of, [], fn_zeroG rfl, m, F1.kp, bn_product_of F1⟩, fun l _ => rfl⟩
      c_moved_by := by obtain ⟨fa, fd, F1, m⟩ := F.f_moved_by; exact ⟨⟨fa, fd, P_moved_by, [], fn_zeroG rfl, m, F1.kp, bn_moved_by F1⟩, fun l _ => rfl⟩
      c_far_enough := by obtain ⟨fa, fd, F1, m⟩ := F.f_far_enough; exact ⟨⟨fa, fd, P_far_enough, [], fn_zeroG rfl, m, F1.kp, bn_far_enough F1⟩, fun l _ => rfl⟩
      c_halved := by obtain ⟨fa, fd, F1, m⟩ := F.f_halved; exact ⟨⟨fa, fd, P_halved, [], fn_zeroG rfl, m, F1.kp, bn_halved F1⟩, fun l _ => rfl⟩
      c_law_pot := by obtain ⟨fa, fd, F1, m⟩ := F.f_law_pot; exact ⟨⟨fa, fd, P_law_pot, [], fn_zeroG rfl, m, F1.kp, bn_law_pot F1⟩, fun l _ => rfl⟩
      c_law_take := by obtain ⟨fa, fd, F1, m⟩ := F.f_law_take; exact ⟨⟨fa, fd, P_law_take, [], fn_zeroG rfl, m, F1.kp, bn_law_take F1⟩, fun l _ => rfl⟩
      c_law_one := by obtain ⟨fa, fd, F1, m⟩ := F.f_law_one; exact ⟨⟨fa, fd, P_law_one, [], fn_zeroG rfl, m, F1.kp, bn_law_one F1⟩, fun l _ => rfl⟩
      c_law_whole := by obtain ⟨fa, fd, F1, m⟩ := F.f_law_whole; exact ⟨⟨fa, fd, P_law_whole, [], fn_zeroG rfl, m, F1.kp, bn_law_whole F1⟩, fun l _ => rfl⟩
      c_law_row := by obtain ⟨fa, fd, F1, m⟩ := F.f_law_row; exact ⟨⟨fa, fd, P_law_row, [], fn_zeroG rfl, m, F1.kp, bn_law_row F1⟩, fun l _ => rfl⟩
      c_law_odd := by obtain ⟨fa, fd, F1, m⟩ := F.f_law_odd; exact ⟨⟨fa, fd, P_law_odd, [], fn_zeroG rfl, m, F1.kp, bn_law_odd F1⟩, fun l _ => rfl⟩
      c_law_no_gear := by obtain ⟨fa, fd, F1, m⟩ := F.f_law_no_gear; exact ⟨⟨fa, fd, P_law_no_gear, [], fn_zeroG rfl, m, F1.kp, bn_law_no_gear F1⟩, fun l _ => rfl⟩
      c_law_no_list := by obtain ⟨fa, fd, F1, m⟩ := F.f_law_no_list; exact ⟨⟨fa, fd, P_law_no_list, [], fn_zeroG rfl, m, F1.kp, bn_law_no_list F1⟩, fun l _ => rfl⟩
      c_law_no_count := by obtain ⟨fa, fd, F1, m⟩ := F.f_law_no_count; exact ⟨⟨fa, fd, P_law_no_count, [], fn_zeroG rfl, m, F1.kp, bn_law_no_count F1⟩, fun l _ => rfl⟩
      c_law_done := by obtain ⟨fa, fd, F1, m⟩ := F.f_law_done; exact ⟨⟨fa, fd, P_law_done, [], fn_zeroG rfl, m, F1.kp, bn_law_done F1⟩, fun l _ => rfl⟩
      c_law_why := by obtain ⟨fa, fd, F1, m⟩ := F.f_law_why; exact ⟨⟨fa, fd, P_law_why, [], fn_zeroG rfl, m, F1.kp, bn_law_why F1⟩, fun l _ => rfl⟩
      c_law_gears_refused := by obtain ⟨fa, fd, F1, m⟩ := F.f_law_gears_refused; exact ⟨⟨fa, fd, P_law_gears_refused, [], fn_zeroG rfl, m, F1.kp, bn_law_gears_refused F1⟩, fun l _ => rfl⟩
      c_law_good_told := by obtain ⟨fa, fd, F1, m⟩ := F.f_law_good_told; exact ⟨⟨fa, fd, P_law_good_told, [], fn_zeroG rfl, m, F1.kp, bn_law_good_told F1⟩, fun l _ => rfl⟩
      c_law := by obtain ⟨fa, fd, F1, m⟩ := F.f_law; exact ⟨⟨fa, fd, P_law, [], fn_zeroG rfl, m, F1.kp, bn_law F1⟩, fun l _ => rfl⟩
      k_differences_of_0_values := by obtain ⟨fa, fd, F1, m⟩ := F.f_differences_of; exact ⟨⟨fa, fd, P_differences_of, [], fn_zeroG rfl, m, F1.kp, kn_differences_of_0_values F1⟩, fun l _ => rfl⟩
      k_least_at_2_upto := by obtain ⟨fa, fd, F1, m⟩ := F.f_least_at; exact ⟨⟨fa, fd, P_least_at, [], fn_zeroG rfl, m, F1.kp, kn_least_at_2_upto F1⟩, fun l _ => rfl⟩
      k_product_of_0_one_other := by obtain ⟨fa, fd, F1, m⟩ := F.f_product_of; exact ⟨⟨fa, fd, P_product_of, [], fn_zeroG rfl, m, F1.kp, kn_product_of_0_one_other F1⟩, fun l _ => rfl⟩
      l_len := fun c f h => by
        have h : (none : Option Nat) = some f := h; cases h }
  | n + 1 => {
      c_is_whole_rows := by obtain ⟨fa, fd, F1, m⟩ := F.f_is_whole_rows; exact ⟨⟨fa, fd, P_is_whole_rows, [], ok_is_whole_rows B Z (cs B Z X F n) F1, m, F1.kp, bn_is_whole_rows F1⟩, fun l h => run_no h⟩
      c_is_count := by obtain ⟨fa, fd, F1, m⟩ := F.f_is_count; exact ⟨⟨fa, fd, P_is_count, [], ok_is_count B Z (cs B Z X F n) F1, m, F1.kp, bn_is_count F1⟩, fun l h => run_no h⟩
      c_is_whole_differences := by obtain ⟨fa, fd, F1, m⟩ := F.f_is_whole_differences; exact ⟨⟨fa, fd, P_is_whole_differences, [], ok_is_whole_differences B Z (cs B Z X F n) F1, m, F1.kp, bn_is_whole_differences F1⟩, fun l h => run_no h⟩
      c_is_differences := by obtain ⟨fa, fd, F1, m⟩ := F.f_is_differences; exact ⟨⟨fa, fd, P_is_differences, [], ok_is_differences B Z (cs B Z X F n) F1, m, F1.kp, bn_is_differences F1⟩, fun l h => run_no h⟩
      c_want_differences := by obtain ⟨fa, fd, F1, m⟩ := F.f_want_differences; exact ⟨⟨fa, fd, P_want_differences, [], ok_want_differences B Z (cs B Z X F n) F1, m, F1.kp, bn_want_differences F1⟩, fun l h => run_no h⟩
      c_trimmed := by obtain ⟨fa, fd, F1, m⟩ := F.f_trimmed; exact ⟨⟨fa, fd, P_trimmed, [], ok_trimmed B Z (cs B Z X F n) F1, m, F1.kp, bn_trimmed F1⟩, fun l h => run_no h⟩
      c_worth := by obtain ⟨fa, fd, F1, m⟩ := F.f_worth; exact ⟨⟨fa, fd, P_worth, [], ok_worth B Z (cs B Z X F n) F1, m, F1.kp, bn_worth F1⟩, fun l h => run_no h⟩
      c_differences_of := by obtain ⟨fa, fd, F1, m⟩ := F.f_differences_of; exact ⟨⟨fa, fd, P_differences_of, [], ok_differences_of B Z (cs B Z X F n) F1, m, F1.kp, bn_differences_of F1⟩, fun l h => run_no h⟩
      c_summed_up := by obtain ⟨fa, fd, F1, m⟩ := F.f_summed_up; exact ⟨⟨fa, fd, P_summed_up, [], ok_summed_up B Z (cs B Z X F n) F1, m, F1.kp, bn_summed_up F1⟩, fun l h => run_no h⟩
      c_sum_of := by obtain ⟨fa, fd, F1, m⟩ := F.f_sum_of; exact ⟨⟨fa, fd, P_sum_of, [], ok_sum_of B Z (cs B Z X F n) F1, m, F1.kp, bn_sum_of F1⟩, fun l h => run_no h⟩
      c_product_of := by obtain ⟨fa, fd, F1, m⟩ := F.f_product_of; exact ⟨⟨fa, fd, P_product_of, [], ok_product_of B Z (cs B Z X F n) F1, m, F1.kp, bn_product_of F1⟩, fun l h => run_no h⟩
      c_moved_by := by obtain ⟨fa, fd, F1, m⟩ := F.f_moved_by; exact ⟨⟨fa, fd, P_moved_by, [], ok_moved_by B Z (cs B Z X F n) F1, m, F1.kp, bn_moved_by F1⟩, fun l h => run_no h⟩
      c_far_enough := by obtain ⟨fa, fd, F1, m⟩ := F.f_far_enough; exact ⟨⟨fa, fd, P_far_enough, [], ok_far_enough B Z (cs B Z X F n) F1, m, F1.kp, bn_far_enough F1⟩, fun l h => run_no h⟩
      c_halved := by obtain ⟨fa, fd, F1, m⟩ := F.f_halved; exact ⟨⟨fa, fd, P_halved, [], ok_halved B Z (cs B Z X F n) F1, m, F1.kp, bn_halved F1⟩, fun l h => run_no h⟩
      c_law_pot := by obtain ⟨fa, fd, F1, m⟩ := F.f_law_pot; exact ⟨⟨fa, fd, P_law_pot, [], ok_law_pot B Z (cs B Z X F n) F1, m, F1.kp, bn_law_pot F1⟩, fun l h => run_no h⟩
      c_law_take := by obtain ⟨fa, fd, F1, m⟩ := F.f_law_take; exact ⟨⟨fa, fd, P_law_take, [], ok_law_take B Z (cs B Z X F n) F1, m, F1.kp, bn_law_take F1⟩, fun l h => run_no h⟩
      c_law_one := by obtain ⟨fa, fd, F1, m⟩ := F.f_law_one; exact ⟨⟨fa, fd, P_law_one, [], ok_law_one B Z (cs B Z X F n) F1, m, F1.kp, bn_law_one F1⟩, fun l h => run_no h⟩
      c_law_whole := by obtain ⟨fa, fd, F1, m⟩ := F.f_law_whole; exact ⟨⟨fa, fd, P_law_whole, [], ok_law_whole B Z (cs B Z X F n) F1, m, F1.kp, bn_law_whole F1⟩, fun l h => run_no h⟩
      c_law_row := by obtain ⟨fa, fd, F1, m⟩ := F.f_law_row; exact ⟨⟨fa, fd, P_law_row, [], ok_law_row B Z (cs B Z X F n) F1, m, F1.kp, bn_law_row F1⟩, fun l h => run_no h⟩
      c_law_odd := by obtain ⟨fa, fd, F1, m⟩ := F.f_law_odd; exact ⟨⟨fa, fd, P_law_odd, [], ok_law_odd B Z (cs B Z X F n) F1, m, F1.kp, bn_law_odd F1⟩, fun l h => run_no h⟩
      c_law_no_gear := by obtain ⟨fa, fd, F1, m⟩ := F.f_law_no_gear; exact ⟨⟨fa, fd, P_law_no_gear, [], ok_law_no_gear B Z (cs B Z X F n) F1, m, F1.kp, bn_law_no_gear F1⟩, fun l h => run_no h⟩
      c_law_no_list := by obtain ⟨fa, fd, F1, m⟩ := F.f_law_no_list; exact ⟨⟨fa, fd, P_law_no_list, [], ok_law_no_list B Z (cs B Z X F n) F1, m, F1.kp, bn_law_no_list F1⟩, fun l h => run_no h⟩
      c_law_no_count := by obtain ⟨fa, fd, F1, m⟩ := F.f_law_no_count; exact ⟨⟨fa, fd, P_law_no_count, [], ok_law_no_count B Z (cs B Z X F n) F1, m, F1.kp, bn_law_no_count F1⟩, fun l h => run_no h⟩
      c_law_done := by obtain ⟨fa, fd, F1, m⟩ := F.f_law_done; exact ⟨⟨fa, fd, P_law_done, [], ok_law_done B Z (cs B Z X F n) F1, m, F1.kp, bn_law_done F1⟩, fun l h => run_no h⟩
      c_law_why := by obtain ⟨fa, fd, F1, m⟩ := F.f_law_why; exact ⟨⟨fa, fd, P_law_why, [], ok_law_why B Z (cs B Z X F n) F1, m, F1.kp, bn_law_why F1⟩, fun l h => run_no h⟩
      c_law_gears_refused := by obtain ⟨fa, fd, F1, m⟩ := F.f_law_gears_refused; exact ⟨⟨fa, fd, P_law_gears_refused, [], ok_law_gears_refused B Z (cs B Z X F n) F1, m, F1.kp, bn_law_gears_refused F1⟩, fun l h => run_no h⟩
      c_law_good_told := by obtain ⟨fa, fd, F1, m⟩ := F.f_law_good_told; exact ⟨⟨fa, fd, P_law_good_told, [], ok_law_good_told B Z (cs B Z X F n) F1, m, F1.kp, bn_law_good_told F1⟩, fun l h => run_no h⟩
      c_law := by obtain ⟨fa, fd, F1, m⟩ := F.f_law; exact ⟨⟨fa, fd, P_law, [], ok_law B Z (cs B Z X F n) F1, m, F1.kp, bn_law F1⟩, fun l h => run_no h⟩
      k_differences_of_0_values := by obtain ⟨fa, fd, F1, m⟩ := F.f_differences_of; exact ⟨⟨fa, fd, P_differences_of, [], ok_differences_of B Z (cs B Z X F n) F1, m, F1.kp, kn_differences_of_0_values F1⟩, fun l h => run_no h⟩
      k_least_at_2_upto := by obtain ⟨fa, fd, F1, m⟩ := F.f_least_at; exact ⟨⟨fa, fd, P_least_at, [], ok_least_at B Z (cs B Z X F n) F1, m, F1.kp, kn_least_at_2_upto F1⟩, fun l h => run_no h⟩
      k_product_of_0_one_other := by obtain ⟨fa, fd, F1, m⟩ := F.f_product_of; exact ⟨⟨fa, fd, P_product_of, [], ok_product_of B Z (cs B Z X F n) F1, m, F1.kp, kn_product_of_0_one_other F1⟩, fun l h => run_no h⟩
      l_len := fun c f h => by
        have h : (none : Option Nat) = some f := h; cases h }
def h_is_whole_rows : He.DefD := ⟨("is_whole_rows", none), "is_whole", "is_whole", defArgs st_is_whole_rows, defBody st_is_whole_rows, defScope st_is_whole_rows, [], []⟩
def h_is_count : He.DefD := ⟨("is_count", none), "is_count", "is_count", defArgs st_is_count, defBody st_is_count, defScope st_is_count, [], []⟩
def h_is_whole_differences : He.DefD := ⟨("is_whole_differences", none), "is_whole", "is_whole", defArgs st_is_whole_differences, defBody st_is_whole_differences, defScope st_is_whole_differences, [], []⟩
def h_is_differences : He.DefD := ⟨("is_differences", none), "is_differences", "is_differences", defArgs st_is_differences, defBody st_is_differences, defScope st_is_differences, [], []⟩
def h_want_differences : He.DefD := ⟨("want_differences", none), "want_differences", "want_differences", defArgs st_want_differences, defBody st_want_differences, defScope st_want_differences, [], []⟩
def h_trimmed : He.DefD := ⟨("trimmed", none), "trimmed", "trimmed", defArgs st_trimmed, defBody st_trimmed, defScope st_trimmed, [], []⟩
def h_worth : He.DefD := ⟨("worth", none), "worth", "worth", defArgs st_worth, defBody st_worth, defScope st_worth, [], []⟩
def h_differences_of : He.DefD := ⟨("differences_of", none), "differences_of", "differences_of", defArgs st_differences_of, defBody st_differences_of, defScope st_differences_of, [], []⟩
def h_summed_up : He.DefD := ⟨("summed_up", none), "summed_up", "summed_up", defArgs st_summed_up, defBody st_summed_up, defScope st_summed_up, [], []⟩
def h_sum_of : He.DefD := ⟨("sum_of", none), "sum_of", "sum_of", defArgs st_sum_of, defBody st_sum_of, defScope st_sum_of, [], []⟩
def h_product_of : He.DefD := ⟨("product_of", none), "product_of", "product_of", defArgs st_product_of, defBody st_product_of, defScope st_product_of, [], []⟩
def h_moved_by : He.DefD := ⟨("moved_by", none), "moved_by", "moved_by", defArgs st_moved_by, defBody st_moved_by, defScope st_moved_by, [], []⟩
def h_far_enough : He.DefD := ⟨("far_enough", none), "far_enough", "far_enough", defArgs st_far_enough, defBody st_far_enough, defScope st_far_enough, [], []⟩
def h_halved : He.DefD := ⟨("halved", none), "halved", "halved", defArgs st_halved, defBody st_halved, defScope st_halved, [], []⟩
def h_least_at : He.DefD := ⟨("least_at", none), "least_at", "least_at", defArgs st_least_at, defBody st_least_at, defScope st_least_at, [], []⟩
def h_law_pot : He.DefD := ⟨("_law_pot", none), "_law_pot", "_law_pot", defArgs st_law_pot, defBody st_law_pot, defScope st_law_pot, [], []⟩
def h_law_take : He.DefD := ⟨("_law_take", none), "_law_take", "_law_take", defArgs st_law_take, defBody st_law_take, defScope st_law_take, [], []⟩
def h_law_one : He.DefD := ⟨("_law_one", none), "_law_one", "_law_one", defArgs st_law_one, defBody st_law_one, defScope st_law_one, [], []⟩
def h_law_whole : He.DefD := ⟨("_law_whole", none), "_law_whole", "_law_whole", defArgs st_law_whole, defBody st_law_whole, defScope st_law_whole, [], []⟩
def h_law_row : He.DefD := ⟨("_law_row", none), "_law_row", "_law_row", defArgs st_law_row, defBody st_law_row, defScope st_law_row, [], []⟩
def h_law_odd : He.DefD := ⟨("_law_odd", none), "_law_odd", "_law_odd", defArgs st_law_odd, defBody st_law_odd, defScope st_law_odd, [], []⟩
def h_law_no_gear : He.DefD := ⟨("_law_no_gear", none), "_law_no_gear", "_law_no_gear", defArgs st_law_no_gear, defBody st_law_no_gear, defScope st_law_no_gear, [], []⟩
def h_law_no_list : He.DefD := ⟨("_law_no_list", none), "_law_no_list", "_law_no_list", defArgs st_law_no_list, defBody st_law_no_list, defScope st_law_no_list, [], []⟩
def h_law_no_count : He.DefD := ⟨("_law_no_count", none), "_law_no_count", "_law_no_count", defArgs st_law_no_count, defBody st_law_no_count, defScope st_law_no_count, [], []⟩
def h_law_done : He.DefD := ⟨("_law_done", none), "_law_done", "_law_done", defArgs st_law_done, defBody st_law_done, defScope st_law_done, [], []⟩
def h_law_why : He.DefD := ⟨("_law_why", none), "_law_why", "_law_why", defArgs st_law_why, defBody st_law_why, defScope st_law_why, [], []⟩
def h_law_gears_refused : He.DefD := ⟨("_law_gears_refused", none), "_law_gears_refused", "_law_gears_refused", defArgs st_law_gears_refused, defBody st_law_gears_refused, defScope st_law_gears_refused, [], []⟩
def h_law_good_told : He.DefD := ⟨("_law_good_told", none), "_law_good_told", "_law_good_told", defArgs st_law_good_told, defBody st_law_good_told, defScope st_law_good_told, [], []⟩
def h_law : He.DefD := ⟨("law", none), "law", "law", defArgs st_law, defBody st_law, defScope st_law, [], []⟩
def fn : List He.DefD := [h_is_whole_rows, h_is_count, h_is_whole_differences, h_is_differences, h_want_differences, h_trimmed, h_worth, h_differences_of, h_summed_up, h_sum_of, h_product_of, h_moved_by, h_far_enough, h_halved, h_least_at, h_law_pot, h_law_take, h_law_one, h_law_whole, h_law_row, h_law_odd, h_law_no_gear, h_law_no_list, h_law_no_count, h_law_done, h_law_why, h_law_gears_refused, h_law_good_told, h_law]
def fa : List He.Fa := [.free "ValueError", .free "abs", .free "all", .free "bool", .free "divmod", .free "enumerate", .free "int", .free "isinstance", .free "len", .free "list", .free "max", .free "min", .free "range", .free "repr", .free "tuple", .free "zip", .glo "NoDifferences", .glo "NoCount", .glo "FarError", .glo "NoLeap", .glo "NoMoment", .glo "NoPatch", .glo "NoProgram", .glo "NoText", .glo "NoValues", .glo "is_whole_rows", .glo "is_count", .glo "is_whole_differences", .glo "is_differences", .glo "want_differences", .glo "trimmed", .glo "worth", .glo "differences_of", .glo "summed_up", .glo "sum_of", .glo "product_of", .glo "moved_by", .glo "far_enough", .glo "halved", .glo "least_at", .glo "_law_pot", .glo "_law_take", .glo "_law_one", .glo "_law_whole", .glo "_law_row", .glo "_law_odd", .glo "_law_no_gear", .glo "_law_no_list", .glo "_law_no_count", .glo "_law_done", .glo "_law_why", .glo "_law_gears_refused", .glo "_law_good_told", .glo "law"]
def exl (K : PySem.W.Frag) : List Bool := [smB K, ex0B K (He.ga K "NoDifferences") Bm_NoDifferences "ValueError.__new__", ex0B K (He.ga K "NoCount") Bm_NoCount "ValueError.__new__", excB K (He.ga K "NoDifferences"), decide (PySem.W.kitOne K (.ref (He.ga K "NoDifferences")) (.ref (He.ga K "NoLeap")) = some false), excB K (He.ga K "NoCount"), decide (PySem.W.kitOne K (.ref (He.ga K "NoCount")) (.ref (He.ga K "NoLeap")) = some false), decide (PySem.W.kitOne K (.ref (He.ga K "NoDifferences")) (.ref (He.ga K "NoMoment")) = some false), decide (PySem.W.kitOne K (.ref (He.ga K "NoCount")) (.ref (He.ga K "NoMoment")) = some false), decide (PySem.W.kitOne K (.ref (He.ga K "NoDifferences")) (.ref (He.ga K "NoPatch")) = some false), decide (PySem.W.kitOne K (.ref (He.ga K "NoCount")) (.ref (He.ga K "NoPatch")) = some false), decide (PySem.W.kitOne K (.ref (He.ga K "NoDifferences")) (.ref (He.ga K "NoProgram")) = some false), decide (PySem.W.kitOne K (.ref (He.ga K "NoCount")) (.ref (He.ga K "NoProgram")) = some false), decide (PySem.W.kitOne K (.ref (He.ga K "NoDifferences")) (.ref (He.ga K "NoText")) = some false), decide (PySem.W.kitOne K (.ref (He.ga K "NoCount")) (.ref (He.ga K "NoText")) = some false), decide (PySem.W.kitOne K (.ref (He.ga K "NoDifferences")) (.ref (He.ga K "NoValues")) = some false), decide (PySem.W.kitOne K (.ref (He.ga K "NoCount")) (.ref (He.ga K "NoValues")) = some false), decide (PySem.W.kitOne K (.ref (He.ga K "NoDifferences")) (.type "ValueError") = some true), decide (PySem.W.kitOne K (.ref (He.ga K "NoCount")) (.type "ValueError") = some true), decide (PySem.W.kitOne K (.ref (He.ga K "NoDifferences")) (.ref (He.ga K "NoDifferences")) = some true), decide (PySem.W.kitOne K (.ref (He.ga K "NoCount")) (.ref (He.ga K "NoDifferences")) = some false), decide (PySem.W.kitOne K (.ref (He.ga K "NoDifferences")) (.ref (He.ga K "NoCount")) = some false), decide (PySem.W.kitOne K (.ref (He.ga K "NoCount")) (.ref (He.ga K "NoCount")) = some true), decide (PySem.W.exmOne K (.ref (He.ga K "NoDifferences")) (.ref (He.ga K "FarError")) = some true), decide (PySem.W.exmOne K (.ref (He.ga K "NoCount")) (.ref (He.ga K "FarError")) = some true)]
def ex (K : PySem.W.Frag) : Bool := (exl K).all id
theorem isa_dom {c k : Nat} {b : Bool} (h : isaF c k = some b) : c = 0 ∨ c = 1 := by
  unfold isaF at h
  split at h <;> first | omega | cases h
def nm0 : List PySem.Str := ["__name__", "FarError", "NoCount", "NoValues", "NoMoment", "NoProgram", "NoText", "NoPatch", "NoLeap", "NoDifferences", "is_whole", "is_whole_rows", "is_count", "is_whole_differences", "is_differences", "want_differences", "trimmed", "worth", "differences_of", "summed_up", "sum_of", "product_of", "moved_by", "far_enough", "halved", "least_at", "_law_pot", "_law_take", "_law_one", "_law_whole"]
def nm1 : List PySem.Str := ["_law_row", "_law_odd", "_law_no_gear", "_law_no_list", "_law_no_count", "_law_done", "_law_why", "_law_gears_refused", "_law_good_told"]
def names : List PySem.Str := nm0 ++ nm1
abbrev R : PySem.W.OpenRow := PySem.W.OpenLaw.row PySem.Challenge.rw_farsteps_k37_differences_refused
abbrev hk : PySem.W.Hook := hookE 7 fa fn ex
def ob (s : PySem.W.SharedT) : He.AlD × Bool := obsE 7 fa fn ex (HandSHeadRun.getT s)
theorem ob_eq (s : PySem.W.SharedT) : ob s = hk.obs s.abs := obsE_eq (HandSHeadRun.getT_eq s)
theorem run (w : World) : HandSHeadRun.RunEq R (PySem.W.view R.prog [44]) hk ob 20000 names w := by
  intro os
  kernel_rfl
theorem facts {K : PySem.W.Frag} {h : Heap} {mg : Str → Option Value} (X : K.In h) (Gm : h.Ns mainGlobals mg) (c : He.SaysD fa fn K) (d : ex K = true) : Bs_ mg ∧ Zs_ K mg ∧ Xs_ K mg ∧ Fs_ K mg := by
  refine ⟨{
      b_ValueError := He.free_ok X Gm (c.fact 0 (f := .free "ValueError") rfl)
      b_abs := He.free_ok X Gm (c.fact 1 (f := .free "abs") rfl)
      b_all := He.free_ok X Gm (c.fact 2 (f := .free "all") rfl)
      b_bool := He.free_ok X Gm (c.fact 3 (f := .free "bool") rfl)
      b_divmod := He.free_ok X Gm (c.fact 4 (f := .free "divmod") rfl)
      b_enumerate := He.free_ok X Gm (c.fact 5 (f := .free "enumerate") rfl)
      b_int := He.free_ok X Gm (c.fact 6 (f := .free "int") rfl)
      b_isinstance := He.free_ok X Gm (c.fact 7 (f := .free "isinstance") rfl)
      b_len := He.free_ok X Gm (c.fact 8 (f := .free "len") rfl)
      b_list := He.free_ok X Gm (c.fact 9 (f := .free "list") rfl)
      b_max := He.free_ok X Gm (c.fact 10 (f := .free "max") rfl)
      b_min := He.free_ok X Gm (c.fact 11 (f := .free "min") rfl)
      b_range := He.free_ok X Gm (c.fact 12 (f := .free "range") rfl)
      b_repr := He.free_ok X Gm (c.fact 13 (f := .free "repr") rfl)
      b_tuple := He.free_ok X Gm (c.fact 14 (f := .free "tuple") rfl)
      b_zip := He.free_ok X Gm (c.fact 15 (f := .free "zip") rfl)
    }, {
      sm := smB_ok (allAt d (i := 0) rfl)
      xa_NoDifferences := He.glo_ok X Gm (c.fact 16 (f := .glo "NoDifferences") rfl)
      xa_NoCount := He.glo_ok X Gm (c.fact 17 (f := .glo "NoCount") rfl)
      xa_FarError := He.glo_ok X Gm (c.fact 18 (f := .glo "FarError") rfl)
      xa_NoLeap := He.glo_ok X Gm (c.fact 19 (f := .glo "NoLeap") rfl)
      xa_NoMoment := He.glo_ok X Gm (c.fact 20 (f := .glo "NoMoment") rfl)
      xa_NoPatch := He.glo_ok X Gm (c.fact 21 (f := .glo "NoPatch") rfl)
      xa_NoProgram := He.glo_ok X Gm (c.fact 22 (f := .glo "NoProgram") rfl)
      xa_NoText := He.glo_ok X Gm (c.fact 23 (f := .glo "NoText") rfl)
      xa_NoValues := He.glo_ok X Gm (c.fact 24 (f := .glo "NoValues") rfl)
      x0_NoDifferences := ex0B_ok (allAt d (i := 1) rfl)
      x0_NoCount := ex0B_ok (allAt d (i := 2) rfl)
      xi_NoLeap := by
        intro c b h
        have h2 : c = 0 ∨ c = 1 := isa_dom h
        rcases h2 with rfl | rfl
        · cases h; exact ⟨excB_ok (allAt d (i := 3) rfl), ofD (allAt d (i := 4) rfl)⟩
        · cases h; exact ⟨excB_ok (allAt d (i := 5) rfl), ofD (allAt d (i := 6) rfl)⟩
      xi_NoMoment := by
        intro c b h
        have h2 : c = 0 ∨ c = 1 := isa_dom h
        rcases h2 with rfl | rfl
        · cases h; exact ⟨excB_ok (allAt d (i := 3) rfl), ofD (allAt d (i := 7) rfl)⟩
        · cases h; exact ⟨excB_ok (allAt d (i := 5) rfl), ofD (allAt d (i := 8) rfl)⟩
      xi_NoPatch := by
        intro c b h
        have h2 : c = 0 ∨ c = 1 := isa_dom h
        rcases h2 with rfl | rfl
        · cases h; exact ⟨excB_ok (allAt d (i := 3) rfl), ofD (allAt d (i := 9) rfl)⟩
        · cases h; exact ⟨excB_ok (allAt d (i := 5) rfl), ofD (allAt d (i := 10) rfl)⟩
      xi_NoProgram := by
        intro c b h
        have h2 : c = 0 ∨ c = 1 := isa_dom h
        rcases h2 with rfl | rfl
        · cases h; exact ⟨excB_ok (allAt d (i := 3) rfl), ofD (allAt d (i := 11) rfl)⟩
        · cases h; exact ⟨excB_ok (allAt d (i := 5) rfl), ofD (allAt d (i := 12) rfl)⟩
      xi_NoText := by
        intro c b h
        have h2 : c = 0 ∨ c = 1 := isa_dom h
        rcases h2 with rfl | rfl
        · cases h; exact ⟨excB_ok (allAt d (i := 3) rfl), ofD (allAt d (i := 13) rfl)⟩
        · cases h; exact ⟨excB_ok (allAt d (i := 5) rfl), ofD (allAt d (i := 14) rfl)⟩
      xi_NoValues := by
        intro c b h
        have h2 : c = 0 ∨ c = 1 := isa_dom h
        rcases h2 with rfl | rfl
        · cases h; exact ⟨excB_ok (allAt d (i := 3) rfl), ofD (allAt d (i := 15) rfl)⟩
        · cases h; exact ⟨excB_ok (allAt d (i := 5) rfl), ofD (allAt d (i := 16) rfl)⟩
      xi_ValueError := by
        intro c b h
        have h2 : c = 0 ∨ c = 1 := isa_dom h
        rcases h2 with rfl | rfl
        · cases h; exact ⟨excB_ok (allAt d (i := 3) rfl), ofD (allAt d (i := 17) rfl)⟩
        · cases h; exact ⟨excB_ok (allAt d (i := 5) rfl), ofD (allAt d (i := 18) rfl)⟩
      xi_NoDifferences := by
        intro c b h
        have h2 : c = 0 ∨ c = 1 := isa_dom h
        rcases h2 with rfl | rfl
        · cases h; exact ⟨excB_ok (allAt d (i := 3) rfl), ofD (allAt d (i := 19) rfl)⟩
        · cases h; exact ⟨excB_ok (allAt d (i := 5) rfl), ofD (allAt d (i := 20) rfl)⟩
      xi_NoCount := by
        intro c b h
        have h2 : c = 0 ∨ c = 1 := isa_dom h
        rcases h2 with rfl | rfl
        · cases h; exact ⟨excB_ok (allAt d (i := 3) rfl), ofD (allAt d (i := 21) rfl)⟩
        · cases h; exact ⟨excB_ok (allAt d (i := 5) rfl), ofD (allAt d (i := 22) rfl)⟩
      xm_FarError := by
        intro c b h
        have h2 : c = 0 ∨ c = 1 := isa_dom h
        rcases h2 with rfl | rfl
        · cases h; exact ofD (allAt d (i := 23) rfl)
        · cases h; exact ofD (allAt d (i := 24) rfl)
    }, {
    }, {
      f_is_whole_rows := by obtain ⟨fd, F⟩ := c.def_ 0 (d := h_is_whole_rows) rfl; exact ⟨_, fd, F, He.glo_ok X Gm (c.fact 25 (f := .glo "is_whole_rows") rfl)⟩
      f_is_count := by obtain ⟨fd, F⟩ := c.def_ 1 (d := h_is_count) rfl; exact ⟨_, fd, F, He.glo_ok X Gm (c.fact 26 (f := .glo "is_count") rfl)⟩
      f_is_whole_differences := by obtain ⟨fd, F⟩ := c.def_ 2 (d := h_is_whole_differences) rfl; exact ⟨_, fd, F, He.glo_ok X Gm (c.fact 27 (f := .glo "is_whole_differences") rfl)⟩
      f_is_differences := by obtain ⟨fd, F⟩ := c.def_ 3 (d := h_is_differences) rfl; exact ⟨_, fd, F, He.glo_ok X Gm (c.fact 28 (f := .glo "is_differences") rfl)⟩
      f_want_differences := by obtain ⟨fd, F⟩ := c.def_ 4 (d := h_want_differences) rfl; exact ⟨_, fd, F, He.glo_ok X Gm (c.fact 29 (f := .glo "want_differences") rfl)⟩
      f_trimmed := by obtain ⟨fd, F⟩ := c.def_ 5 (d := h_trimmed) rfl; exact ⟨_, fd, F, He.glo_ok X Gm (c.fact 30 (f := .glo "trimmed") rfl)⟩
      f_worth := by obtain ⟨fd, F⟩ := c.def_ 6 (d := h_worth) rfl; exact ⟨_, fd, F, He.glo_ok X Gm (c.fact 31 (f := .glo "worth") rfl)⟩
      f_differences_of := by obtain ⟨fd, F⟩ := c.def_ 7 (d := h_differences_of) rfl; exact ⟨_, fd, F, He.glo_ok X Gm (c.fact 32 (f := .glo "differences_of") rfl)⟩
      f_summed_up := by obtain ⟨fd, F⟩ := c.def_ 8 (d := h_summed_up) rfl; exact ⟨_, fd, F, He.glo_ok X Gm (c.fact 33 (f := .glo "summed_up") rfl)⟩
      f_sum_of := by obtain ⟨fd, F⟩ := c.def_ 9 (d := h_sum_of) rfl; exact ⟨_, fd, F, He.glo_ok X Gm (c.fact 34 (f := .glo "sum_of") rfl)⟩
      f_product_of := by obtain ⟨fd, F⟩ := c.def_ 10 (d := h_product_of) rfl; exact ⟨_, fd, F, He.glo_ok X Gm (c.fact 35 (f := .glo "product_of") rfl)⟩
      f_moved_by := by obtain ⟨fd, F⟩ := c.def_ 11 (d := h_moved_by) rfl; exact ⟨_, fd, F, He.glo_ok X Gm (c.fact 36 (f := .glo "moved_by") rfl)⟩
      f_far_enough := by obtain ⟨fd, F⟩ := c.def_ 12 (d := h_far_enough) rfl; exact ⟨_, fd, F, He.glo_ok X Gm (c.fact 37 (f := .glo "far_enough") rfl)⟩
      f_halved := by obtain ⟨fd, F⟩ := c.def_ 13 (d := h_halved) rfl; exact ⟨_, fd, F, He.glo_ok X Gm (c.fact 38 (f := .glo "halved") rfl)⟩
      f_least_at := by obtain ⟨fd, F⟩ := c.def_ 14 (d := h_least_at) rfl; exact ⟨_, fd, F, He.glo_ok X Gm (c.fact 39 (f := .glo "least_at") rfl)⟩
      f_law_pot := by obtain ⟨fd, F⟩ := c.def_ 15 (d := h_law_pot) rfl; exact ⟨_, fd, F, He.glo_ok X Gm (c.fact 40 (f := .glo "_law_pot") rfl)⟩
      f_law_take := by obtain ⟨fd, F⟩ := c.def_ 16 (d := h_law_take) rfl; exact ⟨_, fd, F, He.glo_ok X Gm (c.fact 41 (f := .glo "_law_take") rfl)⟩
      f_law_one := by obtain ⟨fd, F⟩ := c.def_ 17 (d := h_law_one) rfl; exact ⟨_, fd, F, He.glo_ok X Gm (c.fact 42 (f := .glo "_law_one") rfl)⟩
      f_law_whole := by obtain ⟨fd, F⟩ := c.def_ 18 (d := h_law_whole) rfl; exact ⟨_, fd, F, He.glo_ok X Gm (c.fact 43 (f := .glo "_law_whole") rfl)⟩
      f_law_row := by obtain ⟨fd, F⟩ := c.def_ 19 (d := h_law_row) rfl; exact ⟨_, fd, F, He.glo_ok X Gm (c.fact 44 (f := .glo "_law_row") rfl)⟩
      f_law_odd := by obtain ⟨fd, F⟩ := c.def_ 20 (d := h_law_odd) rfl; exact ⟨_, fd, F, He.glo_ok X Gm (c.fact 45 (f := .glo "_law_odd") rfl)⟩
      f_law_no_gear := by obtain ⟨fd, F⟩ := c.def_ 21 (d := h_law_no_gear) rfl; exact ⟨_, fd, F, He.glo_ok X Gm (c.fact 46 (f := .glo "_law_no_gear") rfl)⟩
      f_law_no_list := by obtain ⟨fd, F⟩ := c.def_ 22 (d := h_law_no_list) rfl; exact ⟨_, fd, F, He.glo_ok X Gm (c.fact 47 (f := .glo "_law_no_list") rfl)⟩
      f_law_no_count := by obtain ⟨fd, F⟩ := c.def_ 23 (d := h_law_no_count) rfl; exact ⟨_, fd, F, He.glo_ok X Gm (c.fact 48 (f := .glo "_law_no_count") rfl)⟩
      f_law_done := by obtain ⟨fd, F⟩ := c.def_ 24 (d := h_law_done) rfl; exact ⟨_, fd, F, He.glo_ok X Gm (c.fact 49 (f := .glo "_law_done") rfl)⟩
      f_law_why := by obtain ⟨fd, F⟩ := c.def_ 25 (d := h_law_why) rfl; exact ⟨_, fd, F, He.glo_ok X Gm (c.fact 50 (f := .glo "_law_why") rfl)⟩
      f_law_gears_refused := by obtain ⟨fd, F⟩ := c.def_ 26 (d := h_law_gears_refused) rfl; exact ⟨_, fd, F, He.glo_ok X Gm (c.fact 51 (f := .glo "_law_gears_refused") rfl)⟩
      f_law_good_told := by obtain ⟨fd, F⟩ := c.def_ 27 (d := h_law_good_told) rfl; exact ⟨_, fd, F, He.glo_ok X Gm (c.fact 52 (f := .glo "_law_good_told") rfl)⟩
      f_law := by obtain ⟨fd, F⟩ := c.def_ 28 (d := h_law) rfl; exact ⟨_, fd, F, He.glo_ok X Gm (c.fact 53 (f := .glo "law") rfl)⟩
    }⟩
theorem entry0 {K : PySem.W.Frag} {H : Hp} {a : Addr} {ns : List Int} (hS : SqL K H a (ns.map V.int)) : ST (Tt K) ⟨H, H, pasOf 0 [.ref a] [Sl.sh (.scr ns)]⟩ H H ([V.ref a].map some) [.sh (.scr ns)] [] where
  sub := Same.refl H
  s0 := Same.refl H
  len := rfl
  slot := fun i s h => by
    cases i with
    | zero => cases h; exact ⟨_, rfl, _, rfl, .scr hS⟩
    | succ i => simp at h
  temp := fun t h => by simp at h
  dist := fun i j p ⟨_, s, b, c⟩ _ => by
    cases i with
    | zero => cases b; cases c
    | succ i => simp at b
  dtt := by simp [tmpL]
  dts := fun p h => by simp [tmpL] at h
  pak := fun q h => by simp [pasOf] at h
  keep := fun b o h _ => h
  dom := fun b o h => ⟨o, h⟩
  new := fun b o h => .inl ⟨o, h⟩
theorem law_sp {K : PySem.W.Frag} (pure_law : ∀ ns : List Int, ns.length ≤ 63 → ∃ l, (G 14).fn i_law [.sh (.scr ns)] = .ok (.d (.bl true)) l) {H : Hp} {a : Addr} {ns : List Int} (hl : ns.length ≤ 63) (hS : SqL K H a (ns.map V.int)) (E : XK) :
    SpF (Tt K) 1 ((G 14).fn i_law) [.ref a] H (fun v _ => v = .bl true) E := by
  obtain ⟨l, e⟩ := pure_law ns hl
  refine ⟨rfl, H, [.sh (.scr ns)], rfl, fun s h => .inl ⟨_, List.mem_singleton.mp h⟩, entry0 hS, ?_⟩
  rw [e]
  intro H0' H' v _ S
  have r : Rp (Tt K) H0' v (.bl true) := S.temp _ (List.mem_cons_self ..)
  cases r
  rfl
end Lw
open PySem PySem.W PySem.Calls PyProof.Rows
theorem PySem.Challenge.cw_farsteps_k37_differences_refused_holds : PySem.Challenge.rw_farsteps_k37_differences_refused.Holds := by
  w_on; o_law
  refine HandSHeadRun.head_any (r := OpenLaw.row PySem.Challenge.rw_farsteps_k37_differences_refused) (q := view (OpenLaw.row PySem.Challenge.rw_farsteps_k37_differences_refused).prog [44]) (H := Lw.hk) (ob := Lw.ob) (M := 20000) (loose := Lw.names) (d := HandSHeadRun.topDef (OpenLaw.row PySem.Challenge.rw_farsteps_k37_differences_refused).prog 44) (kwd := []) Lw.ob_eq
    (by kernel_rfl) (fun s => by kernel_rfl) Lw.run (by kernel_rfl) (by kernel_rfl) (by kernel_rfl) (by rfl) (by first | assumption | decide +kernel) (by decide +kernel) ⟨rfl, rfl, rfl, rfl, rfl, by decide +kernel⟩ ?hw ?hc
  case hw => w_witness2
  case hc =>
    refine Mi.walk_ofG (l := PySem.Challenge.rw_farsteps_k37_differences_refused) (n := 63) (k := 14 + 2) (x := "_law_script") rfl (by decide) (by kernel_rfl) ⟨rfl, by decide, by decide⟩ ?F
    intro w mg fa h Y G hmg0
    obtain ⟨K, KX, c, d⟩ := Y
    have hmg : mg ("law" : PySem.Str) = some (.ref fa) := by
      have e : (HandSHeadRun.topDef (OpenLaw.row PySem.Challenge.rw_farsteps_k37_differences_refused).prog 44).name = ("law" : PySem.Str) := by kernel_rfl
      rw [← e]
      exact hmg0
    obtain ⟨B, Z, X, F⟩ := Lw.facts KX G c d
    obtain ⟨fa', fd, FL, m⟩ := F.f_law
    have e := hmg.symm.trans m
    cases e
    exact ⟨K, fd, Mi.SpF (Lw.Tt K) 1 ((Lw.G 14).fn Lw.i_law), KX, fun s v => L2.FunD.bindsA (ps := ["_law_script"]) FL (fun _ _ _ _ _ _ us hl => match us, hl with | [_], _ => rfl) s [v] rfl, fun H a ns hl _ hS => Lw.law_sp Lw.pure_law hl hS _, fun base _ _ => Lw.ok_law B Z (Lw.cs B Z X F 13) FL⟩
