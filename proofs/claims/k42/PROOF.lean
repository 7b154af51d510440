import PyProof.Rows.All
import Wide.All
import OpenK.AllK
import Wide.FinOn
import KE.DataCmp
import HandS.ForMost
import HandS.Exc
import HandS.TupAny
import HandS.Deep
import HandS.Wide
import HandS.Style
import HandS.Flow
import HandS.Conv
import HandS.Walk
import HandS.SortInts
import HandS.SortRule
import HandS.More
import HandS.Defaults
import HandS.HeadHook2
import HandS.HeadEnd
import HandS.Head0
import HandS.Head1
import HandS.Head2
import HandS.IsInst
import KE.KFromBytes
import KE.KSuper
import KE.KExcSuper
import HandS.TryOnly
import KE.DatumOrd
import PySem.Challenge.RW_anypasses_k42_papers_and_their_words
set_option Elab.async false
set_option linter.all false
set_option maxRecDepth 100000
set_option maxHeartbeats 4000000
/-! Ci0: a small core language over trees (tuples are trees, lists and dicts stand in a store), its evaluator. -/
namespace Ci
open PySem

inductive W where
  | non | bl (b : Bool) | int (i : Int) | str (s : Str)
  | tup (ws : List W)
  | frl (ws : List W)
  | ref (n : Nat)
inductive Ob where
  | lst (ws : List W)
  | dct (kvs : List (L2.Key × W))
  /-- a dict that is walked -/
  | fdc (kvs : List (L2.Key × W))
abbrev Sto := List Ob
abbrev En := List (Option W)
structure Exn where
  cls : Str
  args : List W
inductive Res (α : Type) where
  | ok (a : α) (st : Sto)
  | exc (x : Exn) (st : Sto)
  | bad
def Res.bind {α β : Type} (r : Res α) (k : α → Sto → Res β) : Res β :=
  match r with
  | .ok a st => k a st
  | .exc x st => .exc x st
  | .bad => .bad
def Res.of {α : Type} : Option (α × Sto) → Res α
  | some (a, st) => .ok a st
  | none => .bad

/-! ### data of any depth -/
mutual
def pd (ρ : Nat → Option PyData) : W → Option PyData
  | .non => some .none
  | .bl b => some (.bool b)
  | .int i => some (.int i)
  | .str s => some (.str s)
  | .tup ws => (pds ρ ws).map .tuple
  | .frl ws => (pds ρ ws).map .list
  | .ref n => ρ n
def pds (ρ : Nat → Option PyData) : List W → Option (List PyData)
  | [] => some []
  | w :: ws => match pd ρ w, pds ρ ws with
    | some d, some ds => some (d :: ds)
    | _, _ => none
end
def rho (st : Sto) : Nat → Nat → Option PyData
  | 0, _ => none
  | k + 1, n => match st[n]? with
    | some (.lst ws) => (pds (rho st k) ws).map .list
    | _ => none
def toD (st : Sto) (w : W) : Option PyData := pd (rho st 9) w

/-! ### what is walked, its items now -/
def seqOf (st : Sto) : W → Option (List W)
  | .tup ws => some ws
  | .frl ws => some ws
  | .ref n => match st[n]? with
    | some (.lst ws) => some ws
    | _ => none
  | _ => none
/-- a list's items -/
def lstOf (st : Sto) : W → Option (List W)
  | .frl ws => some ws
  | .ref n => match st[n]? with
    | some (.lst ws) => some ws
    | _ => none
  | _ => none
def isLst (st : Sto) (w : W) : Bool := (lstOf st w).isSome
/-- a new object -/
def new (st : Sto) (o : Ob) : Option (W × Sto) := some (.ref st.length, st ++ [o])
def newR (st : Sto) (o : Ob) : Res W := .ok (.ref st.length) (st ++ [o])

/-! ### truth -/
def tru (st : Sto) : W → Option Bool
  | .non => some false
  | .bl b => some b
  | .int i => some (i != 0)
  | .str s => if s.length ≤ sizeLine then some ((s.length : Int) != 0) else none
  | .tup ws => some (!ws.isEmpty)
  | .frl ws => some (!ws.isEmpty)
  | .ref n => match st[n]? with
    | some (.lst ws) => some (!ws.isEmpty)
    | some (.dct kvs) => some (!kvs.isEmpty)
    | _ => none

/-! ### operators -/
inductive BinO where
  | add | sub | mul | fdiv | mod | pow | shl | shr | band | bor | bxor
  deriving DecidableEq
def BinO.py : BinO → Operator
  | .add => .Add | .sub => .Sub | .mul => .Mult | .fdiv => .FloorDiv | .mod => .Mod | .pow => .Pow
  | .shl => .LShift | .shr => .RShift | .band => .BitAnd | .bor => .BitOr | .bxor => .BitXor
def small64 (i : Int) : Bool := decide (-(2 ^ 64) < i ∧ i < 2 ^ 64)
def bigOk (i j : Int) : Bool := decide (i.natAbs.log2 + j.natAbs.log2 < 1000000)
def powOk (i j : Int) : Bool := decide (0 ≤ j ∧ j ≤ 1000000 ∧ i.natAbs < 2 ^ 64)
def divOk (j : Int) : Bool := decide (0 < j) && (decide (j < 1073741824) || decide (j.natAbs.log2 < 9000))
def binI (o : BinO) (i j : Int) : Option Int :=
  match o with
  | .add => some (i + j)
  | .sub => some (i - j)
  | .mul => if small64 i || small64 j || bigOk i j then some (i * j) else none
  | .fdiv => if divOk j then some (i / j) else none
  | .mod => if decide (0 < j) then some (i % j) else none
  | .pow => if powOk i j then some (i ^ j.toNat) else none
  | .shl => if powOk i j then some (i * 2 ^ j.toNat) else none
  | .shr => if decide (0 ≤ j) then some (i / 2 ^ j.toNat) else none
  | .band => some (Builtin.bitAnd i j)
  | .bor => some (Builtin.bitOr i j)
  | .bxor => some (Builtin.bitXor i j)
def bin (o : BinO) (x y : W) (st : Sto) : Option (W × Sto) :=
  match x, y with
  | .int i, .int j => (binI o i j).map fun k => (.int k, st)
  | .str a, .str b => match o with
    | .add => if a.length + b.length ≤ sizeLine then some (.str (a ++ b), st) else none
    | _ => none
  | .tup a, .tup b => match o with
    | .add => if a.length + b.length ≤ sizeLine then some (.tup (a ++ b), st) else none
    | _ => none
  | .ref m, .ref n => match o, st[m]?, st[n]? with
    | .add, some (.lst a), some (.lst b) => if a.length + b.length ≤ sizeLine then new st (.lst (a ++ b)) else none
    | _, _, _ => none
  | .ref m, .int k => match o, st[m]? with
    | .mul, some (.lst a) => if decide (0 ≤ k ∧ k < 2 ^ 62) && decide (a.length * k.toNat ≤ sizeLine) then new st (.lst (List.replicate k.toNat a).flatten) else none
    | _, _ => none
  | _, _ => none
inductive CmpO where
  | eq | ne | lt | le | gt | ge | isin | notin | isN | notN
  deriving DecidableEq
def CmpO.py : CmpO → CmpOp
  | .eq => .Eq | .ne => .NotEq | .lt => .Lt | .le => .LtE | .gt => .Gt | .ge => .GtE | .isin => .In | .notin => .NotIn | .isN => .Is | .notN => .IsNot
def shapedB (d : PyData) : Bool := SeqAt.shaped d
def eqD (st : Sto) (x y : W) : Option Bool :=
  match x, y with
  | .str a, .str b => some (a == b)
  | .int a, .int b => some (a == b)
  | _, _ => match toD st x, toD st y with
    | some d, some e => if shapedB d && shapedB e then some (PyData.eqv d e) else none
    | _, _ => none
def intsOf : List W → Option (List Int)
  | [] => some []
  | .int i :: ws => (intsOf ws).map (i :: ·)
  | _ => none
def lexI : List Int → List Int → Bool
  | [], [] => false
  | [], _ :: _ => true
  | _ :: _, [] => false
  | x :: xs, y :: ys => if x = y then lexI xs ys else decide (x < y)
def inD (st : Sto) (x : W) (ys : List W) : Option Bool :=
  match toD st x, pds (rho st 8) ys with
  | some d, some ds => if shapedB d && shapedB (.list ds) then some (ds.any fun z => PyData.eqv z d) else none
  | _, _ => none
def flatW : W → Bool
  | .non => true
  | .bl _ => true
  | .int _ => true
  | .str _ => true
  | _ => false
def eqF : W → W → Bool
  | .non, .non => true
  | .bl a, .bl b => a == b
  | .bl a, .int b => (if a then 1 else 0) == b
  | .int a, .bl b => a == (if b then 1 else 0)
  | .int a, .int b => a == b
  | .str a, .str b => a == b
  | _, _ => false
def keyOf : W → Option L2.Key
  | .int i => some (.inl i)
  | .str s => some (.inr s)
  | _ => none
def dgetL (k : L2.Key) : List (L2.Key × W) → Option W
  | [] => none
  | (j, w) :: r => if j = k then some w else dgetL k r
def dctOf (st : Sto) : W → Option (List (L2.Key × W))
  | .ref n => match st[n]? with
    | some (.dct kvs) => some kvs
    | some (.fdc kvs) => some kvs
    | _ => none
  | _ => none
def inW (st : Sto) (x y : W) : Option Bool :=
  match y with
  | .str t => match x with
    | .str s => some (!(Builtin.Str.occurrences t s 0 t.length 1).isEmpty)
    | _ => none
  | .tup ws => if flatW x && ws.all flatW then some (ws.any fun y => eqF y x) else none
  | .frl ws => inD st x ws
  | .ref n => match st[n]? with
    | some (.lst ws) => inD st x ws
    | some (.dct kvs) => (keyOf x).map fun k => (dgetL k kvs).isSome
    | some (.fdc kvs) => (keyOf x).map fun k => (dgetL k kvs).isSome
    | _ => none
  | _ => none
def isNon : W → Bool
  | .non => true
  | _ => false
def noneD : PyData → Bool
  | .none => true
  | _ => false
/-- the order of lists and tuples that are made alike -/
def ordD (f : PyData → PyData → Bool) (st : Sto) (x y : W) : Option Bool :=
  match toD st x, toD st y with
  | some d, some e => if PySem.W.alike d e && !noneD d && decide (min d.depth e.depth ≤ 60) then some (f d e) else none
  | _, _ => none
def cmp (o : CmpO) (x y : W) (st : Sto) : Option Bool :=
  match o with
  | .eq => eqD st x y
  | .ne => (eqD st x y).map (!·)
  | .lt => match x, y with
    | .int i, .int j => some (decide (i < j))
    | .str s, .str t => some (decide (s.cps.toList < t.cps.toList))
    | _, _ => ordD PySem.W.dataLt st x y
  | .le => match x, y with
    | .int i, .int j => some (decide (i ≤ j))
    | _, _ => ordD (fun d e => !PySem.W.dataLt e d) st x y
  | .gt => match x, y with
    | .int i, .int j => some (decide (j < i))
    | _, _ => ordD (fun d e => PySem.W.dataLt e d) st x y
  | .ge => match x, y with
    | .int i, .int j => some (decide (j ≤ i))
    | _, _ => ordD (fun d e => !PySem.W.dataLt d e) st x y
  | .isin => inW st x y
  | .notin => (inW st x y).map (!·)
  | .isN => match y with
    | .non => some (isNon x)
    | .bl b => match x with | .bl a => some (decide (a = b)) | _ => none
    | _ => none
  | .notN => match y with
    | .non => some (!isNon x)
    | .bl b => match x with | .bl a => some (!decide (a = b)) | _ => none
    | _ => none

/-! ### places -/
def atW (xs : List W) (i : Int) : Option W := L2.atI xs i
def ixW (st : Sto) (x y : W) : Option W :=
  match y with
  | .int i => match x with
    | .tup ws => atW ws i
    | .frl ws => atW ws i
    | .str s => if s.length ≤ sizeLine then (L2.atI s.cps.toList i).map fun c => .str ⟨#[c]⟩ else none
    | .ref n => match st[n]? with
      | some (.lst ws) => atW ws i
      | _ => none
    | _ => none
  | _ => none
def cutW (ws : List W) (lo hi : Option Int) : List W := (ws.drop (HT.sIx ws.length 0 lo)).take (HT.sIx ws.length ws.length hi - HT.sIx ws.length 0 lo)
def slW (x : W) (lo hi : Option Int) (st : Sto) : Option (W × Sto) :=
  match x with
  | .tup ws => some (.tup (cutW ws lo hi), st)
  | .frl ws => new st (.lst (cutW ws lo hi))
  | .str s => if s.length ≤ sizeLine then some (.str (L2.cutS s lo hi), st) else none
  | .ref n => match st[n]? with
    | some (.lst ws) => new st (.lst (cutW ws lo hi))
    | _ => none
  | _ => none
def revW (x : W) (st : Sto) : Option (W × Sto) := (lstOf st x).bind fun ws => new st (.lst ws.reverse)
/-! ### dicts by int and text keys -/
def dputL (k : L2.Key) (v : W) (kvs : List (L2.Key × W)) : List (L2.Key × W) :=
  if (kvs.any fun q => decide (q.1 = k)) then kvs.map fun q => if q.1 = k then (q.1, v) else q else kvs ++ [(k, v)]
def mergeW (kvs : List (L2.Key × W)) : List (L2.Key × W) := kvs.foldl (fun acc p => dputL p.1 p.2 acc) []
def setI (x i v : W) (st : Sto) : Option Sto :=
  match x with
  | .ref n => match st[n]? with
    | some (.lst ws) => match i with
      | .int k => (L2.ixN ws.length k).map fun j => st.set n (.lst (ws.set j v))
      | _ => none
    | some (.dct kvs) => (keyOf i).bind fun k => if kvs.length < sizeLine then some (st.set n (.dct (dputL k v kvs))) else none
    | _ => none
  | _ => none
/-- x[y] of any kind -/
def sub (st : Sto) (x y : W) : Option W :=
  match dctOf st x with
  | some kvs => (keyOf y).bind fun k => dgetL k kvs
  | none => ixW st x y

/-! ### kinds -/
def tyOf (st : Sto) : W → Option String
  | .non => some "NoneType"
  | .bl _ => some "bool"
  | .int _ => some "int"
  | .str _ => some "str"
  | .tup _ => some "tuple"
  | .frl _ => some "list"
  | .ref n => match st[n]? with
    | some (.lst _) => some "list"
    | some (.dct _) => some "dict"
    | _ => none
def isTy (t u : String) : Bool := t == u || (t == "bool" && u == "int")

/-! ### built-in functions and methods -/
inductive Bi where
  | len | abs | int | str | repr | list | tuple | max2 | min2 | sum | any | all | sorted | max1 | min1
  deriving DecidableEq
/-- ascending -/
def insI (x : Int) : List Int → List Int
  | [] => [x]
  | y :: ys => if x ≤ y then x :: y :: ys else y :: insI x ys
def sortI : List Int → List Int
  | [] => []
  | x :: xs => insI x (sortI xs)
def strLe (a b : Str) : Bool := decide (a.cps.toList ≤ b.cps.toList)
def insS (x : Str) : List Str → List Str
  | [] => [x]
  | y :: ys => if strLe x y then x :: y :: ys else y :: insS x ys
def sortS : List Str → List Str
  | [] => []
  | x :: xs => insS x (sortS xs)
def strsOf : List W → Option (List Str)
  | [] => some []
  | .str s :: ws => (strsOf ws).map (s :: ·)
  | _ => none
def maxL : List Int → Option Int
  | [] => none
  | x :: xs => match maxL xs with
    | none => some x
    | some m => some (if x < m then m else x)
def minL : List Int → Option Int
  | [] => none
  | x :: xs => match minL xs with
    | none => some x
    | some m => some (if m < x then m else x)
def keysI : List (L2.Key × W) → Option (List Int)
  | [] => some []
  | (.inl i, _) :: r => (keysI r).map (i :: ·)
  | _ => none
def keysS : List (L2.Key × W) → Option (List Str)
  | [] => some []
  | (.inr i, _) :: r => (keysS r).map (i :: ·)
  | _ => none
/-- sorted(x): a list or a tuple of whole numbers or of texts; a dict's keys, fewer than 64 -/
def sortedW (w : W) (st : Sto) : Option (W × Sto) :=
  match dctOf st w with
  | some kvs => if kvs.length < 64 then match keysI kvs with
      | some ns => new st (.lst ((sortI ns).map .int))
      | none => (keysS kvs).bind fun ss => new st (.lst ((sortS ss).map .str))
    else none
  | none => (seqOf st w).bind fun xs => match intsOf xs with
    | some ns => new st (.lst ((sortI ns).map .int))
    | none => (strsOf xs).bind fun ss => new st (.lst ((sortS ss).map .str))
def blsOf : List W → Option (List Bool)
  | [] => some []
  | .bl b :: ws => (blsOf ws).map (b :: ·)
  | _ => none
def reprOk (d : PyData) : Bool :=
  match d with
  | .none => true
  | .bool _ => true
  | .int i => decide (i.natAbs.log2 < 1920)
  | .str x => decide ((reprText x).length ≤ sizeLine)
  | .dict _ => false
  | d => d.showable && !d.hasDict && decide (d.depth ≤ 60) && decide (d.shown.length ≤ sizeLine)
def intOk (i : Int) : Bool := decide (i.natAbs.log2 < 1920)
def bi (b : Bi) (ws : List W) (st : Sto) : Option (W × Sto) :=
  match b, ws with
  | .len, [w] => match w with
    | .str s => if s.length ≤ sizeLine then some (.int s.length, st) else none
    | w => match dctOf st w with
      | some kvs => some (.int kvs.length, st)
      | none => (seqOf st w).map fun xs => (.int xs.length, st)
  | .abs, [.int i] => some (.int (if i < 0 then -i else i), st)
  | .int, [.int i] => some (.int i, st)
  | .int, [.bl b] => some (.int (if b then 1 else 0), st)
  | .str, [.int i] => if intOk i then some (.str (toString i), st) else none
  | .repr, [w] => match toD st w with
    | some d => if reprOk d then some (.str d.shown, st) else none
    | none => none
  | .list, [w] => (seqOf st w).bind fun xs => new st (.lst xs)
  | .tuple, [w] => (seqOf st w).map fun xs => (.tup xs, st)
  | .max2, [.int i, .int j] => some (.int (if j > i then j else i), st)
  | .min2, [.int i, .int j] => some (.int (if j < i then j else i), st)
  | .sum, [w] => (lstOf st w).bind fun xs => (intsOf xs).map fun ns => (.int ns.sum, st)
  | .any, [w] => (lstOf st w).bind fun xs => (blsOf xs).map fun bs => (.bl (bs.any id), st)
  | .all, [w] => (lstOf st w).bind fun xs => (blsOf xs).map fun bs => (.bl (bs.all id), st)
  | .sorted, [w] => sortedW w st
  | .max1, [w] => (lstOf st w).bind fun xs => (intsOf xs).bind fun ns => (maxL ns).map fun m => (.int m, st)
  | .min1, [w] => (lstOf st w).bind fun xs => (intsOf xs).bind fun ns => (minL ns).map fun m => (.int m, st)
  | _, _ => none
inductive Mt where
  | append | pop | popAt | extend | index | count | reverse
  deriving DecidableEq
def mt (m : Mt) (o : W) (ws : List W) (st : Sto) : Option (W × Sto) :=
  match o with
  | .ref n => match st[n]? with
    | some (.lst xs) => match m, ws with
      | .append, [y] => if xs.length < sizeLine then some (.non, st.set n (.lst (xs ++ [y]))) else none
      | .pop, [] => xs[xs.length - 1]?.map fun y => (y, st.set n (.lst xs.dropLast))
      | .popAt, [.int i] => if decide (-(2 ^ 63) ≤ i ∧ i < 2 ^ 63) then match seqIndex? i xs.length with
          | some k => xs[k]?.map fun y => (y, st.set n (.lst (xs.eraseIdx k)))
          | none => none
        else none
      | .reverse, [] => some (.non, st.set n (.lst xs.reverse))
      | .extend, [.ref m] => match st[m]? with
        | some (.lst zs) => if xs.length + zs.length ≤ sizeLine then some (.non, st.set n (.lst (xs ++ zs))) else none
        | _ => none
      | _, _ => none
    | _ => none
  | _ => none

/-! ### the language -/
/-- how a dict is walked -/
inductive DkO where
  | keys | items | vals
  deriving DecidableEq
mutual
inductive Tg where
  | nm (i : Nat)
  | tp (ts : Tgs)
inductive Tgs where
  | nil
  | cons (t : Tg) (ts : Tgs)
end
mutual
inductive E where
  | var (i : Nat)
  | con (w : W)
  | bin (o : BinO) (a b : E)
  | cmp (o : CmpO) (a b : E)
  | chn (o p : CmpO) (a b c : E)
  | neg (a : E)
  | not (a : E)
  | and (a b : E)
  | or (a b : E)
  | ite (c a b : E)
  | tup (es : Es)
  | lst (es : Es)
  | dsp (es : Es)
  | call (f : Nat) (pm : Option (List Nat)) (es : Es)
  | bi (b : Bi) (es : Es)
  | isi (ts : List String) (a : E)
  | mt (m : Mt) (o : E) (es : Es)
  | ix (a b : E)
  | sl (a : E) (lo hi : Es)
  | rev (a : E)
  | lrg (es : Es)
  | lc (own : List Nat) (tg : Tg) (it : It) (cs : Es) (elt : E)
inductive Es where
  | nil
  | cons (a : E) (es : Es)
inductive It where
  | val (e : E)
  | dk (o : DkO) (e : E)
  | rng (es : Es)
  | enum (e : E)
  | zip (a b : E)
end
inductive S where
  | skip
  | seq (a b : S)
  | set (i : Nat) (e : E)
  | par (is : List Nat) (es : Es)
  | unp (t : Tg) (e : E)
  | sto (o i e : E)
  | aug (i : Nat) (o : BinO) (e : E)
  | xpr (e : E)
  | ite (c : E) (a b : S)
  | whl (c : E) (b : S)
  | for_ (t : Tg) (it : It) (b : S)
  | ret (e : E)
  | retN
  | brk
  | cnt
  | raise_ (cls : Str) (es : Es)
  | try_ (own : List Nat) (b : S) (cls no : List Str) (i : Nat) (e : E)

/-! ### targets -/
mutual
def asg (t : Tg) (w : W) (en : En) : Option En :=
  match t with
  | .nm i => if i < en.length then some (en.set i (some w)) else none
  | .tp ts => match w with
    | .tup ws => asgs ts ws en
    | _ => none
def asgs (ts : Tgs) (ws : List W) (en : En) : Option En :=
  match ts, ws with
  | .nil, [] => some en
  | .cons t ts, w :: ws => match asg t w en with
    | some en1 => asgs ts ws en1
    | none => none
  | _, _ => none
end
mutual
def Tg.slots : Tg → List Nat
  | .nm i => [i]
  | .tp ts => ts.slots
def Tgs.slots : Tgs → List Nat
  | .nil => []
  | .cons t ts => t.slots ++ ts.slots
end
def wipeE (en : En) : List Nat → En
  | [] => en
  | v :: vs => (wipeE en vs).set v none

/-! ### what is walked -/
inductive Src where
  | fix (ws : List W)
  | live (n : Nat)
  | enum (s : Src)
  | zip (s t : Src)
def Src.get : Src → Sto → Nat → Option (Option W)
  | .fix ws, _, i => some ws[i]?
  | .live n, st, i => match st[n]? with
    | some (.lst ws) => some ws[i]?
    | _ => none
  | .enum s, st, i => match s.get st i with
    | some (some w) => some (some (.tup [.int (i : Nat), w]))
    | some none => some none
    | none => none
  | .zip s t, st, i => match s.get st i, t.get st i with
    | some (some x), some (some y) => some (some (.tup [x, y]))
    | some _, some _ => some none
    | _, _ => none
def srcOf (st : Sto) : W → Option Src
  | .tup ws => some (.fix ws)
  | .frl ws => some (.fix ws)
  | .str s => some (.fix (s.cps.toList.map fun c => .str ⟨#[c]⟩))
  | .ref n => match st[n]? with
    | some (.lst _) => some (.live n)
    | _ => none
  | _ => none
def rgOk (a b : Int) : Bool := decide (-(2 ^ 62) ≤ a ∧ a < 2 ^ 62 ∧ -(2 ^ 62) ≤ b ∧ b < 2 ^ 62)
def rngW (a b : Int) : List W := (List.range (b - a).toNat).map fun i => .int (a + (i : Nat))
def rngOf : List W → Option (Int × Int)
  | [.int b] => if rgOk 0 b then some (0, b) else none
  | [.int a, .int b] => if rgOk a b then some (a, b) else none
  | _ => none
def noexc {α : Type} : Res α → Res α
  | .exc _ _ => .bad
  | r => r
def permW (pm : Option (List Nat)) (ws : List W) : Option (List W) :=
  match pm with
  | none => some ws
  | some l => l.mapM fun i => ws[i]?

inductive Out where
  | nx (en : En)
  | bk (en : En)
  | ct (en : En)
  | rt (w : W)
/-! ### what comes of parts -/
def cmpO (o : CmpO) (x y : W) (st : Sto) : Option (W × Sto) := (cmp o x y st).map fun k => (.bl k, st)
def negK (x : W) (st : Sto) : Res W :=
  match x with
  | .int i => .ok (.int (-i)) st
  | _ => .bad
def truK0 (w : W) (st : Sto) : Res Bool :=
  match tru st w with
  | some b => .ok b st
  | none => .bad
/-- the truth of what was reckoned -/
def truR (r : Res W) : Res Bool := r.bind truK0
def chnK (r : Option Bool) (k : Sto → Res W) (st : Sto) : Res W :=
  match r with
  | some true => k st
  | some false => .ok (.bl false) st
  | none => .bad
def scK (stop : Bool) (k : Sto → Res W) (x : W) (st : Sto) : Res W :=
  match tru st x with
  | some b => if b = stop then .ok x st else k st
  | none => .bad
def iteK {α : Type} (p q : Sto → Res α) (b : Bool) (st : Sto) : Res α :=
  match b with
  | true => p st
  | false => q st
def tupK (ws : List W) (st : Sto) : Res W := if ws.length ≤ sizeLine then .ok (.tup ws) st else .bad
def lstK (ws : List W) (st : Sto) : Res W := if ws.length ≤ sizeLine then newR st (.lst ws) else .bad
def dspK (n : Nat) (kvs : List (L2.Key × W)) (st : Sto) : Res W :=
  match st[n]? with
  | some (.dct []) => if kvs.length ≤ 15 then .ok (.ref n) (st.set n (.dct (mergeW kvs))) else .bad
  | _ => .bad
def callK (cl : Nat → List W → Sto → Res W) (f : Nat) (pm : Option (List Nat)) (ws : List W) (st : Sto) : Res W :=
  match permW pm ws with
  | some us => cl f us st
  | none => .bad
def isLK (k : Sto → Res W) (x : W) (st : Sto) : Res W :=
  match lstOf st x with
  | some _ => k st
  | none => .bad
def isiK (ts : List String) (x : W) (st : Sto) : Res W :=
  match tyOf st x with
  | some t => .ok (.bl (ts.any fun u => isTy t u)) st
  | none => .bad
def subO (x y : W) (st : Sto) : Option (W × Sto) := (sub st x y).map fun w => (w, st)
def lrgK (ws : List W) (st : Sto) : Res W :=
  match rngOf ws with
  | some (a, b) => if (b - a).toNat ≤ 2 ^ 24 then newR st (.lst (rngW a b)) else .bad
  | none => .bad
def keyK (y : W) (k : Sto → Res (List (L2.Key × W))) (x : W) (st : Sto) : Res (List (L2.Key × W)) :=
  match keyOf x with
  | some j => (k st).bind fun r st3 => .ok ((j, y) :: r) st3
  | none => .bad
def intK (x : W) (st : Sto) : Res (Option Int) :=
  match x with
  | .int i => .ok (some i) st
  | _ => .bad
def keyW : L2.Key → W
  | .inl i => .int i
  | .inr s => .str s
def dkL (o : DkO) (kvs : List (L2.Key × W)) : List W :=
  match o with
  | .keys => kvs.map fun p => keyW p.1
  | .items => kvs.map fun p => .tup [keyW p.1, p.2]
  | .vals => kvs.map fun p => p.2
/-- a dict is walked: it stays as it is from now on -/
def dkK (o : DkO) (x : W) (st : Sto) : Res Src :=
  match x with
  | .ref n => match st[n]? with
    | some (.dct kvs) => .ok (.fix (dkL o kvs)) (st.set n (.fdc kvs))
    | some (.fdc kvs) => .ok (.fix (dkL o kvs)) st
    | _ => .bad
  | _ => .bad
def srcK (f : Src → Src) (x : W) (st : Sto) : Res Src :=
  match srcOf st x with
  | some s => .ok (f s) st
  | none => .bad
def srcV (x : W) (st : Sto) : Res Src :=
  match dctOf st x with
  | some _ => dkK .keys x st
  | none => srcK id x st
/-- both are lists -/
def src2K (x y : W) (st : Sto) : Res Src :=
  match srcOf st x, srcOf st y with
  | some s, some t => if isLst st x && isLst st y then .ok (.zip s t) st else .bad
  | _, _ => .bad
def srcEK (x : W) (st : Sto) : Res Src :=
  match srcOf st x with
  | some s => if isLst st x then .ok (.enum s) st else .bad
  | none => .bad
def rngK (ws : List W) (st : Sto) : Res Src :=
  match rngOf ws with
  | some (a, b) => .ok (.fix (rngW a b)) st
  | none => .bad
/-- y is put behind the list at D -/
def pushK {α : Type} (D : Nat) (k : Sto → Res α) (y : W) (st : Sto) : Res α :=
  match st[D]? with
  | some (.lst acc) => if acc.length < sizeLine then k (st.set D (.lst (acc ++ [y]))) else .bad
  | _ => .bad
def setK (t : Tg) (en : En) (x : W) (st : Sto) : Res Out :=
  match asg t x en with
  | some en1 => .ok (.nx en1) st
  | none => .bad
def setsK (ts : Tgs) (en : En) (ws : List W) (st : Sto) : Res Out :=
  match asgs ts ws en with
  | some en1 => .ok (.nx en1) st
  | none => .bad
def stoK (en : En) (v x y : W) (st : Sto) : Res Out :=
  match setI x y v st with
  | some st4 => .ok (.nx en) st4
  | none => .bad
def augK (i : Nat) (o : BinO) (en : En) (x y : W) (st : Sto) : Res Out :=
  match x, y with
  | .int a, .int b => match binI o a b with
    | some c => .ok (.nx (en.set i (some (.int c)))) st
    | none => .bad
  | _, _ => .bad
def seqK (k : En → Sto → Res Out) (o : Out) (st : Sto) : Res Out :=
  match o with
  | .nx e => k e st
  | o => .ok o st
/-- behind a loop's body: k goes on -/
def loopK (k : En → Sto → Res Out) (o : Out) (st : Sto) : Res Out :=
  match o with
  | .nx e => k e st
  | .ct e => k e st
  | .bk e => .ok (.nx e) st
  | .rt v => .ok (.rt v) st
def varK (o : Option (Option W)) (k : W → Res Out) : Res Out :=
  match o with
  | some (some x) => k x
  | _ => .bad
/-- behind a try's body: what was raised is heard -/
def tryK (cls no : List Str) (h : List W → Sto → Res Out) (r : Res Out) : Res Out :=
  match r with
  | .exc x st => if cls.contains x.cls then h x.args st else if no.contains x.cls then .exc x st else .bad
  | r => r
/-- the exception's argument is put in slot i -/
def hearE (own : List Nat) (i : Nat) (en : En) (ws : List W) : En :=
  match ws with
  | [w] => (wipeE en own).set i (some w)
  | _ => wipeE en own
def FU : Nat := 20000000
section
variable (get : Sto → Nat → Option (Option W)) (as : W → En → Option En)
def forL (body : En → Sto → Res Out) : Nat → Nat → En → Sto → Res Out
  | 0, _, _, _ => .bad
  | F + 1, i, en, st => match get st i with
    | none => .bad
    | some none => .ok (.nx en) st
    | some (some w) => match as w en with
      | none => .bad
      | some en1 => (body en1 st).bind (loopK (forL body F (i + 1)))
def lcL (en0 : En) (test : En → Sto → Res Bool) (elt : En → Sto → Res W) (D : Nat) : Nat → Nat → Sto → Res W
  | 0, _, _ => .bad
  | F + 1, i, st => match get st i with
    | none => .bad
    | some none => .ok (.ref D) st
    | some (some w) => match as w en0 with
      | none => .bad
      | some en1 => (test en1 st).bind (iteK (fun st1 => (elt en1 st1).bind (pushK D fun st2 => lcL en0 test elt D F (i + 1) st2)) (fun st1 => lcL en0 test elt D F (i + 1) st1))
end
def whlL (test : En → Sto → Res Bool) (body : En → Sto → Res Out) : Nat → En → Sto → Res Out
  | 0, _, _ => .bad
  | F + 1, en, st => (test en st).bind (iteK (fun st1 => (body en st1).bind (loopK (whlL test body F))) (fun st1 => .ok (.nx en) st1))

section
variable (cl : Nat → List W → Sto → Res W)
mutual
def ev : E → En → Sto → Res W
  | .var i, en, st => match en[i]? with
    | some (some w) => .ok w st
    | _ => .bad
  | .con w, _, st => .ok w st
  | .bin o a b, en, st => (ev a en st).bind fun x st1 => (ev b en st1).bind fun y st2 => .of (bin o x y st2)
  | .cmp o a b, en, st => (ev a en st).bind fun x st1 => (ev b en st1).bind fun y st2 => .of (cmpO o x y st2)
  | .chn o p a b c, en, st => (ev a en st).bind fun x st1 => (ev b en st1).bind fun y st2 => chnK (cmp o x y st2) (fun st2 => (ev c en st2).bind fun z st3 => .of (cmpO p y z st3)) st2
  | .neg a, en, st => (ev a en st).bind negK
  | .not a, en, st => (truR (ev a en st)).bind fun b st1 => .ok (.bl (!b)) st1
  | .and a b, en, st => (ev a en st).bind (scK false fun st1 => ev b en st1)
  | .or a b, en, st => (ev a en st).bind (scK true fun st1 => ev b en st1)
  | .ite c a b, en, st => (truR (ev c en st)).bind (iteK (fun st1 => ev a en st1) (fun st1 => ev b en st1))
  | .tup es, en, st => (evs es en st).bind tupK
  | .lst es, en, st => (evs es en st).bind lstK
  | .dsp es, en, st => (evd es en (st ++ [.dct []])).bind (dspK st.length)
  | .call f pm es, en, st => (evs es en st).bind (callK cl f pm)
  | .bi b es, en, st => (evs es en st).bind fun ws st1 => .of (bi b ws st1)
  | .isi ts a, en, st => (ev a en st).bind (isiK ts)
  | .mt m o es, en, st => (ev o en st).bind fun x st1 => isLK (fun st1 => (evs es en st1).bind fun ws st2 => .of (mt m x ws st2)) x st1
  | .ix a b, en, st => (ev a en st).bind fun x st1 => (ev b en st1).bind fun y st2 => .of (subO x y st2)
  | .sl a lo hi, en, st => (ev a en st).bind fun x st1 => (evo lo en st1).bind fun l st2 => (evo hi en st2).bind fun h st3 => .of (slW x l h st3)
  | .rev a, en, st => (ev a en st).bind fun x st1 => .of (revW x st1)
  | .lrg es, en, st => (evs es en st).bind lrgK
  | .lc own tg it cs elt, en, st => (evi it en st).bind fun src st1 =>
      noexc (lcL src.get (asg tg) (wipeE en own) (fun en st => evc cs en st) (fun en st => ev elt en st) st1.length FU 0 (st1 ++ [.lst []]))
def evs : Es → En → Sto → Res (List W)
  | .nil, _, st => .ok [] st
  | .cons a es, en, st => (ev a en st).bind fun x st1 => (evs es en st1).bind fun xs st2 => .ok (x :: xs) st2
def evd : Es → En → Sto → Res (List (L2.Key × W))
  | .nil, _, st => .ok [] st
  | .cons a es, en, st => (ev a en st).bind fun x st1 => match es with
    | .nil => .bad
    | .cons b es => (ev b en st1).bind fun y st2 => keyK y (fun st2 => evd es en st2) x st2
def evo : Es → En → Sto → Res (Option Int)
  | .nil, _, st => .ok none st
  | .cons a _, en, st => (ev a en st).bind intK
def evc : Es → En → Sto → Res Bool
  | .nil, _, st => .ok true st
  | .cons a es, en, st => (truR (ev a en st)).bind (iteK (fun st1 => evc es en st1) (fun st1 => .ok false st1))
def evi : It → En → Sto → Res Src
  | .val e, en, st => (ev e en st).bind srcV
  | .dk o e, en, st => (ev e en st).bind (dkK o)
  | .rng es, en, st => (evs es en st).bind rngK
  | .enum e, en, st => (ev e en st).bind srcEK
  | .zip a b, en, st => (ev a en st).bind fun x st1 => (ev b en st1).bind fun y st2 => src2K x y st2
end
def tgsOf : List Nat → Tgs
  | [] => .nil
  | i :: is => .cons (.nm i) (tgsOf is)
def ex : S → En → Sto → Res Out
  | .skip, en, st => .ok (.nx en) st
  | .seq a b, en, st => (ex a en st).bind (seqK fun e st => ex b e st)
  | .set i e, en, st => (ev cl e en st).bind (setK (.nm i) en)
  | .par is es, en, st => (evs cl es en st).bind (setsK (tgsOf is) en)
  | .unp t e, en, st => (ev cl e en st).bind (setK t en)
  | .sto o i e, en, st => (ev cl e en st).bind fun v st1 => (ev cl o en st1).bind fun x st2 => (ev cl i en st2).bind fun y st3 => stoK en v x y st3
  | .aug i o e, en, st => varK en[i]? fun x => (ev cl e en st).bind (augK i o en x)
  | .xpr e, en, st => (ev cl e en st).bind fun _ st1 => .ok (.nx en) st1
  | .ite c a b, en, st => (truR (ev cl c en st)).bind (iteK (fun st1 => ex a en st1) (fun st1 => ex b en st1))
  | .whl c b, en, st => whlL (fun en st => truR (ev cl c en st)) (fun en st => ex b en st) FU en st
  | .for_ t it b, en, st => (evi cl it en st).bind fun src st1 => forL src.get (asg t) (fun en st => ex b en st) FU 0 en st1
  | .ret e, en, st => (ev cl e en st).bind fun x st1 => .ok (.rt x) st1
  | .retN, _, st => .ok (.rt .non) st
  | .brk, en, st => .ok (.bk en) st
  | .cnt, en, st => .ok (.ct en) st
  | .raise_ c es, en, st => (evs cl es en st).bind fun ws st1 => .exc ⟨c, ws⟩ st1
  | .try_ own b cs no i e, en, st => tryK cs no (fun ws st1 => noexc ((ev cl e (hearE own i en ws) st1).bind fun x st2 => .ok (.rt x) st2)) (ex b en st)
end
structure Fd where
  np : Nat
  nl : Nat
  body : S
def startE (nl : Nat) (ws : List W) : En := ws.map some ++ List.replicate (nl - ws.length) none
def retK (o : Out) (st : Sto) : Res W :=
  match o with
  | .nx _ => .ok .non st
  | .rt w => .ok w st
  | _ => .bad
def run (tab : List Fd) : Nat → Nat → List W → Sto → Res W
  | 0, _, _, _ => .bad
  | n + 1, f, ws, st => match tab[f]? with
    | none => .bad
    | some d => if ws.length = d.np then (ex (run tab n) d.body (startE d.nl ws) st).bind retK else .bad
end Ci
/-! CiS: sorted(x), x a list or a tuple of whole numbers or of texts. -/
namespace Ci
open PySem
theorem insI_perm (x : Int) : ∀ l : List Int, (insI x l).Perm (x :: l)
  | [] => List.Perm.refl _
  | y :: ys => by
    rw [insI]
    split
    · exact List.Perm.refl _
    · exact ((insI_perm x ys).cons y).trans (List.Perm.swap x y ys)
theorem sortI_perm : ∀ l : List Int, (sortI l).Perm l
  | [] => List.Perm.refl _
  | x :: xs => (insI_perm x _).trans ((sortI_perm xs).cons x)
theorem insI_sorted (x : Int) : ∀ l : List Int, l.Pairwise (· ≤ ·) → (insI x l).Pairwise (· ≤ ·)
  | [], _ => List.pairwise_singleton _ _
  | y :: ys, h => by
    have ⟨h1, h2⟩ := List.pairwise_cons.mp h
    rw [insI]
    split
    · rename_i c
      refine List.pairwise_cons.mpr ⟨fun z hz => ?_, h⟩
      rcases List.mem_cons.mp hz with rfl | hz
      · exact c
      · have := h1 z hz
        omega
    · rename_i c
      refine List.pairwise_cons.mpr ⟨fun z hz => ?_, insI_sorted x ys h2⟩
      rcases List.mem_cons.mp ((insI_perm x ys).mem_iff.mp hz) with rfl | hz
      · omega
      · exact h1 z hz
theorem sortI_sorted : ∀ l : List Int, (sortI l).Pairwise (· ≤ ·)
  | [] => List.Pairwise.nil
  | x :: xs => insI_sorted x _ (sortI_sorted xs)
theorem sortI_eq {l m : List Int} (p : m.Perm l) (h : m.Pairwise (· ≤ ·)) : m = sortI l :=
  List.Perm.eq_of_pairwise (fun a b _ _ h1 h2 => Int.le_antisymm h1 h2) h (sortI_sorted l) (p.trans (sortI_perm l).symm)
theorem strLe_iff {a b : Str} : strLe a b = true ↔ a.cps.toList ≤ b.cps.toList := decide_eq_true_iff
theorem str_ext {a b : Str} (h : a.cps.toList = b.cps.toList) : a = b := by
  obtain ⟨x⟩ := a
  obtain ⟨y⟩ := b
  congr 1
  exact Array.toList_inj.mp h
theorem insS_perm (x : Str) : ∀ l : List Str, (insS x l).Perm (x :: l)
  | [] => List.Perm.refl _
  | y :: ys => by
    rw [insS]
    split
    · exact List.Perm.refl _
    · exact ((insS_perm x ys).cons y).trans (List.Perm.swap x y ys)
theorem sortS_perm : ∀ l : List Str, (sortS l).Perm l
  | [] => List.Perm.refl _
  | x :: xs => (insS_perm x _).trans ((sortS_perm xs).cons x)
abbrev SLe (a b : Str) : Prop := a.cps.toList ≤ b.cps.toList
theorem insS_sorted (x : Str) : ∀ l : List Str, l.Pairwise SLe → (insS x l).Pairwise SLe
  | [], _ => List.pairwise_singleton _ _
  | y :: ys, h => by
    have ⟨h1, h2⟩ := List.pairwise_cons.mp h
    rw [insS]
    split
    · rename_i c
      have c := strLe_iff.mp c
      refine List.pairwise_cons.mpr ⟨fun z hz => ?_, h⟩
      rcases List.mem_cons.mp hz with rfl | hz
      · exact c
      · exact List.le_trans c (h1 z hz)
    · rename_i c
      have c : ¬ x.cps.toList ≤ y.cps.toList := fun q => c (strLe_iff.mpr q)
      refine List.pairwise_cons.mpr ⟨fun z hz => ?_, insS_sorted x ys h2⟩
      rcases List.mem_cons.mp ((insS_perm x ys).mem_iff.mp hz) with rfl | hz
      · rcases List.le_total y.cps.toList z.cps.toList with q | q
        · exact q
        · exact absurd q c
      · exact h1 z hz
theorem sortS_sorted : ∀ l : List Str, (sortS l).Pairwise SLe
  | [] => List.Pairwise.nil
  | x :: xs => insS_sorted x _ (sortS_sorted xs)
theorem sortS_eq {l m : List Str} (p : m.Perm l) (h : m.Pairwise SLe) : m = sortS l :=
  List.Perm.eq_of_pairwise (le := SLe) (fun a b _ _ h1 h2 => str_ext (List.le_antisymm h1 h2)) h (sortS_sorted l) (p.trans (sortS_perm l).symm)
theorem risingS_pw : ∀ (p : Str) (l : List Str), PyProof.Rows.risingS p l = true → (∀ x ∈ l, SLe p x) ∧ l.Pairwise SLe
  | p, [], _ => ⟨fun _ h => (by cases h), List.Pairwise.nil⟩
  | p, x :: r, h => by
    have h : (!PySem.Spec.ltCps x.cps.toList p.cps.toList && PyProof.Rows.risingS x r) = true := h
    rw [Bool.and_eq_true] at h
    obtain ⟨h1, h2⟩ := risingS_pw x r h.2
    have h3 : SLe p x := by
      have q := h.1
      rw [PyProof.Rows.ltCps_eq] at q
      exact of_decide_eq_false (p := x.cps.toList < p.cps.toList) (by simpa using q)
    refine ⟨fun z hz => ?_, List.pairwise_cons.mpr ⟨h1, h2⟩⟩
    rcases List.mem_cons.mp hz with rfl | hz
    · exact h3
    · exact List.le_trans h3 (h1 z hz)
theorem sortedS_pw : ∀ {l : List Str}, PyProof.Rows.sortedS l = true → l.Pairwise SLe
  | [], _ => List.Pairwise.nil
  | x :: r, h => let ⟨h1, h2⟩ := risingS_pw x r h; List.pairwise_cons.mpr ⟨h1, h2⟩
end Ci
namespace SrtO
open PySem PyProof.Rows Srt
section
variable {prog : Program} {w : World} {A : Around} {E : Value → Shared → Prop} {s : Shared}
theorem collect_tuple {l : Addr} {vs : List Value} {Q : List Value → Shared → Prop} (hl : s.heap.IsTuple l vs.toArray)
    (h : Q vs { s with heap := (s.heap.push (seqObj "list" #[] 0)).update s.heap.objs.size (Obj.mapSeq (· ++ vs.toArray)) }) (hsz : vs.length ≤ sizeLine) :
    wpAny (model prog w) A (collect (.ref l)) Q E s := by
  obtain ⟨o, ho, hc, n, hd⟩ := id hl
  unfold collect
  refine wpAny_bind (wpAny_runValue (codeAny_builtin entry_proto_collect' ?_))
  show wpAny _ _ (do again (.builtin "list.__iadd__" ⟨[← newList [], .ref l], []⟩)) _ _ s
  refine wpAny_bind (wpAny_newList (wpAny_pure ⟨Code.quiet_builtin _ (by decide +kernel), codeAny_builtin entry_list_iadd' ?_⟩))
  show wpAny _ _ (Builtin.List.listExtendWith (.ref s.heap.objs.size) (.ref l) (.ref s.heap.objs.size)) _ _ { s with heap := s.heap.push (seqObj "list" #[] 0) }
  unfold Builtin.List.listExtendWith
  have ho' : (s.heap.push (seqObj "list" #[] 0)).get? l = some o := Heap.get?_push_of_some _ ho
  refine wpAny_bind (wpAny_typeOf (T := "tuple") ⟨o, ho', hc⟩ ?_)
  have ht : (Value.type "tuple" == Value.type "tuple") = true := by rfl
  rw [if_pos (by rw [ht]; simp)]
  refine wpAny_bind (listItems_at ho' hd ?_)
  refine wpAny_bind (listItems_at (xs := #[]) (n := 0) (Heap.get?_push_size _ rfl) rfl ?_)
  rw [if_neg (by simp)]
  refine wpAny_bind (listUpdate_at (xs := #[]) (n := 0) (Heap.get?_push_size _ rfl) rfl ?_ (Nat.zero_le _) (by show (#[] ++ vs.toArray).size ≤ sizeLine + 1; simp only [Array.size_append, List.size_toArray, List.length_nil]; omega))
  refine wpAny_pure ?_
  show wpAny (model prog w) A (do
      let o ← load s.heap.objs.size
      match o.data with
      | .seq xs _ => pure xs.toList
      | _ => unsupported "internal:collect") Q E { s with heap := (s.heap.push (seqObj "list" #[] 0)).update s.heap.objs.size (Obj.mapSeq (· ++ vs.toArray)) }
  refine wpAny_bind (wpAny_load (get?_update_seq (Heap.get?_push_size _ rfl) _) ?_)
  show wpAny _ _ (pure ((#[] : Array Value) ++ vs.toArray).toList) Q E _
  rw [show ((#[] : Array Value) ++ vs.toArray).toList = vs by simp]
  exact wpAny_pure h
/-- of a list or a tuple -/
theorem sorted_ordS {l : Addr} {vs : List Value} {ltv : Value → Value → Bool} {Q : Value → Shared → Prop} (O : Swo ltv) (hl : s.heap.IsList l vs.toArray ∨ s.heap.IsTuple l vs.toArray) (hz : vs.length ≤ sizeLine)
    (hS : 2 ≤ vs.length → ∀ (h₁ : Heap) (a : Addr), h₁.get? a = some (seqObj "list" vs.toArray 0) → (∀ b o, s.heap.get? b = some o → b ≠ a ∧ h₁.get? b = some o) → SortableO prog w A.in1.in1 { s with heap := h₁ } a vs ltv)
    (h : ∀ out : List Value, Srtd ltv out → Stb ltv out vs → Q (.ref (s.heap.objs.size + 1)) { s with heap := sortedAll s.heap vs out.toArray }) :
    wpAny (model prog w) A (call (.builtin "sorted") [.ref l]) Q E s := by
  refine Calls.call_function_entry kind_sorted plain_sorted entry_sorted (args_sorted1 _) ?_
  unfold Builtin.«sorted»
  refine wpAny_bind (m := checkCount "sorted" 1 1 _) (wpAny_pure ?_)
  have col : ∀ {A : Around} {E : Value → Shared → Prop} {Q : List Value → Shared → Prop}, Q vs { s with heap := (s.heap.push (seqObj "list" #[] 0)).update s.heap.objs.size (Obj.mapSeq (· ++ vs.toArray)) } → wpAny (model prog w) A (collect (.ref l)) Q E s := fun {A E Q} q => by
    rcases hl with hl | hl
    · exact collect_list hl q hz
    · exact collect_tuple hl q hz
  refine wpAny_bind (col ?_)
  refine wpAny_bind (wpAny_newList ?_ hz)
  have hsz : ((s.heap.push (seqObj "list" #[] 0)).update s.heap.objs.size (Obj.mapSeq (· ++ vs.toArray))).objs.size = s.heap.objs.size + 1 := by
    rw [Heap.size_update, size_push']
  have hoL : (((s.heap.push (seqObj "list" #[] 0)).update s.heap.objs.size (Obj.mapSeq (· ++ vs.toArray))).push (seqObj "list" vs.toArray 0)).get? (s.heap.objs.size + 1) = some (seqObj "list" vs.toArray 0) := by
    rw [← hsz]; exact Heap.get?_push_size _ rfl
  have keep : ∀ b o, s.heap.get? b = some o → b ≠ s.heap.objs.size + 1 ∧ (((s.heap.push (seqObj "list" #[] 0)).update s.heap.objs.size (Obj.mapSeq (· ++ vs.toArray))).push (seqObj "list" vs.toArray 0)).get? b = some o := fun b o q => by
    have hlt : b < s.heap.objs.size := Heap.lt_size q
    refine ⟨Nat.ne_of_lt (Nat.lt_succ_of_lt hlt), Heap.get?_push_of_some _ ?_⟩
    rw [Heap.get?_update_ne _ _ _ _ (Nat.ne_of_lt hlt)]
    exact Heap.get?_push_of_some _ q
  show wpAny _ _ _ _ _ { s with heap := ((s.heap.push (seqObj "list" #[] 0)).update s.heap.objs.size (Obj.mapSeq (· ++ vs.toArray))).push (seqObj "list" vs.toArray 0) }
  rw [hsz]
  refine wpAny_bind (wpAny_holding (wpAny_call_entry slot_list_sort ⟨_, hoL, rfl⟩ entry_list_sort (list_sort_ord O hoL hz (fun h2 => hS h2 _ _ hoL keep) fun out hs hb => ⟨_, rfl, ?_⟩) (args_list_sort _)))
  exact wpAny_pure ⟨_, rfl, h out hs hb⟩
def sv : Value → List Nat
  | .str x _ => x.cps.toList
  | _ => []
def ltSv (v u : Value) : Bool := decide (sv v < sv u)
theorem swo_str : Swo ltSv := by
  refine ⟨fun x y h => ?_, fun x y z h1 h2 => ?_⟩
  · have a := of_decide_eq_true (p := sv x < sv y) h
    exact decide_eq_false (p := sv y < sv x) (fun b => List.lt_asymm a b)
  · have a := of_decide_eq_false (p := sv y < sv x) h1
    have b := of_decide_eq_false (p := sv z < sv y) h2
    have a : sv x ≤ sv y := a
    have b : sv y ≤ sv z := b
    exact decide_eq_false (p := sv z < sv x) (List.le_trans a b)
theorem strs_sv : ∀ {vs : List Value} {ss : List PySem.Str}, StrsAre vs ss → vs.map sv = ss.map (·.cps.toList)
  | _, _, .nil => rfl
  | _, _, .cons n t r => congrArg (_ :: ·) (strs_sv r)
theorem str_cmp {vs : List Value} {ss : List PySem.Str} (hI : StrsAre vs ss) : Cmp prog w A s oneType' (fun p => p.1 ∈ vs) (lt2 ltSv) := by
  intro p q hm hm'
  obtain ⟨a, t, e⟩ := hI.all _ hm
  obtain ⟨b, u, e'⟩ := hI.all _ hm'
  show wpAny (model prog w) A (keyLt' oneType' p.1 q.1) (fun r s' => s' = s ∧ r = ltSv p.1 q.1) (fun _ _ => False) s
  rw [e, e', keyLt'_oneType]
  exact oneLt_str ⟨rfl, rfl⟩
theorem strs_sortable {a : Addr} {vs : List Value} {ss : List PySem.Str} (hI : StrsAre vs ss) (h2 : 2 ≤ vs.length) : SortableO prog w A s a vs ltSv := by
  intro h' _
  refine ⟨oneType', fun Q E hq => ?_, str_cmp hI⟩
  match vs, hI, h2 with
  | v1 :: v2 :: rest, hI, _ =>
    rw [keyKind_strs hI]
    exact wpAny_pure hq
  | [], _, h => exact absurd h (by decide)
  | [v], _, h => exact absurd h (by simp)
theorem strs_out {vs out : List Value} {ss : List PySem.Str} (hI : StrsAre vs ss) (hs : Srtd ltSv out) (hb : Stb ltSv out vs) : ∃ ss', StrsAre out ss' ∧ ss'.Perm ss ∧ ss'.Pairwise Ci.SLe := by
  refine ⟨out.map strOf, strsAre_map out fun v hv => hI.all v (hb.perm.mem_iff.mp hv), ?_, ?_⟩
  · have q := hb.perm.map strOf
    rw [hI.strs] at q
    exact q
  · refine List.pairwise_map.mpr (List.Pairwise.imp_of_mem (fun {x y} mx my h => ?_) hs)
    obtain ⟨a, t, rfl⟩ := hI.all x (hb.perm.mem_iff.mp mx)
    obtain ⟨b, u, rfl⟩ := hI.all y (hb.perm.mem_iff.mp my)
    exact of_decide_eq_false (p := sv (.str b u) < sv (.str a t)) h
end
end SrtO
namespace L2
open PySem PySem.Spec PyProof.Rows
/-- sorted(xs): whole numbers, texts -/
def rSortV (K : PySem.W.Frag) : List V → Hp → VK → Prop := fun vs H Q => ∃ a : Addr, vs = [V.ref a] ∧
  ((∃ ns : List Int, (SqL K H a (ns.map V.int) ∨ SqT K H a (ns.map V.int)) ∧ ∀ p, H p = none → Q (.ref p) (upd H p (.lst ((Ci.sortI ns).map V.int)))) ∨
   ∃ ss : List Str, (SqL K H a (ss.map V.str) ∨ SqT K H a (ss.map V.str)) ∧ ∀ p, H p = none → Q (.ref p) (upd H p (.lst ((Ci.sortS ss).map V.str))))
theorem cr_sortedV {X : Cx} : CallR X (.builtin "sorted") (rSortV X.K) := by
  intro pins s σ H vs us Q I r h
  obtain ⟨a, rfl, h⟩ := h
  rw [Vals.ref1 r]
  have its : ∀ {xs : List V}, (SqL X.K H a xs ∨ SqT X.K H a xs) → ∃ its : List Value, Vals xs its ∧ (s.heap.IsList a its.toArray ∨ s.heap.IsTuple a its.toArray) ∧ xs.length ≤ sizeLine := fun {xs} h => by
    rcases h with h | h
    · obtain ⟨its, rv, p, hz⟩ := I.list h
      exact ⟨its, rv, .inl p.isList, hz⟩
    · obtain ⟨its, rv, p, hz⟩ := I.tuple h
      exact ⟨its, rv, .inr p, hz⟩
  rcases h with ⟨ns, hs, q⟩ | ⟨ss, hs, q⟩
  · obtain ⟨its, rv, hl, hz⟩ := its hs
    have hi := rv.ints
    refine SrtO.sorted_ordS SrtO.swo_int hl (by rw [← rv.length]; exact hz) (fun h2 h₁ a' _ _ => SrtO.ints_sortable hi h2) fun out h1 h2 => ?_
    obtain ⟨k1, k2, k3⟩ := SrtO.ints_out hi h1 h2
    obtain ⟨ep, he'⟩ := PyProof.Rows.sortedAll_at s.heap its out.toArray
    rw [Ci.sortI_eq k2 k3] at k1
    have hlen : ((Ci.sortI ns).map V.int).length ≤ sizeLine := by
      rw [List.length_map, (Ci.sortI_perm ns).length_eq]
      rw [List.length_map] at hz
      exact hz
    exact ⟨.ref _, upd H (s.heap.objs.size + 1) (.lst ((Ci.sortI ns).map V.int)), I.laid (t' := s.toks) (fun _ _ => PyProof.Rows.sortedAll_old) (Nat.le_succ _) ⟨hlen, out, ep, vals_of_ints k1, he'⟩, rfl, q _ (I.hok.fresh (Nat.le_succ _))⟩
  · obtain ⟨its, rv, hl, hz⟩ := its hs
    have hi := rv.strs
    refine SrtO.sorted_ordS SrtO.swo_str hl (by rw [← rv.length]; exact hz) (fun h2 h₁ a' _ _ => SrtO.strs_sortable hi h2) fun out h1 h2 => ?_
    obtain ⟨ss', k1, k2, k3⟩ := SrtO.strs_out hi h1 h2
    obtain ⟨ep, he'⟩ := PyProof.Rows.sortedAll_at s.heap its out.toArray
    rw [Ci.sortS_eq k2 k3] at k1
    have hlen : ((Ci.sortS ss).map V.str).length ≤ sizeLine := by
      rw [List.length_map, (Ci.sortS_perm ss).length_eq]
      rw [List.length_map] at hz
      exact hz
    exact ⟨.ref _, upd H (s.heap.objs.size + 1) (.lst ((Ci.sortS ss).map V.str)), I.laid (t' := s.toks) (fun _ _ => PyProof.Rows.sortedAll_old) (Nat.le_succ _) ⟨hlen, out, ep, vals_of_strs k1, he'⟩, rfl, q _ (I.hok.fresh (Nat.le_succ _))⟩
end L2
/-! Ci1: what a tree, a store, an environment stand for in the abstract heap; outcomes. -/
namespace Ci
open PySem L2

/-- a tuple that stays: tracked, or the module's own -/
def STup (K : PySem.W.Frag) (H : Hp) (a : Addr) (vs : List V) : Prop := H a = some (.tup vs) ∨ SqT K (fun _ => none) a vs
/-- a list that is only read -/
def SLst (K : PySem.W.Frag) (H : Hp) (a : Addr) (vs : List V) : Prop := (∃ o, H a = some (.frz o (.lst vs))) ∨ SqL K (fun _ => none) a vs
theorem rd_empty {a : Addr} {u : HO} : ¬ Rd (fun _ => none) a u := by
  rintro (h | ⟨o, h⟩)
  · cases h
  · cases h
theorem STup.sq {K : PySem.W.Frag} {H : Hp} {a : Addr} {vs : List V} (h : STup K H a vs) : SqT K H a vs := by
  rcases h with h | (h | h)
  · exact .inl (.inl h)
  · exact absurd h rd_empty
  · exact .inr h
theorem SLst.sq {K : PySem.W.Frag} {H : Hp} {a : Addr} {vs : List V} (h : SLst K H a vs) : SqL K H a vs := by
  rcases h with ⟨o, h⟩ | (h | h)
  · exact .inl (.inr ⟨o, h⟩)
  · exact absurd h rd_empty
  · exact .inr h
/-- what never changes is kept -/
def TK (H H' : Hp) : Prop := ∀ a o, H a = some o → ¬ Mut (some o) → H' a = some o
theorem TK.refl (H : Hp) : TK H H := fun _ _ h _ => h
theorem TK.trans {H H1 H2 : Hp} (x : TK H H1) (y : TK H1 H2) : TK H H2 := fun a v h m => y a v (x a v h m) m
theorem TK.new {H : Hp} {p : Addr} {o : HO} (h : H p = none) : TK H (upd H p o) := fun a xs e _ => (upd_ne (ne_of_none e h)).trans e
theorem TK.mut {H : Hp} {p : Addr} {o : HO} (h : Mut (H p)) : TK H (upd H p o) := fun a xs e m => by
  have n : a ≠ p := fun z => by subst z; rw [e] at h; exact m h
  exact (upd_ne n).trans e
theorem STup.keep {K : PySem.W.Frag} {H H' : Hp} {a : Addr} {vs : List V} (t : TK H H') (h : STup K H a vs) : STup K H' a vs := h.imp (fun e => t a _ e (fun z => z)) id
theorem SLst.keep {K : PySem.W.Frag} {H H' : Hp} {a : Addr} {vs : List V} (t : TK H H') (h : SLst K H a vs) : SLst K H' a vs := h.imp (fun ⟨o, z⟩ => ⟨o, t a _ z (fun z => z)⟩) id

/-! ### values -/
mutual
inductive RW (K : PySem.W.Frag) (H : Hp) (ι : List Addr) : W → V → Prop where
  | non : RW K H ι .non .non
  | bl (b : Bool) : RW K H ι (.bl b) (.bl b)
  | int (i : Int) : RW K H ι (.int i) (.int i)
  | str (s : Str) : RW K H ι (.str s) (.str s)
  | tup {ws : List W} {vs : List V} {a : Addr} (h : STup K H a vs) (r : RWs K H ι ws vs) : RW K H ι (.tup ws) (.ref a)
  | frl {ws : List W} {vs : List V} {a : Addr} (h : SLst K H a vs) (r : RWs K H ι ws vs) : RW K H ι (.frl ws) (.ref a)
  | ref {n : Nat} {a : Addr} (h : ι[n]? = some a) : RW K H ι (.ref n) (.ref a)
inductive RWs (K : PySem.W.Frag) (H : Hp) (ι : List Addr) : List W → List V → Prop where
  | nil : RWs K H ι [] []
  | cons {w : W} {v : V} {ws : List W} {vs : List V} (h : RW K H ι w v) (t : RWs K H ι ws vs) : RWs K H ι (w :: ws) (v :: vs)
end
def Pre (ι ι' : List Addr) : Prop := ∀ (n : Nat) (a : Addr), ι[n]? = some a → ι'[n]? = some a
theorem Pre.refl (ι : List Addr) : Pre ι ι := fun _ _ h => h
theorem Pre.trans {a b c : List Addr} (x : Pre a b) (y : Pre b c) : Pre a c := fun n z h => y n z (x n z h)
theorem Pre.snoc (ι : List Addr) (p : Addr) : Pre ι (ι ++ [p]) := fun n a h => by
  rw [List.getElem?_append_left (List.getElem?_eq_some_iff.mp h).1]
  exact h
mutual
theorem RW.keep {K : PySem.W.Frag} {H H' : Hp} {ι ι' : List Addr} (t : TK H H') (p : Pre ι ι') : ∀ {w : W} {v : V}, RW K H ι w v → RW K H' ι' w v
  | _, _, .non => .non
  | _, _, .bl b => .bl b
  | _, _, .int i => .int i
  | _, _, .str s => .str s
  | _, _, .tup h r => .tup (h.keep t) (RWs.keep t p r)
  | _, _, .frl h r => .frl (h.keep t) (RWs.keep t p r)
  | _, _, .ref h => .ref (p _ _ h)
theorem RWs.keep {K : PySem.W.Frag} {H H' : Hp} {ι ι' : List Addr} (t : TK H H') (p : Pre ι ι') : ∀ {ws : List W} {vs : List V}, RWs K H ι ws vs → RWs K H' ι' ws vs
  | _, _, .nil => .nil
  | _, _, .cons h r => .cons (RW.keep t p h) (RWs.keep t p r)
end
section
variable {K : PySem.W.Frag} {H : Hp} {ι : List Addr}
theorem RWs.len : ∀ {ws : List W} {vs : List V}, RWs K H ι ws vs → ws.length = vs.length
  | _, _, .nil => rfl
  | _, _, .cons _ t => congrArg (· + 1) t.len
theorem RWs.get : ∀ {ws : List W} {vs : List V} {i : Nat} {w : W}, RWs K H ι ws vs → ws[i]? = some w → ∃ v, vs[i]? = some v ∧ RW K H ι w v
  | _, _, _, _, .nil, e => by simp at e
  | _, _, 0, _, .cons h _, e => by simp at e; subst e; exact ⟨_, rfl, h⟩
  | _, _, i + 1, w, .cons _ t, e => by simpa using RWs.get (i := i) t (by simpa using e)
theorem RWs.getV : ∀ {ws : List W} {vs : List V} {i : Nat} {v : V}, RWs K H ι ws vs → vs[i]? = some v → ∃ w, ws[i]? = some w ∧ RW K H ι w v
  | _, _, _, _, .nil, e => by simp at e
  | _, _, 0, _, .cons h _, e => by simp at e; subst e; exact ⟨_, rfl, h⟩
  | _, _, i + 1, w, .cons _ t, e => by simpa using RWs.getV (i := i) t (by simpa using e)
theorem RWs.app : ∀ {ws zs : List W} {vs us : List V}, RWs K H ι ws vs → RWs K H ι zs us → RWs K H ι (ws ++ zs) (vs ++ us)
  | _, _, _, _, .nil, s => s
  | _, _, _, _, .cons h t, s => .cons h (t.app s)
theorem RWs.drop : ∀ {ws : List W} {vs : List V} (n : Nat), RWs K H ι ws vs → RWs K H ι (ws.drop n) (vs.drop n)
  | _, _, 0, r => r
  | _, _, _ + 1, .nil => .nil
  | _, _, n + 1, .cons _ t => t.drop n
theorem RWs.take : ∀ {ws : List W} {vs : List V} (n : Nat), RWs K H ι ws vs → RWs K H ι (ws.take n) (vs.take n)
  | _, _, 0, _ => .nil
  | _, _, _ + 1, .nil => .nil
  | _, _, n + 1, .cons h t => .cons h (t.take n)
theorem RWs.set {w : W} {v : V} (h : RW K H ι w v) : ∀ {ws : List W} {vs : List V} (i : Nat), RWs K H ι ws vs → RWs K H ι (ws.set i w) (vs.set i v)
  | _, _, _, .nil => .nil
  | _, _, 0, .cons _ t => .cons h t
  | _, _, i + 1, .cons q t => .cons q (t.set h i)
theorem RWs.one {w : W} {v : V} (h : RW K H ι w v) : RWs K H ι [w] [v] := .cons h .nil
theorem RWs.rev {ws : List W} {vs : List V} (h : RWs K H ι ws vs) : RWs K H ι ws.reverse vs.reverse := by
  induction ws generalizing vs with
  | nil => cases h; exact .nil
  | cons w ws ih =>
    cases h with
    | cons a t =>
      rw [List.reverse_cons, List.reverse_cons]
      exact (ih t).app (.one a)
theorem RWs.erase : ∀ {ws : List W} {vs : List V} (i : Nat), RWs K H ι ws vs → RWs K H ι (ws.eraseIdx i) (vs.eraseIdx i)
  | _, _, _, .nil => .nil
  | _, _, 0, .cons _ t => t
  | _, _, i + 1, .cons q t => .cons q (t.erase i)
theorem RWs.rep {ws : List W} {vs : List V} (h : RWs K H ι ws vs) : ∀ k : Nat, RWs K H ι (List.replicate k ws).flatten (List.replicate k vs).flatten
  | 0 => .nil
  | k + 1 => by
    rw [List.replicate_succ, List.replicate_succ, List.flatten_cons, List.flatten_cons]
    exact h.app (h.rep k)
theorem RWs.dropLast {ws : List W} {vs : List V} (h : RWs K H ι ws vs) : RWs K H ι ws.dropLast vs.dropLast := by
  rw [List.dropLast_eq_take, List.dropLast_eq_take, h.len]
  exact h.take _
theorem RWs.ints : ∀ {ws : List W} {vs : List V} {ns : List Int}, RWs K H ι ws vs → intsOf ws = some ns → vs = ns.map V.int
  | _, _, _, .nil, e => by cases e; rfl
  | w :: ws, _, ns, .cons h t, e => by
    cases w with
    | int i =>
      rw [intsOf] at e
      obtain ⟨ms, e1, rfl⟩ := Option.map_eq_some_iff.mp e
      cases h
      rw [RWs.ints t e1]
      rfl
    | _ => exact absurd e (by simp [intsOf])
theorem RWs.bls : ∀ {ws : List W} {vs : List V} {ns : List Bool}, RWs K H ι ws vs → blsOf ws = some ns → vs = ns.map V.bl
  | _, _, _, .nil, e => by cases e; rfl
  | w :: ws, _, ns, .cons h t, e => by
    cases w with
    | bl i =>
      rw [blsOf] at e
      obtain ⟨ms, e1, rfl⟩ := Option.map_eq_some_iff.mp e
      cases h
      rw [RWs.bls t e1]
      rfl
    | _ => exact absurd e (by simp [blsOf])
theorem RWs.strs : ∀ {ws : List W} {vs : List V} {ns : List Str}, RWs K H ι ws vs → strsOf ws = some ns → vs = ns.map V.str
  | _, _, _, .nil, e => by cases e; rfl
  | w :: ws, _, ns, .cons h t, e => by
    cases w with
    | str i =>
      rw [strsOf] at e
      obtain ⟨ms, e1, rfl⟩ := Option.map_eq_some_iff.mp e
      cases h
      rw [RWs.strs t e1]
      rfl
    | _ => exact absurd e (by simp [strsOf])
theorem RWs.of_strs : ∀ (ns : List Str), RWs K H ι (ns.map W.str) (ns.map V.str)
  | [] => .nil
  | n :: ns => .cons (.str n) (RWs.of_strs ns)
theorem RWs.of_ints : ∀ (ns : List Int), RWs K H ι (ns.map W.int) (ns.map V.int)
  | [] => .nil
  | n :: ns => .cons (.int n) (RWs.of_ints ns)
end

/-! ### the store -/
inductive RKv (K : PySem.W.Frag) (H : Hp) (ι : List Addr) : List (Key × W) → List (Key × V) → Prop where
  | nil : RKv K H ι [] []
  | cons {k : Key} {w : W} {v : V} {ws : List (Key × W)} {vs : List (Key × V)} (h : RW K H ι w v) (t : RKv K H ι ws vs) : RKv K H ι ((k, w) :: ws) ((k, v) :: vs)
def RO (K : PySem.W.Frag) (H : Hp) (ι : List Addr) (a : Addr) : Ob → Prop
  | .lst ws => ∃ vs, H a = some (.lst vs) ∧ RWs K H ι ws vs
  | .dct kvs => ∃ vs, H a = some (.dK vs) ∧ RKv K H ι kvs vs
  | .fdc kvs => ∃ o vs, H a = some (.frz o (.dK vs)) ∧ RKv K H ι kvs vs
theorem RKv.keysI {K : PySem.W.Frag} {H : Hp} {ι : List Addr} : ∀ {ws : List (Key × W)} {vs : List (Key × V)} {ns : List Int}, RKv K H ι ws vs → Ci.keysI ws = some ns → vs.map (·.1) = ns.map Sum.inl
  | _, _, _, .nil, e => by cases e; rfl
  | (k, w) :: ws, _, ns, .cons h t, e => by
    cases k with
    | inl i =>
      rw [Ci.keysI] at e
      obtain ⟨ms, e1, rfl⟩ := Option.map_eq_some_iff.mp e
      rw [List.map_cons, RKv.keysI t e1]
      rfl
    | inr _ => exact absurd e (by simp [Ci.keysI])
theorem RKv.keysS {K : PySem.W.Frag} {H : Hp} {ι : List Addr} : ∀ {ws : List (Key × W)} {vs : List (Key × V)} {ns : List Str}, RKv K H ι ws vs → Ci.keysS ws = some ns → vs.map (·.1) = ns.map Sum.inr
  | _, _, _, .nil, e => by cases e; rfl
  | (k, w) :: ws, _, ns, .cons h t, e => by
    cases k with
    | inr i =>
      rw [Ci.keysS] at e
      obtain ⟨ms, e1, rfl⟩ := Option.map_eq_some_iff.mp e
      rw [List.map_cons, RKv.keysS t e1]
      rfl
    | inl _ => exact absurd e (by simp [Ci.keysS])
structure HRel (K : PySem.W.Frag) (H : Hp) (ι : List Addr) (st : Sto) : Prop where
  len : ι.length = st.length
  inj : ∀ (m n : Nat) (a : Addr), ι[m]? = some a → ι[n]? = some a → m = n
  ob : ∀ (n : Nat) (a : Addr) (o : Ob), ι[n]? = some a → st[n]? = some o → RO K H ι a o
structure Rel (K : PySem.W.Frag) (σ : L2.St) (H : Hp) (ι : List Addr) (en : En) (st : Sto) : Prop where
  hr : HRel K H ι st
  len : σ.length = en.length
  en : ∀ (i : Nat) (w : W), en[i]? = some (some w) → ∃ v, σ[i]? = some (some v) ∧ RW K H ι w v
section
variable {K : PySem.W.Frag} {H H' : Hp} {ι ι' : List Addr} {st st' : Sto} {σ : L2.St} {en : En}
theorem RKv.keep (t : TK H H') (p : Pre ι ι') : ∀ {ws : List (Key × W)} {vs : List (Key × V)}, RKv K H ι ws vs → RKv K H' ι' ws vs
  | _, _, .nil => .nil
  | _, _, .cons h r => .cons (h.keep t p) (r.keep t p)
theorem RKv.len : ∀ {ws : List (Key × W)} {vs : List (Key × V)}, RKv K H ι ws vs → ws.length = vs.length
  | _, _, .nil => rfl
  | _, _, .cons _ r => congrArg (· + 1) r.len
def Ob.free : Ob → Bool
  | .fdc _ => false
  | _ => true
theorem RO.mut {a : Addr} {o : Ob} (h : RO K H ι a o) (f : o.free = true) : Mut (H a) := by
  cases o with
  | lst ws => obtain ⟨vs, e, _⟩ := h; rw [e]; exact True.intro
  | dct kvs => obtain ⟨vs, e, _⟩ := h; rw [e]; exact True.intro
  | fdc kvs => cases f
theorem RO.some {a : Addr} {o : Ob} (h : RO K H ι a o) : H a ≠ none := by
  cases o with
  | lst ws => obtain ⟨vs, e, _⟩ := h; rw [e]; exact fun z => by cases z
  | dct kvs => obtain ⟨vs, e, _⟩ := h; rw [e]; exact fun z => by cases z
  | fdc kvs => obtain ⟨_, vs, e, _⟩ := h; rw [e]; exact fun z => by cases z
theorem RO.keep {a : Addr} {o : Ob} (t : TK H H') (p : Pre ι ι') (e : H' a = H a) (h : RO K H ι a o) : RO K H' ι' a o := by
  cases o with
  | lst ws => obtain ⟨vs, q, r⟩ := h; exact ⟨vs, e.trans q, r.keep t p⟩
  | dct kvs => obtain ⟨vs, q, r⟩ := h; exact ⟨vs, e.trans q, r.keep t p⟩
  | fdc kvs => obtain ⟨o, vs, q, r⟩ := h; exact ⟨o, vs, e.trans q, r.keep t p⟩
theorem Rel.keep (R : Rel K σ H ι en st) (t : TK H H') (p : Pre ι ι') (h : HRel K H' ι' st') : Rel K σ H' ι' en st' :=
  ⟨h, R.len, fun i w e => let ⟨v, q, r⟩ := R.en i w e; ⟨v, q, r.keep t p⟩⟩
theorem HRel.at (h : HRel K H ι st) {n : Nat} {a : Addr} (e : ι[n]? = some a) : ∃ o, st[n]? = some o ∧ RO K H ι a o := by
  have l : n < st.length := by rw [← h.len]; exact (List.getElem?_eq_some_iff.mp e).1
  exact ⟨st[n], List.getElem?_eq_getElem l, h.ob n a _ e (List.getElem?_eq_getElem l)⟩
theorem HRel.adr (h : HRel K H ι st) {n : Nat} {o : Ob} (e : st[n]? = some o) : ∃ a, ι[n]? = some a ∧ RO K H ι a o := by
  have l : n < ι.length := by rw [h.len]; exact (List.getElem?_eq_some_iff.mp e).1
  exact ⟨ι[n], List.getElem?_eq_getElem l, h.ob n _ o (List.getElem?_eq_getElem l) e⟩
theorem HRel.fresh (h : HRel K H ι st) {p : Addr} (hp : H p = none) : ∀ n : Nat, ι[n]? ≠ some p := fun n e => by
  obtain ⟨o, _, r⟩ := h.at e
  exact r.some hp
/-- a new object -/
theorem HRel.push (h : HRel K H ι st) {p : Addr} {u : HO} {o : Ob} (hp : H p = none) (r : RO K (upd H p u) (ι ++ [p]) p o) : HRel K (upd H p u) (ι ++ [p]) (st ++ [o]) := by
  have fr := h.fresh hp
  refine ⟨by simp [h.len], fun m n a e1 e2 => ?_, fun n a q e1 e2 => ?_⟩
  · rcases Nat.lt_or_ge m ι.length with hm | hm
    · rw [List.getElem?_append_left hm] at e1
      rcases Nat.lt_or_ge n ι.length with hn | hn
      · rw [List.getElem?_append_left hn] at e2
        exact h.inj m n a e1 e2
      · rw [List.getElem?_append_right hn] at e2
        have : a = p := by
          rcases Nat.eq_zero_or_pos (n - ι.length) with z | z
          · rw [z] at e2; simpa using e2.symm
          · rw [List.getElem?_eq_none (by simp only [List.length_singleton]; omega)] at e2; cases e2
        subst this
        exact absurd e1 (fr m)
    · rw [List.getElem?_append_right hm] at e1
      have hm0 : m = ι.length := by
        rcases Nat.eq_zero_or_pos (m - ι.length) with z | z
        · omega
        · rw [List.getElem?_eq_none (by simp only [List.length_singleton]; omega)] at e1; cases e1
      have ha : a = p := by
        rw [hm0] at e1; simpa using e1.symm
      subst ha
      rcases Nat.lt_or_ge n ι.length with hn | hn
      · rw [List.getElem?_append_left hn] at e2
        exact absurd e2 (fr n)
      · rw [List.getElem?_append_right hn] at e2
        rcases Nat.eq_zero_or_pos (n - ι.length) with z | z
        · omega
        · rw [List.getElem?_eq_none (by simp only [List.length_singleton]; omega)] at e2; cases e2
  · rcases Nat.lt_or_ge n ι.length with hn | hn
    · rw [List.getElem?_append_left hn] at e1
      rw [List.getElem?_append_left (by rw [← h.len]; exact hn)] at e2
      have ne : a ≠ p := fun z => fr n (by rw [e1, z])
      exact (h.ob n a q e1 e2).keep (TK.new hp) (Pre.snoc ι p) (upd_ne ne)
    · have hn0 : n = ι.length := by
        rw [List.getElem?_append_right hn] at e1
        rcases Nat.eq_zero_or_pos (n - ι.length) with z | z
        · omega
        · rw [List.getElem?_eq_none (by simp only [List.length_singleton]; omega)] at e1; cases e1
      subst hn0
      have ha : a = p := by simpa using e1.symm
      subst ha
      rw [h.len] at e2
      have hq : q = o := by simpa using e2.symm
      subst hq
      exact r
/-- an object changed -/
theorem HRel.set (h : HRel K H ι st) {n : Nat} {p : Addr} {u : HO} {o : Ob} (hp : ι[n]? = some p) (mu : Mut (H p)) (r : RO K (upd H p u) ι p o) : HRel K (upd H p u) ι (st.set n o) := by
  refine ⟨by simp [h.len], h.inj, fun m a q e1 e2 => ?_⟩
  by_cases e : m = n
  · subst e
    rw [hp] at e1
    cases e1
    have hl : m < st.length := by rw [← h.len]; exact (List.getElem?_eq_some_iff.mp hp).1
    rw [List.getElem?_set_self hl] at e2
    cases e2
    exact r
  · rw [List.getElem?_set_ne (Ne.symm e)] at e2
    have ne : a ≠ p := fun z => e (h.inj m n a e1 (by rw [hp, z]))
    exact (h.ob m a q e1 e2).keep (TK.mut mu) (Pre.refl ι) (upd_ne ne)
end

section
variable {K : PySem.W.Frag} {H : Hp} {ι : List Addr} {st : Sto}
/-- a dict, as it is read -/
theorem RW.dct {w : W} {v : V} {kvs : List (Key × W)} (z : HRel K H ι st) (r : RW K H ι w v) (e : dctOf st w = some kvs) : ∃ n a vs, w = .ref n ∧ v = .ref a ∧ ι[n]? = some a ∧ Rd H a (.dK vs) ∧ RKv K H ι kvs vs := by
  cases w with
  | ref n =>
    cases r with
    | ref h =>
      obtain ⟨o, eo, ro⟩ := z.at h
      unfold dctOf at e
      simp only [eo] at e
      cases o with
      | lst us => cases e
      | dct us => cases e; obtain ⟨vs, q1, q2⟩ := ro; exact ⟨n, _, vs, rfl, rfl, h, .inl q1, q2⟩
      | fdc us => cases e; obtain ⟨o, vs, q1, q2⟩ := ro; exact ⟨n, _, vs, rfl, rfl, h, .inr ⟨o, q1⟩, q2⟩
  | _ => cases e
theorem DGet.rd {H : Hp} {a : Addr} {kvs : List (Key × V)} {k : Key} (e : Rd H a (.dK kvs)) : DGet H a (kV k) (valV kvs k) := .inl ⟨kvs, k, e, rfl, rfl⟩
end

/-! ### outcomes -/
section
variable {K : PySem.W.Frag}
/-- at can be read of an exception of the class at C -/
structure AtC (K : PySem.W.Frag) (C : Addr) : Prop where
  ga : PySem.W.findIn K (.ref C) "__getattribute__" = some (some (.builtin "BaseException.__getattribute__"))
  gg : PySem.W.findIn K (.ref C) "__getattr__" = some none
  noN : PySem.W.findIn K (.ref C) "at" = some none
  exC : PySem.W.subIn K (.ref C) (.type "BaseException") = some true
  hdC : PySem.W.hasDictIn K C = true
/-- what an exception is in the heap -/
def RX (K : PySem.W.Frag) (H : Hp) (ι : List Addr) (x : Exn) (c : Value) (d : Option Addr) : Prop :=
  ∃ C w dd v, PySem.W.nsIn K mainGlobals x.cls = some (some (.ref C)) ∧ c = .ref C ∧ AtC K C ∧ x.args = [w] ∧ d = some dd ∧ H dd = some (.xd [(PySem.Str.ofString "at", v)]) ∧ RW K H ι w v
/-- r is reckoned from (H, ι): what comes of it is wanted -/
def Fin {α : Type} (K : PySem.W.Frag) (X : Value → Option Addr → Hp → Prop) (ι : List Addr) (H : Hp) (r : Res α) (k : α → List Addr → Sto → Hp → Prop) : Prop :=
  match r with
  | .ok a st => ∀ ι' H', Pre ι ι' → TK H H' → HRel K H' ι' st → k a ι' st H'
  | .exc x st => ∀ ι' H' c d, Pre ι ι' → TK H H' → HRel K H' ι' st → RX K H' ι' x c d → X c d H'
  | .bad => False
variable {X : Value → Option Addr → Hp → Prop} {ι : List Addr} {H : Hp} {α β : Type}
theorem Fin.shift {r : Res α} {k : α → List Addr → Sto → Hp → Prop} {ι' : List Addr} {H' : Hp} (p : Pre ι ι') (t : TK H H') (h : Fin K X ι H r k) : Fin K X ι' H' r k := by
  cases r with
  | ok a st => exact fun ι2 H2 p2 t2 z => h ι2 H2 (p.trans p2) (t.trans t2) z
  | exc x st => exact fun ι2 H2 c d p2 t2 z => h ι2 H2 c d (p.trans p2) (t.trans t2) z
  | bad => exact h
theorem Fin.split {r : Res α} {f : α → Sto → Res β} {k : β → List Addr → Sto → Hp → Prop} (h : Fin K X ι H (r.bind f) k) :
    Fin K X ι H r (fun a ι' st' H' => Fin K X ι' H' (f a st') k) := by
  cases r with
  | ok a st => exact fun ι' H' p t _ => Fin.shift p t h
  | exc x st => exact h
  | bad => exact h
theorem Fin.mono {r : Res α} {k k' : α → List Addr → Sto → Hp → Prop} (h : Fin K X ι H r k) (hk : ∀ a ι' st' H', Pre ι ι' → TK H H' → HRel K H' ι' st' → k a ι' st' H' → k' a ι' st' H') : Fin K X ι H r k' := by
  cases r with
  | ok a st => exact fun ι' H' p t z => hk a ι' st H' p t z (h ι' H' p t z)
  | exc x st => exact h
  | bad => exact h
theorem Fin.now {a : α} {st : Sto} {k : α → List Addr → Sto → Hp → Prop} (h : Fin K X ι H (.ok a st) k) (z : HRel K H ι st) : k a ι st H := h ι H (Pre.refl ι) (TK.refl H) z

/-- an expression's reading by its reckoning -/
def tW (K : PySem.W.Frag) (X : WX) (f : En → Sto → Res W) : TE := fun σ H Q => ∃ ι en st, Rel K σ H ι en st ∧ Fin K (fun c d H' => X c d σ H') ι H (f en st) fun w ι' _ H' => ∀ v, RW K H' ι' w v → Q v H'
def tWs (K : PySem.W.Frag) (X : WX) (f : En → Sto → Res (List W)) : TA := fun σ H Q => ∃ ι en st, Rel K σ H ι en st ∧ Fin K (fun c d H' => X c d σ H') ι H (f en st) fun w ι' _ H' => ∀ v, RWs K H' ι' w v → Q v H'
def tWb (K : PySem.W.Frag) (X : WX) (f : En → Sto → Res Bool) : TT := fun σ H Q => ∃ ι en st, Rel K σ H ι en st ∧ Fin K (fun c d H' => X c d σ H') ι H (f en st) fun b _ _ H' => Q b H'
/-- only slots of A differ -/
def Agree (A : Nat → Bool) (σ σ' : L2.St) : Prop := σ'.length = σ.length ∧ ∀ i, A i = false → σ'[i]? = σ[i]?
theorem Agree.refl (A : Nat → Bool) (σ : L2.St) : Agree A σ σ := ⟨rfl, fun _ _ => rfl⟩
theorem Agree.trans {A : Nat → Bool} {a b c : L2.St} (x : Agree A a b) (y : Agree A b c) : Agree A a c := ⟨y.1.trans x.1, fun i h => (y.2 i h).trans (x.2 i h)⟩
def outK (K : PySem.W.Frag) (D : Ends) (A : Nat → Bool) (σ : L2.St) : Out → List Addr → Sto → Hp → Prop := fun o ι' st' H' =>
  match o with
  | .nx en' => ∀ σ', Agree A σ σ' → Rel K σ' H' ι' en' st' → D.nx σ' H'
  | .bk en' => ∀ σ', Agree A σ σ' → Rel K σ' H' ι' en' st' → D.bk σ' H'
  | .ct en' => ∀ σ', Agree A σ σ' → Rel K σ' H' ι' en' st' → D.ct σ' H'
  | .rt w => ∀ v, RW K H' ι' w v → D.rt v H'
/-- a statement's -/
def tWS (K : PySem.W.Frag) (X : WX) (A : Nat → Bool) (f : En → Sto → Res Out) : TS := fun D σ H => ∃ ι en st, Rel K σ H ι en st ∧ Fin K (fun c d H' => ∀ σ', Agree A σ σ' → X c d σ' H') ι H (f en st) (outK K D A σ)
end
end Ci
/-! Ci2: operators, comparisons, places by values. -/
namespace Ci
open PySem L2

def FinO (K : PySem.W.Frag) (ι : List Addr) (H : Hp) (r : Option (W × Sto)) (Q : VK) : Prop :=
  match r with
  | some (w, st) => ∀ ι' H' v, Pre ι ι' → TK H H' → HRel K H' ι' st → RW K H' ι' w v → Q v H'
  | none => False
def rB2 (K : PySem.W.Frag) (f : W → W → Sto → Option (W × Sto)) : R2 := fun x y H Q => ∃ ι st a b, HRel K H ι st ∧ RW K H ι a x ∧ RW K H ι b y ∧ FinO K ι H (f a b st) Q
def rB1 (K : PySem.W.Frag) (f : W → Sto → Option (W × Sto)) : V → Hp → VK → Prop := fun x H Q => ∃ ι st a, HRel K H ι st ∧ RW K H ι a x ∧ FinO K ι H (f a st) Q
def rBs (K : PySem.W.Frag) (f : List W → Sto → Option (W × Sto)) : List V → Hp → VK → Prop := fun xs H Q => ∃ ι st as, HRel K H ι st ∧ RWs K H ι as xs ∧ FinO K ι H (f as st) Q
def rBm (K : PySem.W.Frag) (f : W → List W → Sto → Option (W × Sto)) : V → List V → Hp → VK → Prop := fun x xs H Q => ∃ ι st a as, HRel K H ι st ∧ RW K H ι a x ∧ RWs K H ι as xs ∧ FinO K ι H (f a as st) Q
section
variable {K : PySem.W.Frag} {ι : List Addr} {H : Hp} {st : Sto} {Q : VK}
theorem FinO.now {w : W} {v : V} (h : FinO K ι H (some (w, st)) Q) (z : HRel K H ι st) (r : RW K H ι w v) : Q v H := h ι H v (Pre.refl ι) (TK.refl H) z r
theorem FinO.new {ws : List W} {vs : List V} (h : FinO K ι H (Ci.new st (.lst ws)) Q) (z : HRel K H ι st) (r : RWs K H ι ws vs) : ∀ p, H p = none → Q (.ref p) (upd H p (.lst vs)) := fun p hp =>
  h (ι ++ [p]) _ (.ref p) (Pre.snoc ι p) (TK.new hp) (z.push hp ⟨vs, upd_same, r.keep (TK.new hp) (Pre.snoc ι p)⟩) (.ref (by rw [← z.len]; simp))
theorem FinO.tup {ws : List W} {vs : List V} (h : FinO K ι H (some (.tup ws, st)) Q) (z : HRel K H ι st) (r : RWs K H ι ws vs) : ∀ p, H p = none → Q (.ref p) (upd H p (.tup vs)) := fun p hp => by
  refine h ι _ (.ref p) (Pre.refl ι) (TK.new hp) ⟨z.len, z.inj, fun n a o e1 e2 => ?_⟩ (.tup (.inl upd_same) (r.keep (TK.new hp) (Pre.refl ι)))
  have ne : a ≠ p := fun q => z.fresh hp n (by rw [e1, q])
  exact (z.ob n a o e1 e2).keep (TK.new hp) (Pre.refl ι) (upd_ne ne)
theorem FinO.put {w : W} {v : V} {n : Nat} {p : Addr} {ws : List W} {vs : List V} (h : FinO K ι H (some (w, st.set n (.lst ws))) Q) (z : HRel K H ι st) (hp : ι[n]? = some p) (mu : Mut (H p)) (r : RWs K H ι ws vs) (rw' : RW K H ι w v) : Q v (upd H p (.lst vs)) := by
  exact h ι _ v (Pre.refl ι) (TK.mut mu) (z.set hp mu ⟨vs, upd_same, r.keep (TK.mut mu) (Pre.refl ι)⟩) (rw'.keep (TK.mut mu) (Pre.refl ι))
/-- what stands at a list's, a tuple's place -/
theorem RW.seq {w : W} {v : V} {ws : List W} (z : HRel K H ι st) (r : RW K H ι w v) (e : seqOf st w = some ws) : ∃ a vs, v = .ref a ∧ RWs K H ι ws vs ∧ (SqL K H a vs ∨ SqT K H a vs) := by
  cases w with
  | tup us => cases r with | tup h q => cases e; exact ⟨_, _, rfl, q, .inr h.sq⟩
  | frl us => cases r with | frl h q => cases e; exact ⟨_, _, rfl, q, .inl h.sq⟩
  | ref n =>
    cases r with
    | ref h =>
      obtain ⟨o, eo, ro⟩ := z.at h
      unfold seqOf at e
      simp only [eo] at e
      cases o with
      | lst us => cases e; obtain ⟨vs, q1, q2⟩ := ro; exact ⟨_, vs, rfl, q2, .inl (SqL.of q1)⟩
      | dct _ => cases e
      | fdc _ => cases e
  | _ => cases e
theorem RW.lst {w : W} {v : V} {ws : List W} (z : HRel K H ι st) (r : RW K H ι w v) (e : lstOf st w = some ws) : ∃ a vs, v = .ref a ∧ RWs K H ι ws vs ∧ SqL K H a vs := by
  cases w with
  | frl us => cases r with | frl h q => cases e; exact ⟨_, _, rfl, q, h.sq⟩
  | ref n =>
    cases r with
    | ref h =>
      obtain ⟨o, eo, ro⟩ := z.at h
      unfold lstOf at e
      simp only [eo] at e
      cases o with
      | lst us => cases e; obtain ⟨vs, q1, q2⟩ := ro; exact ⟨_, vs, rfl, q2, SqL.of q1⟩
      | dct _ => cases e
      | fdc _ => cases e
  | _ => cases e
theorem RW.own {n : Nat} {v : V} {o : Ob} (z : HRel K H ι st) (r : RW K H ι (.ref n) v) (e : st[n]? = some o) : ∃ a, v = .ref a ∧ ι[n]? = some a ∧ RO K H ι a o := by
  cases r with
  | ref h => exact ⟨_, rfl, h, z.ob _ _ _ h e⟩
end

section
variable {X : Cx}
theorem or_bin (o : BinO) : OpR X (binaryOp o.py) (rB2 X.K (bin o)) := by
  intro pins s σ H x y v u Q I rx ry h
  obtain ⟨ι, st, a, b, hr, ra, rb, hf⟩ := h
  cases a with
  | int i =>
    cases b with
    | int j =>
      cases ra; cases rb
      have hf' : FinO X.K ι H ((binI o i j).map fun k => (W.int k, st)) Q := hf
      cases ho : binI o i j with
      | none => rw [ho] at hf'; exact hf'.elim
      | some k =>
        rw [ho] at hf'
        have q : Q (.int k) H := FinO.now hf' hr (.int k)
        cases o with
        | add => cases ho; exact op_add pins s σ H _ _ v u Q I rx ry ⟨i, j, rfl, rfl, q⟩
        | sub => cases ho; exact op_sub pins s σ H _ _ v u Q I rx ry ⟨i, j, rfl, rfl, q⟩
        | mul =>
          simp only [binI] at ho
          split at ho
          · rename_i hc
            cases ho
            simp only [Bool.or_eq_true] at hc
            rcases hc with (hc | hc) | hc
            · exact op_mul pins s σ H _ _ v u Q I rx ry ⟨i, j, rfl, rfl, .inl (of_decide_eq_true hc), q⟩
            · exact op_mul pins s σ H _ _ v u Q I rx ry ⟨i, j, rfl, rfl, .inr (of_decide_eq_true hc), q⟩
            · have hc := of_decide_eq_true hc
              exact op_mulW pins s σ H _ _ v u Q I rx ry ⟨i, j, rfl, rfl, hc, q⟩
          · cases ho
        | fdiv =>
          simp only [binI] at ho
          split at ho
          · rename_i hc
            cases ho
            simp only [divOk, Bool.and_eq_true, Bool.or_eq_true, decide_eq_true_eq] at hc
            obtain ⟨h0, hc | hc⟩ := hc
            · exact op_fdiv pins s σ H _ _ v u Q I rx ry ⟨i, j, rfl, rfl, ⟨h0, hc⟩, q⟩
            · exact op_fdivW pins s σ H _ _ v u Q I rx ry ⟨i, j, rfl, rfl, ⟨h0, hc⟩, q⟩
          · cases ho
        | mod =>
          simp only [binI] at ho
          split at ho
          · rename_i hc
            cases ho
            have hc := of_decide_eq_true hc
            exact op_mod pins s σ H _ _ v u Q I rx ry ⟨i, j, rfl, rfl, hc, q⟩
          · cases ho
        | pow =>
          simp only [binI] at ho
          split at ho
          · rename_i hc
            cases ho
            have hc := of_decide_eq_true hc
            exact op_pow pins s σ H _ _ v u Q I rx ry ⟨i, j, rfl, rfl, hc, q⟩
          · cases ho
        | shl =>
          simp only [binI] at ho
          split at ho
          · rename_i hc
            cases ho
            have hc := of_decide_eq_true hc
            exact op_shl pins s σ H _ _ v u Q I rx ry ⟨i, j, rfl, rfl, hc, q⟩
          · cases ho
        | shr =>
          simp only [binI] at ho
          split at ho
          · rename_i hc
            cases ho
            have hc := of_decide_eq_true hc
            exact op_shr pins s σ H _ _ v u Q I rx ry ⟨i, j, rfl, rfl, hc, q⟩
          · cases ho
        | band => cases ho; exact op_and pins s σ H _ _ v u Q I rx ry ⟨i, j, rfl, rfl, q⟩
        | bor => cases ho; exact op_or pins s σ H _ _ v u Q I rx ry ⟨i, j, rfl, rfl, q⟩
        | bxor => cases ho; exact op_xor pins s σ H _ _ v u Q I rx ry ⟨i, j, rfl, rfl, q⟩
    | _ => exact hf.elim
  | str x =>
    cases b with
    | str y =>
      cases ra; cases rb
      cases o with
      | add =>
        have hf' : FinO X.K ι H (if x.length + y.length ≤ sizeLine then some (W.str (x ++ y), st) else none) Q := hf
        split at hf'
        · rename_i hc
          exact op_add_str pins s σ H _ _ v u Q I rx ry ⟨x, y, rfl, rfl, hc, FinO.now hf' hr (.str _)⟩
        · exact hf'.elim
      | _ => exact hf.elim
    | _ => exact hf.elim
  | tup xs =>
    cases b with
    | tup ys =>
      cases o with
      | add =>
        have hf' : FinO X.K ι H (if xs.length + ys.length ≤ sizeLine then some (W.tup (xs ++ ys), st) else none) Q := hf
        split at hf'
        · rename_i hc
          cases ra with
          | @tup _ vs p hp rp =>
            cases rb with
            | @tup _ us q hq rq =>
              have l1 := rp.len
              have l2 := rq.len
              refine op_catA pins s σ H _ _ v u Q I rx ry ⟨p, q, vs, us, rfl, rfl, hp.sq, hq.sq, by omega, fun e => ?_, fun _ e => ?_, fun _ _ => FinO.tup hf' hr (rp.app rq)⟩
              · subst e
                have : xs = [] := List.length_eq_zero_iff.mp (by rw [l1]; rfl)
                subst this
                exact FinO.now hf' hr (.tup hq rq)
              · subst e
                have : ys = [] := List.length_eq_zero_iff.mp (by rw [l2]; rfl)
                subst this
                rw [List.append_nil] at hf'
                exact FinO.now hf' hr (.tup hp rp)
        · exact hf'.elim
      | _ => exact hf.elim
    | _ => exact hf.elim
  | ref m =>
    cases b with
    | ref n =>
      unfold bin at hf
      simp only at hf
      split at hf
      · rename_i xs ys e1 e2
        split at hf
        · rename_i hc
          obtain ⟨p, rfl, hp, vs, h1, r1⟩ := ra.own hr e1
          obtain ⟨q, rfl, hq, us, h2, r2⟩ := rb.own hr e2
          have l1 := r1.len
          have l2 := r2.len
          exact op_cat pins s σ H _ _ v u Q I rx ry ⟨p, q, vs, us, rfl, rfl, h1, h2, by omega, FinO.new hf hr (r1.app r2)⟩
        · exact hf.elim
      · exact hf.elim
    | int k =>
      unfold bin at hf
      simp only at hf
      split at hf
      · rename_i xs e1
        split at hf
        · rename_i hc
          simp only [Bool.and_eq_true, decide_eq_true_eq] at hc
          cases rb
          obtain ⟨p, rfl, hp, vs, h1, r1⟩ := ra.own hr e1
          have l1 := r1.len
          exact op_rep pins s σ H _ _ v u Q I rx ry ⟨p, k, vs, rfl, rfl, h1, by omega, by omega, by rw [← l1]; exact hc.2, FinO.new hf hr (r1.rep k.toNat)⟩
        · exact hf.elim
      · exact hf.elim
    | _ => exact hf.elim
  | _ => exact hf.elim

theorem or_of {f : Value → Value → Sem Value} {r r' : R2} (h : OpR X f r) (i : ∀ x y H Q, r' x y H Q → r x y H Q) : OpR X f r' := fun pins s σ H x y v u Q I rx ry q => h pins s σ H x y v u Q I rx ry (i _ _ _ _ q)
end

/-! ### data -/
section
variable {K : PySem.W.Frag} {ι : List Addr} {H : Hp} {st : Sto}
mutual
theorem RW.dp {ρ : Nat → Option PyData} (hρ : ∀ (n : Nat) (a : Addr) (d : PyData), ι[n]? = some a → ρ n = some d → Dp K H (.ref a) d) : ∀ {w : W} {v : V} {d : PyData}, RW K H ι w v → pd ρ w = some d → Dp K H v d
  | _, _, _, .non, e => by rw [pd] at e; cases e; exact .non
  | _, _, _, .bl b, e => by rw [pd] at e; cases e; exact .bl b
  | _, _, _, .int b, e => by rw [pd] at e; cases e; exact .int b
  | _, _, _, .str b, e => by rw [pd] at e; cases e; exact .str b
  | _, _, _, .tup h r, e => by
    rw [pd] at e
    obtain ⟨ds, e1, rfl⟩ := Option.map_eq_some_iff.mp e
    exact .tup h.sq (RWs.dp hρ r e1)
  | _, _, _, .frl h r, e => by
    rw [pd] at e
    obtain ⟨ds, e1, rfl⟩ := Option.map_eq_some_iff.mp e
    exact .lst h.sq (RWs.dp hρ r e1)
  | _, _, _, .ref h, e => by rw [pd] at e; exact hρ _ _ _ h e
theorem RWs.dp {ρ : Nat → Option PyData} (hρ : ∀ (n : Nat) (a : Addr) (d : PyData), ι[n]? = some a → ρ n = some d → Dp K H (.ref a) d) : ∀ {ws : List W} {vs : List V} {ds : List PyData}, RWs K H ι ws vs → pds ρ ws = some ds → DpAll K H vs ds
  | _, _, _, .nil, e => by rw [pds] at e; cases e; exact .nil
  | _, _, _, .cons h r, e => by
    rw [pds] at e
    split at e
    · rename_i d ds e1 e2
      cases e
      exact .cons (RW.dp hρ h e1) (RWs.dp hρ r e2)
    · cases e
end
theorem rho_dp (z : HRel K H ι st) : ∀ (k n : Nat) (a : Addr) (d : PyData), ι[n]? = some a → rho st k n = some d → Dp K H (.ref a) d
  | 0, _, _, _, _, e => by cases e
  | k + 1, n, a, d, h, e => by
    obtain ⟨o, eo, ro⟩ := z.at h
    rw [rho, eo] at e
    cases o with
    | lst us =>
      obtain ⟨vs, q1, q2⟩ := ro
      obtain ⟨ds, e1, rfl⟩ := Option.map_eq_some_iff.mp e
      exact .lst (SqL.of q1) (RWs.dp (rho_dp z k) q2 e1)
    | dct _ => cases e
    | fdc _ => cases e
theorem toD_dp (z : HRel K H ι st) {w : W} {v : V} {d : PyData} (r : RW K H ι w v) (e : toD st w = some d) : Dp K H v d := RW.dp (rho_dp z 9) r e
end

section
variable {X : Cx}
theorem eqv_flat (st : Sto) {x y : W} {b : Bool} (h : eqD st x y = some b) : (∃ a c, x = .str a ∧ y = .str c ∧ b = (a == c)) ∨ (∃ a c, x = .int a ∧ y = .int c ∧ b = (a == c)) ∨
    ∃ d e, toD st x = some d ∧ toD st y = some e ∧ SeqAt.shaped d = true ∧ SeqAt.shaped e = true ∧ b = PyData.eqv d e := by
  unfold eqD at h
  split at h
  · cases h; exact .inl ⟨_, _, rfl, rfl, rfl⟩
  · cases h; exact .inr (.inl ⟨_, _, rfl, rfl, rfl⟩)
  · split at h
    · rename_i d e h1 h2
      split at h
      · rename_i hs
        cases h
        simp only [shapedB, Bool.and_eq_true] at hs
        exact .inr (.inr ⟨d, e, h1, h2, hs.1, hs.2, rfl⟩)
      · cases h
    · cases h
theorem flat_rel {K : PySem.W.Frag} {H : Hp} {ι : List Addr} {w : W} {v : V} (r : RW K H ι w v) (f : flatW w = true) : flatV v = true := by
  cases r <;> first | rfl | cases f
theorem eqF_rel {K : PySem.W.Frag} {H : Hp} {ι : List Addr} {w z : W} {v u : V} (r : RW K H ι w v) (q : RW K H ι z u) (f : flatW w = true) (g : flatW z = true) : eqV v u = eqF w z := by
  cases r <;> cases q <;> rfl
theorem flats_rel {K : PySem.W.Frag} {H : Hp} {ι : List Addr} {w : W} {v : V} (r : RW K H ι w v) (f : flatW w = true) : ∀ {ws : List W} {vs : List V}, RWs K H ι ws vs → ws.all flatW = true → vs.all flatV = true ∧ inV v vs = ws.any fun y => eqF y w
  | _, _, .nil, _ => ⟨rfl, rfl⟩
  | _, _, .cons h t, e => by
    rw [List.all_cons, Bool.and_eq_true] at e
    obtain ⟨a, b⟩ := flats_rel r f t e.2
    refine ⟨by rw [List.all_cons, flat_rel h e.1, a]; rfl, ?_⟩
    unfold inV at b ⊢
    rw [List.any_cons, List.any_cons, eqF_rel h r e.1 f, b]
end
end Ci
/-! Ci3: comparisons, truth, subscripts, slices, built-ins, methods by values. -/
namespace Ci
open PySem L2

section
variable {K : PySem.W.Frag} {ι : List Addr} {H : Hp} {st : Sto} {Q : VK}
theorem keyOf_rel {w : W} {v : V} {k : Key} (r : RW K H ι w v) (e : keyOf w = some k) : v = kV k := by
  cases r <;> first | (cases e; rfl) | cases e
theorem RKv.get : ∀ {ws : List (Key × W)} {vs : List (Key × V)} {k : Key}, RKv K H ι ws vs → (∀ w, dgetL k ws = some w → ∃ v, valV vs k = some v ∧ RW K H ι w v) ∧ (valV vs k).isSome = (dgetL k ws).isSome
  | _, _, k, .nil => ⟨fun w e => (by cases e), rfl⟩
  | (j, w) :: ws, (_, v) :: vs, k, .cons h t => by
    by_cases e : j = k
    · subst e
      have e1 : dgetL j ((j, w) :: ws) = some w := by rw [dgetL, if_pos rfl]
      have e2 : valV ((j, v) :: vs) j = some v := valV_pos rfl
      refine ⟨fun z ez => ?_, by rw [e1, e2]; rfl⟩
      rw [e1] at ez
      cases ez
      exact ⟨v, e2, h⟩
    · have e1 : dgetL k ((j, w) :: ws) = dgetL k ws := by rw [dgetL, if_neg e]
      have e2 : valV ((j, v) :: vs) k = valV vs k := valV_neg e
      rw [e1, e2]
      exact RKv.get t
theorem FinO.bl {b : Bool} (h : FinO K ι H (some (.bl b, st)) Q) (z : HRel K H ι st) : Q (.bl b) H := h.now z (.bl b)
theorem cmpO_bl {o : CmpO} {x y : W} (h : FinO K ι H (cmpO o x y st) Q) (z : HRel K H ι st) : ∃ b, cmp o x y st = some b ∧ Q (.bl b) H := by
  unfold cmpO at h
  cases e : cmp o x y st with
  | none => rw [e] at h; exact h.elim
  | some b => rw [e] at h; exact ⟨b, rfl, FinO.bl h z⟩
end

section
variable {X : Cx}
theorem or_is (o : CmpO) (ho : o = .isN ∨ o = .notN) : OpR X (compareOp o.py) (rB2 X.K (cmpO o)) := by
  intro pins s σ H x y v u Q I rx ry h
  obtain ⟨ι, st, a, b, hr, ra, rb, hf⟩ := h
  obtain ⟨k, hk, q⟩ := cmpO_bl hf hr
  rcases ho with rfl | rfl
  · cases b with
    | non =>
      cases rb
      have hk' : some (isNon a) = some k := hk
      refine op_isN pins s σ H _ _ v u Q I rx ry ⟨rfl, ?_⟩
      have e : decide (x = .non) = k := by
        rw [← Option.some.inj hk']
        cases ra <;> first | rfl | (apply decide_eq_false; intro z; cases z)
      rw [e]; exact q
    | bl b =>
      cases rb
      cases a with
      | bl c =>
        cases ra
        have hk' : some (decide (c = b)) = some k := hk
        cases hk'
        exact op_isBl pins s σ H _ _ v u Q I rx ry ⟨c, b, rfl, rfl, q⟩
      | _ => cases hk
    | _ => cases hk
  · cases b with
    | non =>
      cases rb
      have hk' : some (!isNon a) = some k := hk
      refine op_notN pins s σ H _ _ v u Q I rx ry ⟨rfl, ?_⟩
      have e : (!decide (x = .non)) = k := by
        rw [← Option.some.inj hk']
        cases ra <;> first | rfl | (rw [decide_eq_false (by intro z; cases z)]; rfl)
      rw [e]; exact q
    | bl b =>
      cases rb
      cases a with
      | bl c =>
        cases ra
        have hk' : some (!decide (c = b)) = some k := hk
        cases hk'
        exact op_notBl pins s σ H _ _ v u Q I rx ry ⟨c, b, rfl, rfl, q⟩
      | _ => cases hk
    | _ => cases hk
theorem or_in (hu : X.A.units + 65 < cLine) (o : CmpO) (ho : o = .isin ∨ o = .notin) : OpR X (compareOp o.py) (rB2 X.K (cmpO o)) := by
  intro pins s σ H x y v u Q I rx ry h
  obtain ⟨ι, st, a, b, hr, ra, rb, hf⟩ := h
  obtain ⟨k, hk, q⟩ := cmpO_bl hf hr
  -- what in tells, by its own answer
  have core : ∀ c : Bool, inW st a b = some c → (wpAny (model X.prog X.w) X.A (compareOp .In v u) (fun r s' => ∃ H', Inv X pins σ H' s' ∧ H' = H ∧ r = .bool c) X.xe s ∧
      wpAny (model X.prog X.w) X.A (compareOp .NotIn v u) (fun r s' => ∃ H', Inv X pins σ H' s' ∧ H' = H ∧ r = .bool (!c)) X.xe s) := by
    intro c hc
    have fin : ∀ d : Bool, (wpAny (model X.prog X.w) X.A (compareOp .In v u) (EP X pins σ fun z H' => z = .bl d ∧ H' = H) X.xe s) → wpAny (model X.prog X.w) X.A (compareOp .In v u) (fun r s' => ∃ H', Inv X pins σ H' s' ∧ H' = H ∧ r = .bool d) X.xe s := fun d hd =>
      thn hd fun r s' ⟨z, H', I', rz, ez, eH⟩ => ⟨H', I', eH, by subst ez; exact rz⟩
    have fin2 : ∀ d : Bool, (wpAny (model X.prog X.w) X.A (compareOp .NotIn v u) (EP X pins σ fun z H' => z = .bl d ∧ H' = H) X.xe s) → wpAny (model X.prog X.w) X.A (compareOp .NotIn v u) (fun r s' => ∃ H', Inv X pins σ H' s' ∧ H' = H ∧ r = .bool d) X.xe s := fun d hd =>
      thn hd fun r s' ⟨z, H', I', rz, ez, eH⟩ => ⟨H', I', eH, by subst ez; exact rz⟩
    have deep : ∀ ws vs p, u = .ref p → RWs X.K H ι ws vs → SqL X.K H p vs → inD st a ws = some c → (wpAny (model X.prog X.w) X.A (compareOp .In v u) (fun r s' => ∃ H', Inv X pins σ H' s' ∧ H' = H ∧ r = .bool c) X.xe s ∧
      wpAny (model X.prog X.w) X.A (compareOp .NotIn v u) (fun r s' => ∃ H', Inv X pins σ H' s' ∧ H' = H ∧ r = .bool (!c)) X.xe s) := by
      intro ws vs p eu r hs hd
      subst eu
      unfold inD at hd
      split at hd
      · rename_i d ds e1 e2
        split at hd
        · rename_i hsh
          simp only [shapedB, Bool.and_eq_true] at hsh
          cases hd
          have h1 := toD_dp hr ra e1
          have h2 : Dp X.K H (.ref p) (.list ds) := .lst hs (RWs.dp (rho_dp hr 8) r e2)
          exact ⟨fin _ (op_inD hu pins s σ H x (.ref p) v _ _ I rx rfl ⟨d, ds, h1, h2, hsh.1, hsh.2, rfl, rfl⟩), fin2 _ (op_notInD hu pins s σ H x (.ref p) v _ _ I rx rfl ⟨d, ds, h1, h2, hsh.1, hsh.2, rfl, rfl⟩)⟩
        · cases hd
      · cases hd
    cases b with
    | str t =>
      cases a with
      | str z =>
        cases ra; cases rb
        cases hc
        exact ⟨fin _ (op_in_str pins s σ H _ _ v u _ I rx ry ⟨z, t, rfl, rfl, rfl, rfl⟩), fin2 _ (L2.op_notIn_str pins s σ H _ _ v u _ I rx ry ⟨z, t, rfl, rfl, rfl, rfl⟩)⟩
      | _ => cases hc
    | tup ws =>
      cases rb with
      | @tup _ vs p hp rp =>
        have hc' : (if flatW a && ws.all flatW then some (ws.any fun y => eqF y a) else none) = some c := hc
        split at hc'
        · rename_i hfl
          rw [Bool.and_eq_true] at hfl
          cases hc'
          obtain ⟨f1, f2⟩ := flats_rel ra hfl.1 rp hfl.2
          exact ⟨fin _ (op_in_seq pins s σ H _ _ v u _ I rx ry ⟨p, vs, rfl, .inr hp.sq, flat_rel ra hfl.1, f1, by rw [← f2]; exact ⟨rfl, rfl⟩⟩),
            fin2 _ (op_notIn_seq pins s σ H _ _ v u _ I rx ry ⟨p, vs, rfl, .inr hp.sq, flat_rel ra hfl.1, f1, by rw [← f2]; exact ⟨rfl, rfl⟩⟩)⟩
        · cases hc'
    | frl ws =>
      cases rb with
      | @frl _ vs p hp rp =>
        cases ry
        exact deep ws vs p rfl rp hp.sq hc
    | ref n =>
      unfold inW at hc
      simp only at hc
      split at hc
      · rename_i ws e1
        obtain ⟨p, rfl, hp, vs, h1, r1⟩ := rb.own hr e1
        cases ry
        exact deep ws vs p rfl r1 (SqL.of h1) hc
      · rename_i kvs e1
        obtain ⟨m, p, vs, e0, rfl, hp, h1, r1⟩ := rb.dct hr (show dctOf st (.ref n) = some kvs by unfold dctOf; simp only [e1])
        cases ry
        obtain ⟨ky, eky, ec⟩ := Option.map_eq_some_iff.mp hc
        have ex := keyOf_rel ra eky
        subst ex
        have g : DGet H p (kV ky) (valV vs ky) := DGet.rd h1
        have is : (valV vs ky).isSome = c := by rw [← ec]; exact (RKv.get r1).2
        refine ⟨d_in (by omega) I g rx fun s' I' => ⟨H, I', rfl, by rw [is]⟩, d_notIn (by omega) I g rx fun s' I' => ⟨H, I', rfl, by rw [is]⟩⟩
      · rename_i kvs e1
        obtain ⟨m, p, vs, e0, rfl, hp, h1, r1⟩ := rb.dct hr (show dctOf st (.ref n) = some kvs by unfold dctOf; simp only [e1])
        cases ry
        obtain ⟨ky, eky, ec⟩ := Option.map_eq_some_iff.mp hc
        have ex := keyOf_rel ra eky
        subst ex
        have g : DGet H p (kV ky) (valV vs ky) := DGet.rd h1
        have is : (valV vs ky).isSome = c := by rw [← ec]; exact (RKv.get r1).2
        refine ⟨d_in (by omega) I g rx fun s' I' => ⟨H, I', rfl, by rw [is]⟩, d_notIn (by omega) I g rx fun s' I' => ⟨H, I', rfl, by rw [is]⟩⟩
      · cases hc
    | _ => cases hc
  rcases ho with rfl | rfl
  · refine thn (core k hk).1 fun r s' ⟨H', I', e1, e2⟩ => ?_
    subst e1 e2
    exact ⟨.bl k, _, I', rfl, q⟩
  · have hk' : (inW st a b).map (!·) = some k := hk
    obtain ⟨c, h1, h2⟩ := Option.map_eq_some_iff.mp hk'
    refine thn (core c h1).2 fun r s' ⟨H', I', e1, e2⟩ => ?_
    subst e1 e2
    exact ⟨.bl k, _, I', by rw [← h2]; rfl, q⟩
theorem ordD_is {f : PyData → PyData → Bool} {st : Sto} {x y : W} {k : Bool} (h : ordD f st x y = some k) :
    ∃ d e, toD st x = some d ∧ toD st y = some e ∧ PySem.W.alike d e = true ∧ d ≠ .none ∧ min d.depth e.depth ≤ 60 ∧ k = f d e := by
  unfold ordD at h
  split at h
  · rename_i d e h1 h2
    split at h
    · rename_i hc
      rw [Bool.and_eq_true, Bool.and_eq_true] at hc
      cases h
      refine ⟨d, e, h1, h2, hc.1.1, ?_, of_decide_eq_true hc.2, rfl⟩
      intro z
      subst z
      exact absurd hc.1.2 (by decide)
    · cases h
  · cases h
theorem or_cmp (hu : X.A.units + 65 < cLine) (o : CmpO) : OpR X (compareOp o.py) (rB2 X.K (cmpO o)) := by
  cases o with
  | isin => exact or_in hu _ (.inl rfl)
  | notin => exact or_in hu _ (.inr rfl)
  | isN => exact or_is _ (.inl rfl)
  | notN => exact or_is _ (.inr rfl)
  | eq =>
    intro pins s σ H x y v u Q I rx ry h
    obtain ⟨ι, st, a, b, hr, ra, rb, hf⟩ := h
    obtain ⟨k, hk, q⟩ := cmpO_bl hf hr
    rcases eqv_flat st hk with ⟨i, j, rfl, rfl, rfl⟩ | ⟨i, j, rfl, rfl, rfl⟩ | ⟨d, e, h1, h2, h3, h4, rfl⟩
    · cases ra; cases rb; exact L2.op_eq pins s σ H _ _ v u Q I rx ry ⟨rfl, by rw [dec_str]; exact q⟩
    · cases ra; cases rb; exact L2.op_eq pins s σ H _ _ v u Q I rx ry ⟨rfl, by rw [dec_int]; exact q⟩
    exact op_eqD (by omega) pins s σ H _ _ v u Q I rx ry ⟨d, e, toD_dp hr ra h1, toD_dp hr rb h2, h3, h4, q⟩
  | ne =>
    intro pins s σ H x y v u Q I rx ry h
    obtain ⟨ι, st, a, b, hr, ra, rb, hf⟩ := h
    obtain ⟨k, hk, q⟩ := cmpO_bl hf hr
    have hk' : (eqD st a b).map (!·) = some k := hk
    obtain ⟨c, hc, rfl⟩ := Option.map_eq_some_iff.mp hk'
    rcases eqv_flat st hc with ⟨i, j, rfl, rfl, rfl⟩ | ⟨i, j, rfl, rfl, rfl⟩ | ⟨d, e, h1, h2, h3, h4, rfl⟩
    · cases ra; cases rb; exact L2.op_ne pins s σ H _ _ v u Q I rx ry ⟨rfl, by rw [dec_str]; exact q⟩
    · cases ra; cases rb; exact L2.op_ne pins s σ H _ _ v u Q I rx ry ⟨rfl, by rw [dec_int]; exact q⟩
    exact op_neD (by omega) pins s σ H _ _ v u Q I rx ry ⟨d, e, toD_dp hr ra h1, toD_dp hr rb h2, h3, h4, q⟩
  | lt =>
    intro pins s σ H x y v u Q I rx ry h
    obtain ⟨ι, st, a, b, hr, ra, rb, hf⟩ := h
    obtain ⟨k, hk, q⟩ := cmpO_bl hf hr
    have gen : ordD PySem.W.dataLt st a b = some k → wpAny (model X.prog X.w) X.A (compareOp .Lt v u) (EP X pins σ Q) X.xe s := fun hk => by
      obtain ⟨d, e, h1, h2, h3, h4, h5, rfl⟩ := ordD_is hk
      obtain ⟨as, r1⟩ := Dp.reads I d x v (toD_dp hr ra h1) rx
      obtain ⟨bs, r2⟩ := Dp.reads I e y u (toD_dp hr rb h2) ry
      exact PySem.W.lt_data r1 r2 h3 h4 (by omega) ⟨.bl _, H, I, rfl, q⟩
    cases a with
    | int i =>
      cases b with
      | int j => cases ra; cases rb; cases hk; exact op_lt pins s σ H _ _ v u Q I rx ry ⟨i, j, rfl, rfl, q⟩
      | _ => exact gen hk
    | str i =>
      cases b with
      | str j => cases ra; cases rb; cases hk; exact op_lt_str pins s σ H _ _ v u Q I rx ry ⟨i, j, rfl, rfl, q⟩
      | _ => exact gen hk
    | _ => exact gen hk
  | le =>
    intro pins s σ H x y v u Q I rx ry h
    obtain ⟨ι, st, a, b, hr, ra, rb, hf⟩ := h
    obtain ⟨k, hk, q⟩ := cmpO_bl hf hr
    have gen : ordD (fun d e => !PySem.W.dataLt e d) st a b = some k → wpAny (model X.prog X.w) X.A (compareOp .LtE v u) (EP X pins σ Q) X.xe s := fun hk => by
      obtain ⟨d, e, h1, h2, h3, h4, h5, rfl⟩ := ordD_is hk
      obtain ⟨as, r1⟩ := Dp.reads I d x v (toD_dp hr ra h1) rx
      obtain ⟨bs, r2⟩ := Dp.reads I e y u (toD_dp hr rb h2) ry
      exact PySem.W.le_data r1 r2 h3 h4 (by omega) ⟨.bl _, H, I, rfl, q⟩
    cases a with
    | int i =>
      cases b with
      | int j => cases ra; cases rb; cases hk; exact op_le pins s σ H _ _ v u Q I rx ry ⟨i, j, rfl, rfl, q⟩
      | _ => exact gen hk
    | _ => exact gen hk
  | gt =>
    intro pins s σ H x y v u Q I rx ry h
    obtain ⟨ι, st, a, b, hr, ra, rb, hf⟩ := h
    obtain ⟨k, hk, q⟩ := cmpO_bl hf hr
    have gen : ordD (fun d e => PySem.W.dataLt e d) st a b = some k → wpAny (model X.prog X.w) X.A (compareOp .Gt v u) (EP X pins σ Q) X.xe s := fun hk => by
      obtain ⟨d, e, h1, h2, h3, h4, h5, rfl⟩ := ordD_is hk
      obtain ⟨as, r1⟩ := Dp.reads I d x v (toD_dp hr ra h1) rx
      obtain ⟨bs, r2⟩ := Dp.reads I e y u (toD_dp hr rb h2) ry
      exact PySem.W.gt_data r1 r2 h3 h4 (by omega) ⟨.bl _, H, I, rfl, q⟩
    cases a with
    | int i =>
      cases b with
      | int j => cases ra; cases rb; cases hk; exact op_gt pins s σ H _ _ v u Q I rx ry ⟨i, j, rfl, rfl, q⟩
      | _ => exact gen hk
    | _ => exact gen hk
  | ge =>
    intro pins s σ H x y v u Q I rx ry h
    obtain ⟨ι, st, a, b, hr, ra, rb, hf⟩ := h
    obtain ⟨k, hk, q⟩ := cmpO_bl hf hr
    have gen : ordD (fun d e => !PySem.W.dataLt d e) st a b = some k → wpAny (model X.prog X.w) X.A (compareOp .GtE v u) (EP X pins σ Q) X.xe s := fun hk => by
      obtain ⟨d, e, h1, h2, h3, h4, h5, rfl⟩ := ordD_is hk
      obtain ⟨as, r1⟩ := Dp.reads I d x v (toD_dp hr ra h1) rx
      obtain ⟨bs, r2⟩ := Dp.reads I e y u (toD_dp hr rb h2) ry
      exact PySem.W.ge_data r1 r2 h3 h4 (by omega) ⟨.bl _, H, I, rfl, q⟩
    cases a with
    | int i =>
      cases b with
      | int j => cases ra; cases rb; cases hk; exact op_ge pins s σ H _ _ v u Q I rx ry ⟨i, j, rfl, rfl, q⟩
      | _ => exact gen hk
    | _ => exact gen hk
end
end Ci
/-! Ci4: truth, subscripts, slices, built-ins, methods by values. -/
namespace Ci
open PySem L2 PyProof.Rows

section
variable {K : PySem.W.Frag} {ι : List Addr} {H : Hp} {st : Sto} {Q : VK}
theorem RWs.empty {ws : List W} {vs : List V} (r : RWs K H ι ws vs) : ws.isEmpty = vs.isEmpty := by cases r <;> rfl
theorem tru_rel {w : W} {v : V} {b : Bool} (z : HRel K H ι st) (r : RW K H ι w v) (e : tru st w = some b) : TruV K v H b := by
  cases r with
  | non => cases e; rfl
  | bl b => cases e; rfl
  | int i => cases e; rfl
  | str x =>
    unfold tru at e
    simp only at e
    split at e
    · rename_i hl
      cases e
      exact ⟨hl, rfl⟩
    · cases e
  | tup h r => cases e; exact .inr (.inl ⟨_, h.sq, by rw [r.empty]⟩)
  | frl h r => cases e; exact .inl ⟨_, h.sq, by rw [r.empty]⟩
  | ref h =>
    obtain ⟨o, eo, ro⟩ := z.at h
    unfold tru at e
    simp only [eo] at e
    cases o with
    | lst us => cases e; obtain ⟨vs, q1, q2⟩ := ro; exact .inl ⟨vs, SqL.of q1, by rw [q2.empty]⟩
    | dct us =>
      cases e
      obtain ⟨vs, q1, q2⟩ := ro
      exact .inr (.inr ⟨vs, q1, by cases q2 <;> rfl⟩)
    | fdc us => cases e
theorem RWs.atI {ws : List W} {vs : List V} {i : Int} {w : W} (r : RWs K H ι ws vs) (e : atW ws i = some w) : ∃ v, L2.atI vs i = some v ∧ RW K H ι w v := by
  unfold atW L2.atI at e
  unfold L2.atI
  rw [← r.len]
  cases h : ixN ws.length i with
  | none => rw [h] at e; cases e
  | some j =>
    rw [h] at e
    exact r.get e
theorem cut_rel {ws : List W} {vs : List V} (r : RWs K H ι ws vs) (lo hi : Option Int) : RWs K H ι (cutW ws lo hi) (cutV vs lo hi) := by
  unfold cutW cutV
  rw [r.len]
  exact (r.drop _).take _
end

section
variable {X : Cx}
theorem ixr_sub (hu : X.A.units + 65 < cLine) : IxR X (rB2 X.K subO) := by
  intro value slice pins s σ H x y v u Q I rx ry h hs
  obtain ⟨ι, st, a, b, hr, ra, rb, hf⟩ := h
  unfold subO at hf
  cases e : sub st a b with
  | none => simp only [e] at hf; exact hf.elim
  | some w =>
    simp only [e] at hf
    have q : ∀ z, RW X.K H ι w z → Q z H := fun z rz => FinO.now hf hr rz
    unfold sub at e
    split at e
    · rename_i kvs ed
      obtain ⟨k, ek, eg⟩ := Option.bind_eq_some_iff.mp e
      have ey := keyOf_rel rb ek
      subst ey
      obtain ⟨n, p, vs, rfl, rfl, hp, h1, r1⟩ := ra.dct hr ed
      cases rx
      obtain ⟨z, ez, rz⟩ := (RKv.get r1).1 w eg
      have g : DGet H p (kV k) (some z) := by rw [← ez]; exact DGet.rd h1
      exact tail_any (dict_typeIs I g) PySem.F.slot_dict_getitem.lookup (d_getItem (by omega) I g ry fun w' s' I' rw' => ⟨z, H, I', rw', q z rz⟩) hs
    · rename_i ed
      unfold ixW at e
      cases b with
      | int i =>
        cases rb
        simp only at e
        cases a with
        | tup ws =>
          cases ra with
          | tup hp rp =>
            obtain ⟨z, ez, rz⟩ := rp.atI e
            exact ix_tup value slice pins s σ H _ _ v u Q I rx ry ⟨_, _, i, z, rfl, rfl, hp.sq, ez, q z rz⟩ hs
        | frl ws =>
          cases ra with
          | frl hp rp =>
            obtain ⟨z, ez, rz⟩ := rp.atI e
            exact ix_list value slice pins s σ H _ _ v u Q I rx ry ⟨_, _, i, z, rfl, rfl, hp.sq, ez, q z rz⟩ hs
        | str x =>
          cases ra
          simp only at e
          split at e
          · rename_i hl
            obtain ⟨c, ec, rfl⟩ := Option.map_eq_some_iff.mp e
            exact ix_str value slice pins s σ H _ _ v u Q I rx ry ⟨x, i, c, rfl, rfl, hl, ec, q _ (.str _)⟩ hs
          · cases e
        | ref n =>
          simp only at e
          split at e
          · rename_i ws e1
            obtain ⟨p, rfl, hp, vs, h1, r1⟩ := ra.own hr e1
            obtain ⟨z, ez, rz⟩ := r1.atI e
            exact ix_list value slice pins s σ H _ _ v u Q I rx ry ⟨_, _, i, z, rfl, rfl, SqL.of h1, ez, q z rz⟩ hs
          · cases e
        | _ => cases e
      | _ => cases e
def rSlW (K : PySem.W.Frag) : V → Option Int → Option Int → Hp → VK → Prop := fun x lo hi H Q => ∃ ι st a, HRel K H ι st ∧ RW K H ι a x ∧ FinO K ι H (slW a lo hi st) Q
theorem slr_cut : SlR X (rSlW X.K) := by
  intro pins s σ H x v vl vu lo hi sl Q I rx hs pl pu h
  obtain ⟨ι, st, a, hr, ra, hf⟩ := h
  cases a with
  | tup ws =>
    cases ra with
    | @tup _ vs p hp rp =>
      refine sl_tupA pins s σ H _ v vl vu lo hi sl Q I rx hs pl pu ⟨p, vs, rfl, hp.sq, fun e => ?_, fun _ => FinO.tup hf hr (cut_rel rp lo hi)⟩
      have e2 : cutW ws lo hi = ws := by
        unfold cutW
        rw [← rp.len] at e
        rw [e.1, e.2, List.drop_zero, Nat.sub_zero, List.take_length]
      have hf' : FinO X.K ι H (some (W.tup (cutW ws lo hi), st)) Q := hf
      rw [e2] at hf'
      exact FinO.now hf' hr (.tup hp rp)
  | frl ws =>
    cases ra with
    | @frl _ vs p hp rp => exact sl_list pins s σ H _ v vl vu lo hi sl Q I rx hs pl pu ⟨p, vs, rfl, hp.sq, FinO.new hf hr (cut_rel rp lo hi)⟩
  | str x =>
    cases ra
    unfold slW at hf
    simp only at hf
    split at hf
    · rename_i hl
      exact sl_str pins s σ H _ v vl vu lo hi sl Q I rx hs pl pu ⟨x, rfl, hl, FinO.now hf hr (.str _)⟩
    · exact hf.elim
  | ref n =>
    unfold slW at hf
    simp only at hf
    split at hf
    · rename_i ws e1
      obtain ⟨p, rfl, hp, vs, h1, r1⟩ := ra.own hr e1
      exact sl_list pins s σ H _ v vl vu lo hi sl Q I rx hs pl pu ⟨p, vs, rfl, SqL.of h1, FinO.new hf hr (cut_rel r1 lo hi)⟩
    · exact hf.elim
  | _ => exact hf.elim

/-! ### built-in functions -/
def Bi.val : Bi → Value
  | .len => .builtin "len" | .abs => .builtin "abs" | .int => .type "int" | .str => .type "str" | .repr => .builtin "repr"
  | .list => .type "list" | .tuple => .type "tuple" | .max2 => .builtin "max" | .min2 => .builtin "min" | .sum => .builtin "sum" | .any => .builtin "any" | .all => .builtin "all" | .sorted => .builtin "sorted" | .max1 => .builtin "max" | .min1 => .builtin "min"
theorem maxL_is : ∀ {ns : List Int} {m : Int}, maxL ns = some m → m ∈ ns ∧ ∀ y ∈ ns, y ≤ m
  | [], _, e => by cases e
  | x :: xs, m, e => by
    rw [maxL] at e
    cases e1 : maxL xs with
    | none =>
      rw [e1] at e
      cases e
      cases xs with
      | nil => exact ⟨List.mem_cons_self, fun y hy => by rw [List.mem_singleton.mp hy]; exact Int.le_refl _⟩
      | cons z zs =>
        rw [maxL] at e1
        split at e1 <;> cases e1
    | some k =>
      rw [e1] at e
      obtain ⟨h1, h2⟩ := maxL_is e1
      have e : some (if x < k then k else x) = some m := e
      cases e
      split
      · refine ⟨List.mem_cons_of_mem _ h1, fun y hy => ?_⟩
        rcases List.mem_cons.mp hy with rfl | hy
        · omega
        · exact h2 y hy
      · refine ⟨List.mem_cons_self, fun y hy => ?_⟩
        rcases List.mem_cons.mp hy with rfl | hy
        · exact Int.le_refl _
        · have := h2 y hy
          omega
theorem minL_is : ∀ {ns : List Int} {m : Int}, minL ns = some m → m ∈ ns ∧ ∀ y ∈ ns, m ≤ y
  | [], _, e => by cases e
  | x :: xs, m, e => by
    rw [minL] at e
    cases e1 : minL xs with
    | none =>
      rw [e1] at e
      cases e
      cases xs with
      | nil => exact ⟨List.mem_cons_self, fun y hy => by rw [List.mem_singleton.mp hy]; exact Int.le_refl _⟩
      | cons z zs =>
        rw [minL] at e1
        split at e1 <;> cases e1
    | some k =>
      rw [e1] at e
      obtain ⟨h1, h2⟩ := minL_is e1
      have e : some (if k < x then k else x) = some m := e
      cases e
      split
      · refine ⟨List.mem_cons_of_mem _ h1, fun y hy => ?_⟩
        rcases List.mem_cons.mp hy with rfl | hy
        · omega
        · exact h2 y hy
      · refine ⟨List.mem_cons_self, fun y hy => ?_⟩
        rcases List.mem_cons.mp hy with rfl | hy
        · exact Int.le_refl _
        · have := h2 y hy
          omega
theorem repr_flat {pins : List (Addr × Obj)} {s : Shared} {σ : L2.St} {H : Hp} {x : V} {u : Value} {d : PyData} {Q : VK} (I : Inv X pins σ H s) (r : RelV x u) (hd : Dp X.K H x d) (ho : reprOk d = true) (hu : X.A.units + 65 < cLine) (hg : X.A.guards = some [])
    (q : Q (.str d.shown) H) : wpAny (model X.prog X.w) X.A (call (.builtin "repr") [u]) (EP X pins σ Q) X.xe s := by
  have big : ∀ (a : Addr) (e : reprOk d = (d.showable && !d.hasDict && decide (d.depth ≤ 60) && decide (d.shown.length ≤ sizeLine))), u = .ref a → wpAny (model X.prog X.w) X.A (call (.builtin "repr") [u]) (EP X pins σ Q) X.xe s := by
    intro a e eu
    rw [e] at ho
    simp only [Bool.and_eq_true, Bool.not_eq_true', decide_eq_true_eq] at ho
    obtain ⟨⟨⟨h1, h2⟩, h3⟩, h4⟩ := ho
    obtain ⟨as, rd⟩ := Dp.reads I d x u hd r
    subst eu
    exact repr_of_reads' (h₀ := s.heap) rd h1 (PyData.noDict_hsm h2) hg (by omega) (fun _ _ z => z) (fun h' t tk k => ⟨.str d.shown, H, I.kept k, ⟨t, rfl⟩, q⟩) h4
  cases d with
  | none =>
    cases hd
    obtain rfl : u = Value.none := r
    exact P.repr_of_none ⟨.str "None", H, I.tok _, ⟨_, rfl⟩, q⟩
  | bool b =>
    cases hd
    obtain rfl : u = Value.bool b := r
    exact P.repr_of_bool ⟨.str (if b then "True" else "False"), H, I.tok _, ⟨_, rfl⟩, q⟩
  | int i =>
    cases hd
    obtain ⟨t, rfl⟩ : ∃ t, u = Value.int i t := r
    exact P.repr_of_int (of_decide_eq_true ho) ⟨.str (toString i), H, I.tok _, ⟨_, rfl⟩, q⟩
  | str z =>
    cases hd
    obtain ⟨t, rfl⟩ : ∃ t, u = Value.str z t := r
    exact P.repr_of_str ⟨.str (reprText z), H, I.tok _, ⟨_, rfl⟩, q⟩ (of_decide_eq_true ho)
  | list ds =>
    cases hd with
    | lst h1 h2 => exact big _ rfl r
  | tuple ds =>
    cases hd with
    | tup h1 h2 => exact big _ rfl r
  | dict _ => cases ho
theorem cr_bi (hu : X.A.units + 65 < cLine) (hg : X.A.guards = some []) (hc : X.calm = true) (b : Bi) : CallR X b.val (rBs X.K (bi b)) := by
  intro pins s σ H xs us Q I r h
  obtain ⟨ι, st, as, hr, ra, hf⟩ := h
  cases b with
  | len =>
    match as, ra with
    | [w], .cons (v := v) rw' .nil =>
      unfold bi at hf
      simp only at hf
      split at hf
      · rename_i x
        cases rw'
        split at hf
        · rename_i hl
          exact call_len pins s σ H _ us Q I r ⟨.str x, x.length, rfl, ⟨hl, rfl⟩, FinO.now hf hr (.int _)⟩
        · exact hf.elim
      · split at hf
        · rename_i kvs ed
          obtain ⟨n, p, vs, rfl, rfl, hp, h1, r1⟩ := rw'.dct hr ed
          obtain ⟨u, rfl, ru⟩ := vals1 r
          cases ru
          refine d_len I h1 fun t s' I' => ⟨.int vs.length, H, I', ⟨t, rfl⟩, ?_⟩
          rw [← r1.len]
          exact FinO.now hf hr (.int _)
        · cases e : seqOf st w with
          | none => rw [e] at hf; exact hf.elim
          | some ws =>
            rw [e] at hf
            obtain ⟨a, vs, rfl, q1, q2⟩ := rw'.seq hr e
            have hl := q1.len
            refine call_len_seq pins s σ H _ us Q I r ⟨a, vs, rfl, q2, ?_⟩
            rw [← hl]
            exact FinO.now hf hr (.int _)
    | [], _ => exact hf.elim
    | _ :: _ :: _, _ => exact hf.elim
  | abs =>
    match as, ra with
    | [.int i], .cons (.int _) .nil => exact call_abs pins s σ H _ us Q I r ⟨i, rfl, FinO.now hf hr (.int _)⟩
    | [], _ => exact hf.elim
    | [.non], _ => exact hf.elim
    | [.bl _], _ => exact hf.elim
    | [.str _], _ => exact hf.elim
    | [.tup _], _ => exact hf.elim
    | [.frl _], _ => exact hf.elim
    | [.ref _], _ => exact hf.elim
    | a :: _ :: _, _ => cases a <;> exact hf.elim
  | int =>
    match as, ra with
    | [.int i], .cons (.int _) .nil => exact call_int1 pins s σ H _ us Q I r (.inl ⟨i, rfl, FinO.now hf hr (.int _)⟩)
    | [.bl i], .cons (.bl _) .nil => exact call_int1 pins s σ H _ us Q I r (.inr ⟨i, rfl, FinO.now hf hr (.int _)⟩)
    | [], _ => exact hf.elim
    | [.non], _ => exact hf.elim
    | [.str _], _ => exact hf.elim
    | [.tup _], _ => exact hf.elim
    | [.frl _], _ => exact hf.elim
    | [.ref _], _ => exact hf.elim
    | a :: _ :: _, _ => cases a <;> exact hf.elim
  | str =>
    match as, ra with
    | [.int i], .cons (.int _) .nil =>
      unfold bi at hf
      simp only at hf
      split at hf
      · rename_i ho
        exact call_str_int pins s σ H _ us Q I r ⟨i, rfl, of_decide_eq_true ho, FinO.now hf hr (.str _)⟩
      · exact hf.elim
    | [], _ => exact hf.elim
    | [.non], _ => exact hf.elim
    | [.bl _], _ => exact hf.elim
    | [.str _], _ => exact hf.elim
    | [.tup _], _ => exact hf.elim
    | [.frl _], _ => exact hf.elim
    | [.ref _], _ => exact hf.elim
    | a :: _ :: _, _ => cases a <;> exact hf.elim
  | repr =>
    match as, ra with
    | [w], .cons (v := v) rw' .nil =>
      unfold bi at hf
      simp only at hf
      split at hf
      · rename_i d ed
        split at hf
        · rename_i ho
          obtain ⟨u, rfl, ru⟩ := vals1 r
          exact repr_flat I ru (toD_dp hr rw' ed) ho hu hg (FinO.now hf hr (.str _))
        · exact hf.elim
      · exact hf.elim
    | [], _ => exact hf.elim
    | _ :: _ :: _, _ => exact hf.elim
  | list =>
    match as, ra with
    | [w], .cons (v := v) rw' .nil =>
      unfold bi at hf
      simp only at hf
      cases e : seqOf st w with
      | none => rw [e] at hf; exact hf.elim
      | some ws =>
        rw [e] at hf
        obtain ⟨a, vs, rfl, q1, q2⟩ := rw'.seq hr e
        exact call_list_of pins s σ H _ us Q I r ⟨a, vs, rfl, q2, FinO.new hf hr q1⟩
    | [], _ => exact hf.elim
    | _ :: _ :: _, _ => exact hf.elim
  | tuple =>
    match as, ra with
    | [w], .cons (v := v) rw' .nil =>
      unfold bi at hf
      simp only at hf
      cases e : seqOf st w with
      | none => rw [e] at hf; exact hf.elim
      | some ws =>
        rw [e] at hf
        cases w with
        | tup us' =>
          cases e
          cases rw' with
          | tup h1 r1 => exact call_tuple_of pins s σ H _ us Q I r ⟨_, _, rfl, .inr ⟨h1.sq, FinO.now hf hr (.tup h1 r1)⟩⟩
        | frl us' =>
          cases e
          cases rw' with
          | frl h1 r1 => exact call_tuple_of pins s σ H _ us Q I r ⟨_, _, rfl, .inl ⟨h1.sq, FinO.tup hf hr r1⟩⟩
        | ref n =>
          unfold seqOf at e
          simp only at e
          split at e
          · rename_i ws' e1
            cases e
            obtain ⟨p, rfl, hp, vs, h1, r1⟩ := rw'.own hr e1
            exact call_tuple_of pins s σ H _ us Q I r ⟨_, _, rfl, .inl ⟨SqL.of h1, FinO.tup hf hr r1⟩⟩
          · cases e
        | _ => cases e
    | [], _ => exact hf.elim
    | _ :: _ :: _, _ => exact hf.elim
  | max2 =>
    match as, ra with
    | [.int i, .int j], .cons (.int _) (.cons (.int _) .nil) => exact call_max2 hc pins s σ H _ us Q I r ⟨i, j, rfl, FinO.now hf hr (.int _)⟩
    | [], _ => exact hf.elim
    | [a], _ => cases a <;> exact hf.elim
    | a :: b :: _ :: _, _ => cases a <;> first | exact hf.elim | (cases b <;> exact hf.elim)
    | [.non, _], _ => exact hf.elim
    | [.bl _, _], _ => exact hf.elim
    | [.str _, _], _ => exact hf.elim
    | [.tup _, _], _ => exact hf.elim
    | [.frl _, _], _ => exact hf.elim
    | [.ref _, _], _ => exact hf.elim
    | [.int _, .non], _ => exact hf.elim
    | [.int _, .bl _], _ => exact hf.elim
    | [.int _, .str _], _ => exact hf.elim
    | [.int _, .tup _], _ => exact hf.elim
    | [.int _, .frl _], _ => exact hf.elim
    | [.int _, .ref _], _ => exact hf.elim
  | min2 =>
    match as, ra with
    | [.int i, .int j], .cons (.int _) (.cons (.int _) .nil) => exact call_min2 hc pins s σ H _ us Q I r ⟨i, j, rfl, FinO.now hf hr (.int _)⟩
    | [], _ => exact hf.elim
    | [a], _ => cases a <;> exact hf.elim
    | a :: b :: _ :: _, _ => cases a <;> first | exact hf.elim | (cases b <;> exact hf.elim)
    | [.non, _], _ => exact hf.elim
    | [.bl _, _], _ => exact hf.elim
    | [.str _, _], _ => exact hf.elim
    | [.tup _, _], _ => exact hf.elim
    | [.frl _, _], _ => exact hf.elim
    | [.ref _, _], _ => exact hf.elim
    | [.int _, .non], _ => exact hf.elim
    | [.int _, .bl _], _ => exact hf.elim
    | [.int _, .str _], _ => exact hf.elim
    | [.int _, .tup _], _ => exact hf.elim
    | [.int _, .frl _], _ => exact hf.elim
    | [.int _, .ref _], _ => exact hf.elim
  | sum =>
    match as, ra with
    | [w], .cons (v := v) rw' .nil =>
      unfold bi at hf
      simp only at hf
      cases e : lstOf st w with
      | none => rw [e] at hf; exact hf.elim
      | some ws =>
        simp only [e, Option.bind_some] at hf
        cases e2 : intsOf ws with
        | none => rw [e2] at hf; exact hf.elim
        | some ns =>
          rw [e2] at hf
          obtain ⟨a, vs, rfl, q1, q2⟩ := rw'.lst hr e
          exact L2.cr_sum hc pins s σ H _ us Q I r ⟨a, ns, rfl, by rw [← q1.ints e2]; exact q2, FinO.now hf hr (.int _)⟩
    | [], _ => exact hf.elim
    | _ :: _ :: _, _ => exact hf.elim
  | any =>
    match as, ra with
    | [w], .cons (v := v) rw' .nil =>
      unfold bi at hf
      simp only at hf
      cases e : lstOf st w with
      | none => rw [e] at hf; exact hf.elim
      | some ws =>
        simp only [e, Option.bind_some] at hf
        cases e2 : blsOf ws with
        | none => rw [e2] at hf; exact hf.elim
        | some ns =>
          rw [e2] at hf
          obtain ⟨a, vs, rfl, q1, q2⟩ := rw'.lst hr e
          exact L2.cr_any hc pins s σ H _ us Q I r ⟨a, ns, rfl, by rw [← q1.bls e2]; exact q2, FinO.now hf hr (.bl _)⟩
    | [], _ => exact hf.elim
    | _ :: _ :: _, _ => exact hf.elim
  | all =>
    match as, ra with
    | [w], .cons (v := v) rw' .nil =>
      unfold bi at hf
      simp only at hf
      cases e : lstOf st w with
      | none => rw [e] at hf; exact hf.elim
      | some ws =>
        simp only [e, Option.bind_some] at hf
        cases e2 : blsOf ws with
        | none => rw [e2] at hf; exact hf.elim
        | some ns =>
          rw [e2] at hf
          obtain ⟨a, vs, rfl, q1, q2⟩ := rw'.lst hr e
          exact L2.cr_all hc pins s σ H _ us Q I r ⟨a, ns, rfl, by rw [← q1.bls e2]; exact q2, FinO.now hf hr (.bl _)⟩
    | [], _ => exact hf.elim
    | _ :: _ :: _, _ => exact hf.elim
  | sorted =>
    match as, ra with
    | [w], .cons (v := v) rw' .nil =>
      replace hf : FinO X.K ι H (sortedW w st) Q := hf
      unfold sortedW at hf
      split at hf
      · rename_i kvs ed
        split at hf
        · rename_i h64
          obtain ⟨n, p, vs, rfl, rfl, hp, h1, r1⟩ := rw'.dct hr ed
          have hl := r1.len
          split at hf
          · rename_i ns ek
            have k1 := r1.keysI ek
            have kl : ns.length = kvs.length := by have := congrArg List.length k1; simp at this; omega
            refine L2.call_sortedDI hc pins s σ H _ us Q I r ⟨p, vs, ns, rfl, h1, k1, by omega, fun ys q hperm hs hq => ?_⟩
            rw [sortI_eq hperm hs]
            exact FinO.new hf hr (RWs.of_ints _) q hq
          · cases ek : keysS kvs with
            | none => rw [ek] at hf; exact hf.elim
            | some ss =>
              rw [ek] at hf
              have k1 := r1.keysS ek
              have kl : ss.length = kvs.length := by have := congrArg List.length k1; simp at this; omega
              refine L2.call_sortedD hc pins s σ H _ us Q I r ⟨p, vs, ss, rfl, h1, k1, by omega, fun ys q hperm hs hq => ?_⟩
              rw [sortS_eq hperm (sortedS_pw hs)]
              exact FinO.new hf hr (RWs.of_strs _) q hq
        · exact hf.elim
      · cases e : seqOf st w with
        | none => rw [e] at hf; exact hf.elim
        | some ws =>
          rw [e] at hf
          obtain ⟨a, vs, rfl, q1, q2⟩ := rw'.seq hr e
          replace hf : FinO X.K ι H (match intsOf ws with
            | some ns => Ci.new st (.lst ((sortI ns).map .int))
            | none => (strsOf ws).bind fun ss => Ci.new st (.lst ((sortS ss).map .str))) Q := hf
          split at hf
          · rename_i ns ei
            have q3 := q1.ints ei
            subst q3
            exact L2.cr_sortedV pins s σ H _ us Q I r ⟨a, rfl, .inl ⟨ns, q2, FinO.new hf hr (RWs.of_ints _)⟩⟩
          · cases es : strsOf ws with
            | none => rw [es] at hf; exact hf.elim
            | some ss =>
              rw [es] at hf
              have q3 := q1.strs es
              subst q3
              exact L2.cr_sortedV pins s σ H _ us Q I r ⟨a, rfl, .inr ⟨ss, q2, FinO.new hf hr (RWs.of_strs _)⟩⟩
    | [], _ => exact hf.elim
    | _ :: _ :: _, _ => exact hf.elim
  | max1 =>
    match as, ra with
    | [w], .cons (v := v) rw' .nil =>
      unfold bi at hf
      simp only at hf
      cases e : lstOf st w with
      | none => rw [e] at hf; exact hf.elim
      | some ws =>
        simp only [e, Option.bind_some] at hf
        cases e2 : intsOf ws with
        | none => rw [e2] at hf; exact hf.elim
        | some ns =>
          simp only [e2, Option.bind_some] at hf
          cases e3 : maxL ns with
          | none => rw [e3] at hf; exact hf.elim
          | some m =>
            rw [e3] at hf
            obtain ⟨a, vs, rfl, q1, q2⟩ := rw'.lst hr e
            obtain ⟨h1, h2⟩ := maxL_is e3
            refine L2.cr_max hc pins s σ H _ us Q I r ⟨a, ns, rfl, by rw [← q1.ints e2]; exact q2, List.length_pos_of_mem h1, fun k hk hy => ?_⟩
            rw [show k = m from Int.le_antisymm (h2 k hk) (hy m h1)]
            exact FinO.now hf hr (.int _)
    | [], _ => exact hf.elim
    | _ :: _ :: _, _ => exact hf.elim
  | min1 =>
    match as, ra with
    | [w], .cons (v := v) rw' .nil =>
      unfold bi at hf
      simp only at hf
      cases e : lstOf st w with
      | none => rw [e] at hf; exact hf.elim
      | some ws =>
        simp only [e, Option.bind_some] at hf
        cases e2 : intsOf ws with
        | none => rw [e2] at hf; exact hf.elim
        | some ns =>
          simp only [e2, Option.bind_some] at hf
          cases e3 : minL ns with
          | none => rw [e3] at hf; exact hf.elim
          | some m =>
            rw [e3] at hf
            obtain ⟨a, vs, rfl, q1, q2⟩ := rw'.lst hr e
            obtain ⟨h1, h2⟩ := minL_is e3
            refine L2.cr_min hc pins s σ H _ us Q I r ⟨a, ns, rfl, by rw [← q1.ints e2]; exact q2, List.length_pos_of_mem h1, fun k hk hy => ?_⟩
            rw [show k = m from Int.le_antisymm (hy m h1) (h2 k hk)]
            exact FinO.now hf hr (.int _)
    | [], _ => exact hf.elim
    | _ :: _ :: _, _ => exact hf.elim

/-! ### methods of lists -/
def Mt.id : Mt → String
  | .append => "list.append" | .pop => "list.pop" | .popAt => "list.pop" | .extend => "list.extend" | .index => "list.index" | .count => "list.count" | .reverse => "list.reverse"
theorem mtr_mt (m : Mt) : MtR X m.id (rBm X.K (mt m)) := by
  intro pins s σ H x xs v us Q I rx rs h
  obtain ⟨ι, st, a, as, hr, ra, rsA, hf⟩ := h
  cases a with
  | ref n =>
    unfold mt at hf
    simp only at hf
    split at hf
    · rename_i ws e1
      obtain ⟨p, rfl, hp, vs, h1, r1⟩ := ra.own hr e1
      have hl := r1.len
      split at hf
      · -- append
        cases rsA with
        | cons ry t =>
          cases t
          split at hf
          · rename_i hz
            refine mt_append pins s σ H _ _ v us Q I rx rs ⟨p, vs, _, rfl, rfl, h1, by omega, FinO.put hf hr hp (by rw [h1]; exact True.intro) (r1.app (.one ry)) .non⟩
          · exact hf.elim
      · -- pop
        cases rsA
        cases eg : ws[ws.length - 1]? with
        | none => rw [eg] at hf; exact hf.elim
        | some w =>
          rw [eg] at hf
          obtain ⟨z, ez, rz⟩ := r1.get eg
          rw [hl] at ez
          exact mt_pop pins s σ H _ _ v us Q I rx rs ⟨p, vs, z, rfl, rfl, h1, ez, FinO.put hf hr hp (by rw [h1]; exact True.intro) r1.dropLast rz⟩
      · -- pop(i)
        cases rsA with
        | cons ry t =>
          cases t
          cases ry
          split at hf
          · rename_i hb
            have hb := of_decide_eq_true hb
            split at hf
            · rename_i k ek
              cases eg : ws[k]? with
              | none => rw [eg] at hf; exact hf.elim
              | some w =>
                rw [eg] at hf
                obtain ⟨z, ez, rz⟩ := r1.get eg
                rw [hl] at ek
                exact mt_popAt pins s σ H _ _ v us Q I rx rs ⟨p, vs, _, k, z, rfl, rfl, h1, hb.1, hb.2, ek, ez, FinO.put hf hr hp (by rw [h1]; exact True.intro) (r1.erase k) rz⟩
            · exact hf.elim
          · exact hf.elim
      · cases rsA
        exact mt_reverse pins s σ H _ _ v us Q I rx rs ⟨p, vs, rfl, rfl, h1, FinO.put hf hr hp (by rw [h1]; exact True.intro) r1.rev .non⟩
      · cases rsA with
        | cons ry t =>
          cases t
          split at hf
          · rename_i zs e2
            obtain ⟨q, rfl, hq, us2, h2, r2⟩ := ry.own hr e2
            have hl2 := r2.len
            split at hf
            · rename_i hz
              exact mt_extend pins s σ H _ _ v us Q I rx rs ⟨p, q, vs, us2, rfl, rfl, h1, h2, by omega, FinO.put hf hr hp (by rw [h1]; exact True.intro) (r1.app r2) .non⟩
            · exact hf.elim
          · exact hf.elim
      · exact hf.elim
    · exact hf.elim
  | _ => exact hf.elim
end
end Ci
/-! Ci5: the rules of expressions. -/
namespace Ci
open PySem L2 PyProof.Rows

theorem pe_imp {X : Cx} {e : Expr} {t t' : TE} (h : PE X e t) (i : ∀ σ H Q, t' σ H Q → t σ H Q) : PE X e t' := ⟨fun pins s σ H Q I q => h.run pins s σ H Q I (i _ _ _ q)⟩
theorem pt_imp {X : Cx} {e : Expr} {t t' : TT} (h : PT X e t) (i : ∀ σ H Q, t' σ H Q → t σ H Q) : PT X e t' := ⟨fun pins s σ H Q I q => h.run pins s σ H Q I (i _ _ _ q)⟩
theorem pw_imp {X : Cx} {e : Expr} {t t' : TT} (h : PW X e t) (i : ∀ σ H Q, t' σ H Q → t σ H Q) : PW X e t' := ⟨fun wh pins s σ H Q I q => h.run wh pins s σ H Q I (i _ _ _ q)⟩
theorem pa_imp {X : Cx} {e : List Expr} {t t' : TA} (h : PA X e t) (i : ∀ σ H Q, t' σ H Q → t σ H Q) : PA X e t' := ⟨fun pos pins s σ H Q I q => h.run pos pins s σ H Q I (i _ _ _ q)⟩
theorem ps_imp {X : Cx} {e : Stmt} {t t' : TS} (h : PS X e t) (i : ∀ D σ H, t' D σ H → t D σ H) : PS X e t' := ⟨fun pins s σ H D I q => h.run pins s σ H D I (i _ _ _ q)⟩
theorem pss_imp {X : Cx} {e : List Stmt} {t t' : TS} (h : PSs X e t) (i : ∀ D σ H, t' D σ H → t D σ H) : PSs X e t' := ⟨fun pins s σ H D I q => h.run pins s σ H D I (i _ _ _ q)⟩
theorem pg_imp {X : Cx} {e : Expr} {t t' : TG} (h : PG X e t) (i : ∀ v σ H Q, t' v σ H Q → t v σ H Q) : PG X e t' := ⟨fun pins s σ H v u Q I r q => h.run pins s σ H v u Q I r (i _ _ _ _ q)⟩

abbrev Cl := Nat → List W → Sto → Res W
/-- where one stands: the wish, what calls tell -/
structure Cz where
  X : Cx
  x : WX
  cl : Cl
/-- what holds of it -/
structure Cz.Ok (Z : Cz) : Prop where
  calm : Z.X.calm = true
  nd : Z.X.N.Nodup
  tk : Takes Z.X Z.x
  hu : Z.X.A.units + 65 < cLine
  gd : Z.X.A.guards = some []
abbrev tE (Z : Cz) (c : E) : TE := tW Z.X.K Z.x fun en st => ev Z.cl c en st
abbrev tEs (Z : Cz) (c : Es) : TA := tWs Z.X.K Z.x fun en st => evs Z.cl c en st
abbrev tT (Z : Cz) (c : E) : TT := tWb Z.X.K Z.x fun en st => truR (ev Z.cl c en st)
abbrev SE (Z : Cz) (e : Expr) (c : E) : Prop := PE Z.X e (tE Z c)
abbrev SA (Z : Cz) (e : List Expr) (c : Es) : Prop := PA Z.X e (tEs Z c)
abbrev ST (Z : Cz) (e : Expr) (c : E) : Prop := PT Z.X e (tT Z c)

section
variable {K : PySem.W.Frag} {x : WX} {σ : L2.St} {H : Hp}
/-- one part, then what comes of it -/
theorem bindE {β : Type} {f : En → Sto → Res W} {g : W → En → Sto → Res β} {k : β → List Addr → Sto → Hp → Prop} {R : VK}
    (h : ∃ ι en st, Rel K σ H ι en st ∧ Fin K (fun c d H' => x c d σ H') ι H ((f en st).bind fun w st' => g w en st') k)
    (n : ∀ w v ι en st H, Rel K σ H ι en st → RW K H ι w v → Fin K (fun c d H' => x c d σ H') ι H (g w en st) k → R v H) : tW K x f σ H R := by
  obtain ⟨ι, en, st, r, hf⟩ := h
  refine ⟨ι, en, st, r, (Fin.split hf).mono fun w ι' st' H' p t z q v rv => ?_⟩
  exact n w v ι' en st' H' (r.keep t p z) rv q
theorem bindEs {β : Type} {f : En → Sto → Res (List W)} {g : List W → En → Sto → Res β} {k : β → List Addr → Sto → Hp → Prop} {R : List V → Hp → Prop}
    (h : ∃ ι en st, Rel K σ H ι en st ∧ Fin K (fun c d H' => x c d σ H') ι H ((f en st).bind fun w st' => g w en st') k)
    (n : ∀ w v ι en st H, Rel K σ H ι en st → RWs K H ι w v → Fin K (fun c d H' => x c d σ H') ι H (g w en st) k → R v H) : tWs K x f σ H R := by
  obtain ⟨ι, en, st, r, hf⟩ := h
  refine ⟨ι, en, st, r, (Fin.split hf).mono fun w ι' st' H' p t z q v rv => ?_⟩
  exact n w v ι' en st' H' (r.keep t p z) rv q
theorem bindT {β : Type} {f : En → Sto → Res Bool} {g : Bool → En → Sto → Res β} {k : β → List Addr → Sto → Hp → Prop} {R : Bool → Hp → Prop}
    (h : ∃ ι en st, Rel K σ H ι en st ∧ Fin K (fun c d H' => x c d σ H') ι H ((f en st).bind fun w st' => g w en st') k)
    (n : ∀ b ι en st H, Rel K σ H ι en st → Fin K (fun c d H' => x c d σ H') ι H (g b en st) k → R b H) : tWb K x f σ H R := by
  obtain ⟨ι, en, st, r, hf⟩ := h
  refine ⟨ι, en, st, r, (Fin.split hf).mono fun w ι' st' H' p t z q => ?_⟩
  exact n w ι' en st' H' (r.keep t p z) q
/-- two parts -/
theorem bindE2 {β : Type} {f1 f2 : En → Sto → Res W} {g : W → W → En → Sto → Res β} {k : β → List Addr → Sto → Hp → Prop} {R : V → V → Hp → Prop}
    (h : ∃ ι en st, Rel K σ H ι en st ∧ Fin K (fun c d H' => x c d σ H') ι H ((f1 en st).bind fun a st' => (f2 en st').bind fun b st'' => g a b en st'') k)
    (n : ∀ w1 w2 v1 v2 ι en st H, Rel K σ H ι en st → RW K H ι w1 v1 → RW K H ι w2 v2 → Fin K (fun c d H' => x c d σ H') ι H (g w1 w2 en st) k → R v1 v2 H) :
    tW K x f1 σ H fun v1 H1 => tW K x f2 σ H1 fun v2 H2 => R v1 v2 H2 := by
  obtain ⟨ι, en, st, r, hf⟩ := h
  refine ⟨ι, en, st, r, (Fin.split hf).mono fun w ι' st' H' p t z q v rv => ?_⟩
  refine ⟨ι', en, st', r.keep t p z, (Fin.split q).mono fun w2 ι2 st2 H2 p2 t2 z2 q2 v2 rv2 => ?_⟩
  exact n w w2 v v2 ι2 en st2 H2 ((r.keep t p z).keep t2 p2 z2) (rv.keep t2 p2) rv2 q2
theorem fin_of {x : Value → Option Addr → Hp → Prop} {ι : List Addr} {r : Option (W × Sto)} {Q : VK} (h : Fin K x ι H (Res.of r) fun w ι' _ H' => ∀ v, RW K H' ι' w v → Q v H') : FinO K ι H r Q := by
  cases r with
  | none => exact h
  | some p => exact fun ι' H' v a b c d => h ι' H' a b c v d
end

section
variable {Z : Cz} {pos : Pos}
theorem w_var (i : Nat) {x : Str} (hN : Z.X.N[i]? = some x := by rfl) (hv : Vis Z.X.env.scope x := by first | exact Or.inl rfl | exact Or.inr (Or.inl rfl) | exact Or.inr (Or.inr rfl)) (hd : (x == ("__debug__" : Str)) = false := by decide)
    (hcd : (x == ("__classdict__" : Str)) = false := by decide) : SE Z (.Name x pos) (.var i) := by
  refine pe_imp (pe_var hN hv hd hcd) fun σ H Q h => ?_
  obtain ⟨ι, en, st, r, hf⟩ := h
  have hf : Fin Z.X.K (fun c d H' => Z.x c d σ H') ι H (match en[i]? with | some (some w) => .ok w st | _ => .bad) _ := hf
  split at hf
  · rename_i w e
    obtain ⟨v, e1, rv⟩ := r.en i w e
    exact ⟨v, e1, hf.now r.hr v rv⟩
  · exact hf.elim
theorem w_int {i j} : SE Z (.Constant (.int i) j pos) (.con (.int i)) := pe_imp pe_int fun σ H Q ⟨ι, en, st, r, hf⟩ => hf.now r.hr _ (.int i)
theorem w_bl {b j} : SE Z (.Constant (.bool b) j pos) (.con (.bl b)) := pe_imp pe_bl fun σ H Q ⟨ι, en, st, r, hf⟩ => hf.now r.hr _ (.bl b)
theorem w_non {j} : SE Z (.Constant .none j pos) (.con .non) := pe_imp pe_non fun σ H Q ⟨ι, en, st, r, hf⟩ => hf.now r.hr _ .non
theorem w_str {x j} : SE Z (.Constant (.str x) j pos) (.con (.str x)) := pe_imp pe_str fun σ H Q ⟨ι, en, st, r, hf⟩ => hf.now r.hr _ (.str x)
/-- a module's constant -/
theorem w_glb {x : Str} {w : W} {v : V} {u : Value} (hg : Gl Z.X x) (hm : Z.X.mg x = some u) (r : RelV v u) (rw' : ∀ H ι, RW Z.X.K H ι w v) (hd : (x == ("__debug__" : Str)) = false := by decide) : SE Z (.Name x pos) (.con w) :=
  pe_imp (pe_glob hg hm r hd) fun σ H Q ⟨ι, en, st, r, hf⟩ => hf.now r.hr v (rw' H ι)
theorem w_bin (o : BinO) {a b : Expr} {ca cb : E} (ha : SE Z a ca) (hb : SE Z b cb) : SE Z (.BinOp a o.py b pos) (.bin o ca cb) := by
  refine pe_imp (pe_op (or_bin o) ha hb) fun σ H Q h => ?_
  refine bindE2 h fun w1 w2 v1 v2 ι en st H1 r r1 r2 q => ?_
  exact ⟨ι, st, w1, w2, r.hr, r1, r2, fin_of q⟩
theorem w_cmp (o : CmpO) {a b : Expr} {ca cb : E} (ok : Z.Ok) (ha : SE Z a ca) (hb : SE Z b cb) (hm : behindInMarks o.py b = false := by rfl) : SE Z (.Compare a [o.py] [b] pos) (.cmp o ca cb) := by
  refine pe_imp (pe_cmpR (or_cmp ok.hu o) ha hb hm) fun σ H Q h => ?_
  refine bindE2 h fun w1 w2 v1 v2 ι en st H1 r r1 r2 q => ?_
  exact ⟨ι, st, w1, w2, r.hr, r1, r2, fin_of q⟩
/-- a test by its truth -/
theorem truK {K : PySem.W.Frag} {x : Value → Option Addr → Hp → Prop} {ι : List Addr} {H : Hp} {r : Res W} {k : Bool → List Addr → Sto → Hp → Prop} (h : Fin K x ι H (truR r) k) :
    Fin K x ι H r fun w ι' st' H' => ∃ b, tru st' w = some b ∧ k b ι' st' H' := by
  refine (Fin.split h).mono fun w ι' st' H' p t z q => ?_
  unfold truK0 at q
  split at q
  · rename_i b e
    exact ⟨b, e, q.now z⟩
  · exact q.elim
theorem t_cmp (o : CmpO) {a b : Expr} {ca cb : E} (ok : Z.Ok) (ha : SE Z a ca) (hb : SE Z b cb) (hm : behindInMarks o.py b = false := by rfl) : ST Z (.Compare a [o.py] [b] pos) (.cmp o ca cb) := by
  refine pt_imp (pt_cmpR (or_cmp ok.hu o) ha hb hm) fun σ H Q h => ?_
  obtain ⟨ι, en, st, r, hf⟩ := h
  have hf : Fin Z.X.K (fun c d H' => Z.x c d σ H') ι H ((ev Z.cl ca en st).bind fun x st1 => (ev Z.cl cb en st1).bind fun y st2 => Res.of (cmpO o x y st2)) _ := truK hf
  refine bindE2 (K := Z.X.K) (x := Z.x) (g := fun a b _ st => Res.of (cmpO o a b st)) ⟨ι, en, st, r, hf⟩ fun w1 w2 v1 v2 ι en st H1 r r1 r2 q => ?_
  refine ⟨ι, st, w1, w2, r.hr, r1, r2, ?_⟩
  unfold cmpO at q ⊢
  cases e : cmp o w1 w2 st with
  | none => rw [e] at q; exact q.elim
  | some b =>
    rw [e] at q
    intro ι' H' v p t z rv
    cases rv
    obtain ⟨c, e2, q2⟩ := q ι' H' p t z
    cases e2
    exact ⟨b, rfl, q2⟩
theorem t_tru {a : Expr} {ca : E} (ha : SE Z a ca) (he : ∀ whole, isTrue a Z.X.env whole = (do let v ← whole; standAt a.pos; holding [v] (truthy v)) := by intro _; rfl) : ST Z a ca := by
  refine pt_imp (pt_truth ha he) fun σ H Q h => ?_
  obtain ⟨ι, en, st, r, hf⟩ := h
  refine ⟨ι, en, st, r, (truK hf).mono fun w ι' st' H' p t z q v rv => ?_⟩
  obtain ⟨b, e, q⟩ := q
  exact ⟨b, tru_rel z rv e, q⟩
theorem w_chn (o p : CmpO) {a b c : Expr} {ca cb cc : E} (ok : Z.Ok) (ha : SE Z a ca) (hb : SE Z b cb) (hc : SE Z c cc) (hm : lastMarks [o.py, p.py] [b, c] = false := by rfl) :
    SE Z (.Compare a [o.py, p.py] [b, c] pos) (.chn o p ca cb cc) := by
  refine pe_imp (pe_chain (or_cmp ok.hu o) (or_cmp ok.hu p) ha hb hc hm) fun σ H Q h => ?_
  refine bindE2 (g := fun x y en st2 => chnK (cmp o x y st2) (fun st2 => (ev Z.cl cc en st2).bind fun z st3 => Res.of (cmpO p y z st3)) st2) h fun w1 w2 v1 v2 ι en st H1 r r1 r2 q => ?_
  refine ⟨ι, st, w1, w2, r.hr, r1, r2, ?_⟩
  unfold chnK at q
  unfold cmpO
  cases e : cmp o w1 w2 st with
  | none => simp only [e] at q; exact q.elim
  | some k =>
    intro ι' H' v p' t z rv
    cases rv
    refine ⟨k, rfl, ?_⟩
    cases k with
    | false =>
      simp only [e] at q
      exact q ι' H' p' t z _ (.bl false)
    | true =>
      simp only [e] at q
      refine ⟨ι', en, st, r.keep t p' z, (Fin.split (Fin.shift p' t q)).mono fun w3 ι3 st3 H3 p3 t3 z3 q3 v3 r3 => ?_⟩
      exact ⟨ι3, st3, w2, w3, z3, r2.keep (t.trans t3) (p'.trans p3), r3, fin_of q3⟩
theorem w_neg {a : Expr} {ca : E} (ha : SE Z a ca) : SE Z (.UnaryOp .USub a pos) (.neg ca) := by
  refine pe_imp (pe_un un_neg ha) fun σ H Q h => ?_
  refine bindE (g := fun x _ st1 => negK x st1) h fun w v ι en st H1 r r1 q => ?_
  unfold negK at q
  split at q
  · cases r1
    exact ⟨_, rfl, q.now r.hr _ (.int _)⟩
  · exact q.elim
theorem w_not {a : Expr} {ca : E} (ha : SE Z a ca) : SE Z (.UnaryOp .Not a pos) (.not ca) := by
  refine pe_imp (pe_notT ha) fun σ H Q h => ?_
  obtain ⟨ι, en, st, r, hf⟩ := h
  refine ⟨ι, en, st, r, (truK (Fin.split hf)).mono fun w ι' st' H' p t z q v rv => ?_⟩
  obtain ⟨b, e, q⟩ := q
  exact ⟨b, tru_rel z rv e, q.now z _ (.bl _)⟩
theorem t_not {a : Expr} {ca : E} (ha : ST Z a ca) : ST Z (.UnaryOp .Not a pos) (.not ca) := by
  refine pt_imp (pt_not ha) fun σ H Q h => ?_
  obtain ⟨ι, en, st, r, hf⟩ := h
  refine ⟨ι, en, st, r, (Fin.split (truK hf)).mono fun b ι' st' H' p t z q => ?_⟩
  obtain ⟨c, e, q⟩ := q.now z
  cases e
  exact q
/-! ### and, or -/
theorem w_one {op} {a : Expr} {ca : E} (ha : SE Z a ca) : SE Z (.BoolOp op [a] pos) ca := pe_one ha
theorem w_and {a b : Expr} {rest : List Expr} {ca cb : E} (ha : SE Z a ca) (hb : SE Z (.BoolOp .And (b :: rest) pos) cb) : SE Z (.BoolOp .And (a :: b :: rest) pos) (.and ca cb) := by
  refine pe_imp (pe_andT ha hb) fun σ H Q h => ?_
  refine bindE (g := fun x en st1 => scK false (fun st1 => ev Z.cl cb en st1) x st1) h fun w v ι en st H1 r r1 q => ?_
  unfold scK at q
  split at q
  · rename_i b e
    refine ⟨b, tru_rel r.hr r1 e, ?_⟩
    cases b with
    | false => exact q.now r.hr v r1
    | true => exact ⟨ι, en, st, r, q⟩
  · exact q.elim
theorem w_or {a b : Expr} {rest : List Expr} {ca cb : E} (ha : SE Z a ca) (hb : SE Z (.BoolOp .Or (b :: rest) pos) cb) : SE Z (.BoolOp .Or (a :: b :: rest) pos) (.or ca cb) := by
  refine pe_imp (pe_orT ha hb) fun σ H Q h => ?_
  refine bindE (g := fun x en st1 => scK true (fun st1 => ev Z.cl cb en st1) x st1) h fun w v ι en st H1 r r1 q => ?_
  unfold scK at q
  split at q
  · rename_i b e
    refine ⟨b, tru_rel r.hr r1 e, ?_⟩
    cases b with
    | true => exact q.now r.hr v r1
    | false => exact ⟨ι, en, st, r, q⟩
  · exact q.elim
abbrev SW (Z : Cz) (e : Expr) (c : E) : Prop := PW Z.X e (tT Z c)
theorem SW.t {e : Expr} {c : E} (h : SW Z e c) : ST Z e c := PW.pt h
theorem t_and1 {a : Expr} {ca : E} (ha : ST Z a ca) : SW Z (.BoolOp .And [a] pos) ca := pw_and1 ha
theorem t_or1 {a : Expr} {ca : E} (ha : ST Z a ca) : SW Z (.BoolOp .Or [a] pos) ca := pw_or1 ha
/-- both parts of a short circuit, as tests -/
theorem sc_fin {K : PySem.W.Frag} {x : Value → Option Addr → Hp → Prop} {ι : List Addr} {H : Hp} {stop : Bool} {r : Res W} {f : Sto → Res W} {k : Bool → List Addr → Sto → Hp → Prop} (h : Fin K x ι H (truR (r.bind (scK stop f))) k) :
    Fin K x ι H (truR r) fun b ι' st' H' => if b = stop then k b ι' st' H' else Fin K x ι' H' (truR (f st')) k := by
  cases r with
  | bad => exact h.elim
  | exc y st => exact h
  | ok w st =>
    have h1 : Fin K x ι H ((scK stop f w st).bind truK0) k := h
    show Fin K x ι H (truK0 w st) _
    unfold scK at h1
    unfold truK0
    cases e : tru st w with
    | none => rw [e] at h1; exact h1.elim
    | some b =>
      simp only [e] at h1
      intro ι' H' p t z
      show if b = stop then _ else _
      split at h1
      · rename_i hb
        rw [if_pos hb]
        have h2 : Fin K x ι H (truK0 w st) k := h1
        unfold truK0 at h2
        simp only [e] at h2
        exact h2 ι' H' p t z
      · rename_i hb
        rw [if_neg hb]
        exact Fin.shift p t h1
theorem t_and {a b : Expr} {rest : List Expr} {ca cb : E} (ha : ST Z a ca) (hb : SW Z (.BoolOp .And (b :: rest) pos) cb) : SW Z (.BoolOp .And (a :: b :: rest) pos) (.and ca cb) := by
  refine pw_imp (pw_and ha hb) fun σ H Q h => ?_
  obtain ⟨ι, en, st, r, hf⟩ := h
  have hf : Fin Z.X.K (fun c d H' => Z.x c d σ H') ι H (truR ((ev Z.cl ca en st).bind (scK false fun st1 => ev Z.cl cb en st1))) _ := hf
  refine ⟨ι, en, st, r, (sc_fin hf).mono fun b ι' st' H' p t z q => ?_⟩
  cases b with
  | false => exact q
  | true => exact ⟨ι', en, st', r.keep t p z, q⟩
theorem t_or {a b : Expr} {rest : List Expr} {ca cb : E} (ha : ST Z a ca) (hb : SW Z (.BoolOp .Or (b :: rest) pos) cb) : SW Z (.BoolOp .Or (a :: b :: rest) pos) (.or ca cb) := by
  refine pw_imp (pw_or ha hb) fun σ H Q h => ?_
  obtain ⟨ι, en, st, r, hf⟩ := h
  have hf : Fin Z.X.K (fun c d H' => Z.x c d σ H') ι H (truR ((ev Z.cl ca en st).bind (scK true fun st1 => ev Z.cl cb en st1))) _ := hf
  refine ⟨ι, en, st, r, (sc_fin hf).mono fun b ι' st' H' p t z q => ?_⟩
  cases b with
  | true => exact q
  | false => exact ⟨ι', en, st', r.keep t p z, q⟩
theorem w_ite {c a b : Expr} {cc ca cb : E} (hc : ST Z c cc) (ha : SE Z a ca) (hb : SE Z b cb) : SE Z (.IfExp c a b pos) (.ite cc ca cb) := by
  refine pe_imp (pe_ifExp hc ha hb) fun σ H Q h => ?_
  refine bindT (g := fun k en st1 => iteK (fun st1 => ev Z.cl ca en st1) (fun st1 => ev Z.cl cb en st1) k st1) h fun k ι en st H1 r q => ?_
  cases k with
  | true => exact ⟨ι, en, st, r, q⟩
  | false => exact ⟨ι, en, st, r, q⟩

/-! ### argument lists, displays -/
theorem w_nil : SA Z [] .nil := pa_imp pa_nil fun σ H Q ⟨ι, en, st, r, hf⟩ => hf.now r.hr [] .nil
theorem w_cons {e : Expr} {es : List Expr} {c : E} {cs : Es} (ha : SE Z e c) (hr : SA Z es cs) (hs : starEach (e :: es) Z.X.env = (false, eval e Z.X.env) :: starEach es Z.X.env := by rfl) : SA Z (e :: es) (.cons c cs) := by
  refine pa_imp (pa_cons ha hr hs) fun σ H Q h => ?_
  refine bindE (g := fun x en st1 => (evs Z.cl cs en st1).bind fun xs st2 => .ok (x :: xs) st2) h fun w v ι en st H1 r r1 q => ?_
  refine ⟨ι, en, st, r, (Fin.split q).mono fun ws ι' st' H' p t z q' vs rs => ?_⟩
  exact q'.now z _ (.cons (r1.keep t p) rs)
theorem w_tup {es : List Expr} {cs : Es} {k} (h : SA Z es cs) : SE Z (.Tuple es k pos) (.tup cs) := by
  refine pe_imp (pe_tup h) fun σ H Q h => ?_
  refine bindEs (g := fun ws _ st => tupK ws st) h fun ws vs ι en st H1 r rs q => ?_
  unfold tupK at q
  split at q
  · rename_i hl
    refine ⟨by rw [← rs.len]; exact hl, ?_⟩
    exact FinO.tup (ws := ws) (fun ι' H' v a b c d => q ι' H' a b c v d) r.hr rs
  · exact q.elim
theorem w_lst {es : List Expr} {cs : Es} (h : SA Z es cs) : SE Z (.List es pos) (.lst cs) := by
  refine pe_imp (pe_lst h) fun σ H Q h => ?_
  refine bindEs (g := fun ws _ st => lstK ws st) h fun ws vs ι en st H1 r rs q => ?_
  unfold lstK at q
  split at q
  · rename_i hl
    refine ⟨by rw [← rs.len]; exact hl, ?_⟩
    exact FinO.new (ws := ws) (fun ι' H' v a b c d => q ι' H' a b c v d) r.hr rs
  · exact q.elim
/-! ### built-in functions -/
theorem Bi.val_cases (b : Bi) : (∃ id, b.val = .builtin id) ∨ ∃ T, b.val = .type T := by cases b <;> first | exact .inl ⟨_, rfl⟩ | exact .inr ⟨_, rfl⟩
theorem w_bi (b : Bi) {x : Str} {p : Pos} {e : Expr} {es : List Expr} {cs : Es} (ok : Z.Ok) (hg : Gl Z.X x) (hm : Z.X.mg x = none) (hv : bootBuiltins x = some b.val) (ha : SA Z (e :: es) cs) (hn : x ≠ "__name__" := by decide) (hdb : (x == ("__debug__" : Str)) = false := by decide)
    (he : starEach (e :: es) Z.X.env = (false, eval e Z.X.env) :: starEach es Z.X.env := by rfl) (hpl : (backTo pos (starEach es Z.X.env)).any (·.1) = false := by rfl) : SE Z (.Call (.Name x p) (e :: es) [] pos) (.bi b cs) := by
  have fin : ∀ σ H Q, tE Z (.bi b cs) σ H Q → tCB (rBs Z.X.K (bi b)) (tEs Z cs) σ H Q := fun σ H Q h => by
    refine bindEs (g := fun ws _ st => Res.of (bi b ws st)) h fun ws vs ι en st H1 r rs q => ?_
    exact ⟨ι, st, ws, r.hr, rs, fin_of q⟩
  rcases b.val_cases with ⟨id, e1⟩ | ⟨T, e1⟩
  · exact pe_imp (pe_callB (id := id) (by rw [← e1]; exact cr_bi ok.hu ok.gd ok.calm b) hg hm (by rw [← e1]; exact hv) ha hn hdb he hpl) fin
  · exact pe_imp (pe_callTy (T := T) (by rw [← e1]; exact cr_bi ok.hu ok.gd ok.calm b) hg hm (by rw [← e1]; exact hv) ha hn hdb he hpl) fin
/-! ### subscripts, slices -/
theorem w_ix {a b : Expr} {ca cb : E} (ok : Z.Ok) (ha : SE Z a ca) (hb : SE Z b cb) (hs : PlainIx b := by intro _ _; rfl) : SE Z (.Subscript a b pos) (.ix ca cb) := by
  refine pe_imp (pe_ix (ixr_sub ok.hu) ha hb hs) fun σ H Q h => ?_
  refine bindE2 h fun w1 w2 v1 v2 ι en st H1 r r1 r2 q => ?_
  exact ⟨ι, st, w1, w2, r.hr, r1, r2, fin_of q⟩
/-- a slice's end -/
def tWo (K : PySem.W.Frag) (x : WX) (f : En → Sto → Res (Option Int)) : TO := fun σ H Q => ∃ ι en st, Rel K σ H ι en st ∧ Fin K (fun c d H' => x c d σ H') ι H (f en st) fun o _ _ H' => Q o H'
abbrev SO (Z : Cz) (e : Option Expr) (c : Es) : Prop := PO Z.X e (tWo Z.X.K Z.x fun en st => evo Z.cl c en st)
theorem po_imp {X : Cx} {e : Option Expr} {t t' : TO} (h : PO X e t) (i : ∀ σ H Q, t' σ H Q → t σ H Q) : PO X e t' := ⟨fun pins s σ H Q I q => h.run pins s σ H Q I (i _ _ _ q)⟩
theorem w_o0 : SO Z none .nil := po_imp po_none fun σ H Q ⟨ι, en, st, r, hf⟩ => hf.now r.hr
theorem w_o1 {e : Expr} {c : E} (h : SE Z e c) : SO Z (some e) (.cons c .nil) := by
  refine po_imp (po_some h) fun σ H Q h => ?_
  obtain ⟨ι, en, st, r, hf⟩ := h
  refine bindE (g := fun x _ st => intK x st) ⟨ι, en, st, r, hf⟩ fun w v ι en st H1 r r1 q => ?_
  unfold intK at q
  split at q
  · cases r1
    exact ⟨_, rfl, q.now r.hr⟩
  · exact q.elim
theorem w_sl {a : Expr} {lo hi : Option Expr} {ca : E} {cl ch : Es} {p2 : Pos} (ha : SE Z a ca) (hl : SO Z lo cl) (hh : SO Z hi ch) : SE Z (.Subscript a (.Slice lo hi none p2) pos) (.sl ca cl ch) := by
  refine pe_imp (pe_slice slr_cut ha hl hh) fun σ H Q h => ?_
  refine bindE (g := fun x en st1 => (evo Z.cl cl en st1).bind fun l st2 => (evo Z.cl ch en st2).bind fun h st3 => Res.of (slW x l h st3)) h fun w v ι en st H1 r r1 q => ?_
  refine ⟨ι, en, st, r, (Fin.split q).mono fun l ι1 st1 H1 p1 t1 z1 q1 => ?_⟩
  refine ⟨ι1, en, st1, r.keep t1 p1 z1, (Fin.split q1).mono fun h ι2 st2 H2 p2 t2 z2 q2 => ?_⟩
  exact ⟨ι2, st2, w, z2, (r1.keep t1 p1).keep t2 p2, fin_of q2⟩
theorem w_rev {a : Expr} {ca : E} {k : Nat} {p1 p2 p3 : Pos} (ha : SE Z a ca) : SE Z (.Subscript a (.Slice none none (some (.UnaryOp .USub (.Constant (.int 1) k p1) p2)) p3) pos) (.rev ca) := by
  refine pe_imp (pe_revL ha) fun σ H Q h => ?_
  refine bindE (g := fun x _ st1 => Res.of (revW x st1)) h fun w v ι en st H1 r r1 q => ?_
  have q := fin_of q
  unfold revW at q
  cases e : lstOf st w with
  | none => rw [e] at q; exact q.elim
  | some ws =>
    rw [e] at q
    obtain ⟨p, vs, rfl, h1, h2⟩ := r1.lst r.hr e
    exact ⟨p, vs, rfl, h2, FinO.new q r.hr h1.rev⟩
/-! ### methods of lists -/
theorem w_mt (m : Mt) {o e : Expr} {es : List Expr} {name : Str} {apos cpos : Pos} {co : E} {cs : Es} (slot : Slot "list" name m.id) (hty : typeOf (.builtin m.id) = pure (.type "method_descriptor")) (ho : SE Z o co) (ha : SA Z (e :: es) cs)
    (hbase : attributeBase o name Z.X.env (eval o Z.X.env) = eval o Z.X.env := by rfl)
    (hfew : ((backTo cpos (starEach (e :: es) Z.X.env)).all (fun x => !x.1) && (backToKw cpos (keywordEach [] Z.X.env)).all (fun x => x.1.isSome)
      && decide ((e :: es).length + ([] : List Keyword).length + (if ([] : List Keyword).isEmpty then 0 else 1) < 30)) = true := by rfl)
    (hline : (apos.endLine == cpos.line) = true := by rfl) (hs : starEach (e :: es) Z.X.env = (false, eval e Z.X.env) :: starEach es Z.X.env := by rfl) (hplain : (backTo cpos (starEach es Z.X.env)).any (·.1) = false := by rfl) :
    SE Z (.Call (.Attribute o name apos) (e :: es) [] cpos) (.mt m co cs) := by
  refine pe_imp (pe_bm PySem.F.plainAttrs_list slot hty (mtr_mt m) ho ha hbase hfew hline hs hplain) fun σ H Q h => ?_
  refine bindE (g := fun x en st1 => isLK (fun st1 => (evs Z.cl cs en st1).bind fun ws st2 => Res.of (mt m x ws st2)) x st1) h fun w v ι en st H1 r r1 q => ?_
  unfold isLK at q
  split at q
  · rename_i ws e1
    obtain ⟨a, vs, rfl, _, q2⟩ := r1.lst r.hr e1
    refine ⟨.inl ⟨rfl, vs, q2⟩, ι, en, st, r, (Fin.split q).mono fun us ι' st' H' p t z q' vs rs => ?_⟩
    exact ⟨ι', st', w, us, z, r1.keep t p, rs, fin_of q'⟩
  · exact q.elim
theorem w_mt0 (m : Mt) {o : Expr} {name : Str} {apos cpos : Pos} {co : E} (slot : Slot "list" name m.id) (hty : typeOf (.builtin m.id) = pure (.type "method_descriptor")) (ho : SE Z o co)
    (hbase : attributeBase o name Z.X.env (eval o Z.X.env) = eval o Z.X.env := by rfl) (hline : (apos.endLine == cpos.line) = true := by rfl) :
    SE Z (.Call (.Attribute o name apos) [] [] cpos) (.mt m co .nil) := by
  refine pe_imp (pe_bm0 PySem.F.plainAttrs_list slot hty (mtr_mt m) ho hbase hline) fun σ H Q h => ?_
  refine bindE (g := fun x en st1 => isLK (fun st1 => (evs Z.cl .nil en st1).bind fun ws st2 => Res.of (mt m x ws st2)) x st1) h fun w v ι en st H1 r r1 q => ?_
  unfold isLK at q
  split at q
  · rename_i ws e1
    obtain ⟨a, vs, rfl, _, q2⟩ := r1.lst r.hr e1
    have q : Fin Z.X.K (fun c d H' => Z.x c d σ H') ι H1 (Res.of (mt m w [] st)) _ := q
    exact ⟨.inl ⟨rfl, vs, q2⟩, ι, st, w, [], r.hr, r1, .nil, fin_of q⟩
  · exact q.elim

/-! ### isinstance -/
theorem ty_rel {K : PySem.W.Frag} {H : Hp} {ι : List Addr} {st : Sto} {w : W} {v : V} {t : String} (z : HRel K H ι st) (r : RW K H ι w v) (e : tyOf st w = some t) :
    TyOf K H v (.type t) ∨ (t = "list" ∧ ∃ a vs, v = .ref a ∧ SLst K H a vs) ∨ (t = "tuple" ∧ ∃ a vs, v = .ref a ∧ STup K H a vs) := by
  cases r with
  | non => cases e; exact .inl .non
  | bl b => cases e; exact .inl (.bl b)
  | int i => cases e; exact .inl (.int i)
  | str x => cases e; exact .inl (.str x)
  | tup h r => cases e; exact .inr (.inr ⟨rfl, _, _, rfl, h⟩)
  | frl h r => cases e; exact .inr (.inl ⟨rfl, _, _, rfl, h⟩)
  | ref h =>
    obtain ⟨o, eo, ro⟩ := z.at h
    unfold tyOf at e
    simp only [eo] at e
    cases o with
    | lst us => cases e; obtain ⟨vs, q1, q2⟩ := ro; exact .inl (.lst q1)
    | dct us => cases e; obtain ⟨vs, q1, q2⟩ := ro; exact .inl (.dK q1)
    | fdc us => cases e
/-- isinstance(x, c), the answer for each kind -/
def KitT (K : PySem.W.Frag) (c : Value) (u : String) : Prop := ∀ t ∈ ["NoneType", "bool", "int", "str", "tuple", "list", "dict"], PySem.W.kitOne K (.type t) c = some (isTy t u)
theorem isi_ok {pins : List (Addr × Obj)} {s : Shared} {σ : L2.St} {H : Hp} {K : PySem.W.Frag} {ι : List Addr} {st : Sto} {w : W} {v : V} {u c : Value} {t cu : String} {Q : Value → Shared → Prop} {A : Around} {E : Value → Shared → Prop}
    (I : Inv Z.X pins σ H s) (z : HRel Z.X.K H ι st) (r : RW Z.X.K H ι w v) (e : tyOf st w = some t) (rv : RelV v u) (hk : PySem.W.kitOne Z.X.K (.type t) c = some (isTy t cu)) (h : ∀ tk, Q (.bool (isTy t cu)) { s with toks := tk }) :
    wpAny (model Z.X.prog Z.X.w) A (call (.builtin "isinstance") [u, c]) Q E s := by
  rcases ty_rel z r e with h1 | ⟨rfl, a, vs, rfl, h1⟩ | ⟨rfl, a, vs, rfl, h1⟩
  · exact isinst_ok I rv h1 hk h
  · cases (show u = Value.ref a from rv)
    obtain ⟨its, _, ⟨o, n, e1, c1, d1, _⟩, _⟩ := I.list h1.sq
    exact PySem.W.kia_one PySem.W.kitx_list I.kIn ⟨o, e1, c1⟩ hk (fun z => nomatch z) h
  · cases (show u = Value.ref a from rv)
    obtain ⟨its, _, ⟨o, e1, c1, _⟩, _⟩ := I.tuple h1.sq
    exact PySem.W.kia_one PySem.W.kitx_tuple I.kIn ⟨o, e1, c1⟩ hk (fun z => nomatch z) h
end
end Ci
/-! Ci6: targets, what is walked, comprehensions. -/
namespace Ci
open PySem L2 PyProof.Rows

/-! ### targets -/
/-- a target's reading: only its slots change -/
def gW (K : PySem.W.Frag) (t : Tg) : TG := fun v σ H Q => ∃ ι en st w en1, Rel K σ H ι en st ∧ RW K H ι w v ∧ asg t w en = some en1 ∧ ∀ σ1, Rel K σ1 H ι en1 st → (∀ i, i ∉ t.slots → σ1[i]? = σ[i]?) → Q σ1 H
def gWs (K : PySem.W.Frag) (t : Tgs) : TGs := fun vs σ H Q => ∃ ι en st ws en1, Rel K σ H ι en st ∧ RWs K H ι ws vs ∧ asgs t ws en = some en1 ∧ ∀ σ1, Rel K σ1 H ι en1 st → (∀ i, i ∉ t.slots → σ1[i]? = σ[i]?) → Q σ1 H
theorem pgs_imp {X : Cx} {e : List Expr} {t t' : TGs} (h : PGs X e t) (i : ∀ v σ H Q, t' v σ H Q → t v σ H Q) : PGs X e t' := ⟨fun pins s σ H v u Q I r q => h.run pins s σ H v u Q I r (i _ _ _ _ q)⟩
section
variable {X : Cx} {pos : Pos}
theorem Rel.set {K : PySem.W.Frag} {σ : L2.St} {H : Hp} {ι : List Addr} {en : En} {st : Sto} {i : Nat} {w : W} {v : V} (r : Rel K σ H ι en st) (h : RW K H ι w v) : Rel K (σ.set i (some v)) H ι (en.set i (some w)) st := by
  refine ⟨r.hr, by simp [r.len], fun j z e => ?_⟩
  by_cases hj : j = i
  · subst hj
    have hl : j < en.length := by
      have := (List.getElem?_eq_some_iff.mp e).1
      simpa using this
    rw [List.getElem?_set_self hl] at e
    cases e
    exact ⟨v, List.getElem?_set_self (by rw [r.len]; exact hl), h⟩
  · rw [List.getElem?_set_ne (Ne.symm hj)] at e
    rw [List.getElem?_set_ne (Ne.symm hj)]
    exact r.en j z e
theorem g_nm (i : Nat) {x : Str} (nd : X.N.Nodup) (hi : X.N[i]? = some x := by rfl) (hx : Loc X.env.scope x := by first | exact Or.inl rfl | exact Or.inr rfl) (hf : X.fn x = true ∨ X.env.scope.names.lookup x = some .local := by first | exact .inl rfl | exact .inr rfl | assumption) : PG X (.Name x pos) (gW X.K (.nm i)) := by
  refine pg_imp (pg_name nd hi hx hf) fun v σ H Q h => ?_
  obtain ⟨ι, en, st, w, en1, r, rv, e, k⟩ := h
  have e : (if i < en.length then some (en.set i (some w)) else none) = some en1 := e
  split at e
  · cases e
    refine k _ (r.set rv) fun j hj => ?_
    have : j ≠ i := fun z => hj (by subst z; exact List.mem_cons_self)
    exact List.getElem?_set_ne (Ne.symm this)
  · cases e
theorem gs_nil : PGs X [] (gWs X.K .nil) := by
  refine pgs_imp pgs_nil fun vs σ H Q h => ?_
  obtain ⟨ι, en, st, ws, en1, r, rv, e, k⟩ := h
  cases ws with
  | nil =>
    cases rv
    cases e
    exact ⟨rfl, k σ r fun _ _ => rfl⟩
  | cons _ _ => cases e
mutual
theorem asg_len : ∀ {t : Tg} {w : W} {en en1 : En}, asg t w en = some en1 → en1.length = en.length
  | .nm i, w, en, en1, e => by
    have e : (if i < en.length then some (en.set i (some w)) else none) = some en1 := e
    split at e
    · cases e; exact List.length_set
    · cases e
  | .tp ts, w, en, en1, e => by
    cases w with
    | tup ws => exact asgs_lenE (ts := ts) (ws := ws) e
    | _ => cases e
theorem asgs_lenE : ∀ {ts : Tgs} {ws : List W} {en en1 : En}, asgs ts ws en = some en1 → en1.length = en.length
  | .nil, [], _, _, e => by cases e; rfl
  | .nil, _ :: _, _, _, e => by cases e
  | .cons t ts, [], _, _, e => by cases e
  | .cons t ts, w :: ws, en, en1, e => by
    have e : (match asg t w en with | some en1 => asgs ts ws en1 | none => none) = some en1 := e
    split at e
    · rename_i en2 e2
      exact (asgs_lenE e).trans (asg_len e2)
    · cases e
end
theorem gs_cons {e : Expr} {es : List Expr} {t : Tg} {ts : Tgs} (h1 : PG X e (gW X.K t)) (h2 : PGs X es (gWs X.K ts))
    (hs : (assignEach (e :: es) X.env).map (·.2) = assign e X.env :: (assignEach es X.env).map (·.2) := by rfl) : PGs X (e :: es) (gWs X.K (.cons t ts)) := by
  refine pgs_imp (pgs_cons h1 h2 hs) fun vs σ H Q h => ?_
  obtain ⟨ι, en, st, ws, en1, r, rv, e, k⟩ := h
  cases ws with
  | nil => cases e
  | cons w ws =>
    cases rv with
    | @cons _ v _ vr hv ht =>
      have e : (match asg t w en with | some en1 => asgs ts ws en1 | none => none) = some en1 := e
      split at e
      · rename_i en2 e2
        refine ⟨v, vr, rfl, ι, en, st, w, en2, r, hv, e2, fun σ1 r1 s1 => ?_⟩
        refine ⟨ι, en2, st, ws, en1, r1, ht, e, fun σ2 r2 s2 => k σ2 r2 fun i hi => ?_⟩
        have hi : i ∉ t.slots ++ ts.slots := hi
        rw [List.mem_append] at hi
        exact (s2 i fun z => hi (.inr z)).trans (s1 i fun z => hi (.inl z))
      · cases e
theorem g_tp {es : List Expr} {k : Nat} {ts : Tgs} {n : Nat} (hc : X.calm = true) (h : PGs X es (gWs X.K ts)) (hl : ∀ ws en en1, asgs ts ws en = some en1 → ws.length = n)
    (hn : (assignEach es X.env).length = n := by rfl) (hst : (assignEach es X.env).findIdx? (·.1) = none := by rfl) : PG X (.Tuple es k pos) (gW X.K (.tp ts)) := by
  refine pg_imp (pg_tup hc h hn hst) fun v σ H Q hq => ?_
  obtain ⟨ι, en, st, w, en1, r, rv, e, kk⟩ := hq
  cases w with
  | tup ws =>
    cases rv with
    | @tup _ vs a ht rs =>
      have e : asgs ts ws en = some en1 := e
      exact ⟨a, vs, rfl, ht.sq, by rw [← rs.len]; exact hl _ _ _ e, ι, en, st, ws, en1, r, rs, e, kk⟩
  | _ => cases e
end
def Tgs.n : Tgs → Nat
  | .nil => 0
  | .cons _ ts => ts.n + 1
theorem asgs_len : ∀ {ts : Tgs} {ws : List W} {en en1 : En}, asgs ts ws en = some en1 → ws.length = ts.n
  | .nil, [], _, _, _ => rfl
  | .nil, _ :: _, _, _, e => by cases e
  | .cons t ts, [], _, _, e => by cases e
  | .cons t ts, w :: ws, en, en1, e => by
    have e : (match asg t w en with | some en1 => asgs ts ws en1 | none => none) = some en1 := e
    split at e
    · exact congrArg (· + 1) (asgs_len e)
    · cases e

/-! ### what is walked -/
/-- J walks what src tells, whatever comes later -/
def SrcOk (K : PySem.W.Frag) (H : Hp) (ι : List Addr) (src : Src) (J : L2.It) : Prop :=
  ∀ (ι' : List Addr) (H' : Hp) (st' : Sto) (i : Nat), Pre ι ι' → TK H H' → HRel K H' ι' st' → match src.get st' i with
    | none => True
    | some none => J.stop i H'
    | some (some w) => J.go i H' ∧ ∀ x H'', J.yld i H' x H'' → TK H' H'' ∧ HRel K H'' ι' st' ∧ RW K H'' ι' w x
def iW (K : PySem.W.Frag) (x : WX) (f : En → Sto → Res Src) : TI := fun σ H R => ∃ ι en st, Rel K σ H ι en st ∧ Fin K (fun c d H' => x c d σ H') ι H (f en st) fun src ι' _ H' => ∀ J, SrcOk K H' ι' src J → R J H'
abbrev SI (Z : Cz) (tg e : Expr) (c : It) : Prop := PI Z.X tg e (iW Z.X.K Z.x fun en st => evi Z.cl c en st)
theorem pi_imp {X : Cx} {tg e : Expr} {t t' : TI} (h : PI X tg e t) (i : ∀ σ H Q, t' σ H Q → t σ H Q) : PI X tg e t' := ⟨fun pins s σ H R I q => h.run pins s σ H R I (i _ _ _ q)⟩
section
variable {K : PySem.W.Frag} {H : Hp} {ι : List Addr}
theorem src_tup {ws : List W} {vs : List V} {a : Addr} (h : STup K H a vs) (r : RWs K H ι ws vs) : SrcOk K H ι (.fix ws) (Itt K a) := by
  intro ι' H' st' i p t z
  have hs := (h.keep t).sq
  cases e : ws[i]? with
  | none =>
    show (match some ws[i]? with | none => True | some none => _ | some (some w) => _)
    rw [e]
    refine ⟨vs, hs, ?_⟩
    rw [← r.len]
    exact List.getElem?_eq_none_iff.mp e
  | some w =>
    show (match some ws[i]? with | none => True | some none => _ | some (some w) => _)
    rw [e]
    obtain ⟨v, ev, rv⟩ := r.get e
    refine ⟨⟨vs, v, hs, ev⟩, fun x H'' y => ?_⟩
    obtain ⟨rfl, y⟩ := y
    have := y vs hs
    rw [ev] at this
    cases this
    exact ⟨TK.refl _, z, rv.keep t p⟩
theorem src_frl {ws : List W} {vs : List V} {a : Addr} (h : SLst K H a vs) (r : RWs K H ι ws vs) : SrcOk K H ι (.fix ws) (Itl K a) := by
  intro ι' H' st' i p t z
  have hs := (h.keep t).sq
  cases e : ws[i]? with
  | none =>
    show (match some ws[i]? with | none => True | some none => _ | some (some w) => _)
    rw [e]
    refine ⟨vs, hs, ?_⟩
    rw [← r.len]
    exact List.getElem?_eq_none_iff.mp e
  | some w =>
    show (match some ws[i]? with | none => True | some none => _ | some (some w) => _)
    rw [e]
    obtain ⟨v, ev, rv⟩ := r.get e
    refine ⟨⟨vs, v, hs, ev⟩, fun x H'' y => ?_⟩
    obtain ⟨rfl, y⟩ := y
    have := y vs hs
    rw [ev] at this
    cases this
    exact ⟨TK.refl _, z, rv.keep t p⟩
theorem src_live {n : Nat} {a : Addr} (h : ι[n]? = some a) : SrcOk K H ι (.live n) (Itl K a) := by
  intro ι' H' st' i p t z
  obtain ⟨o, eo, ro⟩ := z.at (p n a h)
  show (match (match st'[n]? with | some (.lst ws) => some ws[i]? | _ => none) with | none => True | some none => _ | some (some w) => _)
  rw [eo]
  cases o with
  | dct _ => exact True.intro
  | fdc _ => exact True.intro
  | lst ws =>
    obtain ⟨vs, q1, r⟩ := ro
    have hs : SqL K H' a vs := SqL.of q1
    have uniq : ∀ xs, SqL K H' a xs → True := fun _ _ => True.intro
    cases e : ws[i]? with
    | none =>
      show (match some ws[i]? with | none => True | some none => _ | some (some w) => _)
      rw [e]
      refine ⟨vs, hs, ?_⟩
      rw [← r.len]
      exact List.getElem?_eq_none_iff.mp e
    | some w =>
      show (match some ws[i]? with | none => True | some none => _ | some (some w) => _)
      rw [e]
      obtain ⟨v, ev, rv⟩ := r.get e
      refine ⟨⟨vs, v, hs, ev⟩, fun x H'' y => ?_⟩
      obtain ⟨rfl, y⟩ := y
      have := y vs hs
      rw [ev] at this
      cases this
      exact ⟨TK.refl _, z, rv⟩
theorem src_str {x : Str} : SrcOk K H ι (.fix (x.cps.toList.map fun c => .str ⟨#[c]⟩)) (Its x) := by
  intro ι' H' st' i p t z
  show (match some (x.cps.toList.map fun c => W.str ⟨#[c]⟩)[i]? with | none => True | some none => _ | some (some w) => _)
  rw [List.getElem?_map, Array.getElem?_toList]
  cases e : x.cps[i]? with
  | none => exact Array.getElem?_eq_none_iff.mp e
  | some c =>
    refine ⟨(Array.getElem?_eq_some_iff.mp e).1, fun v H'' y => ?_⟩
    obtain ⟨rfl, d, ed, rfl⟩ := y
    rw [e] at ed
    cases ed
    exact ⟨TK.refl _, z, .str _⟩
theorem src_rng {a b : Int} : SrcOk K H ι (.fix (rngW a b)) (Itr a (b - a).toNat) := by
  intro ι' H' st' i p t z
  show (match some (rngW a b)[i]? with | none => True | some none => _ | some (some w) => _)
  unfold rngW
  rw [List.getElem?_map]
  by_cases h : i < (b - a).toNat
  · rw [List.getElem?_range h]
    refine ⟨h, fun v H'' y => ?_⟩
    obtain ⟨rfl, rfl⟩ := y
    exact ⟨TK.refl _, z, .int _⟩
  · rw [List.getElem?_eq_none (by simpa using h)]
    exact Nat.le_of_not_lt h
theorem RKv.at {kvs : List (Key × W)} {vs : List (Key × V)} (r : RKv K H ι kvs vs) : ∀ {i : Nat}, (∀ k w, kvs[i]? = some (k, w) → ∃ v, vs[i]? = some (k, v) ∧ RW K H ι w v) := by
  induction r with
  | nil => intro i k w e; simp at e
  | cons h t ih =>
    intro i k w e
    cases i with
    | zero => simp at e; obtain ⟨rfl, rfl⟩ := e; exact ⟨_, rfl, h⟩
    | succ i => simpa using ih (i := i) k w (by simpa using e)
theorem keyW_rel {k : Key} : RW K H ι (keyW k) (kV k) := by cases k <;> first | exact .int _ | exact .str _
/-- a dict that is walked -/
theorem src_keys {kvs : List (Key × W)} {vs : List (Key × V)} {d : Addr} {o : Obj} (h : H d = some (.frz o (.dK vs))) (r : RKv K H ι kvs vs) : SrcOk K H ι (.fix (dkL .keys kvs)) (Itk d o vs) := by
  intro ι' H' st' i p t z
  have hd := t d _ h (fun z => z)
  show (match some (kvs.map fun p => keyW p.1)[i]? with | none => True | some none => _ | some (some w) => _)
  rw [List.getElem?_map]
  cases e : kvs[i]? with
  | none =>
    refine ⟨hd, ?_⟩
    rw [← r.len]
    exact List.getElem?_eq_none_iff.mp e
  | some q =>
    obtain ⟨v, ev, rv⟩ := r.at q.1 q.2 e
    refine ⟨⟨hd, (List.getElem?_eq_some_iff.mp ev).1⟩, fun x H'' y => ?_⟩
    obtain ⟨rfl, k, u, ek, rfl⟩ := y
    rw [ev] at ek
    cases ek
    exact ⟨TK.refl _, z, keyW_rel⟩
theorem src_vals {kvs : List (Key × W)} {vs : List (Key × V)} {d : Addr} {o : Obj} (h : H d = some (.frz o (.dK vs))) (r : RKv K H ι kvs vs) : SrcOk K H ι (.fix (dkL .vals kvs)) (Itd d o vs) := by
  intro ι' H' st' i p t z
  have hd := t d _ h (fun z => z)
  show (match some (kvs.map fun p => p.2)[i]? with | none => True | some none => _ | some (some w) => _)
  rw [List.getElem?_map]
  cases e : kvs[i]? with
  | none =>
    refine ⟨hd, ?_⟩
    rw [← r.len]
    exact List.getElem?_eq_none_iff.mp e
  | some q =>
    obtain ⟨v, ev, rv⟩ := r.at q.1 q.2 e
    refine ⟨⟨hd, (List.getElem?_eq_some_iff.mp ev).1⟩, fun x H'' y => ?_⟩
    obtain ⟨rfl, k, ek⟩ := y
    rw [ev] at ek
    cases ek
    exact ⟨TK.refl _, z, rv.keep t p⟩
theorem src_items {kvs : List (Key × W)} {vs : List (Key × V)} {d : Addr} {o : Obj} (h : H d = some (.frz o (.dK vs))) (r : RKv K H ι kvs vs) : SrcOk K H ι (.fix (dkL .items kvs)) (Iti d o vs) := by
  intro ι' H' st' i p t z
  have hd := t d _ h (fun z => z)
  show (match some (kvs.map fun p => W.tup [keyW p.1, p.2])[i]? with | none => True | some none => _ | some (some w) => _)
  rw [List.getElem?_map]
  cases e : kvs[i]? with
  | none =>
    refine ⟨hd, ?_⟩
    rw [← r.len]
    exact List.getElem?_eq_none_iff.mp e
  | some q =>
    obtain ⟨v, ev, rv⟩ := r.at q.1 q.2 e
    refine ⟨⟨hd, (List.getElem?_eq_some_iff.mp ev).1⟩, fun x H'' y => ?_⟩
    obtain ⟨T, k, u, ek, rfl, hT, rfl⟩ := y
    rw [ev] at ek
    cases ek
    refine ⟨TK.new hT, ⟨z.len, z.inj, fun n a o e1 e2 => ?_⟩, .tup (.inl upd_same) (.cons keyW_rel (.cons (rv.keep (t.trans (TK.new hT)) p) .nil))⟩
    have ne : a ≠ T := fun q => z.fresh hT n (by rw [e1, q])
    exact (z.ob n a o e1 e2).keep (TK.new hT) (Pre.refl ι') (upd_ne ne)
/-- a list that is walked -/
theorem src_lst {st : Sto} {w : W} {v : V} {s : Src} (z : HRel K H ι st) (r : RW K H ι w v) (e : srcOf st w = some s) :
    (∃ a vs, v = .ref a ∧ SqL K H a vs ∧ SrcOk K H ι s (Itl K a)) ∨ (∃ a vs, v = .ref a ∧ STup K H a vs ∧ SrcOk K H ι s (Itt K a)) ∨ ∃ x, v = .str x ∧ SrcOk K H ι s (Its x) := by
  cases r with
  | tup h r => cases e; exact .inr (.inl ⟨_, _, rfl, h, src_tup h r⟩)
  | frl h r => cases e; exact .inl ⟨_, _, rfl, h.sq, src_frl h r⟩
  | str x => cases e; exact .inr (.inr ⟨x, rfl, src_str⟩)
  | @ref n a h =>
    obtain ⟨o, eo, ro⟩ := z.at h
    unfold srcOf at e
    simp only [eo] at e
    cases o with
    | lst us => cases e; obtain ⟨vs, q1, q2⟩ := ro; exact .inl ⟨_, vs, rfl, SqL.of q1, src_live h⟩
    | dct us => cases e
    | fdc us => cases e
  | _ => cases e
end

section
variable {Z : Cz} {tg : Expr} {pos : Pos}
/-- the dict that was reckoned is locked -/
def tLk (td : TE) : TE := fun σ H Q => td σ H fun x H1 => Q x H1 ∨ ∃ d u, x = .ref d ∧ H1 d = some u ∧ Mut (some u) ∧ ∀ od, Q x (upd H1 d (.frz od u))
theorem pe_lk {X : Cx} {e : Expr} {td : TE} (h : PE X e td) : PE X e (tLk td) := by
  refine ⟨fun pins s σ H Q I hw => ?_⟩
  refine thn (h.run pins s σ _ _ I hw) fun v s1 ⟨x, H1, I1, r, q⟩ => ?_
  rcases q with q | ⟨d, u, e1, hd, mu, q⟩
  · exact ⟨x, H1, I1, r, q⟩
  · obtain ⟨od, I2⟩ := I1.lock hd mu
    exact ⟨x, _, I2, r, q od⟩
/-- what dkK tells -/
theorem dk_fin {o : DkO} {w : W} {v : V} {ι : List Addr} {st : Sto} {H : Hp} {x : Value → Option Addr → Hp → Prop} {k : Src → List Addr → Sto → Hp → Prop} (z : HRel Z.X.K H ι st) (r : RW Z.X.K H ι w v) (q : Fin Z.X.K x ι H (dkK o w st) k) :
    (∃ d od vs kvs, v = .ref d ∧ H d = some (.frz od (.dK vs)) ∧ RKv Z.X.K H ι kvs vs ∧ k (.fix (dkL o kvs)) ι st H) ∨
    ∃ d vs kvs, v = .ref d ∧ H d = some (.dK vs) ∧ ∀ od, ∃ st', (upd H d (.frz od (.dK vs))) d = some (.frz od (.dK vs)) ∧ RKv Z.X.K (upd H d (.frz od (.dK vs))) ι kvs vs ∧ k (.fix (dkL o kvs)) ι st' (upd H d (.frz od (.dK vs))) := by
  unfold dkK at q
  split at q
  · rename_i n
    split at q
    · rename_i kvs e1
      obtain ⟨a, rfl, hp, vs, h1, r1⟩ := r.own z e1
      have mu : Mut (H a) := by rw [h1]; exact True.intro
      refine .inr ⟨a, vs, kvs, rfl, h1, fun od => ⟨st.set n (.fdc kvs), upd_same, r1.keep (TK.mut mu) (Pre.refl _), ?_⟩⟩
      exact q ι _ (Pre.refl _) (TK.mut mu) (z.set hp mu (o := .fdc kvs) ⟨od, vs, upd_same, r1.keep (TK.mut mu) (Pre.refl _)⟩)
    · rename_i kvs e1
      obtain ⟨a, rfl, hp, od, vs, h1, r1⟩ := r.own z e1
      exact .inl ⟨a, od, vs, kvs, rfl, h1, r1, q.now z⟩
    · exact q.elim
  · exact q.elim
/-- x in a list, a tuple, a text, a dict -/
theorem i_val {e : Expr} {c : E} (h : SE Z e c) : SI Z tg e (.val c) := by
  refine ⟨fun pins s σ H R I hi => ?_⟩
  obtain ⟨ι, en, st, r, hf⟩ := hi
  have hq : tE Z c σ H fun v H1 => (∃ a vs J, v = .ref a ∧ SqL Z.X.K H1 a vs ∧ J = Itl Z.X.K a ∧ R J H1) ∨ (∃ a vs J, v = .ref a ∧ SqT Z.X.K H1 a vs ∧ J = Itt Z.X.K a ∧ R J H1) ∨ (∃ x, v = .str x ∧ R (Its x) H1) ∨
      (∃ d od vs, v = .ref d ∧ H1 d = some (.frz od (.dK vs)) ∧ R (Itk d od vs) H1) ∨ ∃ d vs, v = .ref d ∧ H1 d = some (.dK vs) ∧ ∀ od, R (Itk d od vs) (upd H1 d (.frz od (.dK vs))) := by
    refine bindE (g := fun x _ st => srcV x st) ⟨ι, en, st, r, hf⟩ fun w v ι en st H1 r r1 q => ?_
    unfold srcV at q
    split at q
    · rcases dk_fin r.hr r1 q with ⟨d, od, vs, kvs, rfl, h1, r2, k⟩ | ⟨d, vs, kvs, rfl, h1, k⟩
      · exact .inr (.inr (.inr (.inl ⟨d, od, vs, rfl, h1, k _ (src_keys h1 r2)⟩)))
      · refine .inr (.inr (.inr (.inr ⟨d, vs, rfl, h1, fun od => ?_⟩)))
        obtain ⟨st', h2, r2, k⟩ := k od
        exact k _ (src_keys h2 r2)
    · unfold srcK at q
      split at q
      · rename_i s e1
        have k := q.now r.hr
        rcases src_lst r.hr r1 e1 with ⟨a, vs, rfl, h1, h2⟩ | ⟨a, vs, rfl, h1, h2⟩ | ⟨x, rfl, h2⟩
        · exact .inl ⟨a, vs, _, rfl, h1, rfl, k _ h2⟩
        · exact .inr (.inl ⟨a, vs, _, rfl, h1.sq, rfl, k _ h2⟩)
        · exact .inr (.inr (.inl ⟨x, rfl, k _ h2⟩))
      · exact q.elim
  refine thn (h.run pins s σ H _ I hq) fun v s1 ⟨x, H1, I1, r1, q1⟩ => ?_
  have locked : ∀ {H2 : Hp} {d : Addr} {od : Obj} {vs : List (Key × V)}, L2.Inv Z.X pins σ H2 s1 → H2 d = some (.frz od (.dK vs)) → R (Itk d od vs) H2 → wpAny (model Z.X.prog Z.X.w) Z.X.A (pyIter (.ref d)) (PIE Z.X pins σ tg R) Z.X.xe s1 := fun {H2 d od vs} I2 hd q => by
    obtain ⟨hs, hgd, hx, es, ep, vs', hdt, hsz, kv, hm⟩ := I2.frzK hd
    refine iter_keys hs hgd hx hdt (pi_one (tk := s1.toks) I2 _ (turn_keys _ hdt) ⟨_, Heap.get?_push_size _ rfl, rfl, ?_⟩ q)
    rw [hsz] <;> rfl
  rcases q1 with ⟨a, vs, J, rfl, hs, rfl, q⟩ | ⟨a, vs, J, rfl, hs, rfl, q⟩ | ⟨x, rfl, q⟩ | ⟨d, od, vs, rfl, hd, q⟩ | ⟨d, vs, rfl, hd, q⟩
  · cases r1
    obtain ⟨its, rv, p, hz⟩ := I1.list hs
    refine wpAny_pyIter_list p.isList ?_
    refine ⟨s1.heap.objs.size, [s1.heap.objs.size], _, _, H1, rfl, I1.kept (t' := s1.toks) fun b o e => Heap.get?_push_of_some _ e, turn_list a _, ⟨_, Heap.get?_push_size _ rfl, rfl, rfl⟩, fun b hb => ?_, q⟩
    obtain rfl : b = s1.heap.objs.size := by simpa using hb
    exact I1.fpOk (Nat.le_refl _) (I1.hok.fresh (Nat.le_refl _))
  · cases r1
    obtain ⟨its, rv, p, hz⟩ := I1.tuple hs
    refine wpAny_pyIter_tuple (show s1.heap.IsTuple a its.toArray from p) ?_
    refine ⟨s1.heap.objs.size, [s1.heap.objs.size], _, _, H1, rfl, I1.kept (t' := s1.toks) fun b o e => Heap.get?_push_of_some _ e, turn_tuple a _, ⟨_, Heap.get?_push_size _ rfl, rfl, rfl⟩, fun b hb => ?_, q⟩
    obtain rfl : b = s1.heap.objs.size := by simpa using hb
    exact I1.fpOk (Nat.le_refl _) (I1.hok.fresh (Nat.le_refl _))
  · obtain ⟨t, rfl⟩ := r1
    cases ha : x.cps.all (· < 128)
    · exact wpAny_pyIter_wide ha (pi_one (tk := s1.toks) I1 _ (turn_str _ x t "str_iterator" (.inr rfl)) ⟨_, Heap.get?_push_size _ rfl, rfl, rfl⟩ q)
    · exact wpAny_pyIter_ascii ha (pi_one (tk := s1.toks) I1 _ (turn_str _ x t "str_ascii_iterator" (.inl rfl)) ⟨_, Heap.get?_push_size _ rfl, rfl, rfl⟩ q)
  · cases (show v = Value.ref d from r1)
    exact locked I1 hd q
  · cases (show v = Value.ref d from r1)
    obtain ⟨od, I2⟩ := I1.lock hd True.intro
    exact locked I2 upd_same (q od)
/-- for a, b in d.items() -/
theorem i_items {e : Expr} {c : E} {elts : List Expr} {kk : Nat} {tpos apos cpos : Pos} (h : SE Z e c) (hbase : attributeBase e "items" Z.X.env (eval e Z.X.env) = eval e Z.X.env := by rfl) (hline : (apos.endLine == cpos.line) = true := by rfl) :
    SI Z (.Tuple elts kk tpos) (.Call (.Attribute e "items" apos) [] [] cpos) (.dk .items c) := by
  refine pi_imp (pi_items (pe_lk h) hbase hline) fun σ H R hi => ?_
  refine bindE (g := fun x _ st => dkK .items x st) hi fun w v ι en st H1 r r1 q => ?_
  rcases dk_fin r.hr r1 q with ⟨d, od, vs, kvs, rfl, h1, r2, k⟩ | ⟨d, vs, kvs, rfl, h1, k⟩
  · exact .inl ⟨d, od, vs, rfl, h1, k _ (src_items h1 r2)⟩
  · refine .inr ⟨d, _, rfl, h1, True.intro, fun od => ?_⟩
    obtain ⟨st', h2, r2, k⟩ := k od
    exact ⟨d, od, vs, rfl, h2, k _ (src_items h2 r2)⟩
theorem i_vals {e : Expr} {c : E} {apos cpos : Pos} (h : SE Z e c) (hbase : attributeBase e "values" Z.X.env (eval e Z.X.env) = eval e Z.X.env := by rfl) (hline : (apos.endLine == cpos.line) = true := by rfl) :
    SI Z tg (.Call (.Attribute e "values" apos) [] [] cpos) (.dk .vals c) := by
  refine pi_imp (pi_values (pe_lk h) hbase hline) fun σ H R hi => ?_
  refine bindE (g := fun x _ st => dkK .vals x st) hi fun w v ι en st H1 r r1 q => ?_
  rcases dk_fin r.hr r1 q with ⟨d, od, vs, kvs, rfl, h1, r2, k⟩ | ⟨d, vs, kvs, rfl, h1, k⟩
  · exact .inl ⟨d, od, vs, rfl, h1, k _ (src_vals h1 r2)⟩
  · refine .inr ⟨d, _, rfl, h1, True.intro, fun od => ?_⟩
    obtain ⟨st', h2, r2, k⟩ := k od
    exact ⟨d, od, vs, rfl, h2, k _ (src_vals h2 r2)⟩
theorem Res.assoc {α β γ : Type} (r : Res α) (f : α → Sto → Res β) (g : β → Sto → Res γ) : (r.bind f).bind g = r.bind fun a st => (f a st).bind g := by cases r <;> rfl
/-- range(b), range(a, b) -/
theorem i_rng1 {a : Expr} {c : E} {p : Pos} (hg : Gl Z.X "range") (hm : Z.X.mg "range" = none) (h : SE Z a c) (hs : starEach [a] Z.X.env = [(false, eval a Z.X.env)] := by rfl) : SI Z tg (.Call (.Name "range" p) [a] [] pos) (.rng (.cons c .nil)) := by
  refine pi_imp (pi_range1 hg hm (pa_cons h pa_nil (by rw [hs]; rfl)) hs) fun σ H R hi => ?_
  obtain ⟨ι, en, st, r, hf⟩ := hi
  have hf : Fin Z.X.K (fun c d H' => Z.x c d σ H') ι H (((ev Z.cl c en st).bind fun x st1 => (Res.ok [x] st1)).bind rngK) _ := hf
  rw [Res.assoc] at hf
  refine bindE (g := fun x _ st => rngK [x] st) ⟨ι, en, st, r, hf⟩ fun w v ι en st H1 r r1 q => ?_
  unfold rngK at q
  cases w with
  | int b =>
    cases r1
    unfold rngOf at q
    simp only at q
    split at q
    · rename_i a b' e
      split at e
      · rename_i hb
        cases e
        have hb := of_decide_eq_true hb
        refine ⟨_, rfl, hb.2.2.1, hb.2.2.2, ?_⟩
        have k := q.now r.hr _ src_rng
        simpa using k
      · cases e
    · exact q.elim
  | _ => exact q.elim
theorem i_rng2 {a b : Expr} {ca cb : E} {p : Pos} (hg : Gl Z.X "range") (hm : Z.X.mg "range" = none) (ha : SE Z a ca) (hb : SE Z b cb) (hs : starEach [a, b] Z.X.env = [(false, eval a Z.X.env), (false, eval b Z.X.env)] := by rfl) (hs2 : starEach [b] Z.X.env = [(false, eval b Z.X.env)] := by rfl) :
    SI Z tg (.Call (.Name "range" p) [a, b] [] pos) (.rng (.cons ca (.cons cb .nil))) := by
  refine pi_imp (pi_range2 hg hm (pa_cons ha (pa_cons hb pa_nil (by rw [hs2]; rfl)) (by rw [hs, hs2])) hs hs2) fun σ H R hi => ?_
  obtain ⟨ι, en, st, r, hf⟩ := hi
  have hf : Fin Z.X.K (fun c d H' => Z.x c d σ H') ι H (((ev Z.cl ca en st).bind fun x st1 => ((ev Z.cl cb en st1).bind fun y st2 => Res.ok [y] st2).bind fun xs st2 => Res.ok (x :: xs) st2).bind rngK) _ := hf
  rw [Res.assoc] at hf
  refine bindE (g := fun x en st1 => (((ev Z.cl cb en st1).bind fun y st2 => Res.ok [y] st2).bind fun xs st2 => Res.ok (x :: xs) st2).bind rngK) ⟨ι, en, st, r, hf⟩ fun w v ι en st H1 r r1 q => ?_
  rw [Res.assoc, Res.assoc] at q
  refine ⟨ι, en, st, r, (Fin.split q).mono fun w2 ι2 st2 H2 p2 t2 z2 q v2 r2 => ?_⟩
  have q : Fin Z.X.K (fun c d H' => Z.x c d σ H') ι2 H2 (rngK [w, w2] st2) _ := q
  unfold rngK at q
  cases w with
  | int i =>
    cases w2 with
    | int j =>
      cases r1
      cases r2
      unfold rngOf at q
      simp only at q
      split at q
      · rename_i a b' e
        split at e
        · rename_i hb
          cases e
          have hb := of_decide_eq_true hb
          exact ⟨_, _, rfl, hb, q.now z2 _ src_rng⟩
        · cases e
      · exact q.elim
    | _ => exact q.elim
  | _ => cases w2 <;> exact q.elim

/-! ### comprehensions -/
/-- the block of a comprehension -/
def Cz.blk (Z : Cz) (s : Shared) (H : Hp) (scope : Scope) (C : Addr) (cl : List (Str × Addr)) (fp : List Addr) : Cz := ⟨Z.X.blk s H scope (compEnvC scope cl C Z.X.env) fp, fun _ _ _ _ => False, Z.cl⟩
theorem Cz.Ok.blk (ok : Z.Ok) (s : Shared) (H : Hp) (scope : Scope) (C : Addr) (cl : List (Str × Addr)) (fp : List Addr) : (Z.blk s H scope C cl fp).Ok :=
  ⟨ok.calm, ok.nd, fun u s' ⟨_, _, _, _, _, _, _, _, _, _, _, _, _, _, _, _, w⟩ => w.elim, ok.hu, ok.gd⟩
abbrev SCs (Z : Cz) (ifs : List Expr) (c : Es) : Prop := PTs Z.X ifs (tWb Z.X.K Z.x fun en st => evc Z.cl c en st)
theorem pts_imp {X : Cx} {ifs : List Expr} {t t' : TT} (h : PTs X ifs t) (i : ∀ σ H Q, t' σ H Q → t σ H Q) : PTs X ifs t' := ⟨fun pins s σ H Q I q => h.run pins s σ H Q I (i _ _ _ q)⟩
theorem c_nil : SCs Z [] .nil := pts_imp pts_nil fun σ H Q ⟨ι, en, st, r, hf⟩ => hf.now r.hr
theorem c_one {e : Expr} {c : E} (h : ST Z e c) : SCs Z [e] (.cons c .nil) := by
  refine pts_imp (pts_one h) fun σ H Q hq => ?_
  refine bindT (g := fun b _ st => iteK (fun st1 => Res.ok true st1) (fun st1 => Res.ok false st1) b st) hq fun b ι en st H1 r q => ?_
  cases b with
  | true => exact q.now r.hr
  | false => exact q.now r.hr
theorem noexc_bind {α β : Type} (r : Res α) (f : α → Sto → Res β) : noexc (r.bind f) = (noexc r).bind fun a st => noexc (f a st) := by cases r <;> rfl
theorem fin_noexc {K : PySem.W.Frag} {x y : Value → Option Addr → Hp → Prop} {ι : List Addr} {H : Hp} {α : Type} {r : Res α} {k : α → List Addr → Sto → Hp → Prop} (h : Fin K x ι H (noexc r) k) : Fin K y ι H r k := by
  cases r with
  | ok a st => exact h
  | exc _ _ => exact h.elim
  | bad => exact h
theorem fin_nx {K : PySem.W.Frag} {x y : Value → Option Addr → Hp → Prop} {ι : List Addr} {H : Hp} {α β : Type} {r : Res α} {f : α → Sto → Res β} {k : β → List Addr → Sto → Hp → Prop} (h : Fin K x ι H (noexc (r.bind f)) k) :
    Fin K y ι H r fun a ι' st' H' => Fin K x ι' H' (noexc (f a st')) k := by
  rw [noexc_bind] at h
  exact fin_noexc (x := x) (Fin.split h)
theorem wipe_rel {K : PySem.W.Frag} {σ : L2.St} {H : Hp} {ι : List Addr} {en : En} {st : Sto} (r : Rel K σ H ι en st) : ∀ vs : List Nat, Rel K (wipe σ vs) H ι (wipeE en vs) st
  | [] => r
  | v :: vs => by
    have q := wipe_rel r vs
    refine ⟨q.hr, by show ((wipe σ vs).set v none).length = ((wipeE en vs).set v none).length; rw [List.length_set, List.length_set, q.len], fun i w e => ?_⟩
    have e : ((wipeE en vs).set v none)[i]? = some (some w) := e
    show ∃ u, ((wipe σ vs).set v none)[i]? = some (some u) ∧ _
    by_cases h : i = v
    · subst h
      by_cases hl : i < (wipeE en vs).length
      · rw [List.getElem?_set_self hl] at e; cases e
      · rw [List.getElem?_eq_none (by simpa using hl)] at e; cases e
    · rw [List.getElem?_set_ne (Ne.symm h)] at e
      rw [List.getElem?_set_ne (Ne.symm h)]
      exact q.en i w e
theorem wipe_same {σ τ : L2.St} (hl : τ.length = σ.length) : ∀ {vs : List Nat}, (∀ i, i ∉ vs → τ[i]? = σ[i]?) → wipe τ vs = wipe σ vs := fun {vs} h => by
  refine List.ext_getElem? fun i => ?_
  by_cases hi : i ∈ vs
  · have aux : ∀ (σ : L2.St) (vs : List Nat), i ∈ vs → (wipe σ vs)[i]? = if i < σ.length then some none else none := fun σ vs => by
      induction vs with
      | nil => intro z; cases z
      | cons v vs ih =>
        intro hm
        show ((wipe σ vs).set v none)[i]? = _
        by_cases e : i = v
        · subst e
          by_cases q : i < σ.length
          · rw [List.getElem?_set_self (by rw [wipe_length]; exact q), if_pos q]
          · rw [List.getElem?_eq_none (by simp [wipe_length]; omega), if_neg q]
        · rw [List.getElem?_set_ne (Ne.symm e)]
          rcases List.mem_cons.mp hm with z | z
          · exact absurd z e
          · exact ih z
    rw [aux _ _ hi, aux _ _ hi, hl]
  · rw [wipe_out hi, wipe_out hi]
    exact h i hi
theorem lc_tr {t : Tg} {ci : It} {cs : Es} {ce : E} {vs : List Nat} (hsl : ∀ i ∈ t.slots, i ∈ vs) (σ : L2.St) (H : Hp) (Q : VK) (h : tE Z (.lc vs t ci cs ce) σ H Q) :
    tLc (iW Z.X.K Z.x fun en st => evi Z.cl ci en st) (gW Z.X.K t) (tWb Z.X.K (fun _ _ _ _ => False) fun en st => evc Z.cl cs en st) (tW Z.X.K (fun _ _ _ _ => False) fun en st => ev Z.cl ce en st) vs σ H Q := by
  obtain ⟨ι, en, st, r, hf⟩ := h
  refine ⟨ι, en, st, r, (Fin.split hf).mono fun src ι1 st1 H1 p1 t1 z1 q1 J hJ => ?_⟩
  intro D hD
  -- the turns
  let lp : Nat → Nat → Sto → Res W := lcL src.get (asg t) (wipeE en (vs)) (fun en st => evc Z.cl cs en st) (fun en st => ev Z.cl ce en st) st1.length
  have tk0 : TK H1 (upd H1 D (.lst [])) := TK.new hD
  have z2 : HRel Z.X.K (upd H1 D (.lst [])) (ι1 ++ [D]) (st1 ++ [.lst []]) := z1.push hD ⟨[], upd_same, .nil⟩
  refine ⟨fun i m H' => ∃ ι' st', Pre (ι1 ++ [D]) ι' ∧ TK (upd H1 D (.lst [])) H' ∧ HRel Z.X.K H' ι' st' ∧ Fin Z.X.K (fun c d H' => Z.x c d σ H') ι' H' (noexc (lp m i st')) (fun w ι' _ H' => ∀ v, RW Z.X.K H' ι' w v → Q v H'), ⟨FU, ι1 ++ [D], st1 ++ [.lst []], Pre.refl _, TK.refl _, z2, Fin.shift (Pre.snoc ι1 D) tk0 q1⟩, ?_⟩
  rintro i m H' ⟨ι', st', p, tk, z, q⟩
  cases m with
  | zero => exact q.elim
  | succ m =>
    have pJ : Pre ι1 ι' := (Pre.snoc ι1 D).trans p
    have hj := hJ ι' H' st' i pJ (tk0.trans tk) z
    have q : Fin Z.X.K (fun c d H' => Z.x c d σ H') ι' H' (noexc (match src.get st' i with
      | none => .bad
      | some none => .ok (.ref st1.length) st'
      | some (some w) => match asg t w (wipeE en (vs)) with
        | none => .bad
        | some en1 => (evc Z.cl cs en1 st').bind (iteK (fun st1' => (ev Z.cl ce en1 st1').bind (pushK st1.length fun st2 => lp m (i + 1) st2)) (fun st1' => lp m (i + 1) st1')))) _ := q
    have hDa : ι'[st1.length]? = some D := by
      refine p _ _ ?_
      rw [← z1.len]
      simp
    cases eg : src.get st' i with
    | none => rw [eg] at q; exact q.elim
    | some o =>
      rw [eg] at q hj
      cases o with
      | none => exact .inl ⟨hj, q.now z _ (.ref hDa)⟩
      | some w =>
        refine .inr ⟨hj.1, fun H'' => ∃ ι'' st'', Pre (ι1 ++ [D]) ι'' ∧ TK (upd H1 D (.lst [])) H'' ∧ HRel Z.X.K H'' ι'' st'' ∧ Fin Z.X.K (fun c d H' => Z.x c d σ H') ι'' H'' (noexc (lp m (i + 1) st'')) (fun w ι' _ H' => ∀ v, RW Z.X.K H' ι' w v → Q v H'), fun H'' hN => ⟨m, Nat.lt_succ_self m, hN⟩, fun x H2 y => ?_⟩
        obtain ⟨tk2, zz2, rx⟩ := hj.2 x H2 y
        simp only at q
        cases ea : asg t w (wipeE en (vs)) with
        | none => rw [ea] at q; exact q.elim
        | some en1 =>
          rw [ea] at q
          have rr : Rel Z.X.K σ H2 ι' en st' := r.keep (t1.trans (tk0.trans (tk.trans tk2))) (p1.trans pJ) zz2
          refine ⟨ι', wipeE en (vs), st', w, en1, wipe_rel rr _, rx, ea, fun σ2 r2 s2 => ⟨?_, ?_⟩⟩
          · have hl : σ2.length = (wipe σ (vs)).length := by
              rw [r2.len, (wipe_rel rr (vs)).len]
              have : ∀ {t : Tg} {w : W} {en en1 : En}, asg t w en = some en1 → en1.length = en.length := asg_len
              exact this ea
            have e1 := wipe_same hl (vs := vs) fun j hj' => s2 j fun zj => hj' (hsl j zj)
            rw [e1]
            exact wipe_same (wipe_length _ _) fun j hj' => wipe_out hj'
          · refine ⟨ι', en1, st', r2, (fin_nx (Fin.shift (Pre.refl ι') tk2 q)).mono fun b ι3 st3 H3 p3 t3 z3 q3 => ?_⟩
            cases b with
            | false => exact ⟨ι3, st3, p.trans p3, tk.trans (tk2.trans t3), z3, q3⟩
            | true =>
              rw [if_pos rfl]
              have q3 : Fin Z.X.K (fun c d H' => Z.x c d σ H') ι3 H3 (noexc ((ev Z.cl ce en1 st3).bind (pushK st1.length fun st2 => lp m (i + 1) st2))) _ := q3
              refine ⟨ι3, en1, st3, r2.keep t3 p3 z3, (fin_nx q3).mono fun yw ι4 st4 H4 p4 t4 z4 q4 yv ry => ?_⟩
              unfold pushK at q4
              split at q4
              · rename_i acc e4
                split at q4
                · rename_i hl4
                  have hD4 : ι4[st1.length]? = some D := p4 _ _ (p3 _ _ hDa)
                  obtain ⟨vs4, hH4, rs4⟩ := z4.ob _ _ _ hD4 e4
                  have mu : Mut (H4 D) := by rw [hH4]; exact True.intro
                  refine ⟨vs4, hH4, by rw [← rs4.len]; exact hl4, ι4, _, p.trans (p3.trans p4), ?_, z4.set hD4 mu (u := .lst (vs4 ++ [yv])) (o := .lst (acc ++ [yw])) ⟨_, upd_same, (rs4.app (.one ry)).keep (TK.mut mu) (Pre.refl _)⟩, Fin.shift (Pre.refl _) (TK.mut mu) q4⟩
                  exact tk.trans (tk2.trans (t3.trans (t4.trans (TK.mut mu))))
                · exact q4.elim
              · exact q4.elim
theorem w_lc {elt tgE iter : Expr} {ifs : List Expr} {scope : Scope} {own : List (Str × Nat)} {t : Tg} {ci : It} {cs : Es} {ce : E} (ok : Z.Ok) (hi : SI Z tgE iter ci) (bk : BlkOk Z.X.N Z.X.env.scope scope own)
    (hg : ∀ (s : Shared) (H : Hp) (C : Addr) (cl : List (Str × Addr)) (fp : List Addr), PG (Z.blk s H scope C cl fp).X tgE (gW Z.X.K t)) (ht : ∀ (s : Shared) (H : Hp) (C : Addr) (cl : List (Str × Addr)) (fp : List Addr), SCs (Z.blk s H scope C cl fp) ifs cs)
    (he : ∀ (s : Shared) (H : Hp) (C : Addr) (cl : List (Str × Addr)) (fp : List Addr), SE (Z.blk s H scope C cl fp) elt ce) (hsl : ∀ i ∈ t.slots, i ∈ own.map (·.2)) (hs : ∀ x, foldedSetIterable iter Z.X.env x = pure x := by intro _; rfl) :
    SE Z (.ListComp elt [⟨tgE, iter, ifs, 0⟩] scope pos) (.lc (own.map (·.2)) t ci cs ce) :=
  pe_imp (pe_lc (wi := iW Z.X.K Z.x fun en st => evi Z.cl ci en st) (g := gW Z.X.K t) (tt := tWb Z.X.K (fun _ _ _ _ => False) fun en st => evc Z.cl cs en st) (te := tW Z.X.K (fun _ _ _ _ => False) fun en st => ev Z.cl ce en st) ok.calm ok.nd hi bk hg ht he hs) fun σ H Q h => lc_tr hsl σ H Q h
end
end Ci
/-! Ci7: statements. -/
namespace Ci
open PySem L2 PyProof.Rows

/-- a statement, a block: only the slots of A are set -/
abbrev SS (Z : Cz) (A : Nat → Bool) (s : Stmt) (c : S) : Prop := PS Z.X s (tWS Z.X.K Z.x A fun en st => ex Z.cl c en st)
abbrev SB (Z : Cz) (A : Nat → Bool) (s : List Stmt) (c : S) : Prop := PSs Z.X s (tWS Z.X.K Z.x A fun en st => ex Z.cl c en st)
section
variable {K : PySem.W.Frag} {x : WX} {A : Nat → Bool} {σ : L2.St} {H : Hp}
theorem own_wish {ι : List Addr} {α : Type} {r : Res α} {k : α → List Addr → Sto → Hp → Prop} (h : Fin K (fun c d H' => ∀ σ', Agree A σ σ' → x c d σ' H') ι H r k) : Fin K (fun c d H' => x c d σ H') ι H r k := by
  cases r with
  | ok a st => exact h
  | exc y st => exact fun ι' H' c d p t z r => h ι' H' c d p t z r σ (Agree.refl A σ)
  | bad => exact h
theorem later_wish {σ' : L2.St} {ι : List Addr} {α : Type} {r : Res α} {k : α → List Addr → Sto → Hp → Prop} (a : Agree A σ σ') (h : Fin K (fun c d H' => ∀ σ', Agree A σ σ' → x c d σ' H') ι H r k) : Fin K (fun c d H' => ∀ τ, Agree A σ' τ → x c d τ H') ι H r k := by
  cases r with
  | ok a st => exact h
  | exc y st => exact fun ι' H' c d p t z r τ b => h ι' H' c d p t z r τ (a.trans b)
  | bad => exact h
theorem outK_later {σ' : L2.St} {D : Ends} {o : Out} {ι : List Addr} {st : Sto} {H : Hp} (a : Agree A σ σ') (h : outK K D A σ o ι st H) : outK K D A σ' o ι st H := by
  cases o with
  | nx en => exact fun τ b r => h τ (a.trans b) r
  | bk en => exact fun τ b r => h τ (a.trans b) r
  | ct en => exact fun τ b r => h τ (a.trans b) r
  | rt w => exact h
/-- an expression, then what comes of it -/
theorem bindS {f : En → Sto → Res W} {g : W → En → Sto → Res Out} {D : Ends} {R : VK}
    (h : ∃ ι en st, Rel K σ H ι en st ∧ Fin K (fun c d H' => ∀ σ', Agree A σ σ' → x c d σ' H') ι H ((f en st).bind fun w st' => g w en st') (outK K D A σ))
    (n : ∀ w v ι en st H, Rel K σ H ι en st → RW K H ι w v → Fin K (fun c d H' => ∀ σ', Agree A σ σ' → x c d σ' H') ι H (g w en st) (outK K D A σ) → R v H) : tW K x f σ H R := by
  obtain ⟨ι, en, st, r, hf⟩ := h
  refine ⟨ι, en, st, r, (own_wish (Fin.split hf)).mono fun w ι' st' H' p t z q v rv => ?_⟩
  exact n w v ι' en st' H' (r.keep t p z) rv q
end
section
variable {Z : Cz} {A : Nat → Bool} {pos : Pos}
theorem s_nil : SB Z A [] .skip := pss_imp pss_nil fun D σ H ⟨ι, en, st, r, hf⟩ => hf.now r.hr σ (Agree.refl A σ) r
theorem s_cons {s : Stmt} {rest : List Stmt} {a b : S} (h1 : SS Z A s a) (h2 : SB Z A rest b) : SB Z A (s :: rest) (.seq a b) := by
  refine pss_imp (pss_cons h1 h2) fun D σ H h => ?_
  obtain ⟨ι, en, st, r, hf⟩ := h
  refine ⟨ι, en, st, r, (Fin.split hf).mono fun o ι' st' H' p t z q => ?_⟩
  cases o with
  | nx en1 => exact fun σ' ag r' => ⟨ι', en1, st', r', (later_wish ag q).mono fun o2 ι2 st2 H2 p2 t2 z2 q2 => outK_later ag q2⟩
  | bk en1 => exact q.now z
  | ct en1 => exact q.now z
  | rt w => exact q.now z
theorem s_one {s : Stmt} {a : S} (h1 : SS Z A s a) : SB Z A [s] a := pss_one h1
theorem s_pass : SS Z A (.Pass pos) .skip := ps_imp ps_pass fun D σ H ⟨ι, en, st, r, hf⟩ => hf.now r.hr σ (Agree.refl A σ) r
theorem s_brk : SS Z A (.Break pos) .brk := ps_imp ps_break fun D σ H ⟨ι, en, st, r, hf⟩ => hf.now r.hr σ (Agree.refl A σ) r
theorem s_cnt : SS Z A (.Continue pos) .cnt := ps_imp ps_continue fun D σ H ⟨ι, en, st, r, hf⟩ => hf.now r.hr σ (Agree.refl A σ) r
theorem s_ret {e : Expr} {c : E} (h : SE Z e c) : SS Z A (.Return (some e) pos) (.ret c) := by
  refine ps_imp (ps_ret h) fun D σ H h => ?_
  refine bindS (g := fun w _ st => .ok (.rt w) st) h fun w v ι en st H1 r r1 q => ?_
  exact q.now r.hr v r1
theorem s_retN : SS Z A (.Return none pos) .retN := ps_imp ps_retN fun D σ H ⟨ι, en, st, r, hf⟩ => hf.now r.hr _ .non
theorem s_expr {e : Expr} {c : E} (h : SE Z e c) (hs : swapsWith e none pos.line Z.X.env = pure false := by rfl) : SS Z A (.Expr e pos) (.xpr c) := by
  refine ps_imp (ps_expr h hs) fun D σ H h => ?_
  refine bindS (g := fun w en st => .ok (.nx en) st) h fun w v ι en st H1 r r1 q => ?_
  exact q.now r.hr σ (Agree.refl A σ) r
theorem agree_set {i : Nat} {v : Option V} (hA : A i = true) (σ : L2.St) : Agree A σ (σ.set i v) := ⟨by simp, fun j hj => by
  have : j ≠ i := fun z => by subst z; rw [hA] at hj; cases hj
  exact List.getElem?_set_ne (Ne.symm this)⟩
theorem s_set (i : Nat) {x : Str} {e : Expr} {c : E} {p : Pos} (nd : Z.X.N.Nodup) (h : SE Z e c) (hA : A i = true := by rfl) (hi : Z.X.N[i]? = some x := by rfl) (hx : Loc Z.X.env.scope x := by first | exact Or.inl rfl | exact Or.inr rfl) (hs : swapsWith e (some (.Name x p)) pos.line Z.X.env = pure false := by rfl)
    (hf : Z.X.fn x = true ∨ Z.X.env.scope.names.lookup x = some .local := by first | exact .inl rfl | exact .inr rfl | assumption) : SS Z A (.Assign [.Name x p] e pos) (.set i c) := by
  refine ps_imp (ps_set nd hi hx h hs hf) fun D σ H h => ?_
  refine bindS (g := fun w en st => setK (.nm i) en w st) h fun w v ι en st H1 r r1 q => ?_
  unfold setK asg at q
  split at q
  · rename_i en1 e1
    split at e1
    · cases e1
      exact q.now r.hr _ (agree_set hA σ) (r.set r1)
    · cases e1
  · exact q.elim
theorem s_ite {c : Expr} {a b : List Stmt} {cc : E} {ca cb : S} (hc : ST Z c cc) (ha : SB Z A a ca) (hb : SB Z A b cb) : SS Z A (.If c a b pos) (.ite cc ca cb) := by
  refine ps_imp (ps_if hc ha hb) fun D σ H h => ?_
  obtain ⟨ι, en, st, r, hf⟩ := h
  refine ⟨ι, en, st, r, (own_wish (Fin.split hf)).mono fun k ι' st' H' p t z q => ?_⟩
  cases k with
  | true => exact ⟨ι', en, st', r.keep t p z, q⟩
  | false => exact ⟨ι', en, st', r.keep t p z, q⟩
/-! ### targets of several names -/
theorem agree_slots {t : Tg} {σ σ1 : L2.St} (hA : ∀ i ∈ t.slots, A i = true) (hl : σ1.length = σ.length) (h : ∀ i, i ∉ t.slots → σ1[i]? = σ[i]?) : Agree A σ σ1 := ⟨hl, fun i hi => h i fun z => by rw [hA i z] at hi; cases hi⟩
theorem s_unp {tg e : Expr} {t : Tg} {c : E} (h : SE Z e c) (hg : PG Z.X tg (gW Z.X.K t)) (hA : ∀ i ∈ t.slots, A i = true) (hs : swapsWithSole [tg] e pos.line Z.X.env = pure false := by rfl) (hw : swappedStores [tg] e Z.X.env = pure none := by rfl)
    (h1 : (assignEach [tg] Z.X.env).map (·.2) = [assign tg Z.X.env] := by rfl) : SS Z A (.Assign [tg] e pos) (.unp t c) := by
  refine ps_imp (ps_asg h hg hs hw h1) fun D σ H h => ?_
  refine bindS (g := fun w en st => setK t en w st) h fun w v ι en st H1 r r1 q => ?_
  unfold setK at q
  split at q
  · rename_i en1 e1
    refine ⟨ι, en, st, w, en1, r, r1, e1, fun σ1 rr fr => q.now r.hr σ1 (agree_slots hA ?_ fr) rr⟩
    rw [rr.len, r.len]
    exact asg_len e1
  · exact q.elim
theorem par_rel {K : PySem.W.Frag} {σ : L2.St} {H : Hp} {ι : List Addr} {en en1 : En} {st : Sto} {is : List Nat} : ∀ {ws : List W} {vs : List V}, Rel K σ H ι en st → RWs K H ι ws vs → asgs (tgsOf is) ws en = some en1 →
    ∃ σ1, Rel K σ1 H ι en1 st ∧ vs.length = is.length ∧ σ1 = (is.zip vs).foldl (fun τ p => τ.set p.1 (some p.2)) σ ∧ (∀ i, i ∉ is → σ1[i]? = σ[i]?) := by
  induction is generalizing σ en with
  | nil =>
    intro ws vs r rs e
    cases ws with
    | nil => cases rs; cases e; exact ⟨σ, r, rfl, rfl, fun _ _ => rfl⟩
    | cons _ _ => cases e
  | cons i is ih =>
    intro ws vs r rs e
    cases ws with
    | nil => cases e
    | cons w ws =>
      cases rs with
      | @cons _ v _ vr h t =>
        have e : (match asg (.nm i) w en with | some en1 => asgs (tgsOf is) ws en1 | none => none) = some en1 := e
        split at e
        · rename_i en2 e2
          have e2 : (if i < en.length then some (en.set i (some w)) else none) = some en2 := e2
          split at e2
          · cases e2
            obtain ⟨σ1, q1, q2, q3, q4⟩ := ih (r.set h) t e
            refine ⟨σ1, q1, congrArg (· + 1) q2, q3, fun j hj => ?_⟩
            rw [q4 j fun z => hj (List.mem_cons_of_mem _ z)]
            have : j ≠ i := fun z => hj (by subst z; exact List.mem_cons_self)
            exact List.getElem?_set_ne (Ne.symm this)
          · cases e2
        · cases e
/-- a, b = e1, e2 -/
theorem s_par2 (i j : Nat) {x y : Str} {a b : Expr} {cs : Es} {px py pt : Pos} {kt k2 pt2} (ok : Z.Ok) (ha : SA Z [a, b] cs) (hw : swappedStores [.Tuple [.Name x px, .Name y py] kt pt] (.Tuple [a, b] k2 pt2) Z.X.env = pure (some [x, y])) (hA : A i = true := by rfl) (hB : A j = true := by rfl)
    (hi : Z.X.N[i]? = some x := by rfl) (hj : Z.X.N[j]? = some y := by rfl) (hij : i ≠ j := by decide) (hx : Z.X.env.scope.names.lookup x = some .local := by rfl) (hy : Z.X.env.scope.names.lookup y = some .local := by rfl)
    (hs : swapsWithSole [.Tuple [.Name x px, .Name y py] kt pt] (.Tuple [a, b] k2 pt2) pos.line Z.X.env = pure false := by rfl) :
    SS Z A (.Assign [.Tuple [.Name x px, .Name y py] kt pt] (.Tuple [a, b] k2 pt2) pos) (.par [i, j] cs) := by
  refine ps_imp (ps_par ok.calm ok.nd hi hj hij hx hy ha hw hs) fun D σ H h => ?_
  obtain ⟨ι, en, st, r, hf⟩ := h
  refine ⟨ι, en, st, r, (own_wish (Fin.split hf)).mono fun ws ι' st' H' p t z q vs rs => ?_⟩
  unfold setsK at q
  split at q
  · rename_i en1 e1
    obtain ⟨σ1, q1, q2, q3, q4⟩ := par_rel (r.keep t p z) rs e1
    match vs, q2 with
    | [v1, v2], _ =>
      refine ⟨v1, v2, rfl, ?_⟩
      subst q3
      exact q.now z _ ⟨by simp, fun k hk => q4 k fun zk => by
        rcases List.mem_cons.mp zk with rfl | zk
        · rw [hA] at hk; cases hk
        · rcases List.mem_cons.mp zk with rfl | zk
          · rw [hB] at hk; cases hk
          · cases zk⟩ q1
  · exact q.elim
theorem s_par3 (i j l : Nat) {x y w : Str} {a b c : Expr} {cs : Es} {px py pz pt : Pos} {kt k2 pt2} (ok : Z.Ok) (ha : SA Z [a, b, c] cs) (hw : swappedStores [.Tuple [.Name x px, .Name y py, .Name w pz] kt pt] (.Tuple [a, b, c] k2 pt2) Z.X.env = pure (some [x, y, w])) (hA : A i = true := by rfl) (hB : A j = true := by rfl) (hC : A l = true := by rfl)
    (hi : Z.X.N[i]? = some x := by rfl) (hj : Z.X.N[j]? = some y := by rfl) (hl : Z.X.N[l]? = some w := by rfl) (hij : i ≠ j := by decide) (hil : i ≠ l := by decide) (hjl : j ≠ l := by decide) (hx : Z.X.env.scope.names.lookup x = some .local := by rfl) (hy : Z.X.env.scope.names.lookup y = some .local := by rfl) (hz : Z.X.env.scope.names.lookup w = some .local := by rfl)
    (hs : swapsWithSole [.Tuple [.Name x px, .Name y py, .Name w pz] kt pt] (.Tuple [a, b, c] k2 pt2) pos.line Z.X.env = pure false := by rfl) :
    SS Z A (.Assign [.Tuple [.Name x px, .Name y py, .Name w pz] kt pt] (.Tuple [a, b, c] k2 pt2) pos) (.par [i, j, l] cs) := by
  refine ps_imp (ps_par3 ok.calm ok.nd hi hj hl hij hil hjl hx hy hz ha hw hs) fun D σ H h => ?_
  obtain ⟨ι, en, st, r, hf⟩ := h
  refine ⟨ι, en, st, r, (own_wish (Fin.split hf)).mono fun ws ι' st' H' p t z q vs rs => ?_⟩
  unfold setsK at q
  split at q
  · rename_i en1 e1
    obtain ⟨σ1, q1, q2, q3, q4⟩ := par_rel (r.keep t p z) rs e1
    match vs, q2 with
    | [v1, v2, v3], _ =>
      refine ⟨v1, v2, v3, rfl, ?_⟩
      subst q3
      exact q.now z _ ⟨by simp, fun k hk => q4 k fun zk => by
        rcases List.mem_cons.mp zk with rfl | zk
        · rw [hA] at hk; cases hk
        · rcases List.mem_cons.mp zk with rfl | zk
          · rw [hB] at hk; cases hk
          · rcases List.mem_cons.mp zk with rfl | zk
            · rw [hC] at hk; cases hk
            · cases zk⟩ q1
  · exact q.elim
/-! ### loops -/
theorem s_whl {c : Expr} {body : List Stmt} {cc : E} {cb : S} (hp : PassesOwn (model Z.X.prog Z.X.w) Z.X.A Z.X.env Z.X.xe) (hc : ST Z c cc) (hb : SB Z A body cb) : SS Z A (.While c body [] pos) (.whl cc cb) := by
  refine ps_imp (ps_while hp hc hb) fun D σ H h => ?_
  obtain ⟨ι, en, st, r, hf⟩ := h
  let lp : Nat → En → Sto → Res Out := whlL (fun en st => truR (ev Z.cl cc en st)) (fun en st => ex Z.cl cb en st)
  have hf : Fin Z.X.K (fun c d H' => ∀ σ', Agree A σ σ' → Z.x c d σ' H') ι H (lp FU en st) (outK Z.X.K D A σ) := hf
  refine ⟨fun m σ' H' => ∃ ι' en' st', Agree A σ σ' ∧ Rel Z.X.K σ' H' ι' en' st' ∧ Fin Z.X.K (fun c d H' => ∀ τ, Agree A σ' τ → Z.x c d τ H') ι' H' (lp m en' st') (outK Z.X.K D A σ'), ⟨FU, ι, en, st, Agree.refl A σ, r, hf⟩, ?_⟩
  rintro m σ' H' ⟨ι', en', st', ag, r', q⟩
  cases m with
  | zero => exact q.elim
  | succ m =>
    have q : Fin Z.X.K (fun c d H' => ∀ τ, Agree A σ' τ → Z.x c d τ H') ι' H' ((truR (ev Z.cl cc en' st')).bind (iteK (fun st1 => (ex Z.cl cb en' st1).bind (loopK (lp m))) (fun st1 => .ok (.nx en') st1))) (outK Z.X.K D A σ') := q
    refine ⟨ι', en', st', r', (own_wish (Fin.split q)).mono fun b ι2 st2 H2 p2 t2 z2 q2 => ?_⟩
    cases b with
    | false => exact q2.now z2 σ' (Agree.refl A σ') (r'.keep t2 p2 z2)
    | true =>
      rw [if_pos rfl]
      refine ⟨fun τ G => ∃ ι' en' st', Agree A σ τ ∧ Rel Z.X.K τ G ι' en' st' ∧ Fin Z.X.K (fun c d H' => ∀ u, Agree A τ u → Z.x c d u H') ι' G (lp m en' st') (outK Z.X.K D A τ), fun τ G h => ⟨m, Nat.lt_succ_self m, h⟩, ?_⟩
      refine ⟨ι2, en', st2, r'.keep t2 p2 z2, (Fin.split q2).mono fun o ι3 st3 H3 p3 t3 z3 q3 => ?_⟩
      have go : ∀ en3, Fin Z.X.K (fun c d H' => ∀ τ, Agree A σ' τ → Z.x c d τ H') ι3 H3 (lp m en3 st3) (outK Z.X.K D A σ') → ∀ τ, Agree A σ' τ → Rel Z.X.K τ H3 ι3 en3 st3 →
          ∃ ι' en' st', Agree A σ τ ∧ Rel Z.X.K τ H3 ι' en' st' ∧ Fin Z.X.K (fun c d H' => ∀ u, Agree A τ u → Z.x c d u H') ι' H3 (lp m en' st') (outK Z.X.K D A τ) := fun en3 q τ a rr =>
        ⟨ι3, en3, st3, ag.trans a, rr, (later_wish a q).mono fun o2 ι4 st4 H4 p4 t4 z4 q4 => outK_later a q4⟩
      cases o with
      | nx en3 => exact fun τ a rr => go en3 q3 τ a rr
      | ct en3 => exact fun τ a rr => go en3 q3 τ a rr
      | bk en3 => exact fun τ a rr => q3.now z3 τ a rr
      | rt w => exact q3.now z3
theorem s_for {tgE iter : Expr} {body : List Stmt} {t : Tg} {ci : It} {cb : S} (ok : Z.Ok) (hp : PassesOwn (model Z.X.prog Z.X.w) Z.X.A Z.X.env Z.X.xe) (hi : SI Z tgE iter ci) (hg : PG Z.X tgE (gW Z.X.K t)) (hA : ∀ i ∈ t.slots, A i = true) (hb : SB Z A body cb)
    (hs : ∀ x, foldedSetIterable iter Z.X.env x = pure x := by intro _; rfl) : SS Z A (.For tgE iter body [] pos) (.for_ t ci cb) := by
  refine ps_imp (ps_for hp ok.calm hi hg hb hs) fun D σ H h => ?_
  obtain ⟨ι, en, st, r, hf⟩ := h
  refine ⟨ι, en, st, r, (own_wish (Fin.split hf)).mono fun src ι1 st1 H1 p1 t1 z1 q1 J hJ => ?_⟩
  let lp : Nat → Nat → En → Sto → Res Out := forL src.get (asg t) (fun en st => ex Z.cl cb en st)
  have q1 : Fin Z.X.K (fun c d H' => ∀ σ', Agree A σ σ' → Z.x c d σ' H') ι1 H1 (lp FU 0 en st1) (outK Z.X.K D A σ) := q1
  refine ⟨fun i m σ' H' => ∃ ι' en' st', Pre ι1 ι' ∧ TK H1 H' ∧ Agree A σ σ' ∧ Rel Z.X.K σ' H' ι' en' st' ∧ Fin Z.X.K (fun c d H' => ∀ τ, Agree A σ' τ → Z.x c d τ H') ι' H' (lp m i en' st') (outK Z.X.K D A σ'),
    ⟨FU, ι1, en, st1, Pre.refl _, TK.refl _, Agree.refl A σ, r.keep t1 p1 z1, q1⟩, ?_⟩
  rintro i m σ' H' ⟨ι', en', st', p, tk, ag, r', q⟩
  cases m with
  | zero => exact q.elim
  | succ m =>
    have hj := hJ ι' H' st' i p tk r'.hr
    have q : Fin Z.X.K (fun c d H' => ∀ τ, Agree A σ' τ → Z.x c d τ H') ι' H' (match src.get st' i with
      | none => .bad
      | some none => .ok (.nx en') st'
      | some (some w) => match asg t w en' with
        | none => .bad
        | some en1 => (ex Z.cl cb en1 st').bind (loopK (lp m (i + 1)))) (outK Z.X.K D A σ') := q
    cases eg : src.get st' i with
    | none => rw [eg] at q; exact q.elim
    | some o =>
      rw [eg] at q hj
      cases o with
      | none => exact .inl ⟨hj, q.now r'.hr σ' (Agree.refl A σ') r'⟩
      | some w =>
        refine .inr ⟨hj.1, fun τ G => ∃ ι' en' st', Pre ι1 ι' ∧ TK H1 G ∧ Agree A σ τ ∧ Rel Z.X.K τ G ι' en' st' ∧ Fin Z.X.K (fun c d H' => ∀ u, Agree A τ u → Z.x c d u H') ι' G (lp m (i + 1) en' st') (outK Z.X.K D A τ), fun τ G h => ⟨m, Nat.lt_succ_self m, h⟩, fun x H2 y => ?_⟩
        obtain ⟨tk2, zz2, rx⟩ := hj.2 x H2 y
        simp only at q
        cases ea : asg t w en' with
        | none => rw [ea] at q; exact q.elim
        | some en1 =>
          rw [ea] at q
          have r2 : Rel Z.X.K σ' H2 ι' en' st' := r'.keep tk2 (Pre.refl _) zz2
          refine ⟨ι', en', st', w, en1, r2, rx, ea, fun σ2 rr fr => ?_⟩
          have ag2 : Agree A σ' σ2 := agree_slots hA (by rw [rr.len, r2.len]; exact asg_len ea) fr
          refine ⟨ι', en1, st', rr, (later_wish ag2 (Fin.split (Fin.shift (Pre.refl _) tk2 q))).mono fun o ι3 st3 H3 p3 t3 z3 q3 => ?_⟩
          have go : ∀ en3, Fin Z.X.K (fun c d H' => ∀ τ, Agree A σ' τ → Z.x c d τ H') ι3 H3 (lp m (i + 1) en3 st3) (outK Z.X.K D A σ') → ∀ τ, Agree A σ2 τ → Rel Z.X.K τ H3 ι3 en3 st3 →
              ∃ ι' en' st', Pre ι1 ι' ∧ TK H1 H3 ∧ Agree A σ τ ∧ Rel Z.X.K τ H3 ι' en' st' ∧ Fin Z.X.K (fun c d H' => ∀ u, Agree A τ u → Z.x c d u H') ι' H3 (lp m (i + 1) en' st') (outK Z.X.K D A τ) := fun en3 q τ a rr =>
            ⟨ι3, en3, st3, p.trans p3, tk.trans (tk2.trans t3), ag.trans (ag2.trans a), rr, (later_wish (ag2.trans a) q).mono fun o2 ι4 st4 H4 p4 t4 z4 q4 => outK_later (ag2.trans a) q4⟩
          cases o with
          | nx en3 => exact fun τ a rr => go en3 q3 τ a rr
          | ct en3 => exact fun τ a rr => go en3 q3 τ a rr
          | bk en3 => exact fun τ a rr => q3.now z3 τ (ag2.trans a) rr
          | rt w => exact q3.now z3
end
end Ci
/-! Ci8: defs, their calls, the law's end. -/
namespace Ci
open PySem L2 PyProof.Rows

def Es.n : Es → Nat
  | .nil => 0
  | .cons _ cs => cs.n + 1
/-- a def's promise where nothing is being shown (the guards are told) -/
structure FnG (P : Program) (w : World) (K : PySem.W.Frag) (mg : Str → Option Value) (base : Heap) (k : Nat) (f : Addr) (fd : FuncData) (ps : List Str) (sp : Sp) : Prop where
  len : ∀ vs H Q E, sp vs H Q E → vs.length = ps.length
  run : ∀ (A : Around) (outer : List Env) (s : Shared) (H : Hp) (args : Args) (us : List Value) (vs : List V) (Q : VK) (E : XK), Room k A → A.guards = some [] → Env0 P w K mg base A outer s H → BindsTo s fd args (ps.zip us) → Vals vs us → sp vs H Q E →
    codeAny (model P w) A (.call (.ref f) args) (CR (L2.CX P w) outer P w H s Q E) s
/-- .. by its reckoning -/
def spR (K : PySem.W.Frag) (r : List W → Sto → Res W) (n : Nat) : Sp := fun vs H Q E => vs.length = n ∧ ∃ ι st ws, HRel K H ι st ∧ RWs K H ι ws vs ∧ Fin K E ι H (r ws st) fun w ι' _ H' => ∀ v, RW K H' ι' w v → Q v H'

section
variable {Z : Cz} {x : Str} {p pos : Pos} {e : Expr} {es : List Expr} {cs : Es}
/-- what is known of a def that is called -/
structure Callee (Z : Cz) (x : Str) (i : Nat) (ps : List Str) (a : Arguments) (b : List Stmt) (sc : Scope) : Prop where
  ex : ∃ (f : Addr) (fd : FuncData) (k : Nat), Z.X.mg x = some (.ref f) ∧ FunD Z.X.K x x a b sc [] [] f fd ∧ Room k Z.X.A ∧ FnG Z.X.prog Z.X.w Z.X.K Z.X.mg Z.X.base k f fd ps (spR Z.X.K (Z.cl i) ps.length)
theorem run_g {pins : List (Addr × Obj)} {σ : L2.St} {H : Hp} {s : Shared} {Q : VK} {args : Args} {us : List Value} {vs : List V} {k : Nat} {f : Addr} {fd : FuncData} {ps : List Str} {sp : Sp} (ok : Z.Ok) (F : FnG Z.X.prog Z.X.w Z.X.K Z.X.mg Z.X.base k f fd ps sp) (hr : Room k Z.X.A)
    (I : Inv Z.X pins σ H s) (hb : us.length = ps.length → BindsTo s fd args (ps.zip us)) (r : Vals vs us) (h : sp vs H Q fun c d H' => Z.x c d σ H') : codeAny (model Z.X.prog Z.X.w) Z.X.A (.call (.ref f) args) (fun r s' => match r with
      | .ok (.ret u) => EP Z.X pins σ Q u s'
      | .ok _ => False
      | .error e => Z.X.xe e s') s := by
  refine codeAny_mono (F.run Z.X.A Z.X.stack s H args us vs Q _ hr ok.gd I.env0 (hb (by rw [← r.length]; exact F.len _ _ _ _ h)) r h) fun res s' hq => ?_
  cases res with
  | error er => exact ok.tk _ _ (XE.of_call I (fun _ _ _ q => q) hq)
  | ok fl =>
    cases fl with
    | ret u => exact I.after hq
    | next => exact hq.elim
    | brk => exact hq.elim
    | cont => exact hq.elim
theorem call_fin {K : PySem.W.Frag} {σ : L2.St} {H : Hp} {xw : WX} {ι : List Addr} {st : Sto} {ws : List W} {vs : List V} {Q : VK} {cl : Cl} {i n : Nat} (z : HRel K H ι st) (rs : RWs K H ι ws vs) (hl : vs.length = n)
    (q : Fin K (fun c d H' => xw c d σ H') ι H (cl i ws st) fun w ι' _ H' => ∀ v, RW K H' ι' w v → Q v H') : spR K (cl i) n vs H Q fun c d H' => xw c d σ H' := ⟨hl, ι, st, ws, z, rs, q⟩
theorem evs_len {cl : Cl} : ∀ {cs : Es} {en : En} {st st' : Sto} {ws : List W}, evs cl cs en st = .ok ws st' → ws.length = cs.n
  | .nil, _, _, _, _, e => by cases e; rfl
  | .cons c cs, en, st, st', ws, e => by
    have e : ((ev cl c en st).bind fun x st1 => (evs cl cs en st1).bind fun xs st2 => .ok (x :: xs) st2) = .ok ws st' := e
    cases e1 : ev cl c en st with
    | bad => rw [e1] at e; cases e
    | exc _ _ => rw [e1] at e; cases e
    | ok x st1 =>
      rw [e1] at e
      have e : ((evs cl cs en st1).bind fun xs st2 => .ok (x :: xs) st2) = .ok ws st' := e
      cases e2 : evs cl cs en st1 with
      | bad => rw [e2] at e; cases e
      | exc _ _ => rw [e2] at e; cases e
      | ok xs st2 =>
        rw [e2] at e
        cases e
        exact congrArg (· + 1) (evs_len e2)
theorem Fin.len {cl : Cl} {K : PySem.W.Frag} {x : Value → Option Addr → Hp → Prop} {ι : List Addr} {H : Hp} {cs : Es} {en : En} {st : Sto} {k : List W → List Addr → Sto → Hp → Prop} (h : Fin K x ι H (evs cl cs en st) k) :
    Fin K x ι H (evs cl cs en st) fun ws ι' st' H' => ws.length = cs.n ∧ k ws ι' st' H' := by
  cases e : evs cl cs en st with
  | ok ws st' =>
    rw [e] at h
    exact fun ι' H' p t z => ⟨evs_len e, h ι' H' p t z⟩
  | exc y st' => rw [e] at h; exact h
  | bad => rw [e] at h; exact h
/-- f(e, ..) -/
theorem w_call (i : Nat) {ps : List Str} {a : Arguments} {b : List Stmt} {sc : Scope} (ok : Z.Ok) (c : Callee Z x i ps a b sc) (hg : Gl Z.X x) (ha : SA Z (e :: es) cs)
    (hb : ∀ (kV doc pm : Value) (an : Option Addr) (cdv ct : Value) (us : List Value), us.length = ps.length → bindArgs (PySem.W.fnOf x x a b sc .none kV doc pm an cdv ct) ⟨us, []⟩ = pure (ps.zip us)) (hn : cs.n = ps.length := by rfl)
    (hdb : (x == ("__debug__" : Str)) = false := by decide) (he : starEach (e :: es) Z.X.env = (false, eval e Z.X.env) :: starEach es Z.X.env := by rfl) (hpl : (backTo pos (starEach es Z.X.env)).any (·.1) = false := by rfl) :
    SE Z (.Call (.Name x p) (e :: es) [] pos) (.call i none cs) := by
  obtain ⟨f, fd, k, hm, F, hr, G⟩ := c.ex
  refine ⟨fun pins s σ H Q I h => ?_⟩
  obtain ⟨ι, en, st, r, hf⟩ := h
  have hf : Fin Z.X.K (fun c d H' => Z.x c d σ H') ι H ((evs Z.cl cs en st).bind (callK Z.cl i none)) (fun w ι' _ H' => ∀ v, RW Z.X.K H' ι' w v → Q v H') := hf
  have ta : tEs Z cs σ H fun vs H1 => spR Z.X.K (Z.cl i) ps.length vs H1 Q fun c d H' => Z.x c d σ H' := by
    refine ⟨ι, en, st, r, (Fin.len (Fin.split hf)).mono fun ws ι' st' H' p t z q vs rs => ?_⟩
    exact call_fin z rs (by rw [← rs.len, q.1, hn]) q.2
  refine wpAny_Call_Name_kw (ld_glob I hg hm ?_ hdb)
  refine PySem.W.callWith_K (h₀ := Z.X.base) I.ok.mod.kin F.kp (thn (ha.run pos pins s σ H _ I ta) fun us s1 ⟨vs, H1, I1, rv, q⟩ => ⟨I1.kIn, ?_⟩) he hpl
  refine wpAny_call (codeAny_mono (run_g ok G hr I1 (fun hl => F.bindsA hb s1 us hl) rv q) fun res s' hq => ?_)
  cases res with
  | error er => exact hq
  | ok fl => cases fl <;> exact hq
theorem permW_get {K : PySem.W.Frag} {H : Hp} {ι : List Addr} : ∀ {l : List Nat} {ws zs : List W} {vs : List V}, RWs K H ι ws vs → l.mapM (fun i => ws[i]?) = some zs → ∃ us, l.mapM (fun i => vs[i]?) = some us ∧ RWs K H ι zs us
  | [], ws, zs, vs, r, e => by cases e; exact ⟨[], rfl, .nil⟩
  | i :: l, ws, zs, vs, r, e => by
    rw [List.mapM_cons] at e
    obtain ⟨z, e1, e⟩ := Option.bind_eq_some_iff.mp e
    obtain ⟨zs', e2, e⟩ := Option.bind_eq_some_iff.mp e
    cases e
    obtain ⟨v, ev, rv⟩ := r.get e1
    obtain ⟨us, eu, ru⟩ := permW_get r e2
    exact ⟨v :: us, by rw [List.mapM_cons, ev, eu]; rfl, .cons rv ru⟩
theorem vals_perm : ∀ {l : List Nat} {vs zs : List V} {us : List Value}, Vals vs us → l.mapM (fun i => vs[i]?) = some zs → ∃ ws, l.mapM (fun i => us[i]?) = some ws ∧ Vals zs ws
  | [], vs, zs, us, r, e => by cases e; exact ⟨[], rfl, .nil⟩
  | i :: l, vs, zs, us, r, e => by
    rw [List.mapM_cons] at e
    obtain ⟨z, e1, e⟩ := Option.bind_eq_some_iff.mp e
    obtain ⟨zs', e2, e⟩ := Option.bind_eq_some_iff.mp e
    cases e
    obtain ⟨v, ev, rv⟩ := r.get e1
    obtain ⟨us, eu, ru⟩ := vals_perm r e2
    exact ⟨v :: us, by rw [List.mapM_cons, ev, eu]; rfl, .cons rv ru⟩
/-- the keywords' values -/
abbrev SK (Z : Cz) (kws : List Keyword) (c : Es) : Prop := PK Z.X kws (tEs Z c)
theorem pk_imp {X : Cx} {kws : List Keyword} {t t' : TA} (h : PK X kws t) (i : ∀ σ H Q, t' σ H Q → t σ H Q) : PK X kws t' := ⟨fun pos pins s σ H Q I q => h.run pos pins s σ H Q I (i _ _ _ q)⟩
theorem k_nil : SK Z [] .nil := pk_imp pk_nil fun σ H Q ⟨ι, en, st, r, hf⟩ => hf.now r.hr [] .nil
theorem k_cons {nm : Option Str} {e : Expr} {kpos : Pos} {kws : List Keyword} {c : E} {cs : Es} (ha : SE Z e c) (hr : SK Z kws cs) : SK Z (⟨nm, e, kpos⟩ :: kws) (.cons c cs) := by
  refine pk_imp (pk_cons ha hr) fun σ H Q h => ?_
  refine bindE (g := fun x en st1 => (evs Z.cl cs en st1).bind fun xs st2 => .ok (x :: xs) st2) h fun w v ι en st H1 r r1 q => ?_
  refine ⟨ι, en, st, r, (Fin.split q).mono fun ws ι' st' H' p t z q' vs rs => ?_⟩
  exact q'.now z _ (.cons (r1.keep t p) rs)
end

section
variable {P : Program} {w : World} {K : PySem.W.Frag} {mg : Str → Option Value} {base : Heap}
/-- where a def's body runs -/
abbrev bodyZ (P : Program) (w : World) (K : PySem.W.Frag) (mg : Str → Option Value) (base : Heap) (N : List Str) (qual : Str) (sc : Scope) (f : Addr) (cdv : Value) (A : Around) (outer : List Env) (s : Shared) (H : Hp) (E : XK) (cl : Cl) : Cz :=
  ⟨cxOf (L2.CX P w) P w K mg base N qual sc f cdv A outer s H E, fun c d _ H' => E c d H', cl⟩
theorem bodyZ_ok {N : List Str} {qual : Str} {sc : Scope} {f : Addr} {cdv : Value} {A : Around} {outer : List Env} {s : Shared} {H : Hp} {E : XK} {cl : Cl} {k : Nat} (nd : N.Nodup) (hr : Room k (A.deeper (envOfC qual sc s.heap.objs.size f cdv))) (hg : A.guards = some []) :
    (bodyZ P w K mg base N qual sc f cdv A outer s H E cl).Ok :=
  ⟨rfl, nd, takes_of rfl rfl rfl rfl, by have := hr.un; show (A.deeper (envOfC qual sc s.heap.objs.size f cdv)).units + 65 < cLine; omega, hg⟩
theorem bodyZ_pass {N : List Str} {qual : Str} {sc : Scope} {f : Addr} {cdv : Value} {A : Around} {outer : List Env} {s : Shared} {H : Hp} {E : XK} {cl : Cl} :
    PassesOwn (model P w) (bodyZ P w K mg base N qual sc f cdv A outer s H E cl).X.A (bodyZ P w K mg base N qual sc f cdv A outer s H E cl).X.env (bodyZ P w K mg base N qual sc f cdv A outer s H E cl).X.xe := passes_of rfl
theorem start_rel {N : List Str} {H : Hp} {ι : List Addr} {st : Sto} {ws : List W} {vs : List V} (z : HRel K H ι st) (rs : RWs K H ι ws vs) : Rel K (L2.start N vs) H ι (startE N.length ws) st := by
  have hl := rs.len
  refine ⟨z, by unfold L2.start startE; simp [hl], fun i u e => ?_⟩
  unfold startE at e
  unfold L2.start
  rcases Nat.lt_or_ge i ws.length with h | h
  · rw [List.getElem?_append_left (by simpa using h), List.getElem?_map] at e
    rw [List.getElem?_append_left (by simpa [← hl] using h), List.getElem?_map]
    cases e1 : ws[i]? with
    | none => rw [e1] at e; cases e
    | some w =>
      rw [e1] at e
      cases e
      obtain ⟨v, ev, rv⟩ := rs.get e1
      rw [ev]
      exact ⟨v, rfl, rv⟩
  · rw [List.getElem?_append_right (by simpa using h)] at e
    have := List.mem_of_getElem? e
    have := List.eq_of_mem_replicate this
    cases this
/-- a def keeps what its reckoning tells -/
theorem fn_run {tab : List Fd} {n i : Nat} {d : Fd} {x : Str} {a : Arguments} {b : List Stmt} {sc : Scope} {f : Addr} {fd : FuncData} {N ps : List Str} (F : FunD K x x a b sc [] [] f fd) (hd : tab[i]? = some d) (S : FnScope N ps sc) (hN : N.length = d.nl) (hp : ps.length = d.np)
    (body : ∀ (cdv : Value) (A : Around) (outer : List Env) (s : Shared) (H : Hp) (E : XK), Room n (A.deeper (envOfC x sc s.heap.objs.size f cdv)) → A.guards = some [] → SB (bodyZ P w K mg base N x sc f cdv A outer s H E (run tab n)) (fun _ => true) b d.body) :
    FnG P w K mg base (n + 1) f fd ps (spR K (run tab (n + 1) i) ps.length) := by
  obtain ⟨oc, od, dV, kV, doc, pm, an, cdv, ct, osl, rfl, lk, hcd, _, _⟩ := F.ex
  have len : ∀ vs H Q E, spR K (run tab (n + 1) i) ps.length vs H Q E → vs.length = ps.length := fun vs H Q E h => h.1
  refine ⟨len, fun A outer s H args us vs Q E hr hg e0 hb r hsp => ?_⟩
  have hl := len _ _ _ _ hsp
  have KX : K.In s.heap := e0.mod.kin.keeps fun b o e => (e0.bs b o e).1
  have lim : s.heap.NoLimit := e0.mod.nolimit.keeps fun b o e => (e0.bs b o e).1
  have hkind : ∀ y ∈ ps.zip us, sc.names.lookup y.1 = some .local ∨ (sc.names.lookup y.1 = some .cell ∧ ((cellsFrom (s.heap.objs.size + 1) sc.names []).lookup y.1).isSome = true) := fun ⟨m, v⟩ hy => by
    rcases S.par m (List.of_mem_zip hy).1 with q | q
    · exact .inl q
    · exact .inr ⟨q, PySem.W.cellsFrom_some _ _ _ (.inl q)⟩
  refine codeAny_call_function hr.depth (KX _ _ lk) rfl S.co S.gen rfl (PySem.W.codeRec_of KX hcd) (hb _ _ _ _ ?_)
  refine wpAny_newFunctionEnv_cells S.kind hkind fun env he s1 x1 => ?_
  subst he
  refine ⟨lim.keeps x1.toInCall.keep, codeAny_func ?_⟩
  have I := inv_start (CX := L2.CX P w) (P := P) (w := w) (K := K) (mg := mg) (base := base) (cd := cdv) (f := f) (qual := x) (E := E) (vs := vs) S hr.hd e0 hl r x1
  obtain ⟨_, ι, st, ws, z, rs, hf⟩ := hsp
  have hf : Fin K E ι H (match tab[i]? with
    | none => .bad
    | some d => if ws.length = d.np then (ex (run tab n) d.body (startE d.nl ws) st).bind retK else .bad) (fun w ι' _ H' => ∀ v, RW K H' ι' w v → Q v H') := hf
  rw [hd] at hf
  have hl2 : ws.length = d.np := by rw [rs.len, hl, hp]
  have hf : Fin K E ι H (if ws.length = d.np then (ex (run tab n) d.body (startE d.nl ws) st).bind retK else .bad) (fun w ι' _ H' => ∀ v, RW K H' ι' w v → Q v H') := hf
  rw [if_pos hl2, ← hN] at hf
  have q : tWS K (fun c d _ H' => E c d H') (fun _ => true) (fun en st => ex (run tab n) d.body en st) { nx := fun _ H' => Q .non H', rt := Q } (L2.start N vs) H := by
    refine ⟨ι, startE N.length ws, st, start_rel z rs, ?_⟩
    have h2 : Fin K (fun c d H' => ∀ σ', Agree (fun _ => true) (L2.start N vs) σ' → E c d H') ι H (ex (run tab n) d.body (startE N.length ws) st) (fun o ι' st' H' => Fin K E ι' H' (retK o st') (fun w ι' _ H' => ∀ v, RW K H' ι' w v → Q v H')) := by
      have h3 := Fin.split hf
      cases e : ex (run tab n) d.body (startE N.length ws) st with
      | ok o st1 => rw [e] at h3; exact h3
      | exc y st1 => rw [e] at h3; exact fun ι' H' c d p t z r _ _ => h3 ι' H' c d p t z r
      | bad => rw [e] at h3; exact h3
    refine h2.mono fun o ι' st' H' p t zz q => ?_
    cases o with
    | nx en1 => exact fun σ' _ _ => q.now zz _ .non
    | rt u => exact fun v rv => q.now zz v rv
    | bk en1 => exact q.elim
    | ct en1 => exact q.elim
  refine wpAny_mono ((body cdv A outer s H E (hr.deeper _) hg).run [] s1 (L2.start N vs) H _ I q) (fun fl s' hs => ?_) fun e s' hs => hs
  have fin : ∀ {σ' : L2.St} {H' : Hp} {v : V} {u : Value}, Inv (cxOf (L2.CX P w) P w K mg base N x sc f cdv A outer s H E) [] σ' H' s' → RelV v u → Q v H' → CE outer P w H s Q u s' :=
    fun {σ' H' v u} J rv q => ⟨v, H', J.os, J.bare, J.base, J.hok, rv, q⟩
  cases fl with
  | ret u =>
    obtain ⟨v, σ', H', J, rv, q⟩ := hs
    exact fin J rv q
  | next =>
    obtain ⟨σ', H', J, q⟩ := hs
    exact fin (v := V.non) (u := Value.none) J rfl q
  | brk =>
    obtain ⟨_, _, _, q⟩ := hs
    exact q.elim
  | cont =>
    obtain ⟨_, _, _, q⟩ := hs
    exact q.elim
/-- level 0: nothing is reckoned -/
theorem fn_zero {tab : List Fd} {i : Nat} {f : Addr} {fd : FuncData} {ps : List Str} : FnG P w K mg base 0 f fd ps (spR K (run tab 0 i) ps.length) :=
  ⟨fun vs H Q E h => h.1, fun A outer s H args us vs Q E hr hg e0 hb r ⟨_, ι, st, ws, z, rs, hf⟩ => hf.elim⟩
end
end Ci
/-! Ci9: the module's constants; the law's end. -/
namespace Ci
open PySem L2 PyProof.Rows

/-! ### constants of the module -/
mutual
def relW (K : PySem.W.Frag) : W → Value → Bool
  | .non, u => match u with | .none => true | _ => false
  | .bl b, u => match u with | .bool c => b == c | _ => false
  | .int i, u => match u with | .int j _ => decide (i = j) | _ => false
  | .str s, u => match u with | .str t _ => decide (s = t) | _ => false
  | .tup ws, u => match u with
    | .ref a => match K.lookup a with
      | some ⟨.type c, _, .seq its _, _⟩ => decide (c = "tuple") && (decide (its.size ≤ sizeLine) && relWs K ws its.toList)
      | _ => false
    | _ => false
  | _, _ => false
def relWs (K : PySem.W.Frag) : List W → List Value → Bool
  | [], us => us.isEmpty
  | w :: ws, us => match us with
    | [] => false
    | u :: us => relW K w u && relWs K ws us
end
mutual
theorem relW_ok {K : PySem.W.Frag} : ∀ {w : W} {u : Value}, relW K w u = true → ∃ v, RelV v u ∧ ∀ H ι, RW K H ι w v
  | .non, u, h => by
    unfold relW at h
    split at h
    · exact ⟨.non, rfl, fun _ _ => .non⟩
    · cases h
  | .bl b, u, h => by
    unfold relW at h
    split at h
    · obtain rfl := beq_iff_eq.mp h
      exact ⟨.bl b, rfl, fun _ _ => .bl b⟩
    · cases h
  | .int i, u, h => by
    unfold relW at h
    split at h
    · rename_i j t
      obtain rfl := of_decide_eq_true h
      exact ⟨.int i, ⟨t, rfl⟩, fun _ _ => .int i⟩
    · cases h
  | .str i, u, h => by
    unfold relW at h
    split at h
    · rename_i j t
      obtain rfl := of_decide_eq_true h
      exact ⟨.str i, ⟨t, rfl⟩, fun _ _ => .str i⟩
    · cases h
  | .tup ws, u, h => by
    unfold relW at h
    split at h
    · rename_i a
      split at h
      · rename_i c d its n sl e
        simp only [Bool.and_eq_true, decide_eq_true_eq] at h
        obtain ⟨h1, h2, h3⟩ := h
        obtain ⟨vs, rv, rs⟩ := relWs_ok h3
        refine ⟨.ref a, rfl, fun H ι => .tup (vs := vs) (.inr (.inr ⟨_, its, n, e, congrArg Value.type h1, rfl, h2, rv⟩)) (rs H ι)⟩
      · cases h
    · cases h
  | .frl ws, u, h => by unfold relW at h; cases h
  | .ref n, u, h => by unfold relW at h; cases h
theorem relWs_ok {K : PySem.W.Frag} : ∀ {ws : List W} {us : List Value}, relWs K ws us = true → ∃ vs, Vals vs us ∧ ∀ H ι, RWs K H ι ws vs
  | [], us, h => by
    unfold relWs at h
    cases us with
    | nil => exact ⟨[], .nil, fun _ _ => .nil⟩
    | cons _ _ => cases h
  | w :: ws, us, h => by
    unfold relWs at h
    split at h
    · cases h
    · rename_i u us
      rw [Bool.and_eq_true] at h
      obtain ⟨v, r1, r2⟩ := relW_ok h.1
      obtain ⟨vs, q1, q2⟩ := relWs_ok h.2
      exact ⟨v :: vs, .cons r1 q1, fun H ι => .cons (r2 H ι) (q2 H ι)⟩
end
def conB (K : PySem.W.Frag) (c : Str × W) : Bool := match PySem.W.nsIn K mainGlobals c.1 with
  | some (some u) => relW K c.2 u
  | _ => false
/-- what is said of a program behind its top -/
abbrev AlC : Type := He.AlD × Bool
def obsC (n : Nat) (fa : List He.Fa) (fn : List He.DefD) (cs : List (Str × W)) (g : Addr → Option Obj) : AlC := (He.obsDG n fa fn g, cs.all fun c => conB (He.frG g (He.asD g n)) c)
def SaysC (fa : List He.Fa) (fn : List He.DefD) (cs : List (Str × W)) (K : PySem.W.Frag) : Prop := He.SaysD fa fn K ∧ (cs.all fun c => conB K c) = true
def hookC (n : Nat) (fa : List He.Fa) (fn : List He.DefD) (cs : List (Str × W)) : PySem.W.Hook where
  α := AlC
  obs := fun s => obsC n fa fn cs s.heap.get?
  val := fun _ => (He.valD fn, true)
  says := fun _ h => ∃ K : PySem.W.Frag, K.In h ∧ SaysC fa fn cs K
  of := fun _ s e => ⟨_, He.frG_in, congrArg (fun z : AlC => z.1) e, congrArg (fun z : AlC => z.2) e⟩
  keeps := fun _ _ _ ⟨K, hK, c⟩ k => ⟨K, PySem.W.Frag.In.keeps hK k, c⟩
theorem obsC_eq {n : Nat} {fa : List He.Fa} {fn : List He.DefD} {cs : List (Str × W)} {g : Addr → Option Obj} {s : Shared} (h : ∀ a, g a = s.heap.get? a) : obsC n fa fn cs g = (hookC n fa fn cs).obs s := by
  have e : g = s.heap.get? := funext h
  rw [e]
  rfl
/-- a constant's place in the module -/
theorem con_ok {fa : List He.Fa} {fn : List He.DefD} {cs : List (Str × W)} {K : PySem.W.Frag} {h : Heap} {mg : Str → Option Value} (c : SaysC fa fn cs K) (X : K.In h) (G : h.Ns mainGlobals mg) (i : Nat) {p : Str × W} (hi : cs[i]? = some p := by rfl) :
    ∃ v u, mg p.1 = some u ∧ RelV v u ∧ ∀ H ι, RW K H ι p.2 v := by
  have b := List.all_eq_true.mp c.2 p (List.mem_of_getElem? hi)
  unfold conB at b
  split at b
  · rename_i u e
    obtain ⟨v, r1, r2⟩ := relW_ok b
    exact ⟨v, u, PySem.W.mg_of X G e, r1, r2⟩
  · cases b

/-! ### the law's end -/
theorem lawG {P : Program} {w : World} {K : PySem.W.Frag} {mg mb : Str → Option Value} {k : Nat} {fa a : Addr} {fd : FuncData} {x : Str} {r : List W → Sto → Res W} {s₁ : Shared} {vs : List Value} {ns : List Int}
    (KX : K.In s₁.heap) (hns : s₁.heap.Ns mainGlobals mg) (hb : s₁.heap.Ns builtinsNs mb) (hbb : ∀ x : Str, x ≠ "__name__" → mb x = bootBuiltins x) (hlim : s₁.heap.NoLimit) (hg : s₁.gens = #[])
    (ha : s₁.heap.get? a = some { cls := .type "list", data := .seq vs.toArray }) (hi : IntsAre vs ns) (hl : ns.length ≤ sizeLine) (hr : Room k callerA)
    (F : ∀ base : Heap, K.In base → base.Ns mainGlobals mg → FnG P w K mg base k fa fd [x] (spR K r 1)) (hbind : ∀ (s : Shared) (u : Value), BindsTo s fd ⟨[u], []⟩ [(x, u)])
    (hlaw : ∃ st, r [.frl (ns.map .int)] [] = .ok (.bl true) st) :
    codeAny (model P w) callerA (.call (.ref fa) ⟨[.ref a], []⟩) (fun r s' => r = .ok (.ret (.bool true)) ∧ OldK s₁.heap s'.heap ∧ s'.os = s₁.os ∧ AllBare s'.gens) s₁ := by
  have rv := L2.vals_ints hi
  have lenV := hi.length
  obtain ⟨stE, eE⟩ := hlaw
  have core : ∀ H : Hp, Only H → SLst K H a (ns.map V.int) → HOk P w H s₁.heap → (∀ b, H b ≠ none → b = a) → (H a ≠ none → K.lookup a = none) →
      codeAny (model P w) callerA (.call (.ref fa) ⟨[.ref a], []⟩) (fun r s' => r = .ok (.ret (.bool true)) ∧ OldK s₁.heap s'.heap ∧ s'.os = s₁.os ∧ AllBare s'.gens) s₁ := by
    intro H hO hS hok hA hK
    have noA : ∀ {b : Addr} {o : Obj} {es : Array DictEntry} {ep : Nat}, s₁.heap.get? b = some o → o.data = .dict es ep → H b = none := fun {b o es ep} e d => by
      cases q : H b with
      | none => rfl
      | some u =>
        have e' : b = a := hA b (by rw [q]; simp)
        subst e'
        rw [ha] at e; cases e
        cases (show Data.seq vs.toArray _ = Data.dict es ep from d)
    have nsK : ∀ {b : Addr} {m : Str → Option Value}, s₁.heap.Ns b m → (hidT s₁.heap H).Ns b m := fun {b m} ⟨o, es, ep, e, d, r⟩ => ⟨o, es, ep, hidT_get e (noA e d), d, r⟩
    have hKb : K.In (hidT s₁.heap H) := fun b o e => hidT_get (KX b o e) (by
      cases q : H b with
      | none => rfl
      | some u =>
        have e' : b = a := hA b (by rw [q]; simp)
        subst e'
        rw [hK (by rw [q]; simp)] at e; cases e)
    have hM : Mod K mg (hidT s₁.heap H) := ⟨hKb, nsK hns, ⟨mb, nsK hb, hbb⟩, let ⟨mc, h1, h2⟩ := hlim; ⟨mc, nsK h1, h2⟩⟩
    have e0 : Env0 P w K mg (hidT s₁.heap H) callerA [] s₁ H := ⟨rfl, hM, fun b o e => of_hidT e, Nat.le_of_eq (hidT_size _ _), trivial, fun b hb => absurd (show b ∈ ([] : List Addr) from hb) (by simp), hok, .of_eq hg⟩
    have hsp : spR K r 1 [.ref a] H (fun v _ => v = .bl true) fun _ _ _ => False := by
      refine ⟨rfl, [], [], [.frl (ns.map .int)], ⟨rfl, fun m n b e => by simp at e, fun n b o e => by simp at e⟩, .cons (.frl hS (RWs.of_ints ns)) .nil, ?_⟩
      rw [eE]
      intro ι' H' _ _ _ v rvv
      cases rvv
      rfl
    refine codeAny_mono ((F _ hKb (nsK hns)).run callerA [] s₁ H ⟨[.ref a], []⟩ [.ref a] [.ref a] _ _ hr rfl e0 (hbind s₁ (.ref a)) (.cons rfl .nil) hsp) fun res s' h => ?_
    cases res with
    | error e => obtain ⟨_, _, _, _, _, _, _, _, _, _, _, _, z⟩ := h; exact z.elim
    | ok fl =>
      cases fl with
      | next => exact h.elim
      | brk => exact h.elim
      | cont => exact h.elim
      | ret u =>
        obtain ⟨v, H', os, bare, un, hok', r', q⟩ := h
        have q' : v = .bl true := q
        subst q'
        obtain rfl : u = Value.bool true := r'
        refine ⟨rfl, OldK.of_keep fun b o e => ?_, os, bare⟩
        cases q : H b with
        | none => exact un.keep b o e q (by intro z; exact absurd (show b ∈ ([] : List Addr) from z) (by simp)) (by simp)
        | some u =>
          rcases hO b with z | ⟨ob, xs, z⟩
          · rw [q] at z; cases z
          · obtain ⟨e1, _⟩ := hok b _ z
            obtain ⟨e2, _⟩ := hok' b _ (un.frzs b ob _ z)
            rw [e] at e1; cases e1
            exact e2
  cases hk : K.lookup a with
  | some o =>
    have e := KX a o hk
    rw [ha] at e
    cases e
    exact core (fun _ => none) (fun _ => .inl rfl) (.inr (.inr ⟨_, vs.toArray, _, hk, rfl, rfl, rfl, by rw [List.size_toArray, lenV]; exact hl, by simpa using rv⟩)) (fun b u z => by cases (show (none : Option HO) = some u from z)) (fun b z => absurd rfl z) fun z => absurd rfl z
  | none =>
    refine core (fun b => if b = a then some (.frz { cls := .type "list", data := .seq vs.toArray } (.lst (ns.map V.int))) else none) (fun b => ?_) (.inl ⟨{ cls := .type "list", data := .seq vs.toArray }, if_pos rfl⟩) (fun b u z => ?_) (fun b z => ?_) fun _ => hk
    · by_cases hb : b = a
      · exact .inr ⟨_, _, if_pos hb⟩
      · exact .inl (if_neg hb)
    · by_cases hb : b = a
      · have z' := (if_pos hb).symm.trans z
        cases z'
        subst hb
        exact ⟨ha, by rw [List.length_map]; exact hl, vs, _, rv, ha⟩
      · have z' := (if_neg hb).symm.trans z
        cases z'
    · by_cases hb : b = a
      · exact hb
      · exact absurd (if_neg hb) z
theorem walkG {l : PySem.W.OpenLaw} {n k : Nat} {q : Program} {loose : List Str} {XP : (Str → Option Value) → Heap → Prop} {YP : World → Heap → Prop} {d : DefRec} {x : Str} {r : List W → Sto → Res W}
    (hn : l.most = some n) (hn2 : n ≤ sizeLine) (hdf : d.params.defaults = []) (hr : Room k callerA)
    (F : ∀ (w : World) (mg : Str → Option Value) (fa : Addr) (h : Heap), YP w h → h.Ns mainGlobals mg → mg d.name = some (.ref fa) →
      ∃ (K : PySem.W.Frag) (fd : FuncData), K.In h ∧ (∀ (s : Shared) (u : Value), BindsTo s fd ⟨[u], []⟩ [(x, u)]) ∧
        ∀ base : Heap, K.In base → base.Ns mainGlobals mg → FnG l.prog w K mg base k fa fd [x] (spR K r 1))
    (hlaw : ∀ ns : List Int, ns.length ≤ n → ∃ st, r [.frl (ns.map .int)] [] = .ok (.bl true) st) :
    PySem.W.WalkO q loose XP YP l.row.toRowW d [] (fun f vs => PySem.call f vs) := by
  refine Att.attach_call hn hdf fun w s₀ s₁ mg mb fa o pm cd doc a vs ns G Y ho hd hcd hmg hobj hints hlen hg => ?_
  obtain ⟨K, fd, KX, hb, hF⟩ := F w mg fa _ Y G.T.g hmg
  exact lawG KX G.T.g G.T.b G.T.builtins G.T.nolimit hg hobj hints (Nat.le_trans hlen hn2) hr hF hb (hlaw ns hlen)
end Ci
/-! Ci10: further rules: stores, keywords, isinstance, displays, enumerate, zip. -/
namespace Ci
open PySem L2 PyProof.Rows

def Es.app : Es → Es → Es
  | .nil, b => b
  | .cons c cs, b => .cons c (cs.app b)
theorem evs_app {cl : Cl} {en : En} {b : Es} : ∀ {a : Es} {st : Sto}, evs cl (a.app b) en st = (evs cl a en st).bind fun xs st1 => (evs cl b en st1).bind fun ys st2 => .ok (xs ++ ys) st2
  | .nil, st => by
    show evs cl b en st = (evs cl b en st).bind fun ys st2 => .ok ([] ++ ys) st2
    cases evs cl b en st <;> rfl
  | .cons c cs, st => by
    show ((ev cl c en st).bind fun x st1 => (evs cl (cs.app b) en st1).bind fun xs st2 => .ok (x :: xs) st2) = (((ev cl c en st).bind fun x st1 => (evs cl cs en st1).bind fun xs st2 => .ok (x :: xs) st2)).bind fun xs st1 => (evs cl b en st1).bind fun ys st2 => .ok (xs ++ ys) st2
    rw [Res.assoc]
    congr 1
    funext x st1
    rw [evs_app, Res.assoc, Res.assoc]
    congr 1
    funext xs st2
    show (((evs cl b en st2).bind fun ys st2 => .ok (xs ++ ys) st2)).bind (fun xs st2 => .ok (x :: xs) st2) = (evs cl b en st2).bind fun ys st2 => .ok (x :: xs ++ ys) st2
    rw [Res.assoc]
    rfl
section
variable {Z : Cz} {x : Str} {p pos : Pos} {e : Expr} {es : List Expr} {cs ck : Es} {kws : List Keyword}
/-- what a call with keywords binds -/
def KwOk (x : Str) (ps ks : List Str) (pm : List Nat) (n m : Nat) (a : Arguments) (b : List Stmt) (sc : Scope) : Prop :=
  ∀ (kV doc pm' : Value) (an : Option Addr) (cdv ct : Value) (us ws : List Value), us.length = n → ws.length = m → ∃ zs, pm.mapM (fun i => (us ++ ws)[i]?) = some zs ∧ zs.length = ps.length ∧ bindArgs (PySem.W.fnOf x x a b sc .none kV doc pm' an cdv ct) ⟨us, ks.zip ws⟩ = pure (ps.zip zs)
theorem kw_fin {σ : L2.St} {H : Hp} {ι : List Addr} {st : Sto} {ws zs : List W} {vs us : List V} {Q : VK} {i : Nat} {ps : List Str} {pm : List Nat} (z : HRel Z.X.K H ι st) (r1 : RWs Z.X.K H ι ws vs) (r2 : RWs Z.X.K H ι zs us)
    (q : Fin Z.X.K (fun c d H' => Z.x c d σ H') ι H (callK Z.cl i (some pm) (ws ++ zs) st) fun w ι' _ H' => ∀ v, RW Z.X.K H' ι' w v → Q v H') (hp : pm.length = ps.length) :
    ∃ tv, pm.mapM (fun i => (vs ++ us)[i]?) = some tv ∧ spR Z.X.K (Z.cl i) ps.length tv H Q fun c d H' => Z.x c d σ H' := by
  unfold callK permW at q
  simp only at q
  split at q
  · rename_i ts e
    obtain ⟨tv, e1, r3⟩ := permW_get (r1.app r2) e
    have len : ∀ {α : Type} {f : Nat → Option α} {l : List Nat} {r : List α}, l.mapM f = some r → r.length = l.length := by
      intro α f l
      induction l with
      | nil => intro r h; cases h; rfl
      | cons a l ih =>
        intro r h
        rw [List.mapM_cons] at h
        obtain ⟨z, _, h⟩ := Option.bind_eq_some_iff.mp h
        obtain ⟨zs, h2, h⟩ := Option.bind_eq_some_iff.mp h
        cases h
        exact congrArg (· + 1) (ih h2)
    exact ⟨tv, e1, call_fin z r3 (by rw [len e1, hp]) q⟩
  · exact q.elim
theorem w_callK (i : Nat) {ps ks : List Str} {pm : List Nat} {a : Arguments} {b : List Stmt} {sc : Scope} (ok : Z.Ok) (c : Callee Z x i ps a b sc) (hg : Gl Z.X x) (ha : SA Z (e :: es) cs) (hk : SK Z kws ck) (hb : KwOk x ps ks pm cs.n ck.n a b sc) (hp : pm.length = ps.length := by rfl)
    (hall : (backToKw pos (keywordEach kws Z.X.env)).all (·.1.isSome) = true := by rfl) (hks : (backToKw pos (keywordEach kws Z.X.env)).filterMap (·.1) = ks := by rfl)
    (hdb : (x == ("__debug__" : Str)) = false := by decide) (he : starEach (e :: es) Z.X.env = (false, eval e Z.X.env) :: starEach es Z.X.env := by rfl)
    (hpl : ((backTo pos (starEach (e :: es) Z.X.env)).any (·.1) || (backToKw pos (keywordEach kws Z.X.env)).any (·.1.isNone)) = false := by rfl) :
    SE Z (.Call (.Name x p) (e :: es) kws pos) (.call i (some pm) (cs.app ck)) := by
  obtain ⟨f, fd, k, hm, F, hr, G⟩ := c.ex
  refine ⟨fun pins s σ H Q I h => ?_⟩
  obtain ⟨ι, en, st, r, hf⟩ := h
  have hf : Fin Z.X.K (fun c d H' => Z.x c d σ H') ι H ((evs Z.cl (cs.app ck) en st).bind (callK Z.cl i (some pm))) (fun w ι' _ H' => ∀ v, RW Z.X.K H' ι' w v → Q v H') := hf
  rw [evs_app, Res.assoc] at hf
  have ta : tEs Z cs σ H fun vs H1 => vs.length = cs.n ∧ tEs Z ck σ H1 fun us H2 => us.length = ck.n ∧ ∃ tv, pm.mapM (fun i => (vs ++ us)[i]?) = some tv ∧ spR Z.X.K (Z.cl i) ps.length tv H2 Q fun c d H' => Z.x c d σ H' := by
    refine ⟨ι, en, st, r, (Fin.len (Fin.split hf)).mono fun ws ι' st' H' p t z q vs rs => ⟨by rw [← rs.len, q.1], ?_⟩⟩
    have q2 := q.2
    rw [Res.assoc] at q2
    refine ⟨ι', en, st', r.keep t p z, (Fin.len (Fin.split q2)).mono fun zs ι2 st2 H2 p2 t2 z2 q3 us rs2 => ⟨by rw [← rs2.len, q3.1], ?_⟩⟩
    exact kw_fin z2 (rs.keep t2 p2) rs2 q3.2 hp
  refine wpAny_Call_Name_kw (ld_glob I hg hm ?_ hdb)
  refine PySem.W.callWith_KW (h₀ := Z.X.base) I.ok.mod.kin F.kp hall (thn (ha.run pos pins s σ H _ I ta) fun us s1 ⟨vs, H1, I1, rv, l1, q⟩ => ?_) hpl he
  refine thn (hk.run pos pins s1 σ H1 _ I1 q) fun ws s2 ⟨zv, H2, I2, rz, l2, tv, e2, q2⟩ => ⟨I2.kIn, ?_⟩
  rw [hks]
  obtain ⟨ts, e3, rt⟩ := vals_perm (rv.append rz) e2
  refine wpAny_call (codeAny_mono (run_g (args := ⟨us, ks.zip ws⟩) ok G hr I2 (fun hl => ?_) rt q2) fun res s' hq => ?_)
  · obtain ⟨oc, od, dV, kV, doc, pm', an, cdv, ct, osl, rfl, lk, hcd, hD, hK⟩ := F.ex
    rcases hD with ⟨_, rfl⟩ | ⟨ne, _⟩
    · obtain ⟨zs, h1, h2, h3⟩ := hb kV doc pm' an cdv ct us ws (by rw [← rv.length, l1]) (by rw [← rz.length, l2])
      rw [h1] at e3
      cases e3
      exact .of_eq h3
    · exact absurd rfl ne
  · cases res with
    | error er => exact hq
    | ok fl => cases fl <;> exact hq
theorem w_callK0 (i : Nat) {ps ks : List Str} {pm : List Nat} {a : Arguments} {b : List Stmt} {sc : Scope} (ok : Z.Ok) (c : Callee Z x i ps a b sc) (hg : Gl Z.X x) (hk : SK Z kws ck) (hb : KwOk x ps ks pm 0 ck.n a b sc) (hp : pm.length = ps.length := by rfl)
    (hall : (backToKw pos (keywordEach kws Z.X.env)).all (·.1.isSome) = true := by rfl) (hks : (backToKw pos (keywordEach kws Z.X.env)).filterMap (·.1) = ks := by rfl)
    (hdb : (x == ("__debug__" : Str)) = false := by decide)
    (hpl : ((backTo pos (starEach [] Z.X.env)).any (·.1) || (backToKw pos (keywordEach kws Z.X.env)).any (·.1.isNone)) = false := by rfl) :
    SE Z (.Call (.Name x p) [] kws pos) (.call i (some pm) ck) := by
  obtain ⟨f, fd, k, hm, F, hr, G⟩ := c.ex
  refine ⟨fun pins s σ H Q I h => ?_⟩
  obtain ⟨ι, en, st, r, hf⟩ := h
  have hf : Fin Z.X.K (fun c d H' => Z.x c d σ H') ι H ((evs Z.cl ck en st).bind (callK Z.cl i (some pm))) (fun w ι' _ H' => ∀ v, RW Z.X.K H' ι' w v → Q v H') := hf
  have ta : tEs Z ck σ H fun us H2 => us.length = ck.n ∧ ∃ tv, pm.mapM (fun i => ([] ++ us)[i]?) = some tv ∧ spR Z.X.K (Z.cl i) ps.length tv H2 Q fun c d H' => Z.x c d σ H' := by
    refine ⟨ι, en, st, r, (Fin.len (Fin.split hf)).mono fun zs ι2 st2 H2 p2 t2 z2 q3 us rs2 => ⟨by rw [← rs2.len, q3.1], ?_⟩⟩
    exact kw_fin (ws := []) z2 .nil rs2 q3.2 hp
  refine wpAny_Call_Name_kw (ld_glob I hg hm ?_ hdb)
  refine PySem.W.callWith_KW0 (h₀ := Z.X.base) I.ok.mod.kin F.kp hall (thn (hk.run pos pins s σ H _ I ta) fun ws s2 ⟨zv, H2, I2, rz, l2, tv, e2, q2⟩ => ⟨I2.kIn, ?_⟩) hpl
  rw [hks]
  obtain ⟨ts, e3, rt⟩ := vals_perm (us := [] ++ ws) rz e2
  refine wpAny_call (codeAny_mono (run_g (args := ⟨[], ks.zip ws⟩) ok G hr I2 (fun hl => ?_) rt q2) fun res s' hq => ?_)
  · obtain ⟨oc, od, dV, kV, doc, pm', an, cdv, ct, osl, rfl, lk, hcd, hD, hK⟩ := F.ex
    rcases hD with ⟨_, rfl⟩ | ⟨ne, _⟩
    · obtain ⟨zs, h1, h2, h3⟩ := hb kV doc pm' an cdv ct [] ws rfl (by rw [← rz.length, l2])
      rw [h1] at e3
      cases e3
      exact .of_eq h3
    · exact absurd rfl ne
  · cases res with
    | error er => exact hq
    | ok fl => cases fl <;> exact hq

/-! ### o[i] = e -/
theorem putL_rel {K : PySem.W.Frag} {H : Hp} {ι : List Addr} {k : Key} {w : W} {v : V} (h : RW K H ι w v) {ws : List (Key × W)} {vs : List (Key × V)} (r : RKv K H ι ws vs) : RKv K H ι (dputL k w ws) (putK vs k v) := by
  have any : (ws.any fun q => decide (q.1 = k)) = vs.any fun q => decide (q.1 = k) := by
    induction r with
    | nil => rfl
    | cons _ _ ih => rw [List.any_cons, List.any_cons, ih]
  have m : ∀ {ws : List (Key × W)} {vs : List (Key × V)}, RKv K H ι ws vs → RKv K H ι (ws.map fun q => if q.1 = k then (q.1, w) else q) (vs.map fun kv => if kv.1 = k then (kv.1, v) else kv) := by
    intro ws vs r
    induction r with
    | nil => exact .nil
    | @cons j z u ws vs a t ih =>
      rw [List.map_cons, List.map_cons]
      by_cases e : j = k
      · simp only [e, if_true]
        exact .cons h ih
      · simp only [e, if_false]
        exact .cons a ih
  have ap : ∀ {ws : List (Key × W)} {vs : List (Key × V)}, RKv K H ι ws vs → RKv K H ι (ws ++ [(k, w)]) (vs ++ [(k, v)]) := by
    intro ws vs r
    induction r with
    | nil => exact .cons h .nil
    | cons a t ih => exact .cons a ih
  unfold dputL putK
  rw [any]
  split
  · exact m r
  · exact ap r
def rSetW (K : PySem.W.Frag) : V → V → V → Hp → (Hp → Prop) → Prop := fun o i v H Q => ∃ ι st x y w st', HRel K H ι st ∧ RW K H ι x o ∧ RW K H ι y i ∧ RW K H ι w v ∧ setI x y w st = some st' ∧ ∀ H', TK H H' → HRel K H' ι st' → Q H'
theorem pset_w (hu : Z.X.A.units + 65 < cLine) : PSet Z.X (rSetW Z.X.K) := by
  intro pins s σ H o i v ov iv u Q I ro ri rv h
  obtain ⟨ι, st, x, y, w, st', z, rx, ry, rw', e, k⟩ := h
  cases x with
  | ref n =>
    unfold setI at e
    simp only at e
    split at e
    · rename_i ws e1
      obtain ⟨pa, rfl, hp, vs, h1, r1⟩ := rx.own z e1
      cases y with
      | int j =>
        cases ry
        simp only at e
        obtain ⟨m, e2, rfl⟩ := Option.map_eq_some_iff.mp e
        have mu : Mut (H pa) := by rw [h1]; exact True.intro
        exact set_list pins s σ H _ _ v ov iv u Q I ro ri rv ⟨pa, vs, j, m, rfl, rfl, h1, by rw [← r1.len]; exact e2, k _ (TK.mut mu) (z.set hp mu ⟨_, upd_same, (r1.set rw' m).keep (TK.mut mu) (Pre.refl _)⟩)⟩
      | _ => cases e
    · rename_i kvs e1
      obtain ⟨pa, rfl, hp, vs, h1, r1⟩ := rx.own z e1
      obtain ⟨ky, ek, e⟩ := Option.bind_eq_some_iff.mp e
      split at e
      · rename_i hl
        cases e
        have ei := keyOf_rel ry ek
        subst ei
        cases ro
        have mu : Mut (H pa) := by rw [h1]; exact True.intro
        refine d_setItem (H' := upd H pa (.dK (putK vs ky v))) (by omega) I (DPut.k h1 (by rw [← r1.len]; exact hl)) ri rv fun s' I' => ⟨_, I', ?_⟩
        exact k _ (TK.mut mu) (z.set hp mu ⟨_, upd_same, (putL_rel rw' r1).keep (TK.mut mu) (Pre.refl _)⟩)
      · cases e
    · cases e
  | _ => cases e
theorem s_sto {A : Nat → Bool} {o i e : Expr} {co ci ce : E} {tpos : Pos} (ok : Z.Ok) (ho : SE Z o co) (hi : SE Z i ci) (he : SE Z e ce)
    (ha : ∀ v, assign (.Subscript o i tpos) Z.X.env v = (do
      let ov ← holding [v] (eval o Z.X.env)
      let iv ← holding [v, ov] (eval i Z.X.env)
      standAt tpos
      holding [v, ov, iv] (setItem ov iv v)
      release [v, ov, iv] []) := by intro _; rfl)
    (hs : swapsWithSole [.Subscript o i tpos] e pos.line Z.X.env = pure false := by rfl) (hw : swappedStores [.Subscript o i tpos] e Z.X.env = pure none := by rfl)
    (h1 : (assignEach [.Subscript o i tpos] Z.X.env).map (·.2) = [assign (.Subscript o i tpos) Z.X.env] := by rfl) : SS Z A (.Assign [.Subscript o i tpos] e pos) (.sto co ci ce) := by
  refine ps_imp (ps_asg he (pg_sub ho hi (pset_w ok.hu) ha) hs hw h1) fun D σ H h => ?_
  refine bindS (g := fun v en st1 => (ev Z.cl co en st1).bind fun x st2 => (ev Z.cl ci en st2).bind fun y st3 => stoK en v x y st3) h fun w v ι en st H1 r r1 q => ?_
  refine ⟨ι, en, st, r, (own_wish (Fin.split q)).mono fun x ι2 st2 H2 p2 t2 z2 q2 xv rx => ?_⟩
  refine ⟨ι2, en, st2, r.keep t2 p2 z2, (own_wish (Fin.split q2)).mono fun y ι3 st3 H3 p3 t3 z3 q3 yv ry => ?_⟩
  unfold stoK at q3
  split at q3
  · rename_i st4 e4
    exact ⟨ι3, st3, x, y, w, st4, z3, rx.keep t3 p3, ry, (r1.keep t2 p2).keep t3 p3, e4, fun H' tk z' => q3 ι3 H' (Pre.refl _) tk z' σ (Agree.refl A σ) (((r.keep t2 p2 z2).keep t3 p3 z3).keep tk (Pre.refl _) z')⟩
  · exact q3.elim
/-! ### x += e -/
theorem s_aug {A : Nat → Bool} (i : Nat) {y : Str} {e : Expr} {c : E} {p' : Pos} (nd : Z.X.N.Nodup) (h : SE Z e c) (hA : A i = true := by rfl) (hi : Z.X.N[i]? = some y := by rfl) (hx : Loc Z.X.env.scope y := by first | exact Or.inl rfl | exact Or.inr rfl)
    (hf : Z.X.fn y = true ∨ Z.X.env.scope.names.lookup y = some .local := by first | exact .inl rfl | exact .inr rfl | assumption) : SS Z A (.AugAssign (.Name y p') .Add e pos) (.aug i .add c) := by
  refine ps_imp (ps_aug nd hi hx h (op := .Add) (ti := rI0 fun i j => .int (i + j)) (fun pins s σ H x y v u Q I r1 r2 q => iop_add pins s σ H x y v u Q I r1 r2 q) hf) fun D σ H h => ?_
  obtain ⟨ι, en, st, r, hf⟩ := h
  have hf : Fin Z.X.K (fun c d H' => ∀ σ', Agree A σ σ' → Z.x c d σ' H') ι H (varK en[i]? fun x => (ev Z.cl c en st).bind (augK i .add en x)) (outK Z.X.K D A σ) := hf
  unfold varK at hf
  split at hf
  · rename_i w e1
    obtain ⟨v, ev1, rv⟩ := r.en i w e1
    refine ⟨v, ev1, ?_⟩
    refine bindS (g := fun b en st => augK i .add en w b st) ⟨ι, en, st, r, hf⟩ fun wb vb ι2 en2 st2 H2 r2 rb q => ?_
    unfold augK at q
    cases w with
    | int a =>
      cases wb with
      | int b =>
        cases rv
        cases rb
        exact ⟨a, b, rfl, rfl, q.now r2.hr _ (agree_set hA σ) (r2.set (.int _))⟩
      | _ => exact q.elim
    | _ => cases wb <;> exact q.elim
  · exact hf.elim

/-! ### isinstance(x, T) -/
def rIsi (K : PySem.W.Frag) (ts : List String) : List V → Hp → VK → Prop := fun xs H Q => ∃ ι st w v T, xs = [v, .ty T] ∧ ts = [T] ∧ HRel K H ι st ∧ RW K H ι w v ∧ ∃ t, tyOf st w = some t ∧ Q (.bl (isTy t T)) H
theorem cr_isi {T : String} (hk : ∀ t ∈ ["NoneType", "bool", "int", "str", "tuple", "list", "dict"], PySem.W.kitOne Z.X.K (.type t) (.type T) = some (isTy t T)) : CallR Z.X (.builtin "isinstance") (rIsi Z.X.K [T]) := by
  intro pins s σ H xs us Q I r h
  obtain ⟨ι, st, w, v, T', rfl, e, z, rw', t, et, q⟩ := h
  cases e
  cases r with
  | cons r1 r2 =>
    cases r2 with
    | cons r3 r4 =>
      cases r4
      cases r3
      have mem : t ∈ ["NoneType", "bool", "int", "str", "tuple", "list", "dict"] := by
        cases w <;> first | (cases et; decide) | (unfold tyOf at et; simp only at et; split at et <;> first | (cases et; decide) | cases et)
      exact isi_ok (K := Z.X.K) I z rw' et r1 (hk t mem) fun tk => ⟨.bl _, H, I.tok _, rfl, q⟩
theorem w_isi {T : String} {a : Expr} {ca : E} {p p2 : Pos} {y : Str} (h : SE Z a ca) (hg : Gl Z.X "isinstance") (hm : Z.X.mg "isinstance" = none) (hg2 : Gl Z.X y) (hm2 : Z.X.mg y = none) (hv2 : bootBuiltins y = some (.type T))
    (hk : ∀ t ∈ ["NoneType", "bool", "int", "str", "tuple", "list", "dict"], PySem.W.kitOne Z.X.K (.type t) (.type T) = some (isTy t T)) (hn : y ≠ "__name__" := by decide) (hd : (y == ("__debug__" : Str)) = false := by decide)
    (he : starEach [a, .Name y p2] Z.X.env = (false, eval a Z.X.env) :: starEach [.Name y p2] Z.X.env := by rfl) (he2 : starEach [.Name y p2] Z.X.env = (false, eval (.Name y p2) Z.X.env) :: starEach [] Z.X.env := by rfl) (hpl : (backTo pos (starEach [.Name y p2] Z.X.env)).any (·.1) = false := by rfl) :
    SE Z (.Call (.Name "isinstance" p) [a, .Name y p2] [] pos) (.isi [T] ca) := by
  refine pe_imp (pe_callB (cr_isi hk) hg hm (by decide +kernel) (pa_cons h (pa_cons (pe_bltn (v := .ty T) hg2 hm2 hv2 rfl hn hd) pa_nil he2) he) (by decide) (by decide) he hpl) fun σ H Q h => ?_
  refine bindE (g := fun x _ st => isiK [T] x st) h fun w v ι en st H1 r r1 q => ?_
  unfold isiK at q
  split at q
  · rename_i t e
    refine ⟨ι, st, w, v, T, rfl, rfl, r.hr, r1, t, e, ?_⟩
    have := q.now r.hr _ (.bl _)
    simpa using this
  · exact q.elim
/-! ### list(range(..)) -/
theorem w_lrg1 {a : Expr} {ca : E} {p p2 lp : Pos} (ok : Z.Ok) (h : SE Z a ca) (hg : Gl Z.X "list") (hm : Z.X.mg "list" = none) (hg2 : Gl Z.X "range") (hm2 : Z.X.mg "range" = none) (na : starEach [a] Z.X.env = (false, eval a Z.X.env) :: starEach [] Z.X.env := by rfl)
    (nb : starEach [.Call (.Name "range" p2) [a] [] lp] Z.X.env = (false, eval (.Call (.Name "range" p2) [a] [] lp) Z.X.env) :: starEach [] Z.X.env := by rfl) : SE Z (.Call (.Name "list" p) [.Call (.Name "range" p2) [a] [] lp] [] pos) (.lrg (.cons ca .nil)) := by
  refine pe_imp (pe_listRg ok.calm hg hm (prg_1 hg2 hm2 h na) nb) fun σ H Q h => ?_
  obtain ⟨ι, en, st, r, hf⟩ := h
  have hf : Fin Z.X.K (fun c d H' => Z.x c d σ H') ι H (((ev Z.cl ca en st).bind fun x st1 => (Res.ok [x] st1)).bind lrgK) _ := hf
  rw [Res.assoc] at hf
  refine bindE (g := fun x _ st => lrgK [x] st) ⟨ι, en, st, r, hf⟩ fun w v ι en st H1 r r1 q => ?_
  unfold lrgK at q
  cases w with
  | int b =>
    cases r1
    unfold rngOf at q
    simp only at q
    split at q
    · rename_i a' b' e
      split at e
      · rename_i hb
        cases e
        have hb := of_decide_eq_true hb
        split at q
        · rename_i hl
          refine ⟨b, rfl, ⟨hb.1, hb.2.1, hb.2.2.1, hb.2.2.2, hl⟩, ?_⟩
          have rs : RWs Z.X.K H1 ι (rngW 0 b) (rgV 0 b) := by
            unfold rngW rgV
            generalize List.range (b - 0).toNat = l
            induction l with
            | nil => exact .nil
            | cons i l ih => exact .cons (.int _) ih
          exact FinO.new (ws := rngW 0 b) (fun ι' H' v a b c d => q ι' H' a b c v d) r.hr rs
        · exact q.elim
      · cases e
    · exact q.elim
  | _ => exact q.elim
theorem rg_rel {K : PySem.W.Frag} {H : Hp} {ι : List Addr} (a b : Int) : RWs K H ι (rngW a b) (rgV a b) := by
  unfold rngW rgV
  generalize List.range (b - a).toNat = l
  induction l with
  | nil => exact .nil
  | cons i l ih => exact .cons (.int _) ih
theorem w_lrg2 {a b : Expr} {ca cb : E} {p p2 lp : Pos} (ok : Z.Ok) (h : SE Z a ca) (h' : SE Z b cb) (hg : Gl Z.X "list") (hm : Z.X.mg "list" = none) (hg2 : Gl Z.X "range") (hm2 : Z.X.mg "range" = none) (na : starEach [a, b] Z.X.env = (false, eval a Z.X.env) :: starEach [b] Z.X.env := by rfl) (na2 : starEach [b] Z.X.env = (false, eval b Z.X.env) :: starEach [] Z.X.env := by rfl)
    (nb : starEach [.Call (.Name "range" p2) [a, b] [] lp] Z.X.env = (false, eval (.Call (.Name "range" p2) [a, b] [] lp) Z.X.env) :: starEach [] Z.X.env := by rfl) (hp : ((backTo lp (starEach [b] Z.X.env)).any fun x => x.1) = false := by rfl) : SE Z (.Call (.Name "list" p) [.Call (.Name "range" p2) [a, b] [] lp] [] pos) (.lrg (.cons ca (.cons cb .nil))) := by
  refine pe_imp (pe_listRg ok.calm hg hm (prg_2 hg2 hm2 h h' na na2 hp) nb) fun σ H Q h => ?_
  obtain ⟨ι, en, st, r, hf⟩ := h
  have hf : Fin Z.X.K (fun c d H' => Z.x c d σ H') ι H (((ev Z.cl ca en st).bind fun x st1 => ((ev Z.cl cb en st1).bind fun y st2 => Res.ok [y] st2).bind fun xs st2 => Res.ok (x :: xs) st2).bind lrgK) _ := hf
  rw [Res.assoc] at hf
  refine bindE (g := fun x en st1 => (((ev Z.cl cb en st1).bind fun y st2 => Res.ok [y] st2).bind fun xs st2 => Res.ok (x :: xs) st2).bind lrgK) ⟨ι, en, st, r, hf⟩ fun w v ι en st H1 r r1 q => ?_
  rw [Res.assoc, Res.assoc] at q
  refine ⟨ι, en, st, r, (Fin.split q).mono fun w2 ι2 st2 H2 p2 t2 z2 q v2 r2 => ?_⟩
  have q : Fin Z.X.K (fun c d H' => Z.x c d σ H') ι2 H2 (lrgK [w, w2] st2) _ := q
  unfold lrgK at q
  cases w with
  | int i =>
    cases w2 with
    | int j =>
      cases r1
      cases r2
      unfold rngOf at q
      simp only at q
      split at q
      · rename_i a' b' e
        split at e
        · rename_i hb
          cases e
          have hb := of_decide_eq_true hb
          split at q
          · rename_i hl
            exact ⟨_, _, rfl, rfl, ⟨hb.1, hb.2.1, hb.2.2.1, hb.2.2.2, hl⟩, FinO.new (ws := rngW i j) (fun ι' H' v a b c d => q ι' H' a b c v d) z2 (rg_rel _ _)⟩
          · exact q.elim
        · cases e
      · exact q.elim
    | _ => exact q.elim
  | _ => cases w2 <;> exact q.elim

/-! ### enumerate, zip -/
/-- a list that is walked, alone -/
theorem get_lst {K : PySem.W.Frag} {H : Hp} {ι : List Addr} {st : Sto} {w : W} {v : V} {s : Src} (z : HRel K H ι st) (r : RW K H ι w v) (e : srcOf st w = some s) (el : (lstOf st w).isSome = true) :
    ∃ a vs, v = .ref a ∧ SqL K H a vs ∧ ∀ (ι' : List Addr) (H' : Hp) (st' : Sto) (i : Nat), Pre ι ι' → TK H H' → HRel K H' ι' st' → match s.get st' i with
      | none => True
      | some none => ∃ xs, SqL K H' a xs ∧ xs.length ≤ i
      | some (some w) => ∃ xs x, SqL K H' a xs ∧ xs[i]? = some x ∧ RW K H' ι' w x := by
  have core : ∀ {a : Addr} {s : Src}, SrcOk K H ι s (Itl K a) → ∀ (ι' : List Addr) (H' : Hp) (st' : Sto) (i : Nat), Pre ι ι' → TK H H' → HRel K H' ι' st' → match s.get st' i with
      | none => True
      | some none => ∃ xs, SqL K H' a xs ∧ xs.length ≤ i
      | some (some w) => ∃ xs x, SqL K H' a xs ∧ xs[i]? = some x ∧ True := by
    intro a s h ι' H' st' i p t z'
    have q := h ι' H' st' i p t z'
    cases eg : s.get st' i with
    | none => exact True.intro
    | some o =>
      rw [eg] at q
      cases o with
      | none => exact q
      | some w => obtain ⟨⟨xs, x, h1, h2⟩, _⟩ := q; exact ⟨xs, x, h1, h2, True.intro⟩
  cases r with
  | frl h r =>
    cases e
    refine ⟨_, _, rfl, h.sq, fun ι' H' st' i p t z' => ?_⟩
    rename_i ws vs a
    show (match some ws[i]? with | none => True | some none => _ | some (some w) => _)
    cases eg : ws[i]? with
    | none => exact ⟨vs, (h.keep t).sq, by rw [← r.len]; exact List.getElem?_eq_none_iff.mp eg⟩
    | some w =>
      obtain ⟨v, ev, rv⟩ := r.get eg
      exact ⟨vs, v, (h.keep t).sq, ev, rv.keep t p⟩
  | @ref n a h =>
    obtain ⟨o, eo, ro⟩ := z.at h
    unfold srcOf at e
    simp only [eo] at e
    cases o with
    | dct _ => cases e
    | fdc _ => cases e
    | lst us =>
      cases e
      obtain ⟨vs, q1, q2⟩ := ro
      refine ⟨a, vs, rfl, SqL.of q1, fun ι' H' st' i p t z' => ?_⟩
      obtain ⟨o', eo', ro'⟩ := z'.at (p n a h)
      show (match (match st'[n]? with | some (.lst ws) => some ws[i]? | _ => none) with | none => True | some none => _ | some (some w) => _)
      rw [eo']
      cases o' with
      | dct _ => exact True.intro
      | fdc _ => exact True.intro
      | lst ws =>
        obtain ⟨vs', h1, h2⟩ := ro'
        show (match some ws[i]? with | none => True | some none => _ | some (some w) => _)
        cases eg : ws[i]? with
        | none => exact ⟨vs', SqL.of h1, by rw [← h2.len]; exact List.getElem?_eq_none_iff.mp eg⟩
        | some w =>
          obtain ⟨v, ev, rv⟩ := h2.get eg
          exact ⟨vs', v, SqL.of h1, ev, rv⟩
  | _ => cases el
theorem pair_new {K : PySem.W.Frag} {H : Hp} {ι : List Addr} {st : Sto} {T : Addr} {x y : V} {w u : W} (z : HRel K H ι st) (hT : H T = none) (rx : RW K H ι w x) (ry : RW K H ι u y) :
    TK H (upd H T (.tup [x, y])) ∧ HRel K (upd H T (.tup [x, y])) ι st ∧ RW K (upd H T (.tup [x, y])) ι (.tup [w, u]) (.ref T) := by
  have tk : TK H (upd H T (.tup [x, y])) := TK.new hT
  refine ⟨tk, ⟨z.len, z.inj, fun n a o e1 e2 => (z.ob n a o e1 e2).keep tk (Pre.refl ι) (upd_ne fun q => z.fresh hT n (by rw [e1, q]))⟩, .tup (.inl upd_same) (.cons (rx.keep tk (Pre.refl ι)) (.cons (ry.keep tk (Pre.refl ι)) .nil))⟩
theorem i_enum {tgs : List Expr} {kk : Nat} {tpos : Pos} {c : E} (h : SE Z e c) (hg : Gl Z.X "enumerate") (hm : Z.X.mg "enumerate" = none) (hs : starEach [e] Z.X.env = [(false, eval e Z.X.env)] := by rfl) :
    SI Z (.Tuple tgs kk tpos) (.Call (.Name "enumerate" p) [e] [] pos) (.enum c) := by
  refine pi_imp (pi_enum hg hm (pa_cons h pa_nil (by rw [hs]; rfl)) hs) fun σ H R hi => ?_
  obtain ⟨ι, en, st, r, hf⟩ := hi
  refine bindE (g := fun x _ st => srcEK x st) ⟨ι, en, st, r, hf⟩ fun w v ι en st H1 r r1 q => ?_
  unfold srcEK at q
  split at q
  · rename_i s e1
    split at q
    · rename_i el
      obtain ⟨a, vs, rfl, h1, k⟩ := get_lst r.hr r1 e1 el
      refine ⟨a, vs, rfl, h1, q.now r.hr _ fun ι' H' st' i p t z' => ?_⟩
      have kk := k ι' H' st' i p t z'
      show (match (match s.get st' i with
        | some (some w) => some (some (W.tup [.int (i : Nat), w]))
        | some none => some none
        | none => none) with | none => True | some none => _ | some (some w) => _)
      cases eg : s.get st' i with
      | none => exact True.intro
      | some o =>
        rw [eg] at kk
        cases o with
        | none => exact kk
        | some w' =>
          obtain ⟨xs, x, k1, k2, k3⟩ := kk
          refine ⟨⟨xs, x, k1, k2⟩, fun v' H'' y => ?_⟩
          obtain ⟨T, x', rfl, hT, rfl, y4⟩ := y
          have := y4 xs k1
          rw [k2] at this
          cases this
          exact pair_new z' hT (.int _) k3
    · exact q.elim
  · exact q.elim
theorem i_zip {e2 : Expr} {tgs : List Expr} {kk : Nat} {tpos : Pos} {c c2 : E} (h : SE Z e c) (h2 : SE Z e2 c2) (hg : Gl Z.X "zip") (hm : Z.X.mg "zip" = none)
    (hs : starEach [e, e2] Z.X.env = (false, eval e Z.X.env) :: starEach [e2] Z.X.env := by rfl) (hs2 : starEach [e2] Z.X.env = (false, eval e2 Z.X.env) :: starEach [] Z.X.env := by rfl) (hpl : (backTo pos (starEach [e2] Z.X.env)).any (·.1) = false := by rfl) :
    SI Z (.Tuple tgs kk tpos) (.Call (.Name "zip" p) [e, e2] [] pos) (.zip c c2) := by
  refine pi_imp (pi_zip hg hm (pa_cons h (pa_cons h2 pa_nil hs2) hs) hs hpl) fun σ H R hi => ?_
  obtain ⟨ι, en, st, r, hf⟩ := hi
  refine bindE (g := fun x en st1 => (ev Z.cl c2 en st1).bind fun y st2 => src2K x y st2) ⟨ι, en, st, r, hf⟩ fun w v ι en st H1 r r1 q => ?_
  refine ⟨ι, en, st, r, (Fin.split q).mono fun w2 ι2 st2 H2 p2 t2 z2 q v2 r2 => ?_⟩
  have r1 := r1.keep t2 p2
  unfold src2K at q
  split at q
  · rename_i s t e1 e2
    split at q
    · rename_i el
      rw [Bool.and_eq_true] at el
      obtain ⟨a, vs, rfl, h1, k⟩ := get_lst z2 r1 e1 el.1
      obtain ⟨b, us, rfl, h3, k'⟩ := get_lst z2 r2 e2 el.2
      refine ⟨a, b, vs, us, rfl, h1, h3, q.now z2 _ fun ι' H' st' i p tt z' => ?_⟩
      have kk := k ι' H' st' i p tt z'
      have kk' := k' ι' H' st' i p tt z'
      show (match (match s.get st' i, t.get st' i with
        | some (some x), some (some y) => some (some (W.tup [x, y]))
        | some _, some _ => some none
        | _, _ => none) with | none => True | some none => _ | some (some w) => _)
      cases eg : s.get st' i with
      | none => exact True.intro
      | some o =>
        rw [eg] at kk
        cases eg2 : t.get st' i with
        | none => cases o <;> exact True.intro
        | some o2 =>
          rw [eg2] at kk'
          cases o with
          | none =>
            obtain ⟨xs, k1, k2⟩ := kk
            cases o2 with
            | none => obtain ⟨ys, q1, _⟩ := kk'; exact ⟨xs, ys, k1, q1, .inl k2⟩
            | some _ => obtain ⟨ys, _, q1, _⟩ := kk'; exact ⟨xs, ys, k1, q1, .inl k2⟩
          | some w' =>
            obtain ⟨xs, x, k1, k2, k3⟩ := kk
            cases o2 with
            | none =>
              obtain ⟨ys, q1, q2⟩ := kk'
              exact ⟨xs, ys, k1, q1, .inr q2⟩
            | some u' =>
              obtain ⟨ys, y, q1, q2, q3⟩ := kk'
              refine ⟨⟨xs, ys, x, y, k1, q1, k2, q2⟩, fun v' H'' yy => ?_⟩
              obtain ⟨T, x', y', rfl, hT, rfl, y4, y5⟩ := yy
              have e4 := y4 xs k1
              rw [k2] at e4
              cases e4
              have e5 := y5 ys q1
              rw [q2] at e5
              cases e5
              exact pair_new z' hT k3 q3
    · exact q.elim
  · exact q.elim
end
end Ci
/-! Ci11: dict displays, x = [..] on one line. -/
namespace Ci
open PySem L2 PyProof.Rows

section
variable {Z : Cz} {A : Nat → Bool} {pos : Pos}
/-- x = [.. for ..], all on one line -/
theorem s_setLc (i : Nat) {y : Str} {py : Pos} {elt tgE iter : Expr} {ifs : List Expr} {scope : Scope} {own : List (Str × Nat)} {lpos spos : Pos} {t : Tg} {ci : It} {cs : Es} {ce : E} (ok : Z.Ok)
    (hi : SI Z tgE iter ci) (bk : BlkOk Z.X.N Z.X.env.scope scope own)
    (hg : ∀ (s : Shared) (H : Hp) (C : Addr) (cl : List (Str × Addr)) (fp : List Addr), PG (Z.blk s H scope C cl fp).X tgE (gW Z.X.K t)) (ht : ∀ (s : Shared) (H : Hp) (C : Addr) (cl : List (Str × Addr)) (fp : List Addr), SCs (Z.blk s H scope C cl fp) ifs cs)
    (he : ∀ (s : Shared) (H : Hp) (C : Addr) (cl : List (Str × Addr)) (fp : List Addr), SE (Z.blk s H scope C cl fp) elt ce) (hsl : ∀ i ∈ t.slots, i ∈ own.map (·.2))
    (hsw : swapsWith (.ListComp elt [⟨tgE, iter, ifs, 0⟩] scope lpos) (some (.Name y py)) spos.line Z.X.env = pure true)
    (hyl : Z.X.env.scope.names.lookup y = some .local := by rfl) (hA : A i = true := by rfl) (hN : Z.X.N[i]? = some y := by rfl)
    (hs : ∀ x, foldedSetIterable iter Z.X.env x = pure x := by intro _; rfl) : SS Z A (.Assign [.Name y py] (.ListComp elt [⟨tgE, iter, ifs, 0⟩] scope lpos) spos) (.set i (.lc (own.map (·.2)) t ci cs ce)) := by
  refine ps_imp (ps_setLc (wi := iW Z.X.K Z.x fun en st => evi Z.cl ci en st) (g := gW Z.X.K t) (tt := tWb Z.X.K (fun _ _ _ _ => False) fun en st => evc Z.cl cs en st) (te := tW Z.X.K (fun _ _ _ _ => False) fun en st => ev Z.cl ce en st) ok.calm ok.nd hN hyl hsw hi bk hg ht he hs) fun D σ H h => ?_
  have q : tE Z (.lc (own.map (·.2)) t ci cs ce) σ H (fun v H1 => gName i v σ H1 D.nx) := by
    refine bindS (A := A) (g := fun w en st => setK (.nm i) en w st) h fun w v ι en st H1 r r1 q => ?_
    unfold setK asg at q
    split at q
    · rename_i en1 e1
      split at e1
      · cases e1
        exact q.now r.hr _ (agree_set hA σ) (r.set r1)
      · cases e1
    · exact q.elim
  exact lc_tr hsl σ H _ q

/-! ### {a: b, ..} -/
def trsOf (Z : Cz) : Es → List (TE × TE)
  | .cons a (.cons b r) => (tE Z a, tE Z b) :: trsOf Z r
  | _ => []
def Even2 : Es → Prop
  | .nil => True
  | .cons _ (.cons _ r) => Even2 r
  | .cons _ .nil => False
structure SD (Z : Cz) (pos : Pos) (ks : List (Option Expr)) (vs : List Expr) (es : Es) : Prop where
  ps : PPs Z.X pos ks vs (trsOf Z es)
  ev : Even2 es
theorem d_nil : SD Z pos [] [] .nil := ⟨pps_nil, True.intro⟩
theorem d_cons {k v : Expr} {ks : List (Option Expr)} {vs : List Expr} {a b : E} {r : Es} (ha : SE Z k a) (hb : SE Z v b) (h : SD Z pos ks vs r) : SD Z pos (some k :: ks) (v :: vs) (.cons a (.cons b r)) :=
  ⟨pps_cons ha hb h.ps, h.ev⟩
theorem tPairs_mono {σ : L2.St} : ∀ {trs : List (TE × TE)} {H : Hp} {Q R : List (V × V) → Hp → Prop}, tPairs trs σ H Q → (∀ ps H2, Q ps H2 → R ps H2) → (∀ t ∈ trs, (∀ H Q R, t.1 σ H Q → (∀ v G, Q v G → R v G) → t.1 σ H R) ∧ (∀ H Q R, t.2 σ H Q → (∀ v G, Q v G → R v G) → t.2 σ H R)) → tPairs trs σ H R
  | [], _, _, _, h, i, _ => i _ _ h
  | (tk, tv) :: r, H, Q, R, h, i, m => (m _ List.mem_cons_self).1 H _ _ h fun x H1 q1 => (m _ List.mem_cons_self).2 H1 _ _ q1 fun y H2 q2 =>
      tPairs_mono (trs := r) q2 (fun ps H3 q => i _ _ q) fun t ht => m t (List.mem_cons_of_mem _ ht)
theorem trs_mono {σ : L2.St} : ∀ {es : Es}, ∀ t ∈ trsOf Z es, (∀ H Q R, t.1 σ H Q → (∀ v G, Q v G → R v G) → t.1 σ H R) ∧ (∀ H Q R, t.2 σ H Q → (∀ v G, Q v G → R v G) → t.2 σ H R)
  | .nil, t, h => by cases h
  | .cons _ .nil, t, h => by cases h
  | .cons a (.cons b r), t, h => by
    rcases List.mem_cons.mp h with rfl | h
    · exact ⟨fun H Q R ⟨ι, en, st, r, hf⟩ i => ⟨ι, en, st, r, hf.mono fun w ι' st' H' _ _ _ q v rv => i v H' (q v rv)⟩, fun H Q R ⟨ι, en, st, r, hf⟩ i => ⟨ι, en, st, r, hf.mono fun w ι' st' H' _ _ _ q v rv => i v H' (q v rv)⟩⟩
    · exact trs_mono (es := r) t h
theorem pairs_fin {σ : L2.St} {en : En} : ∀ {es : Es} {H : Hp} {ι : List Addr} {st : Sto} {k : List (Key × W) → List Addr → Sto → Hp → Prop}, Even2 es → Rel Z.X.K σ H ι en st →
    Fin Z.X.K (fun c d H' => Z.x c d σ H') ι H (evd Z.cl es en st) k →
    tPairs (trsOf Z es) σ H fun ps H2 => ∃ ι2 st2 ws vs, Pre ι ι2 ∧ TK H H2 ∧ HRel Z.X.K H2 ι2 st2 ∧ RKv Z.X.K H2 ι2 ws vs ∧ ps = vs.map (fun kv => (kV kv.1, kv.2)) ∧ k ws ι2 st2 H2
  | .nil, H, ι, st, k, _, r, h => ⟨ι, st, [], [], Pre.refl _, TK.refl _, r.hr, .nil, rfl, h.now r.hr⟩
  | .cons _ .nil, _, _, _, _, e, _, _ => e.elim
  | .cons a (.cons b r), H, ι, st, k, e, rr, h => by
    have h : Fin Z.X.K (fun c d H' => Z.x c d σ H') ι H ((ev Z.cl a en st).bind fun x st1 => (ev Z.cl b en st1).bind fun y st2 => keyK y (fun st2 => evd Z.cl r en st2) x st2) k := h
    refine ⟨ι, en, st, rr, (Fin.split h).mono fun x ι1 st1 H1 p1 t1 z1 q1 xv rx => ?_⟩
    refine ⟨ι1, en, st1, rr.keep t1 p1 z1, (Fin.split q1).mono fun y ι2 st2 H2 p2 t2 z2 q2 yv ry => ?_⟩
    unfold keyK at q2
    split at q2
    · rename_i j ej
      have r2 : Rel Z.X.K σ H2 ι2 en st2 := (rr.keep t1 p1 z1).keep t2 p2 z2
      have q3 := pairs_fin (es := r) e r2 (Fin.split q2)
      refine tPairs_mono q3 ?_ trs_mono
      rintro ps H3 ⟨ι3, st3, ws, vs, p3, t3, z3, rk, rfl, q⟩
      have ex : xv = kV j := keyOf_rel (rx.keep t2 p2) ej
      subst ex
      exact ⟨ι3, st3, (j, y) :: ws, (j, yv) :: vs, (p1.trans p2).trans p3, (t1.trans t2).trans t3, z3, .cons (ry.keep t3 p3) rk, rfl, q.now z3⟩
    · exact q2.elim
theorem merge_rel {K : PySem.W.Frag} {H : Hp} {ι : List Addr} : ∀ (ws : List (Key × W)) (vs : List (Key × V)) (as : List (Key × W)) (bs : List (Key × V)), RKv K H ι ws vs → RKv K H ι as bs → RKv K H ι (ws.foldl (fun acc p => dputL p.1 p.2 acc) as) (mergeK bs vs)
  | [], _, _, _, r, h => by cases r; exact h
  | (k, w) :: ws, _, as, bs, r, h => by
    cases r with
    | cons r t =>
      have q := merge_rel ws _ _ _ t (putL_rel (k := k) r h)
      exact q
/-- a dict display of at most fifteen pairs -/
theorem w_dsp {ks : List (Option Expr)} {vs : List Expr} {es : Es} (h : SD Z pos ks vs es) (hall : ks.all (·.isSome) = true := by rfl) (hl : ks.length = vs.length := by rfl) (h0 : ks ≠ [] := by intro h; cases h)
    (h15 : ks.length ≤ 15 := by decide) : SE Z (.Dict ks vs pos) (.dsp es) := by
  refine pe_imp (pe_disp h.ps hall hl h0 h15) fun σ H Q h' => ?_
  obtain ⟨ι, en, st, r, hf⟩ := h'
  intro p hp
  have hf : Fin Z.X.K (fun c d H' => Z.x c d σ H') ι H ((evd Z.cl es en (st ++ [.dct []])).bind (dspK st.length)) _ := hf
  have z0 : HRel Z.X.K (upd H p (.dK [])) (ι ++ [p]) (st ++ [.dct []]) := r.hr.push hp ⟨[], upd_same, .nil⟩
  have q := pairs_fin h.ev (r.keep (TK.new hp) (Pre.snoc ι p) z0) (Fin.split (Fin.shift (Pre.snoc ι p) (TK.new hp) hf))
  refine tPairs_mono q ?_ trs_mono
  rintro ps H2 ⟨ι2, st2, ws, vs, p2, t2, z2, rk, rfl, q⟩
  have hpa : ι2[st.length]? = some p := p2 _ _ (by rw [← r.hr.len]; simp)
  unfold dspK at q
  split at q
  · rename_i e2
    split at q
    · rename_i h15
      obtain ⟨bs, hb, rb⟩ := z2.ob _ _ _ hpa e2
      cases rb
      have mu : Mut (H2 p) := by rw [hb]; exact True.intro
      refine ⟨hb, vs, rfl, by rw [← rk.len]; exact h15, ?_⟩
      have z3 := z2.set hpa mu (u := .dK (mergeK [] vs)) (o := .dct (mergeW ws)) ⟨_, upd_same, (merge_rel _ _ _ _ rk .nil).keep (TK.mut mu) (Pre.refl _)⟩
      exact q ι2 _ (Pre.refl _) (TK.mut mu) z3 _ (.ref hpa)
    · exact q.elim
  · exact q.elim
/-- {} -/
theorem w_dsp0 : SE Z (.Dict [] [] pos) (.dsp .nil) := by
  refine pe_imp pe_dnewK fun σ H Q h' => ?_
  obtain ⟨ι, en, st, r, hf⟩ := h'
  intro p hp
  have z0 : HRel Z.X.K (upd H p (.dK [])) (ι ++ [p]) (st ++ [.dct []]) := r.hr.push hp ⟨[], upd_same, .nil⟩
  have hf : Fin Z.X.K (fun c d H' => Z.x c d σ H') ι H (dspK st.length [] (st ++ [.dct []])) _ := hf
  unfold dspK at hf
  have e : (st ++ [Ob.dct []])[st.length]? = some (.dct []) := by simp
  rw [e] at hf
  have hf : Fin Z.X.K (fun c d H' => Z.x c d σ H') ι H (Res.ok (W.ref st.length) ((st ++ [Ob.dct []]).set st.length (.dct []))) _ := hf
  have e2 : (st ++ [Ob.dct []]).set st.length (.dct []) = st ++ [Ob.dct []] := by
    rw [List.set_append_right _ _ (Nat.le_refl _)]; simp
  rw [e2] at hf
  exact hf (ι ++ [p]) _ (Pre.snoc ι p) (TK.new hp) z0 (V.ref p) (RW.ref (by rw [← r.hr.len]; simp))
end
end Ci
/-! Ci12: small forms for the printed texts. -/
namespace Ci
open PySem L2 PyProof.Rows

section
variable {Z : Cz} {pos : Pos}
/-- a constant of the module is known -/
def ConP (K : PySem.W.Frag) (mg : Str → Option Value) (x : Str) (w : W) : Prop := ∃ v u, mg x = some u ∧ RelV v u ∧ ∀ H ι, RW K H ι w v
theorem w_con {x : Str} {w : W} (c : ConP Z.X.K Z.X.mg x w) (hg : Gl Z.X x) (hd : (x == ("__debug__" : Str)) = false := by decide) : SE Z (.Name x pos) (.con w) := by
  obtain ⟨v, u, hm, r, rw'⟩ := c
  exact w_glb hg hm r rw' hd
theorem Callee.blk {x : Str} {i : Nat} {ps : List Str} {a : Arguments} {b : List Stmt} {sc : Scope} (c : Callee Z x i ps a b sc) (s : Shared) (H : Hp) (scope : Scope) (C : Addr) (cl : List (Str × Addr)) (fp : List Addr) : Callee (Z.blk s H scope C cl fp) x i ps a b sc := ⟨c.ex⟩
theorem hsl_by {t : Tg} {l : List Nat} (h : (t.slots.all fun i => l.contains i) = true) : ∀ i ∈ t.slots, i ∈ l := fun i hi => by
  have := List.all_eq_true.mp h i hi
  exact List.contains_iff_mem.mp this
/-- a def of level n, by its name -/
def DefP (P : Program) (w : World) (K : PySem.W.Frag) (mg : Str → Option Value) (base : Heap) (tab : List Fd) (n i : Nat) (x : Str) (ps : List Str) (a : Arguments) (b : List Stmt) (sc : Scope) : Prop :=
  ∃ (f : Addr) (fd : FuncData), mg x = some (.ref f) ∧ FunD K x x a b sc [] [] f fd ∧ FnG P w K mg base n f fd ps (spR K (run tab n i) ps.length)
theorem DefP.callee {P : Program} {w : World} {K : PySem.W.Frag} {mg : Str → Option Value} {base : Heap} {tab : List Fd} {n i : Nat} {x : Str} {ps : List Str} {a : Arguments} {b : List Stmt} {sc : Scope}
    (h : DefP P w K mg base tab n i x ps a b sc) {N : List Str} {qual : Str} {sc' : Scope} {f' : Addr} {cdv : Value} {A : Around} {outer : List Env} {s : Shared} {H : Hp} {E : XK}
    (hr : Room n (A.deeper (envOfC qual sc' s.heap.objs.size f' cdv))) : Callee (bodyZ P w K mg base N qual sc' f' cdv A outer s H E (run tab n)) x i ps a b sc := by
  obtain ⟨f, fd, hm, F, G⟩ := h
  exact ⟨⟨f, fd, n, hm, F, hr, G⟩⟩
/-- what is wanted of a def's body -/
def BodyP (P : Program) (w : World) (K : PySem.W.Frag) (mg : Str → Option Value) (base : Heap) (tab : List Fd) (n : Nat) (N : List Str) (x : Str) (b : List Stmt) (sc : Scope) (c : S) : Prop :=
  ∀ (f : Addr) (cdv : Value) (A : Around) (outer : List Env) (s : Shared) (H : Hp) (E : XK), Room n (A.deeper (envOfC x sc s.heap.objs.size f cdv)) → A.guards = some [] → SB (bodyZ P w K mg base N x sc f cdv A outer s H E (run tab n)) (fun _ => true) b c
theorem DefP.succ {P : Program} {w : World} {K : PySem.W.Frag} {mg : Str → Option Value} {base : Heap} {tab : List Fd} {n i : Nat} {x : Str} {ps N : List Str} {a : Arguments} {b : List Stmt} {sc : Scope} {d : Fd}
    (h : DefP P w K mg base tab n i x ps a b sc) (hd : tab[i]? = some d) (S : FnScope N ps sc) (hN : N.length = d.nl) (hp : ps.length = d.np) (B : BodyP P w K mg base tab n N x b sc d.body) : DefP P w K mg base tab (n + 1) i x ps a b sc := by
  obtain ⟨f, fd, hm, F, _⟩ := h
  exact ⟨f, fd, hm, F, fn_run F hd S hN hp (B f)⟩
theorem DefP.zero {P : Program} {w : World} {K : PySem.W.Frag} {mg : Str → Option Value} {base : Heap} {tab : List Fd} {i : Nat} {x : Str} {ps : List Str} {a : Arguments} {b : List Stmt} {sc : Scope} {f : Addr} {fd : FuncData} (hm : mg x = some (.ref f)) (F : FunD K x x a b sc [] [] f fd) : DefP P w K mg base tab 0 i x ps a b sc :=
  ⟨f, fd, hm, F, fn_zero⟩
theorem kit_int {K : PySem.W.Frag} : ∀ t ∈ ["NoneType", "bool", "int", "str", "tuple", "list", "dict"], PySem.W.kitOne K (.type t) (.type "int") = some (isTy t "int") := fun t ht => kit_ty ((by decide +kernel : ∀ t ∈ ["NoneType", "bool", "int", "str", "tuple", "list", "dict"], kitB t "int" = some (isTy t "int")) t ht)
theorem kit_str {K : PySem.W.Frag} : ∀ t ∈ ["NoneType", "bool", "int", "str", "tuple", "list", "dict"], PySem.W.kitOne K (.type t) (.type "str") = some (isTy t "str") := fun t ht => kit_ty ((by decide +kernel : ∀ t ∈ ["NoneType", "bool", "int", "str", "tuple", "list", "dict"], kitB t "str" = some (isTy t "str")) t ht)
theorem kit_list {K : PySem.W.Frag} : ∀ t ∈ ["NoneType", "bool", "int", "str", "tuple", "list", "dict"], PySem.W.kitOne K (.type t) (.type "list") = some (isTy t "list") := fun t ht => kit_ty ((by decide +kernel : ∀ t ∈ ["NoneType", "bool", "int", "str", "tuple", "list", "dict"], kitB t "list" = some (isTy t "list")) t ht)
theorem kit_tuple {K : PySem.W.Frag} : ∀ t ∈ ["NoneType", "bool", "int", "str", "tuple", "list", "dict"], PySem.W.kitOne K (.type t) (.type "tuple") = some (isTy t "tuple") := fun t ht => kit_ty ((by decide +kernel : ∀ t ∈ ["NoneType", "bool", "int", "str", "tuple", "list", "dict"], kitB t "tuple" = some (isTy t "tuple")) t ht)
theorem kit_dict {K : PySem.W.Frag} : ∀ t ∈ ["NoneType", "bool", "int", "str", "tuple", "list", "dict"], PySem.W.kitOne K (.type t) (.type "dict") = some (isTy t "dict") := fun t ht => kit_ty ((by decide +kernel : ∀ t ∈ ["NoneType", "bool", "int", "str", "tuple", "list", "dict"], kitB t "dict" = some (isTy t "dict")) t ht)
theorem kit_bool {K : PySem.W.Frag} : ∀ t ∈ ["NoneType", "bool", "int", "str", "tuple", "list", "dict"], PySem.W.kitOne K (.type t) (.type "bool") = some (isTy t "bool") := fun t ht => kit_ty ((by decide +kernel : ∀ t ∈ ["NoneType", "bool", "int", "str", "tuple", "list", "dict"], kitB t "bool" = some (isTy t "bool")) t ht)
theorem funD_same {K : PySem.W.Frag} {x q x' q' : Str} {a a' : Arguments} {b b' : List Stmt} {sc sc' : Scope} {f : Addr} {fd fd' : FuncData} (F : FunD K x q a b sc [] [] f fd) (F' : FunD K x' q' a' b' sc' [] [] f fd') : fd = fd' := by
  obtain ⟨oc, od, dV, kV, doc, pm, an, cdv, ct, osl, e1, lk, hcd, _, _⟩ := F.ex
  obtain ⟨oc', od', dV', kV', doc', pm', an', cdv', ct', osl', e1', lk', hcd', _, _⟩ := F'.ex
  have := lk.symm.trans lk'
  injection this with this
  injection this with _ _ h _
  injection h
end
end Ci
/-! CiE1: an own error class over another one over ValueError; its __init__ says super().__init__("..") and keeps one argument. -/
namespace CiE
open PySem PySem.W PySem.Calls PyProof.Rows PySem.HandSPX

abbrev veT : List Value := [.type "ValueError", .type "Exception", .type "BaseException", .type "object"]
/-- the text of __init__ -/
def InitS (nm : Str) (pa : Arguments) (b : List Stmt) (sc : Scope) : Prop :=
  ∃ (msg : Str) (j : Nat) (q0 q1 q2 q3 q4 q5 q6 q7 q8 q9 : Pos) (ar : Arg),
    b = [.Expr (.Call (.Attribute (.Call (.Name "super" q0) [] [] q1) "__init__" q2) [.Constant (.str msg) j q3] [] q4) q5, .Assign [.Attribute (.Name "self" q6) nm q7] (.Name nm q8) q9] ∧
    (pa.posonlyargs ++ pa.args).head? = some ar ∧ ar.arg = "self" ∧ (∀ (x v : Value) (name qual : Str) (doc pm : Value) (an : Option Addr) (cd : Value) (ct : Value) (cc : Addr), bindArgs (ksFn name qual pa b sc .none .none doc pm an cd ct cc) ⟨[x, v], []⟩ = pure [(Str.ofString "self", x), (nm, v)]) ∧
    sc.names = [(Str.ofString "self", NameKind.local), (nm, NameKind.local), (Str.ofString "__class__", NameKind.free), (Str.ofString "super", NameKind.globalImplicit)] ∧ sc.kind = .function ∧ sc.isCoroutine = false ∧ sc.isGenerator = false ∧
    sc.names.lookup (Str.ofString "__class__") = some .free ∧ sc.names.lookup (Str.ofString "super") = some .globalImplicit ∧
    (nm == ("self" : Str)) = false ∧ (nm == ("__debug__" : Str)) = false ∧
    (∀ env : Env, ∃ pl, eval (.Call (.Attribute (.Call (.Name "super" q0) [] [] q1) "__init__" q2) [.Constant (.str msg) j q3] [] q4) env = (do
      let ov ← attributeBase (.Call (.Name "super" q0) [] [] q1) "__init__" env (eval (.Call (.Name "super" q0) [] [] q1) env)
      standAt q2.atName
      let (f, first) ← holding [ov] (getMethod ov "__init__" pl)
      callWith q4 f first (backTo q4 (starEach [.Constant (.str msg) j q3] env)) []))
/-- what the written part says of the class x at C and of its __init__ at fI (the argument is called nm) -/
structure ErrT (K : Frag) (prog : Program) (x nm : Str) (C fI : Addr) (pa : Arguments) (b : List Stmt) (sc : Scope) : Prop where
  gC : nsIn K mainGlobals x = some (some (.ref C))
  cls : ∃ nm q N bs bm sn sub ab col dd k0 k1 k2 k3 k5, K.lookup C = some (excClassObj nm q C N bs bm true sn sub ab col dd k0 k1 k2 k3 k5 "ValueError.__new__") ∧ refsVE bm = true
  sa : findIn K (.ref C) "__setattr__" = some (some (.builtin "object.__setattr__"))
  ga : findIn K (.ref C) "__getattribute__" = some (some (.builtin "BaseException.__getattribute__"))
  gg : findIn K (.ref C) "__getattr__" = some none
  noN : findIn K (.ref C) nm = some none
  iC : findIn K (.ref C) "__init__" = some (some (.ref fI))
  tC : typeIn K (.ref fI) = some (.type "function")
  kC : keepIn K (.ref C) = true
  exC : subIn K (.ref C) (.type "BaseException") = some true
  tyC : typeIn K (.ref C) = some (.type "type")
  hdC : hasDictIn K C = true
  sup : ks_superIn K C C "__init__" = some (some (.builtin "ValueError.__init__"))
  sub : mroIn K C (.ref C) = some true
  hB : subIn K (.ref C) (.type "ValueError") = some true
  st : nsIn K cStatics "thirdparty.any" = some none
  ns : nsIn K mainGlobals "super" = some none
  top : (prog.main.scope.names.lookup ("super" : Str)).isSome = false
  fn : ∃ (oc : Value) (od : Option Addr) (name qual : Str) (doc pm : Value) (an : Option Addr) (cda cc : Addr) (ct : Value) (osl : Array (Option Value))
      (ccl : Value) (cdd : Option Addr) (vs : Array Value) (ccs : Array (Option Value)) (tf : Tok) (cl : Value) (cld : Option Addr) (csl : Array (Option Value)),
    K.lookup fI = some ⟨oc, od, .func (ksFn name qual pa b sc .none .none doc pm an (.ref cda) ct cc), osl⟩ ∧ codeIn K (.ref cda) qual = true ∧
    K.lookup cda = some ⟨ccl, cdd, .fields vs, ccs⟩ ∧ vs[2]? = some (.str prog.main.file tf) ∧ K.lookup cc = some ⟨cl, cld, .cell (some (.ref C)), csl⟩
  is : InitS nm pa b sc
/-- what __init__ leaves of a fresh exception at x -/
structure InitEnd (nm : Str) (h h' : Heap) (x C dx : Addr) (v : Value) : Prop where
  keep : ∀ b o, b ≠ x → h.get? b = some o → h'.get? b = some o
  obj : ∃ t1, h'.get? x = some { cls := .ref C, dict := some dx, data := .fields #[.ref t1, .none, .none, .none, .bool false, .none] }
  dbig : h.objs.size ≤ dx
  dne : dx ≠ x
  ns : h'.Ns1 dx (fun y => if y = nm then some v else none)
theorem one_size (v : Value) : [v].length ≤ sizeLine := by
  rw [sizeLine_eq]
  exact (by decide : 1 ≤ 16777216)
theorem kept_but {K : Frag} {h h' : Heap} {x : Addr} (X : K.In h) (hx : K.lookup x = none) (k : ∀ b o, b ≠ x → h.get? b = some o → h'.get? b = some o) : K.In h' := fun a o e =>
  k a o (fun z => by rw [z, hx] at e; cases e) (X a o e)
section
variable {M : Model} {prog : Program} {w : World} {A : Around} {E : Value → Shared → Prop} {h : Heap} {g : Array GenState} {d : Drawn} {t : Nat} {os : OsState}
variable {nm q : Str} {C N : Addr} {bs bm bmB : List Value} {hdct : Bool} {sn : List Str} {sub : List Value} {ab : Bool} {col : Option Bool} {dd : Option Addr} {k0 k1 k2 k3 k5 : Option Value}
/-- ValueError.__init__ bound to x, called -/
theorem call_mw {u x t0 : Addr} {rest : List Value} {Q : Value → Shared → Prop} (hC : h.get? C = some (excClassObj nm q C N bs bm hdct sn sub ab col dd k0 k1 k2 k3 k5 "ValueError.__new__"))
    (hx : h.get? x = some (excO C t0)) (hu : h.get? u = some (kxs_mw "ValueError.__init__" x)) (hz : rest.length ≤ sizeLine)
    (hq : ∀ h' t1, (∀ b o, b ≠ x → h.get? b = some o → h'.get? b = some o) → h'.get? x = some (excO C t1) → Q .none ⟨h', g, d, t, os⟩) :
    wpAny (model prog w) A (call (.ref u) rest) Q E ⟨h, g, d, t, os⟩ := by
  refine wpAny_call (codeAny_of_tree ?_)
  show wpAny _ A.in1 (callAny (.ref u) ⟨rest, []⟩) _ _ _
  simp only [callAny]
  refine wpAny_bind (wpAny_load hu ?_)
  simp only [kxs_mw, show (Value.type "method-wrapper" == Value.type "method" || Value.type "method-wrapper" == Value.type "builtin_function_or_method" || Value.type "method-wrapper" == Value.type "method-wrapper") = true by decide, if_true]
  refine KFB.if_so (by decide) ?_
  refine wpAny_bind (check_bound_init F.excBase_ValueError.toExcCallFacts hC hx rfl ?_)
  refine wpAny_bind (wpAny_pure (wpAny_pure ?_))
  refine ⟨plainId_quiet F.excBase_ValueError.init.plain _, codeAny_builtin F.excBase_ValueError.initEntry ?_⟩
  exact exc_init_tree (cls := .ref C) (t0 := t0) (dv := none) (c2 := .none) (c3 := .none) (b4 := .bool false) hx hz fun h' a b c => hq h' _ a b
end
section
variable {prog : Program} {w : World} {A : Around} {E : Value → Shared → Prop} {R : Result → Shared → Prop} {s : Shared} {K : Frag} {mg mb : Str → Option Value} {x nm : Str} {C fI : Addr} {pa : Arguments} {b : List Stmt} {sc : Scope}
theorem err_init (T : ErrT K prog x nm C fI pa b sc) {e t0 : Addr} {v : Value} (X : K.In s.heap) (hlim : s.heap.NoLimit) (hg : s.heap.Ns mainGlobals mg) (hmg : mg "super" = none) (hb : s.heap.Ns builtinsNs mb) (hmb : mb "super" = some (.type "super"))
    (hx : s.heap.get? e = some (excO C t0)) (hnx : K.lookup e = none) (hroom : A.depth < recursionLimit)
    (hq : ∀ h' tk dx, InitEnd nm s.heap h' e C dx v → R (.ok (.ret .none)) { s with heap := h', toks := tk }) :
    codeAny (model prog w) A (.call (.ref fI) ⟨[.ref e, v], []⟩) R s := by
  obtain ⟨oc, od, name, qual, doc, pm, an, cda, cc, ct, osl, ccl, cdd, vs, ccs, tf, cl, cld, csl, ho, hcd, hcda, hvs, hcc⟩ := T.fn
  obtain ⟨msg, j, q0, q1, q2, q3, q4, q5, q6, q7, q8, q9, ar, hbody, hp, hself, hbind, hsc, hk, hco, hgen, lkC, lkP, hn1, hn2, hev⟩ := T.is
  obtain ⟨nmC, q, N, bs, bm, sn, sub, ab, col, dd, k0, k1, k2, k3, k5, hC, hbm⟩ := T.cls
  have hcl : clsIn K C = some { name := nmC, bases := bs, mro := .ref C :: bm, ns := N, qualname := q, hasDict := true, slotNames := sn, subclasses := sub, abstract := ab, collection := col, hasDel := false } := by unfold clsIn; rw [hC] <;> rfl
  obtain ⟨kind, names, isG, isC, more⟩ := sc
  dsimp only at hsc hk hco hgen lkC lkP
  subst hsc hk hco hgen hbody
  have lkN : ([(Str.ofString "self", NameKind.local), (nm, NameKind.local), (Str.ofString "__class__", NameKind.free), (Str.ofString "super", NameKind.globalImplicit)] : List (Str × NameKind)).lookup nm = some .local := by
    have e1 : (nm == Str.ofString "self") = false := hn1
    rw [List.lookup_cons, e1, List.lookup_cons, beq_self_eq_true]
  have lkV : ([(Str.ofString "self", Value.ref e), (nm, v)] : List (Str × Value)).reverse.lookup nm = some v := by
    show ([(nm, v), (Str.ofString "self", Value.ref e)] : List (Str × Value)).lookup nm = some v
    rw [List.lookup_cons, beq_self_eq_true]
  have lkS : ([(Str.ofString "self", Value.ref e), (nm, v)] : List (Str × Value)).reverse.lookup (Str.ofString "self") = some (Value.ref e) := by
    show ([(nm, v), (Str.ofString "self", Value.ref e)] : List (Str × Value)).lookup (Str.ofString "self") = some (.ref e)
    have e1 : (Str.ofString "self" == nm) = false := by rw [Bool.eq_false_iff, ne_eq, beq_iff_eq]; intro z; rw [← z] at hn1; exact absurd hn1 (by decide)
    rw [List.lookup_cons, e1, List.lookup_cons, beq_self_eq_true]
  refine ks_codeAny_call_defAt (binds := [(Str.ofString "self", .ref e), (nm, v)]) hroom (X _ _ ho) rfl hlim (codeRec_of X hcd) rfl (BindsTo.of_eq (hbind _ _ _ _ _ _ _ _ _ _)) ?hcell ?hloc (fun h₁ hns₁ hk₁ => ?_) rfl rfl rfl
  case hcell =>
    intro y hy
    simp only [List.mem_cons, List.mem_nil_iff, or_false] at hy
    rcases hy with rfl | rfl | rfl | rfl <;> intro z <;> cases z
  case hloc =>
    intro y hy
    simp only [List.mem_cons, List.mem_nil_iff, or_false] at hy
    rcases hy with rfl | rfl
    · rfl
    · exact lkN
  have X₁ : K.In h₁ := X.keeps hk₁
  have hx₁ := hk₁ _ _ hx
  obtain ⟨hp0, g, d, t, os⟩ := s
  dsimp only at *
  have neC : e ≠ C := fun z => by rw [z, hC] at hnx; cases hnx
  obtain ⟨pl, he⟩ := hev (callEnv (ksFn name qual pa _ _ .none .none doc pm an (.ref cda) ct cc) hp0.objs.size fI)
  refine ks_wpAt_execs_cons (ks_wpAt_Expr_any (ks_wpAt_MethodCall ?_ he))
  refine ks_wpAt_super_base (f := fI) (cc := cda) (vs := vs) (file := prog.main.file) (tf := tf) lkP lkC rfl rfl (X₁ _ _ ho) rfl hp rfl (X₁ _ _ hcda) rfl hvs (beq_self_eq_true _) T.top ?_
  refine ks_loadName_global rfl lkP (loadGlobal_builtin (hg.keeps hk₁) hmg (hb.keeps hk₁) hmb ⟨rfl, ?_⟩)
  refine wpAny_loadName_free rfl lkC rfl ⟨_, X₁ _ _ hcc, rfl⟩ ?_
  rw [hself]
  refine wpAny_loadName_local rfl rfl hns₁ lkS ?_
  refine ks_wpAny_isType_cls (X₁ _ _ hC) rfl ⟨rfl, ?_⟩
  refine ks_wpAny_call_super (X₁ _ _ hC) rfl hx₁ rfl (fun c z => by cases z) (looks_mroIn X₁ T.sub) (fun h₂ so k₂ => ?_)
  have X₂ := X₁.keeps k₂
  have I₂ : InstAt h₂ e (excO C t0) C none := ⟨k₂ _ _ hx₁, rfl, rfl, trivial⟩
  have hI : Looks (model prog w) h₂ (isInstance (.ref e) (.type "ValueError")) true := I₂.type.andThen (looks_subIn X₂ T.hB)
  have hm := T.sup
  unfold ks_superIn at hm
  rw [hcl] at hm
  refine kxs_getMethod kxs_ValueError so (looks_opaque X₂ T.st) (l₀ := .ref C :: bm) ((looks_clsIn X₂ hcl).andThen .now) rfl X₂ hm hI neC rfl ?_
  refine kxs_callWith (i := "ValueError.__init__") (x := e) rfl ?_
  refine evalArgs_plain ?_
  wp_walk
  have L1 : hp0.objs.size < h₁.objs.size := hns₁.lt
  have hp2 : ∀ b o, h₂.get? b = some o → (h₂.push (kxs_mw "ValueError.__init__" e)).get? b = some o := fun b o q => Heap.get?_push_of_some _ q
  refine ⟨Heap.get?_push_size h₂ rfl, ?_⟩
  refine call_mw (hp2 _ _ (X₂ _ _ hC)) (hp2 _ _ I₂.at_) (Heap.get?_push_size h₂ rfl) (one_size _) (fun h₃ t1 k₃ hx₃ => ?_)
  have k13 : ∀ b o, b ≠ e → h₁.get? b = some o → h₃.get? b = some o := fun b o q z => k₃ b o q (hp2 b o (k₂ b o z))
  have X₃ : K.In h₃ := kept_but X₁ hnx k13
  have Ln : hp0.objs.size ≠ e := Nat.ne_of_gt (Heap.lt_size hx)
  have hns₃ : h₃.Ns hp0.objs.size (fun x => [(Str.ofString "self", Value.ref e), (nm, v)].reverse.lookup x) := by
    obtain ⟨o, es, ep, z, r⟩ := hns₁
    exact ⟨o, es, ep, k13 _ _ Ln z, r⟩
  show PySem.wpAt _ _ _ (execs [_] _) _ _ _
  refine ks_wpAt_execs_cons (ks_wpAt_Assign_Attr (wpAt_of_wpAny ?_))
  refine wpAny_Name (wpAny_loadName_local rfl lkN hns₃ lkV ?_) hn2
  refine wpAny_Name (wpAny_loadName_local rfl rfl hns₃ lkS ?_) (by decide)
  refine set_plain X₃ (ox := excO C t1) (od := none) ⟨hx₃, rfl, rfl, trivial⟩ T.sa ?_
  refine exc_osa X₃ hx₃ hcl (show refsVE (.ref C :: bm) = true from hbm) rfl T.noN (fun h₄ tk₄ dx k₄ dn dne hx₄ hn₄ => ?_)
  show PySem.wpAt _ _ _ (execs [] _) _ _ _
  refine wpAt_of_wpAny (wpAny_execs_nil (hq h₄ tk₄ dx ⟨fun b o hb z => k₄ b o hb (k13 b o hb (hk₁ b o z)), ⟨t1, hx₄⟩, ?_, dne, hn₄⟩))
  have L3 : hp0.objs.size < h₃.objs.size := hns₃.lt
  exact Nat.le_of_lt (Nat.lt_of_lt_of_le L3 dn)
/-- a made error -/
structure OwnMade (nm : Str) (h h' : Heap) (e C d : Addr) (v : Value) : Prop where
  keep : ∀ b o, h.get? b = some o → h'.get? b = some o
  new : h.objs.size ≤ e
  obj : ∃ oe vs, h'.get? e = some oe ∧ oe.cls = .ref C ∧ oe.dict = some d ∧ oe.data = .fields vs ∧ vs[1]? = some .none
  dbig : h.objs.size ≤ d
  dne : d ≠ e
  ns : h'.Ns1 d (fun y => if y = nm then some v else none)
theorem err_made (T : ErrT K prog x nm C fI pa b sc) {v : Value} (X : K.In s.heap) (hlim : s.heap.NoLimit) (hg : s.heap.Ns mainGlobals mg) (hmg : mg "super" = none) (hb : s.heap.Ns builtinsNs mb) (hmb : mb "super" = some (.type "super")) (hroom : A.depth + 1 < recursionLimit)
    (hq : ∀ h' tk e d, OwnMade nm s.heap h' e C d v → R (.ok (.ret (.ref e))) { s with heap := h', toks := tk }) :
    codeAny (model prog w) A (.call (.ref C) ⟨[v], []⟩) R s := by
  obtain ⟨nmC, q, N, bs, bm, sn, sub, ab, col, dd, k0, k1, k2, k3, k5, hC, hbm⟩ := T.cls
  obtain ⟨hp, g, dr, tk, os⟩ := s
  have k : ∀ b o, hp.get? b = some o → ((hp.push (kdv_tup [v])).push (excO C hp.objs.size)).get? b = some o := fun b o e => Heap.get?_push_of_some _ (Heap.get?_push_of_some _ e)
  have hget : ((hp.push (kdv_tup [v])).push (excO C hp.objs.size)).get? (hp.objs.size + 1) = some (excO C hp.objs.size) := by heap_get
  have hnx : K.lookup (hp.objs.size + 1) = none := by
    cases e : K.lookup (hp.objs.size + 1) with
    | none => rfl
    | some o =>
      have z : hp.get? (hp.objs.size + 1) = some o := X _ _ e
      exact absurd (Nat.lt_of_succ_lt (Heap.lt_size z)) (Nat.lt_irrefl _)
  refine call_own F.excBase_ValueError (fun X => refsVE_contains X bm hbm) (X _ _ hC) (looks_findIn X T.iC) (fun self => bind_fn X self T.tC) (one_size v) ?_
  refine err_init (s := ⟨(hp.push (kdv_tup [v])).push (excO C hp.objs.size), g, dr, tk, os⟩) T (X.keeps k) (hlim.keeps k) (hg.keeps k) hmg (hb.keeps k) hmb hget hnx ?_ fun h' tk' dx ⟨k', ⟨t1, hx⟩, dn, dne, hns⟩ => ?_
  · show A.depth + 1 < recursionLimit
    exact hroom
  · have old : ∀ b o, hp.get? b = some o → h'.get? b = some o := fun b o e => k' b o (Nat.ne_of_lt (Nat.lt_succ_of_lt (Heap.lt_size e))) (k b o e)
    have z : hp.objs.size + 1 + 1 ≤ dx := by
      first
        | (simpa only [Heap.size_push] using dn)
        | exact dn
        | (have q := dn; rw [Heap.size_push, Heap.size_push] at q; exact q)
    exact ⟨rfl, hq h' tk' (hp.objs.size + 1) dx ⟨old, Nat.le_succ _, ⟨_, _, hx, rfl, rfl, rfl, rfl⟩, Nat.le_trans (Nat.le_trans (Nat.le_succ _) (Nat.le_succ _)) z, dne, hns⟩⟩
end
end CiE
namespace L2
open PySem PySem.Spec PyProof.Rows
theorem relO_err {nm : Str} {v : V} {v' : Value} (r : RelV v v') (f : Str) : RelO (List.lookup f [(nm, v)]) (if f = nm then some v' else none) := by
  by_cases hw : f = nm
  · subst hw
    rw [if_pos rfl]
    have q : List.lookup f [(f, v)] = some v := by simp [List.lookup]
    rw [q]
    exact r
  · rw [if_neg hw]
    have qw : (f == nm) = false := by simpa using hw
    have q2 : List.lookup f [(nm, v)] = none := by simp [List.lookup, qw]
    rw [q2]
    trivial
section
variable {X : Cx} {x nm : Str} {C fI : Addr} {pa : Arguments} {b : List Stmt} {sc : Scope}
/-- x(e) -/
def tMkE (nm : Str) (C : Addr) (ta : TA) : St → Hp → XK → Prop := fun σ H Q => ta σ H fun vs H1 => ∃ v, vs = [v] ∧ ∀ d, H1 d = none → Q (.ref C) (some d) (upd H1 d (.xd [(nm, v)]))
theorem pmk_err {a : Expr} {ta : TA} {p pos : Pos} {k : Nat} (T : CiE.ErrT X.K X.prog x nm C fI pa b sc) (hr : Room k X.A) (ha : PA X [a] ta) (hg : Gl X x) (hgd : (x == ("__debug__" : Str)) = false := by decide)
    (he : starEach (a :: []) X.env = (false, eval a X.env) :: starEach [] X.env := by rfl) (hpl : (backTo pos (starEach [] X.env)).any (·.1) = false := by rfl) :
    PMk X (.Call (.Name x p) [a] [] pos) (tMkE nm C ta) := by
  intro pins s σ H Q I h
  have gC : X.mg x = some (.ref C) := PySem.W.mg_of I.ok.mod.kin I.mod.glob T.gC
  have gS : X.mg "super" = none := PySem.W.mg_none_of I.ok.mod.kin I.mod.glob T.ns
  refine wpAny_Call_Name_kw (ld_glob I hg gC ?_ hgd)
  refine PySem.W.callWith_K (h₀ := X.base) I.ok.mod.kin T.kC (thn (ha.run pos pins s σ H _ I h) fun us s1 hh => ?_) he hpl
  obtain ⟨vs, H1, I1, r1, v, ev, q1⟩ := hh
  subst ev
  refine ⟨I1.kIn, ?_⟩
  cases r1 with
  | cons rv rn =>
    rename_i v' us'
    cases rn
    show wpAny _ _ (call (.ref C) [v']) _ _ _
    have hlim := I1.nolimit
    obtain ⟨mb, hb1, hb2⟩ := I1.mod.blt
    have hG := I1.mod.glob.keeps I1.bk
    have hB := hb1.keeps I1.bk
    obtain ⟨hp, g, dr, tk, os⟩ := s1
    refine wpAny_call (CiE.err_made T I1.kIn hlim hG gS hB ((hb2 _ (by decide)).trans rfl) (by have := hr.dp; omega) fun h' tk' e d M => ?_)
    show MkP X pins σ Q (.ref e) ⟨h', g, dr, tk', os⟩
    obtain ⟨oe, fv, hoe, hc, hd, hdat, h1⟩ := M.obj
    have hns := M.ns
    obtain ⟨G', g1, g2⟩ := restrict h' fun b => decide (b ≠ e)
    have gk : ∀ b, b ≠ e → G'.get? b = h'.get? b := fun b hb => g1 b (decide_eq_true hb)
    have ge : G'.get? e = none := g2 e (by simp)
    have old : ∀ b o, hp.get? b = some o → G'.get? b = some o := fun b o q => (gk b (Nat.ne_of_lt (Nat.lt_of_lt_of_le (Heap.lt_size q) M.new))).trans (M.keep b o q)
    have ob : ObjOk X.prog X.w (upd H1 d (.xd [(nm, v)])) G' d (.xd [(nm, v)]) :=
      ⟨_, hns.at (fun o q => (gk d M.dne).trans q), fun f => relO_err rv f⟩
    have J : Inv X pins σ (upd H1 d (.xd [(nm, v)])) ⟨G', g, dr, tk', os⟩ := I1.laid (t' := tk') old M.dbig ob
    refine ⟨e, oe, fv, ⟨G', g, dr, tk', os⟩, _, .ref C, some d, rfl, J, fun b o q => ?_, ge, hoe, ⟨hc, hd⟩, hdat, h1, ?_, rfl, I1.bare, raises_own T.exC T.tyC, q1 d (I1.hok.fresh M.dbig)⟩
    · by_cases hb : b = e
      · have q' : G'.get? b = some o := q
        rw [hb, ge] at q'; cases q'
      · exact (gk b hb).symm.trans q
    · rw [upd_ne (Ne.symm M.dne)]
      exact I1.hok.fresh M.new
/-- raise x(e) -/
def tRaiseE (nm : Str) (C : Addr) (W : WX) (ta : TA) : TS := fun _ σ H => tMkE nm C ta σ H fun cls d H' => W cls d σ H'
theorem ps_raiseE {a : Expr} {ta : TA} {W : WX} {p pos pos2 : Pos} {k : Nat} (hc : X.calm = true) (T : CiE.ErrT X.K X.prog x nm C fI pa b sc) (hr : Room k X.A) (tk : Takes X W) (ha : PA X [a] ta) (hg : Gl X x) (hgd : (x == ("__debug__" : Str)) = false := by decide)
    (he : starEach (a :: []) X.env = (false, eval a X.env) :: starEach [] X.env := by rfl) (hpl : (backTo pos (starEach [] X.env)).any (·.1) = false := by rfl) :
    PS X (.Raise (some (.Call (.Name x p) [a] [] pos)) none pos2) (tRaiseE nm C W ta) := ps_raise hc tk (pmk_err T hr ha hg hgd he hpl)
/-- e.nm, e the exception that the suite holds (at a; its class cls, its dict d) -/
def tByE (nm : Str) (a : Addr) (d : Option Addr) (te : TE) : TE := fun σ H Q => te σ H fun x H1 => x = .ref a ∧ ∃ (dd : Addr) (v : V), d = some dd ∧ H1 dd = some (.xd [(nm, v)]) ∧ Q v H1
theorem pe_byE {a : Addr} {oe : Obj} {d : Option Addr} {pn : List (Addr × Obj)} {e : Expr} {te : TE} {pos : Pos} (T : CiE.ErrT X.K X.prog x nm C fI pa b sc) (hz : Zc (.ref C) d oe) (hf : ∃ vs, oe.data = .fields vs) (he : PE (X.suite a ((a, oe) :: pn)) e te)
    (hb : attributeBase e nm X.env (eval e X.env) = eval e X.env := by rfl) :
    PE (X.suite a ((a, oe) :: pn)) (.Attribute e nm pos) (tByE nm a d te) := by
  refine ⟨fun pins s σ H Q I h => ?_⟩
  refine attr_of hb (thn (he.run pins s σ H _ I h) fun u s1 hh => ?_)
  obtain ⟨x, H1, I1, rx, ex, dd, v, ed, ea, q⟩ := hh
  subst ex
  obtain rfl : u = Value.ref a := rx
  subst ed
  obtain ⟨ha, _⟩ := I1.pin (a, oe) (List.mem_append_left _ List.mem_cons_self)
  obtain ⟨vs, hd⟩ := hf
  have hx : ObjOk X.prog X.w H1 s1.heap dd (.xd [(nm, v)]) := I1.hok dd _ ea
  obtain ⟨mA, hns, hr⟩ := hx
  obtain ⟨od, ho, hl⟩ := lookIn_ns hns
  have l : List.lookup nm [(nm, v)] = some v := by simp [List.lookup]
  obtain ⟨u, hu, ru⟩ := RelO.some_of (v := v) (o := mA nm) (by rw [← l]; exact hr nm)
  have J : PySem.W.InstAt s1.heap a oe C (some od) := ⟨ha, hz.1, by unfold PySem.W.notCls; rw [hd] <;> rfl, by rw [hz.2]; exact ho⟩
  exact HandSPX.exc_get I1.kIn J T.ga T.gg T.exC (PySem.W.findObj_own T.hdC T.noN rfl (by rw [hl, hu])) (handed_of ru) ⟨v, H1, I1.tok _, ru, q⟩
end
end L2
/-! CiE2: what is looked at of an error class behind the program's top. -/
namespace CiE
open PySem PySem.W PySem.Calls PyProof.Rows PySem.HandSPX

theorem band {a b : Bool} (h : (a && b) = true) : a = true ∧ b = true := by
  cases a <;> cases b <;> first | exact ⟨rfl, rfl⟩ | cases h
def excClsB (K : Frag) (C : Addr) : Bool := match K.lookup C with
  | some ⟨.type ty, _, .cls cd, sl⟩ => (match cd.mro, sl.toList with
    | .ref C' :: bm, [_, _, _, _, some (.builtin n), _] => decide (ty = "type") && (decide (C' = C) && (decide (n = "ValueError.__new__") && (!cd.hasDel && (cd.hasDict && refsVE bm))))
    | _, _ => false)
  | _ => false
theorem excClsB_ok {K : Frag} {C : Addr} (h : excClsB K C = true) : ∃ nm q N bs bm sn sub ab col dd k0 k1 k2 k3 k5, K.lookup C = some (excClassObj nm q C N bs bm true sn sub ab col dd k0 k1 k2 k3 k5 "ValueError.__new__") ∧ refsVE bm = true := by
  unfold excClsB at h
  split at h
  · rename_i ty dd cd sl ho
    split at h
    · rename_i C' bm k0 k1 k2 k3 n k5 hm hs
      obtain ⟨h1, h⟩ := band h
      obtain ⟨h2, h⟩ := band h
      obtain ⟨h3, h⟩ := band h
      obtain ⟨h4, h⟩ := band h
      obtain ⟨h5, h6⟩ := band h
      have h1 := of_decide_eq_true h1
      have h2 := of_decide_eq_true h2
      have h3 := of_decide_eq_true h3
      subst h1 h2 h3
      obtain ⟨nm, bs, mro, ns, qn, hd, sn, sub, ab, col, del⟩ := cd
      dsimp only at hm h4 h5
      subst hm h5
      have h4 : del = false := by cases del <;> first | rfl | cases h4
      subst h4
      have hsl : sl = #[k0, k1, k2, k3, some (.builtin "ValueError.__new__"), k5] := by
        rw [← Array.toArray_toList (xs := sl), hs]
      subst hsl
      exact ⟨nm, qn, ns, bs, bm, sn, sub, ab, col, dd, k0, k1, k2, k3, k5, ho, h6⟩
    · cases h
  · cases h
abbrev EW : Type := Option (Arguments × FuncBody × Scope × Addr × List Str × Addr)
def errC (K : Frag) (x : Str) : Addr := match nsIn K mainGlobals x with
  | some (some (.ref C)) => C
  | _ => 0
def errI (K : Frag) (x : Str) : Addr := match findIn K (.ref (errC K x)) "__init__" with
  | some (some (.ref f)) => f
  | _ => 0
def errW (K : Frag) (x : Str) : EW := match K.lookup (errI K x) with
  | some ⟨_, _, .func fd, _⟩ => some (fd.params, fd.body, fd.scope, fd.globals, fd.closure.map (·.1), fd.builtins)
  | _ => none
def fnB (K : Frag) (file : Str) (C fI : Addr) : Bool := match K.lookup fI with
  | some ⟨_, _, .func fd, _⟩ => (match fd.code, fd.closure, fd.defaults, fd.kwdefaults with
    | .ref cda, [(n, cc)], .none, .none => codeIn K (.ref cda) fd.qualname && ((match K.lookup cda with
        | some (⟨_, _, .fields vs, _⟩ : Obj) => (match (vs[2]? : Option Value) with
          | some (.str f _) => decide (f = file)
          | _ => false)
        | _ => false) && (match K.lookup cc with
        | some ⟨_, _, .cell (some (.ref D)), _⟩ => decide (D = C)
        | _ => false))
    | _, _, _, _ => false)
  | _ => false
def errB (K : Frag) (file x nm : Str) : Bool :=
  decide (nsIn K mainGlobals x = some (some (.ref (errC K x)))) && (excClsB K (errC K x) && (decide (findIn K (.ref (errC K x)) "__setattr__" = some (some (.builtin "object.__setattr__"))) &&
  (decide (findIn K (.ref (errC K x)) "__getattribute__" = some (some (.builtin "BaseException.__getattribute__"))) && (decide (findIn K (.ref (errC K x)) "__getattr__" = some none) &&
  (decide (findIn K (.ref (errC K x)) nm = some none) && (decide (findIn K (.ref (errC K x)) "__init__" = some (some (.ref (errI K x)))) && (decide (typeIn K (.ref (errI K x)) = some (.type "function")) &&
  (keepIn K (.ref (errC K x)) && (decide (subIn K (.ref (errC K x)) (.type "BaseException") = some true) && (decide (typeIn K (.ref (errC K x)) = some (.type "type")) && (hasDictIn K (errC K x) &&
  (decide (ks_superIn K (errC K x) (errC K x) "__init__" = some (some (.builtin "ValueError.__init__"))) && (decide (mroIn K (errC K x) (.ref (errC K x)) = some true) &&
  (decide (subIn K (.ref (errC K x)) (.type "ValueError") = some true) && (decide (nsIn K cStatics "thirdparty.any" = some none) && (decide (nsIn K mainGlobals "super" = some none) && fnB K file (errC K x) (errI K x)))))))))))))))))
theorem errT_of {K : Frag} {prog : Program} {x nm : Str} {pa : Arguments} {b : List Stmt} {sc : Scope} (h : errB K prog.main.file x nm = true) (e : errW K x = some (pa, .stmts b, sc, mainGlobals, [Str.ofString "__class__"], builtinsNs))
    (is : InitS nm pa b sc) (top : (prog.main.scope.names.lookup ("super" : Str)).isSome = false) : ErrT K prog x nm (errC K x) (errI K x) pa b sc := by
  unfold errB at h
  unfold errW at e
  obtain ⟨h1, h⟩ := band h
  obtain ⟨h2, h⟩ := band h
  obtain ⟨h3, h⟩ := band h
  obtain ⟨h4, h⟩ := band h
  obtain ⟨h5, h⟩ := band h
  obtain ⟨h6, h⟩ := band h
  obtain ⟨h7, h⟩ := band h
  obtain ⟨h8, h⟩ := band h
  obtain ⟨h9, h⟩ := band h
  obtain ⟨h10, h⟩ := band h
  obtain ⟨h11, h⟩ := band h
  obtain ⟨h12, h⟩ := band h
  obtain ⟨h13, h⟩ := band h
  obtain ⟨h14, h⟩ := band h
  obtain ⟨h15, h⟩ := band h
  obtain ⟨h16, h⟩ := band h
  obtain ⟨h17, h18⟩ := band h
  refine ⟨of_decide_eq_true h1, excClsB_ok h2, of_decide_eq_true h3, of_decide_eq_true h4, of_decide_eq_true h5, of_decide_eq_true h6, of_decide_eq_true h7, of_decide_eq_true h8, h9, of_decide_eq_true h10, of_decide_eq_true h11, h12, of_decide_eq_true h13, of_decide_eq_true h14, of_decide_eq_true h15, of_decide_eq_true h16, of_decide_eq_true h17, top, ?_, is⟩
  clear h1 h2 h3 h4 h5 h6 h7 h8 h9 h10 h11 h12 h13 h14 h15 h16 h17
  generalize errI K x = fI at *
  generalize errC K x = C at *
  unfold fnB at h18
  cases q : K.lookup fI with
  | none => rw [q] at h18; cases h18
  | some o =>
    obtain ⟨oc, od, dt, osl⟩ := o
    rw [q] at h18 e
    cases dt with
    | func fd =>
      obtain ⟨n1, n2, n3, n4, n5, n6, n7, n8, n9, n10, n11, n12, n13, n14, n15⟩ := fd
      dsimp only at h18 e
      simp only [Option.some.injEq, Prod.mk.injEq] at e
      obtain ⟨e1, e2, e3, e4, e5, e6⟩ := e
      subst e1 e2 e3 e4 e6
      split at h18
      · rename_i cda n cc
        have e5 : [n] = [Str.ofString "__class__"] := e5
        cases e5
        obtain ⟨g1, h18⟩ := band h18
        obtain ⟨g2, g3⟩ := band h18
        split at g2
        · rename_i ccl cdd vs ccs qa
          split at g2
          · rename_i f tf qv
            have g2 := of_decide_eq_true g2
            subst g2
            split at g3
            · rename_i cl cld D csl qc
              have g3 := of_decide_eq_true g3
              subst g3
              exact ⟨oc, od, n1, n2, n10, n11, n12, cda, cc, n14, osl, ccl, cdd, vs, ccs, tf, cl, cld, csl, rfl, g1, qa, qv, qc⟩
            · cases g3
          · cases g2
        · cases g2
      · cases h18
    | _ => cases h18
end CiE
/-! Ci13: raise, try; calls without arguments. -/
namespace Ci
open PySem L2 PyProof.Rows

section
variable {Z : Cz} {x : Str} {p pos : Pos}
/-- f() -/
theorem w_call0 (i : Nat) {a : Arguments} {b : List Stmt} {sc : Scope} (ok : Z.Ok) (c : Callee Z x i [] a b sc) (hg : Gl Z.X x)
    (hb : ∀ (kV doc pm : Value) (an : Option Addr) (cdv ct : Value) (us : List Value), us.length = ([] : List Str).length → bindArgs (PySem.W.fnOf x x a b sc .none kV doc pm an cdv ct) ⟨us, []⟩ = pure (([] : List Str).zip us))
    (hdb : (x == ("__debug__" : Str)) = false := by decide) :
    SE Z (.Call (.Name x p) [] [] pos) (.call i none .nil) := by
  obtain ⟨f, fd, k, hm, F, hr, G⟩ := c.ex
  refine ⟨fun pins s σ H Q I h => ?_⟩
  obtain ⟨ι, en, st, r, hf⟩ := h
  have hf : Fin Z.X.K (fun c d H' => Z.x c d σ H') ι H (Z.cl i [] st) (fun w ι' _ H' => ∀ v, RW Z.X.K H' ι' w v → Q v H') := hf
  refine wpAny_Call_Name_kw (ld_glob I hg hm ?_ hdb)
  refine PySem.W.callWith_K0 I.kIn F.kp ?_
  refine wpAny_call (codeAny_mono (run_g (args := ⟨[], []⟩) (us := []) (vs := []) ok G hr I (fun hl => F.bindsA hb s [] hl) .nil (call_fin r.hr .nil rfl hf)) fun res s' hq => ?_)
  cases res with
  | error er => exact hq
  | ok fl => cases fl <;> exact hq

/-! ### raise x(e) -/
theorem ErrAt {K : PySem.W.Frag} {P : Program} {x : Str} {C fI : Addr} {pa : Arguments} {b : List Stmt} {sc : Scope} (T : CiE.ErrT K P x (Str.ofString "at") C fI pa b sc) : AtC K C := ⟨T.ga, T.gg, T.noN, T.exC, T.hdC⟩
theorem s_raise {A : Nat → Bool} {a : Expr} {ca : E} {pos2 : Pos} {k : Nat} {C fI : Addr} {pa : Arguments} {b : List Stmt} {sc : Scope} (ok : Z.Ok) (T : CiE.ErrT Z.X.K Z.X.prog x (Str.ofString "at") C fI pa b sc) (hr : Room k Z.X.A) (ha : SE Z a ca) (hg : Gl Z.X x) (hgd : (x == ("__debug__" : Str)) = false := by decide)
    (hs : starEach (a :: []) Z.X.env = (false, eval a Z.X.env) :: starEach [] Z.X.env := by rfl) (hpl : (backTo pos (starEach [] Z.X.env)).any (·.1) = false := by rfl) :
    SS Z A (.Raise (some (.Call (.Name x p) [a] [] pos)) none pos2) (.raise_ x (.cons ca .nil)) := by
  refine ps_imp (ps_raiseE ok.calm T hr ok.tk (w_cons ha w_nil hs) hg hgd hs hpl) fun D σ H h => ?_
  obtain ⟨ι, en, st, r, hf⟩ := h
  have hf : Fin Z.X.K (fun c d H' => ∀ σ', Agree A σ σ' → Z.x c d σ' H') ι H ((evs Z.cl (.cons ca .nil) en st).bind fun ws st1 => .exc ⟨x, ws⟩ st1) (outK Z.X.K D A σ) := hf
  refine ⟨ι, en, st, r, (Fin.len (own_wish (Fin.split hf))).mono fun ws ι' st' H' p' t z q vs rs => ?_⟩
  obtain ⟨hl, q⟩ := q
  match ws, hl, rs with
  | [w], _, .cons (v := v) rv .nil =>
    refine ⟨v, rfl, fun d hd => ?_⟩
    have z' : HRel Z.X.K (upd H' d (.xd [(Str.ofString "at", v)])) ι' st' := ⟨z.len, z.inj, fun n a o e1 e2 => by
      have ne : a ≠ d := fun q => z.fresh hd n (by rw [e1, q])
      exact (z.ob n a o e1 e2).keep (TK.new hd) (Pre.refl ι') (upd_ne ne)⟩
    exact q ι' _ (.ref C) (some d) (Pre.refl _) (TK.new hd) z' ⟨C, w, d, v, T.gC, rfl, ErrAt T, rfl, rfl, upd_same, rv.keep (TK.new hd) (Pre.refl _)⟩ σ (Agree.refl A σ)

/-! ### the suite of a clause: an expression, the exception's argument -/
/-- as Rel, but slot i may hold the exception at a -/
structure RelX (K : PySem.W.Frag) (i : Nat) (o : Option (Addr × Value × Option Addr)) (σ : L2.St) (H : Hp) (ι : List Addr) (en : En) (st : Sto) : Prop where
  hr : HRel K H ι st
  len : σ.length = en.length
  ent : ∀ (j : Nat) (w : W), j ≠ i → en[j]? = some (some w) → ∃ v, σ[j]? = some (some v) ∧ RW K H ι w v
  ex : ∀ q, o = some q → i < en.length → ∃ w C dd v, en[i]? = some (some w) ∧ σ[i]? = some (some (.ref q.1)) ∧ q.2.1 = .ref C ∧ AtC K C ∧ q.2.2 = some dd ∧ H dd = some (.xd [(Str.ofString "at", v)]) ∧ RW K H ι w v
theorem RelX.keep {K : PySem.W.Frag} {i : Nat} {o : Option (Addr × Value × Option Addr)} {σ : L2.St} {H H' : Hp} {ι ι' : List Addr} {en : En} {st st' : Sto} (R : RelX K i o σ H ι en st) (t : TK H H') (p : Pre ι ι') (h : HRel K H' ι' st') : RelX K i o σ H' ι' en st' :=
  ⟨h, R.len, fun j w hj e => let ⟨v, q, r⟩ := R.ent j w hj e; ⟨v, q, r.keep t p⟩, fun q e hi => let ⟨w, C, dd, v, h1, h2, h3, h4, h5, h6, h7⟩ := R.ex q e hi; ⟨w, C, dd, v, h1, h2, h3, h4, h5, t _ _ h6 (fun z => z), h7.keep t p⟩⟩
def tX (K : PySem.W.Frag) (i : Nat) (o : Option (Addr × Value × Option Addr)) (f : En → Sto → Res W) : TE := fun σ H Q => ∃ ι en st, RelX K i o σ H ι en st ∧ Fin K (fun _ _ _ => False) ι H (f en st) fun w ι' _ H' => ∀ v, RW K H' ι' w v → Q v H'
def tXs (K : PySem.W.Frag) (i : Nat) (o : Option (Addr × Value × Option Addr)) (f : En → Sto → Res (List W)) : TA := fun σ H Q => ∃ ι en st, RelX K i o σ H ι en st ∧ Fin K (fun _ _ _ => False) ι H (f en st) fun w ι' _ H' => ∀ v, RWs K H' ι' w v → Q v H'
abbrev SX (X : Cx) (i : Nat) (o : Option (Addr × Value × Option Addr)) (cl : Cl) (e : Expr) (c : E) : Prop := PE X e (tX X.K i o fun en st => ev cl c en st)
abbrev SXs (X : Cx) (i : Nat) (o : Option (Addr × Value × Option Addr)) (cl : Cl) (e : List Expr) (c : Es) : Prop := PA X e (tXs X.K i o fun en st => evs cl c en st)
section
variable {X : Cx} {i : Nat} {o : Option (Addr × Value × Option Addr)} {cl : Cl}
theorem x_int {k j} : SX X i o cl (.Constant (.int k) j pos) (.con (.int k)) := pe_imp pe_int fun σ H Q ⟨ι, en, st, r, hf⟩ => hf.now r.hr _ (.int k)
theorem x_bl {b j} : SX X i o cl (.Constant (.bool b) j pos) (.con (.bl b)) := pe_imp pe_bl fun σ H Q ⟨ι, en, st, r, hf⟩ => hf.now r.hr _ (.bl b)
theorem x_non {j} : SX X i o cl (.Constant .none j pos) (.con .non) := pe_imp pe_non fun σ H Q ⟨ι, en, st, r, hf⟩ => hf.now r.hr _ .non
theorem x_str {x j} : SX X i o cl (.Constant (.str x) j pos) (.con (.str x)) := pe_imp pe_str fun σ H Q ⟨ι, en, st, r, hf⟩ => hf.now r.hr _ (.str x)
theorem x_var (k : Nat) {x : Str} (hk : k ≠ i := by decide) (hN : X.N[k]? = some x := by rfl) (hv : Vis X.env.scope x := by first | exact Or.inl rfl | exact Or.inr (Or.inl rfl) | exact Or.inr (Or.inr rfl)) (hd : (x == ("__debug__" : Str)) = false := by decide)
    (hcd : (x == ("__classdict__" : Str)) = false := by decide) : SX X i o cl (.Name x pos) (.var k) := by
  refine pe_imp (pe_var hN hv hd hcd) fun σ H Q h => ?_
  obtain ⟨ι, en, st, r, hf⟩ := h
  have hf : Fin X.K (fun _ _ _ => False) ι H (match en[k]? with | some (some w) => .ok w st | _ => .bad) _ := hf
  split at hf
  · rename_i w e
    obtain ⟨v, e1, rv⟩ := r.ent k w hk e
    exact ⟨v, e1, hf.now r.hr v rv⟩
  · exact hf.elim
theorem x_nil : SXs X i o cl [] .nil := pa_imp pa_nil fun σ H Q ⟨ι, en, st, r, hf⟩ => hf.now r.hr [] .nil
theorem x_cons {e : Expr} {es : List Expr} {c : E} {cs : Es} (ha : SX X i o cl e c) (hr : SXs X i o cl es cs) (hs : starEach (e :: es) X.env = (false, eval e X.env) :: starEach es X.env := by rfl) : SXs X i o cl (e :: es) (.cons c cs) := by
  refine pa_imp (pa_cons ha hr hs) fun σ H Q h => ?_
  obtain ⟨ι, en, st, r, hf⟩ := h
  have hf : Fin X.K (fun _ _ _ => False) ι H ((ev cl c en st).bind fun x st1 => (evs cl cs en st1).bind fun xs st2 => .ok (x :: xs) st2) (fun w ι' _ H' => ∀ v, RWs X.K H' ι' w v → Q v H') := hf
  refine ⟨ι, en, st, r, (Fin.split hf).mono fun w ι1 st1 H1 p1 t1 z1 q1 v rv => ?_⟩
  refine ⟨ι1, en, st1, r.keep t1 p1 z1, (Fin.split q1).mono fun ws ι' st' H' p t z q' vs rs => ?_⟩
  exact q'.now z _ (.cons (rv.keep t p) rs)
theorem x_tup {es : List Expr} {cs : Es} {k} (h : SXs X i o cl es cs) : SX X i o cl (.Tuple es k pos) (.tup cs) := by
  refine pe_imp (pe_tup h) fun σ H Q h => ?_
  obtain ⟨ι, en, st, r, hf⟩ := h
  have hf : Fin X.K (fun _ _ _ => False) ι H ((evs cl cs en st).bind tupK) (fun w ι' _ H' => ∀ v, RW X.K H' ι' w v → Q v H') := hf
  refine ⟨ι, en, st, r, (Fin.split hf).mono fun ws ι' st' H' p t z q vs rs => ?_⟩
  unfold tupK at q
  split at q
  · rename_i hl
    refine ⟨by rw [← rs.len]; exact hl, ?_⟩
    exact FinO.tup (ws := ws) (fun ι' H' v a b c d => q ι' H' a b c v d) z rs
  · exact q.elim
theorem x_lst {es : List Expr} {cs : Es} (h : SXs X i o cl es cs) : SX X i o cl (.List es pos) (.lst cs) := by
  refine pe_imp (pe_lst h) fun σ H Q h => ?_
  obtain ⟨ι, en, st, r, hf⟩ := h
  have hf : Fin X.K (fun _ _ _ => False) ι H ((evs cl cs en st).bind lstK) (fun w ι' _ H' => ∀ v, RW X.K H' ι' w v → Q v H') := hf
  refine ⟨ι, en, st, r, (Fin.split hf).mono fun ws ι' st' H' p t z q vs rs => ?_⟩
  unfold lstK at q
  split at q
  · rename_i hl
    refine ⟨by rw [← rs.len]; exact hl, ?_⟩
    exact FinO.new (ws := ws) (fun ι' H' v a b c d => q ι' H' a b c v d) z rs
  · exact q.elim
end
/-- e.at -/
def tByX (K : PySem.W.Frag) (a : Addr) (cls : Value) (d : Option Addr) (te : TE) : TE := fun σ H Q => te σ H fun x H1 => x = .ref a ∧ ∃ C dd v, cls = .ref C ∧ AtC K C ∧ d = some dd ∧ H1 dd = some (.xd [(Str.ofString "at", v)]) ∧ Q v H1
theorem pe_byX {X : Cx} {a : Addr} {oe : Obj} {cls : Value} {d : Option Addr} {pn : List (Addr × Obj)} {e : Expr} {te : TE} (hz : Zc cls d oe) (hf : ∃ vs, oe.data = .fields vs) (he : PE (X.suite a ((a, oe) :: pn)) e te)
    (hb : attributeBase e "at" X.env (eval e X.env) = eval e X.env := by rfl) :
    PE (X.suite a ((a, oe) :: pn)) (.Attribute e "at" pos) (tByX X.K a cls d te) := by
  refine ⟨fun pins s σ H Q I h => ?_⟩
  refine attr_of hb (thn (he.run pins s σ H _ I h) fun u s1 hh => ?_)
  obtain ⟨x, H1, I1, rx, ex, C, dd, v, ec, T, ed, ea, q⟩ := hh
  subst ex
  obtain rfl : u = Value.ref a := rx
  subst ed ec
  obtain ⟨ha, _⟩ := I1.pin (a, oe) (List.mem_append_left _ List.mem_cons_self)
  obtain ⟨vs, hd⟩ := hf
  have hx : ObjOk X.prog X.w H1 s1.heap dd (.xd [(Str.ofString "at", v)]) := I1.hok dd _ ea
  obtain ⟨mA, hns, hr⟩ := hx
  obtain ⟨od, ho, hl⟩ := lookIn_ns hns
  have l : List.lookup (Str.ofString "at") [(Str.ofString "at", v)] = some v := by simp [List.lookup]
  obtain ⟨u, hu, ru⟩ := RelO.some_of (v := v) (o := mA (Str.ofString "at")) (by rw [← l]; exact hr (Str.ofString "at"))
  have J : PySem.W.InstAt s1.heap a oe C (some od) := ⟨ha, hz.1, by unfold PySem.W.notCls; rw [hd] <;> rfl, by rw [hz.2]; exact ho⟩
  exact HandSPX.exc_get I1.kIn J T.ga T.gg T.exC (PySem.W.findObj_own T.hdC T.noN rfl (by rw [hl, hu])) (handed_of ru) ⟨v, H1, I1.tok _, ru, q⟩
theorem x_at (i : Nat) {X : Cx} {a : Addr} {oe : Obj} {cls : Value} {d : Option Addr} {pn : List (Addr × Obj)} {cl : Cl} {x : Str} {pos2 : Pos} (hz : Zc cls d oe) (hf : ∃ vs, oe.data = .fields vs) (hN : X.N[i]? = some x := by rfl) (hv : Vis X.env.scope x := by first | exact Or.inl rfl | exact Or.inr (Or.inl rfl) | exact Or.inr (Or.inr rfl)) (hd : (x == ("__debug__" : Str)) = false := by decide)
    (hcd : (x == ("__classdict__" : Str)) = false := by decide) (hb : attributeBase (.Name x pos2) "at" X.env (eval (.Name x pos2) X.env) = eval (.Name x pos2) X.env := by rfl) :
    SX (X.suite a ((a, oe) :: pn)) i (some (a, cls, d)) cl (.Attribute (.Name x pos2) "at" pos) (.var i) := by
  refine pe_imp (pe_byX hz hf (pe_var hN hv hd hcd) hb) fun σ H Q h => ?_
  obtain ⟨ι, en, st, r, hf⟩ := h
  have hf : Fin X.K (fun _ _ _ => False) ι H (match en[i]? with | some (some w) => .ok w st | _ => .bad) (fun w ι' _ H' => ∀ v, RW X.K H' ι' w v → Q v H') := hf
  have hi : i < en.length := by
    rcases Nat.lt_or_ge i en.length with q | q
    · exact q
    · rw [List.getElem?_eq_none q] at hf; exact hf.elim
  obtain ⟨w, C, dd, v, h1, h2, h3, h4, h5, h6, h7⟩ := r.ex _ rfl hi
  rw [h1] at hf
  exact ⟨.ref a, h2, rfl, C, dd, v, h3, h4, h5, h6, hf.now r.hr v h7⟩

/-! ### try .. except -/
def Cz.tr (Z : Cz) (pn : List (Addr × Obj)) (xe : Value → Shared → Prop) (W : WX) : Cz := ⟨Z.X.tr pn xe, W, Z.cl⟩
theorem Cz.Ok.tr (ok : Z.Ok) {pn : List (Addr × Obj)} {xe : Value → Shared → Prop} {W : WX} (tk : Takes (Z.X.tr pn xe) W) : (Z.tr pn xe W).Ok := ⟨ok.calm, ok.nd, tk, ok.hu, ok.gd⟩
theorem Callee.tr {x : Str} {i : Nat} {ps : List Str} {a : Arguments} {b : List Stmt} {sc : Scope} (c : Callee Z x i ps a b sc) (pn : List (Addr × Obj)) (xe : Value → Shared → Prop) (W : WX) : Callee (Z.tr pn xe W) x i ps a b sc := ⟨c.ex⟩
theorem wipeE_get {en : En} {j : Nat} : ∀ {own : List Nat}, j ∉ own → (wipeE en own)[j]? = en[j]?
  | [], _ => rfl
  | v :: vs, h => by
    show ((wipeE en vs).set v none)[j]? = _
    rw [List.getElem?_set_ne (fun z => h (by rw [z]; exact List.mem_cons_self))]
    exact wipeE_get fun z => h (List.mem_cons_of_mem _ z)
theorem wipeE_none {en : En} {j : Nat} {w : W} : ∀ {own : List Nat}, (wipeE en own)[j]? = some (some w) → j ∉ own
  | [], _ => fun z => by cases z
  | v :: vs, h => by
    have h : ((wipeE en vs).set v none)[j]? = some (some w) := h
    by_cases e : v = j
    · subst e
      by_cases hl : v < (wipeE en vs).length
      · rw [List.getElem?_set_self hl] at h; cases h
      · rw [List.getElem?_eq_none (by simpa using hl)] at h; cases h
    · rw [List.getElem?_set_ne e] at h
      exact fun z => by
        rcases List.mem_cons.mp z with z | z
        · exact e z.symm
        · exact wipeE_none h z
theorem wipeE_len {en : En} : ∀ {own : List Nat}, (wipeE en own).length = en.length
  | [] => rfl
  | v :: vs => by
    show ((wipeE en vs).set v none).length = _
    rw [List.length_set]
    exact wipeE_len
/-- which classes the clause takes, which it does not -/
structure Hears (K : PySem.W.Frag) (C : Addr) (cs no : List Str) : Prop where
  yes : ∀ y ∈ cs, ∀ D, PySem.W.nsIn K mainGlobals y = some (some (.ref D)) → PySem.W.exmOne K (.ref D) (.ref C) = some true
  no : ∀ y ∈ no, ∀ D, PySem.W.nsIn K mainGlobals y = some (some (.ref D)) → PySem.W.exmOne K (.ref D) (.ref C) = some false
theorem try_fin {K : PySem.W.Frag} {xw : WX} {A B : Nat → Bool} {D : Ends} {σ : L2.St} {H : Hp} {ι : List Addr} {en : En} {st : Sto} {C : Addr} {cs no : List Str} {own : List Nat} {i : Nat} {cl : Cl} {cb : S} {ce : E} {W : WX}
    (r : Rel K σ H ι en st) (hh : Hears K C cs no) (hAB : ∀ j, B j = true → A j = true) (hB : ∀ j, B j = true → j ∈ own)
    (hf : Fin K (fun c d H' => ∀ σ', Agree A σ σ' → xw c d σ' H') ι H (tryK cs no (fun ws st1 => noexc ((ev cl ce (hearE own i en ws) st1).bind fun x st2 => .ok (.rt x) st2)) (ex cl cb en st)) (outK K D A σ))
    (hW : ∀ c d σ' H', (∃ b, PySem.W.exmOne K c (.ref C) = some b ∧ (b = true → ∃ ι' en' st' w C' dd v, HRel K H' ι' st' ∧ σ'.length = en'.length ∧ (∀ j u, j ≠ i → en'[j]? = some (some u) → ∃ v, σ'[j]? = some (some v) ∧ RW K H' ι' u v) ∧ (i < en'.length → en'[i]? = some (some w)) ∧ c = .ref C' ∧ AtC K C' ∧ d = some dd ∧ H' dd = some (.xd [(Str.ofString "at", v)]) ∧ RW K H' ι' w v ∧
        Fin K (fun _ _ _ => False) ι' H' (ev cl ce en' st') fun w ι' _ H' => ∀ v, RW K H' ι' w v → D.rt v H') ∧ (b = false → xw c d σ' H')) → W c d σ' H') :
    Fin K (fun c d H' => ∀ σ', Agree B σ σ' → W c d σ' H') ι H (ex cl cb en st) (outK K D B σ) := by
  have ag : ∀ {σ'}, Agree B σ σ' → Agree A σ σ' := fun {σ'} q => ⟨q.1, fun j hj => q.2 j (by cases e : B j with | false => rfl | true => rw [hAB j e] at hj; cases hj)⟩
  cases e : ex cl cb en st with
  | bad => rw [e] at hf; exact hf.elim
  | ok o st1 =>
    rw [e] at hf
    intro ι' H' p t z
    have q := hf ι' H' p t z
    cases o with
    | nx en' => exact fun σ' a r' => q σ' (ag a) r'
    | bk en' => exact fun σ' a r' => q σ' (ag a) r'
    | ct en' => exact fun σ' a r' => q σ' (ag a) r'
    | rt w => exact q
  | exc y st1 =>
    rw [e] at hf
    intro ι' H' c d p t z rx σ' a
    obtain ⟨C', w, dd, v, g1, g2, g3, g4, g5, g6, g7⟩ := id rx
    refine hW c d σ' H' ?_
    have hf : Fin K (fun c d H' => ∀ σ', Agree A σ σ' → xw c d σ' H') ι H (if cs.contains y.cls then noexc ((ev cl ce (hearE own i en y.args) st1).bind fun x st2 => .ok (.rt x) st2) else if no.contains y.cls then .exc y st1 else .bad) (outK K D A σ) := hf
    cases hc : cs.contains y.cls with
    | true =>
      rw [hc, if_pos rfl, g4] at hf
      refine ⟨true, by rw [g2]; exact hh.yes _ (List.contains_iff_mem.mp hc) _ g1, fun _ => ?_, fun q => nomatch q⟩
      have hl : σ'.length = (hearE own i en [w]).length := by
        show _ = ((wipeE en own).set i (some w)).length
        rw [List.length_set, wipeE_len, ← r.len]
        exact a.1
      refine ⟨ι', hearE own i en [w], st1, w, C', dd, v, z, hl, fun j u hj hu => ?_, fun hi => ?_, g2, g3, g5, g6, g7, ?_⟩
      · have hu : ((wipeE en own).set i (some w))[j]? = some (some u) := hu
        rw [List.getElem?_set_ne (Ne.symm hj)] at hu
        have nj := wipeE_none hu
        rw [wipeE_get nj] at hu
        obtain ⟨v', q1, q2⟩ := r.en j u hu
        refine ⟨v', ?_, q2.keep t p⟩
        rw [a.2 j (by cases e : B j with | false => rfl | true => exact absurd (hB j e) nj)]
        exact q1
      · have hi : i < ((wipeE en own).set i (some w)).length := hi
        rw [List.length_set] at hi
        exact List.getElem?_set_self hi
      · have q := Fin.shift p t hf
        have q2 := fin_nx (y := fun _ _ _ => False) q
        refine q2.mono fun u ι2 st2 H2 p2 t2 z2 q3 vv rv => ?_
        exact (show Fin K _ ι2 H2 (noexc (.ok (.rt u) st2)) (outK K D A σ) from q3) ι2 H2 (Pre.refl _) (TK.refl _) z2 vv rv
    | false =>
      rw [hc, if_neg (by simp)] at hf
      cases hn : no.contains y.cls with
      | true =>
        rw [hn, if_pos rfl] at hf
        refine ⟨false, by rw [g2]; exact hh.no _ (List.contains_iff_mem.mp hn) _ g1, (fun q => nomatch q), fun _ => ?_⟩
        exact hf ι' H' c d p t z rx σ' (ag a)
      | false =>
        rw [hn, if_neg (by simp)] at hf
        exact hf.elim
theorem s_try {A B : Nat → Bool} (i : Nat) {n : Str} {C : Addr} {np rp pos' : Pos} {body : List Stmt} {e : Expr} {cb : S} {ce : E} {own : List Nat} {cs no : List Str} (ok : Z.Ok) (hs : Z.X.stack = Z.X.env :: Z.X.outer) (hf : Z.X.env.frame = some Z.X.env.locals)
    (hc : Names Z.X x (.ref C)) (hh : Hears Z.X.K C cs no) (hAB : ∀ j, B j = true → A j = true) (hB : ∀ j, B j = true → j ∈ own)
    (hb : ∀ (W : WX) (pn : List (Addr × Obj)) (xe : Value → Shared → Prop), Takes (Z.X.tr pn xe) W → PassesOwn (model Z.X.prog Z.X.w) Z.X.A Z.X.env xe → SB (Z.tr pn xe W) B body cb)
    (hsu : ∀ (a : Addr) (oe : Obj) (cls : Value) (d : Option Addr) (pn : List (Addr × Obj)), Zc cls d oe → (∃ vs, oe.data = .fields vs) → SX (Z.X.suite a ((a, oe) :: pn)) i (some (a, cls, d)) Z.cl e ce)
    (hi : Z.X.N[i]? = some n := by rfl) (hln : Z.X.env.kindOf n = some .local := by rfl) :
    SS Z A (.Try body [.ExceptHandler (some (.Name x np)) (some n) [.Return (some e) rp] pos'] [] [] pos) (.try_ own cb cs no i ce) := by
  refine ps_imp (ps_try_as (i := i) (c := .ref C) (tb := fun W => tWS Z.X.K W B fun en st => ex Z.cl cb en st) (ts := fun a cls d D σ H => tX Z.X.K i (some (a, cls, d)) (fun en st => ev Z.cl ce en st) σ H fun v H1 => D.rt v H1) (Wout := Z.x) hs hf ok.nd hi hln hc ok.tk hb (fun a oe cls d pn hz hf => pss_one (ps_imp (ps_ret (hsu a oe cls d pn hz hf)) fun D σ H h => h))) fun D σ H h => ?_
  obtain ⟨ι, en, st, r, hf⟩ := h
  refine ⟨ι, en, st, r, try_fin r hh hAB hB hf fun c d σ' H' ⟨b, e1, yes, no'⟩ => ⟨b, e1, fun hb' a ha => ?_, no'⟩⟩
  obtain ⟨ι', en', st', w, C', dd, v, g1, g2, g3, g4, g5, g6, g7, g8, g9, g10⟩ := yes hb'
  refine ⟨ι', en', st', ⟨g1, by rw [List.length_set]; exact g2, fun j u hj hu => ?_, fun q eq hi' => ?_⟩, g10⟩
  · rw [List.getElem?_set_ne (Ne.symm hj)]
    exact g3 j u hj hu
  · cases eq
    exact ⟨w, C', dd, v, g4 hi', List.getElem?_set_self (by rw [g2]; exact hi'), g5, g6, g7, g8, g9⟩
/-- the clause gives the exception no name -/
theorem s_tryN {A B : Nat → Bool} (i : Nat) {C : Addr} {np rp pos' : Pos} {body : List Stmt} {e : Expr} {cb : S} {ce : E} {own : List Nat} {cs no : List Str} (ok : Z.Ok) (hs : Z.X.stack = Z.X.env :: Z.X.outer) (hf : Z.X.env.frame = some Z.X.env.locals)
    (hc : Names Z.X x (.ref C)) (hh : Hears Z.X.K C cs no) (hAB : ∀ j, B j = true → A j = true) (hB : ∀ j, B j = true → j ∈ own)
    (hb : ∀ (W : WX) (pn : List (Addr × Obj)) (xe : Value → Shared → Prop), Takes (Z.X.tr pn xe) W → PassesOwn (model Z.X.prog Z.X.w) Z.X.A Z.X.env xe → SB (Z.tr pn xe W) B body cb)
    (hsu : ∀ (a : Addr) (oe : Obj) (cls : Value) (d : Option Addr) (pn : List (Addr × Obj)), Zc cls d oe → (∃ vs, oe.data = .fields vs) → SX (Z.X.suite a ((a, oe) :: pn)) i none Z.cl e ce) :
    SS Z A (.Try body [.ExceptHandler (some (.Name x np)) none [.Return (some e) rp] pos'] [] [] pos) (.try_ own cb cs no i ce) := by
  refine ps_imp (ps_try_only (c := .ref C) (tb := fun W => tWS Z.X.K W B fun en st => ex Z.cl cb en st) (ts := fun a cls d D σ H => tX Z.X.K i none (fun en st => ev Z.cl ce en st) σ H fun v H1 => D.rt v H1) (Wout := Z.x) hs hf hc ok.tk hb (fun a oe cls d pn hz hf => pss_one (ps_imp (ps_ret (hsu a oe cls d pn hz hf)) fun D σ H h => h))) fun D σ H h => ?_
  obtain ⟨ι, en, st, r, hf⟩ := h
  refine ⟨ι, en, st, r, try_fin r hh hAB hB hf fun c d σ' H' ⟨b, e1, yes, no'⟩ => ⟨b, e1, fun hb' a ha => ?_, no'⟩⟩
  obtain ⟨ι', en', st', w, C', dd, v, g1, g2, g3, g4, g5, g6, g7, g8, g9, g10⟩ := yes hb'
  exact ⟨ι', en', st', ⟨g1, g2, fun j u hj hu => g3 j u hj hu, fun q eq => nomatch eq⟩, g10⟩
end
end Ci
/-! Ci14: what is looked at behind the top: constants, error classes. -/
namespace Ci
open PySem L2 PyProof.Rows

structure ErrD where
  name : Str
  pa : Arguments
  b : List Stmt
  sc : Scope
def ErrD.val (e : ErrD) : CiE.EW := some (e.pa, .stmts e.b, e.sc, mainGlobals, [Str.ofString "__class__"], builtinsNs)
/-- a raised class, a clause's class, whether it is heard -/
def hearB (K : PySem.W.Frag) (m : Str × Str × Bool) : Bool :=
  decide (PySem.W.exmOne K (.ref (CiE.errC K m.1)) (.ref (CiE.errC K m.2.1)) = some m.2.2) && decide (PySem.W.nsIn K mainGlobals m.2.1 = some (some (.ref (CiE.errC K m.2.1))))
abbrev AlE : Type := He.AlD × Bool × List CiE.EW × Bool
def obsE0 (file : Str) (fa : List He.Fa) (fn : List He.DefD) (cs : List (Str × W)) (es : List ErrD) (ms : List (Str × Str × Bool)) (K : PySem.W.Frag) : AlE :=
  (He.obsD fa fn K, cs.all (fun c => conB K c), es.map (fun e => CiE.errW K e.name), (es.all fun e => CiE.errB K file e.name "at") && ms.all fun m => hearB K m)
def obsE (n : Nat) (file : Str) (fa : List He.Fa) (fn : List He.DefD) (cs : List (Str × W)) (es : List ErrD) (ms : List (Str × Str × Bool)) (g : Addr → Option Obj) : AlE :=
  obsE0 file fa fn cs es ms (He.frG g (cStatics :: He.asD g n))
def valE (fn : List He.DefD) (es : List ErrD) : AlE := (He.valD fn, true, es.map ErrD.val, true)
def SaysE (file : Str) (fa : List He.Fa) (fn : List He.DefD) (cs : List (Str × W)) (es : List ErrD) (ms : List (Str × Str × Bool)) (K : PySem.W.Frag) : Prop := obsE0 file fa fn cs es ms K = valE fn es
def hookE (n : Nat) (file : Str) (fa : List He.Fa) (fn : List He.DefD) (cs : List (Str × W)) (es : List ErrD) (ms : List (Str × Str × Bool)) : PySem.W.Hook where
  α := AlE
  obs := fun s => obsE n file fa fn cs es ms s.heap.get?
  val := fun _ => valE fn es
  says := fun _ h => ∃ K : PySem.W.Frag, K.In h ∧ SaysE file fa fn cs es ms K
  of := fun _ s e => ⟨_, He.frG_in, e⟩
  keeps := fun _ _ _ ⟨K, hK, c⟩ k => ⟨K, PySem.W.Frag.In.keeps hK k, c⟩
theorem obsE_eq {n : Nat} {file : Str} {fa : List He.Fa} {fn : List He.DefD} {cs : List (Str × W)} {es : List ErrD} {ms : List (Str × Str × Bool)} {g : Addr → Option Obj} {s : Shared} (h : ∀ a, g a = s.heap.get? a) : obsE n file fa fn cs es ms g = (hookE n file fa fn cs es ms).obs s := by
  have e : g = s.heap.get? := funext h
  rw [e]
  rfl
section
variable {file : Str} {fa : List He.Fa} {fn : List He.DefD} {cs : List (Str × W)} {es : List ErrD} {ms : List (Str × Str × Bool)} {K : PySem.W.Frag}
theorem SaysE.c (c : SaysE file fa fn cs es ms K) : SaysC fa fn cs K := ⟨congrArg (fun z : AlE => z.1) c, congrArg (fun z : AlE => z.2.1) c⟩
theorem SaysE.err {P : Program} {nm : Str} (c : SaysE P.main.file fa fn cs es ms K) (i : Nat) {e : ErrD} (he : es[i]? = some e) (is : CiE.InitS (Str.ofString "at") e.pa e.b e.sc) (top : (P.main.scope.names.lookup (Str.ofString "super")).isSome = false) (hn : e.name = nm) :
    CiE.ErrT K P nm (Str.ofString "at") (CiE.errC K nm) (CiE.errI K nm) e.pa e.b e.sc := by
  subst hn
  have c1 := (CiE.band (congrArg (fun z : AlE => z.2.2.2) c)).1
  have b := List.all_eq_true.mp c1 e (List.mem_of_getElem? he)
  have c2 : es.map (fun e => CiE.errW K e.name) = es.map ErrD.val := congrArg (fun z : AlE => z.2.2.1) c
  have c3 : (es.map fun e => CiE.errW K e.name)[i]? = (es.map ErrD.val)[i]? := by rw [c2]
  rw [List.getElem?_map, List.getElem?_map, he] at c3
  exact CiE.errT_of b (Option.some.inj c3) is top
theorem SaysE.hear (c : SaysE file fa fn cs es ms K) {x : Str} {yes no : List Str} (h1 : (yes.all fun y => ms.contains (y, x, true)) = true) (h2 : (no.all fun y => ms.contains (y, x, false)) = true) : Hears K (CiE.errC K x) yes no := by
  have c1 := (CiE.band (congrArg (fun z : AlE => z.2.2.2) c)).2
  have one : ∀ y b D, ms.contains (y, x, b) = true → PySem.W.nsIn K mainGlobals y = some (some (.ref D)) → PySem.W.exmOne K (.ref D) (.ref (CiE.errC K x)) = some b := fun y b D hm hD => by
    have q := List.all_eq_true.mp c1 (y, x, b) (List.contains_iff_mem.mp hm)
    have q := of_decide_eq_true (CiE.band q).1
    have e : CiE.errC K y = D := by unfold CiE.errC; rw [hD]
    rw [← e]
    exact q
  exact ⟨fun y hy D hD => one y true D (List.all_eq_true.mp h1 y hy) hD, fun y hy D hD => one y false D (List.all_eq_true.mp h2 y hy) hD⟩
theorem SaysE.clause (c : SaysE file fa fn cs es ms K) {h : Heap} {mg : Str → Option Value} (X : K.In h) (G : h.Ns mainGlobals mg) {x y : Str} {b : Bool} (hm : ms.contains (y, x, b) = true) : mg x = some (.ref (CiE.errC K x)) := by
  have c1 := (CiE.band (congrArg (fun z : AlE => z.2.2.2) c)).2
  have q := List.all_eq_true.mp c1 (y, x, b) (List.contains_iff_mem.mp hm)
  exact PySem.W.mg_of X G (of_decide_eq_true (CiE.band q).2)
end
/-- the __init__ of a class's text -/
def initOf (s : Stmt) : Stmt := match s with
  | .ClassDef _ _ _ (f :: _) _ _ _ _ _ _ _ => f
  | s => s
end Ci
/-! Cj0: what comes of a reckoning, in plain Lean. -/
namespace Ci
open PySem

/-- r ends so, or raises so -/
def Wx {α : Type} (E : Exn → Sto → Prop) (r : Res α) (Q : α → Sto → Prop) : Prop :=
  match r with
  | .ok a st => Q a st
  | .exc x st => E x st
  | .bad => False
def noX : Exn → Sto → Prop := fun _ _ => False
section
variable {α β : Type} {E : Exn → Sto → Prop} {r : Res α} {Q R : α → Sto → Prop} {a : α} {st : Sto}
theorem wp_ok : Wx E (.ok a st) Q = Q a st := rfl
theorem wp_exc {x : Exn} : Wx E (.exc x st : Res α) Q = E x st := rfl
theorem wp_bind {k : α → Sto → Res β} {Q : β → Sto → Prop} : Wx E (r.bind k) Q = Wx E r fun a st => Wx E (k a st) Q := by cases r <;> rfl
theorem wp_bad : Wx E (.bad : Res α) Q = False := rfl
theorem Wx.monoX {F : Exn → Sto → Prop} (h : Wx E r Q) (i : ∀ a st, Q a st → R a st) (j : ∀ x st, E x st → F x st) : Wx F r R := by
  cases r with
  | ok a st => exact i a st h
  | exc x st => exact j x st h
  | bad => exact h
theorem Wx.mono (h : Wx E r Q) (i : ∀ a st, Q a st → R a st) : Wx E r R := h.monoX i fun _ _ h => h
theorem Wp.mono (h : Wx noX r Q) (i : ∀ a st, Q a st → R a st) : Wx E r R := Wx.monoX h i fun _ _ h => h.elim
theorem wp_iff : Wx noX r Q ↔ ∃ a st, r = .ok a st ∧ Q a st := by
  cases r with
  | ok a st => exact ⟨fun h => ⟨a, st, rfl, h⟩, fun ⟨_, _, e, h⟩ => by cases e; exact h⟩
  | exc x st => exact ⟨fun h => h.elim, fun ⟨_, _, e, _⟩ => by cases e⟩
  | bad => exact ⟨fun h => h.elim, fun ⟨_, _, e, _⟩ => by cases e⟩
theorem wp_noexc : Wx E (noexc r) Q = Wx noX r Q := by cases r <;> rfl
end
/-- behind a statement the rest goes on -/
def Sk (E : Exn → Sto → Prop) (cl : Nat → List W → Sto → Res W) (b : S) (Q : Out → Sto → Prop) (o : Out) (st : Sto) : Prop :=
  match o with
  | .nx e => Wx E (ex cl b e st) Q
  | o => Q o st
section
variable {E : Exn → Sto → Prop} {cl : Nat → List W → Sto → Res W} {en : En} {st : Sto} {Q : Out → Sto → Prop}
theorem wp_seq {a b : S} : Wx E (ex cl (.seq a b) en st) Q = Wx E (ex cl a en st) (Sk E cl b Q) := by
  rw [ex, wp_bind]
  congr 1
  funext o st1
  cases o with
  | nx e => rfl
  | _ => exact wp_ok
theorem sk_nx {b : S} {e : En} : Sk E cl b Q (.nx e) st = Wx E (ex cl b e st) Q := rfl
theorem sk_rt {b : S} {v : W} : Sk E cl b Q (.rt v) st = Q (.rt v) st := rfl
theorem sk_bk {b : S} {e : En} : Sk E cl b Q (.bk e) st = Q (.bk e) st := rfl
theorem sk_ct {b : S} {e : En} : Sk E cl b Q (.ct e) st = Q (.ct e) st := rfl
theorem sk_mono {b : S} {R : Out → Sto → Prop} {o : Out} (h : Sk E cl b Q o st) (i : ∀ o st, Q o st → R o st) : Sk E cl b R o st := by
  cases o with
  | nx e => exact Wx.mono h i
  | _ => exact i _ _ h
/-- a loop's ends -/
def Lk (I : En → Sto → Prop) (Q : Out → Sto → Prop) (o : Out) (st : Sto) : Prop :=
  match o with
  | .nx e => I e st
  | .ct e => I e st
  | .bk e => Q (.nx e) st
  | .rt v => Q (.rt v) st
theorem lk_nx {I : En → Sto → Prop} {e : En} : Lk I Q (.nx e) st = I e st := rfl
theorem lk_ct {I : En → Sto → Prop} {e : En} : Lk I Q (.ct e) st = I e st := rfl
theorem lk_bk {I : En → Sto → Prop} {e : En} : Lk I Q (.bk e) st = Q (.nx e) st := rfl
theorem lk_rt {I : En → Sto → Prop} {v : W} : Lk I Q (.rt v) st = Q (.rt v) st := rfl
end
section
variable {E : Exn → Sto → Prop} {get : Sto → Nat → Option (Option W)} {as : W → En → Option En} {body : En → Sto → Res Out} {Q : Out → Sto → Prop}
theorem wp_forL (ws : List W) (I : Nat → En → Sto → Prop) (hg : ∀ k en st, I k en st → get st k = some ws[k]?)
    (step : ∀ k w en st, ws[k]? = some w → I k en st → ∃ en1, as w en = some en1 ∧ Wx E (body en1 st) (Lk (I (k + 1)) Q)) (fin : ∀ en st, I ws.length en st → Q (.nx en) st) :
    ∀ (F k : Nat) (en : En) (st : Sto), k ≤ ws.length → ws.length < k + F → I k en st → Wx E (forL get as body F k en st) Q
  | 0, k, en, st, h1, h2, _ => by omega
  | F + 1, k, en, st, h1, h2, i => by
    rw [forL, hg k en st i]
    rcases Nat.lt_or_ge k ws.length with h | h
    · rw [List.getElem?_eq_getElem h]
      obtain ⟨en1, e1, q⟩ := step k _ en st (List.getElem?_eq_getElem h) i
      simp only [e1, wp_bind]
      refine q.mono fun o st1 q => ?_
      cases o with
      | nx e => exact wp_forL ws I hg step fin F (k + 1) e st1 h (by omega) q
      | ct e => exact wp_forL ws I hg step fin F (k + 1) e st1 h (by omega) q
      | bk e => exact q
      | rt v => exact q
    · rw [List.getElem?_eq_none h]
      have : k = ws.length := Nat.le_antisymm h1 h
      subst this
      exact fin en st i
theorem wp_lcL {en0 : En} {test : En → Sto → Res Bool} {elt : En → Sto → Res W} {D : Nat} {Q : W → Sto → Prop} (ws : List W) (I : Nat → Sto → Prop) (hg : ∀ k st, I k st → get st k = some ws[k]?)
    (step : ∀ k w st, ws[k]? = some w → I k st → ∃ en1, as w en0 = some en1 ∧ Wx noX (test en1 st) fun b st1 => match b with
      | true => Wx noX (elt en1 st1) fun y st2 => ∃ acc, st2[D]? = some (.lst acc) ∧ acc.length < sizeLine ∧ I (k + 1) (st2.set D (.lst (acc ++ [y])))
      | false => I (k + 1) st1) (fin : ∀ st, I ws.length st → Q (.ref D) st) :
    ∀ (F k : Nat) (st : Sto), k ≤ ws.length → ws.length < k + F → I k st → Wx noX (lcL get as en0 test elt D F k st) Q
  | 0, k, st, h1, h2, _ => by omega
  | F + 1, k, st, h1, h2, i => by
    rw [lcL, hg k st i]
    rcases Nat.lt_or_ge k ws.length with h | h
    · rw [List.getElem?_eq_getElem h]
      obtain ⟨en1, e1, q⟩ := step k _ st (List.getElem?_eq_getElem h) i
      simp only [e1, wp_bind]
      refine q.mono fun b st1 q => ?_
      cases b with
      | true =>
        simp only [iteK, wp_bind]
        refine Wp.mono q fun y st2 q => ?_
        obtain ⟨acc, ea, hl, q⟩ := q
        simp only [pushK, ea, if_pos hl]
        exact wp_lcL ws I hg step fin F (k + 1) _ h (by omega) q
      | false => exact wp_lcL ws I hg step fin F (k + 1) _ h (by omega) q
    · rw [List.getElem?_eq_none h]
      have : k = ws.length := Nat.le_antisymm h1 h
      subst this
      exact fin st i
theorem wp_whlL {test : En → Sto → Res Bool} (I : Nat → En → Sto → Prop)
    (step : ∀ k en st, I k en st → Wx E (test en st) fun b st1 => match b with
      | true => 0 < k ∧ Wx E (body en st1) (Lk (fun e st => ∃ j, j < k ∧ I j e st) Q)
      | false => Q (.nx en) st1) :
    ∀ (F k : Nat) (en : En) (st : Sto), k < F → I k en st → Wx E (whlL test body F en st) Q
  | 0, k, en, st, h1, _ => by omega
  | F + 1, k, en, st, h1, i => by
    rw [whlL, wp_bind]
    refine (step k en st i).mono fun b st1 q => ?_
    cases b with
    | false => exact q
    | true =>
      simp only [iteK, wp_bind]
      refine q.2.mono fun o st2 q2 => ?_
      cases o with
      | nx e => obtain ⟨j, hj, q2⟩ := q2; exact wp_whlL I step F j e st2 (by omega) q2
      | ct e => obtain ⟨j, hj, q2⟩ := q2; exact wp_whlL I step F j e st2 (by omega) q2
      | bk e => exact q2
      | rt v => exact q2
end
/-- a def by its core -/
theorem wp_run {E : Exn → Sto → Prop} {tab : List Fd} {n i : Nat} {d : Fd} {ws : List W} {st : Sto} {Q : W → Sto → Prop} (h : tab[i]? = some d) (hl : ws.length = d.np) (q : Wx E (ex (run tab n) d.body (startE d.nl ws) st) fun o st' => Wx E (retK o st') Q) : Wx E (run tab (n + 1) i ws st) Q := by
  rw [run, h]
  simp only [hl, if_true, wp_bind]
  exact q

/-! ### stores that keep all but two objects -/
def Keep (d c : Nat) (st st' : Sto) : Prop := ∀ n o, n ≠ d → n ≠ c → st[n]? = some o → st'[n]? = some o
theorem Keep.refl {d c : Nat} {st : Sto} : Keep d c st st := fun _ _ _ _ h => h
theorem Keep.trans {d c : Nat} {a b e : Sto} (x : Keep d c a b) (y : Keep d c b e) : Keep d c a e := fun n o h1 h2 h => y n o h1 h2 (x n o h1 h2 h)
theorem Keep.new {d c : Nat} {st : Sto} {o : Ob} : Keep d c st (st ++ [o]) := fun n u _ _ h => by
  rw [List.getElem?_append_left (List.getElem?_eq_some_iff.mp h).1]; exact h
theorem Keep.set {d c : Nat} {st : Sto} {m : Nat} {o : Ob} (hm : m = d ∨ m = c) : Keep d c st (st.set m o) := fun n u h1 h2 h => by
  have : m ≠ n := fun e => by
    rcases hm with z | z
    · exact h1 (e ▸ z)
    · exact h2 (e ▸ z)
  rw [List.getElem?_set_ne this]; exact h
/-- a list that no draw touches -/
def Own (d c : Nat) (st : Sto) (n : Nat) (ws : List W) : Prop := st[n]? = some (.lst ws) ∧ n ≠ d ∧ n ≠ c
theorem Own.keep {d c n : Nat} {st st' : Sto} {ws : List W} (h : Own d c st n ws) (k : Keep d c st st') : Own d c st' n ws := ⟨k _ _ h.2.1 h.2.2 h.1, h.2⟩
/-- a source of draws -/
structure Deal (st : Sto) (d c : Nat) : Prop where
  ne : d ≠ c
  at_ : ∃ b : Int, st[d]? = some (.lst [.ref c, .int b])
  cel : ∃ ns : List Int, st[c]? = some (.lst (ns.map .int)) ∧ ns.length ≤ 63
theorem Deal.fresh {st : Sto} {d c : Nat} (h : Deal st d c) : st.length ≠ d ∧ st.length ≠ c := by
  obtain ⟨_, ⟨b, h1⟩, ns, h2, _⟩ := h
  have := (List.getElem?_eq_some_iff.mp h1).1
  have := (List.getElem?_eq_some_iff.mp h2).1
  omega
theorem getNew {st : Sto} {n : Nat} {o u : Ob} (h : st[n]? = some o) : (st ++ [u])[n]? = some o := by
  rw [List.getElem?_append_left (List.getElem?_eq_some_iff.mp h).1]; exact h
theorem getLast {st : Sto} {u : Ob} : (st ++ [u])[st.length]? = some u := by simp
theorem Deal.new {st : Sto} {d c : Nat} {o : Ob} (h : Deal st d c) : Deal (st ++ [o]) d c :=
  ⟨h.ne, h.at_.imp fun b e => getNew e, h.cel.imp fun ns e => ⟨getNew e.1, e.2⟩⟩
theorem Deal.own {st : Sto} {d c : Nat} {ws : List W} (h : Deal st d c) : Own d c (st ++ [.lst ws]) st.length ws := ⟨getLast, h.fresh⟩
end Ci
/-! Cj1: single statements; numbers, lists of numbers. -/
namespace Ci
open PySem

def Ik (Xe : Exn → Sto → Prop) (cl : Nat → List W → Sto → Res W) (a b : S) (en : En) (Q : Out → Sto → Prop) (k : Bool) (st : Sto) : Prop :=
  match k with
  | true => Wx Xe (ex cl a en st) Q
  | false => Wx Xe (ex cl b en st) Q
section
variable {Xe : Exn → Sto → Prop} {cl : Nat → List W → Sto → Res W} {en : En} {st : Sto} {Q : Out → Sto → Prop} {a b : S} {e c : E} {es : Es}
theorem ik_true : Ik Xe cl a b en Q true st = Wx Xe (ex cl a en st) Q := rfl
theorem ik_false : Ik Xe cl a b en Q false st = Wx Xe (ex cl b en st) Q := rfl
theorem wp_skip : Wx Xe (ex cl .skip en st) Q = Q (.nx en) st := by rw [ex, wp_ok]
theorem wp_brk : Wx Xe (ex cl .brk en st) Q = Q (.bk en) st := by rw [ex, wp_ok]
theorem wp_cnt : Wx Xe (ex cl .cnt en st) Q = Q (.ct en) st := by rw [ex, wp_ok]
theorem wp_retN : Wx Xe (ex cl .retN en st) Q = Q (.rt .non) st := by rw [ex, wp_ok]
theorem wp_ret : Wx Xe (ex cl (.ret e) en st) Q = Wx Xe (ev cl e en st) fun w st1 => Q (.rt w) st1 := by rw [ex, wp_bind]; simp only [wp_ok]
theorem wp_set {i : Nat} : Wx Xe (ex cl (.set i e) en st) Q = Wx Xe (ev cl e en st) fun w st1 => Wx Xe (setK (.nm i) en w st1) Q := by rw [ex, wp_bind]
theorem wp_par {is : List Nat} : Wx Xe (ex cl (.par is es) en st) Q = Wx Xe (evs cl es en st) fun ws st1 => Wx Xe (setsK (tgsOf is) en ws st1) Q := by rw [ex, wp_bind]
theorem wp_unp {t : Tg} : Wx Xe (ex cl (.unp t e) en st) Q = Wx Xe (ev cl e en st) fun w st1 => Wx Xe (setK t en w st1) Q := by rw [ex, wp_bind]
theorem wp_sto {o i : E} : Wx Xe (ex cl (.sto o i e) en st) Q = Wx Xe (ev cl e en st) fun v st1 => Wx Xe (ev cl o en st1) fun x st2 => Wx Xe (ev cl i en st2) fun y st3 => Wx Xe (stoK en v x y st3) Q := by rw [ex]; simp only [wp_bind]
theorem wp_aug {i : Nat} {o : BinO} : Wx Xe (ex cl (.aug i o e) en st) Q = Wx Xe (varK en[i]? fun x => (ev cl e en st).bind (augK i o en x)) Q := by rw [ex]
theorem wp_xpr : Wx Xe (ex cl (.xpr e) en st) Q = Wx Xe (ev cl e en st) fun _ st1 => Q (.nx en) st1 := by rw [ex, wp_bind]; simp only [wp_ok]
theorem wp_ite : Wx Xe (ex cl (.ite c a b) en st) Q = Wx Xe (truR (ev cl c en st)) (Ik Xe cl a b en Q) := by
  rw [ex, wp_bind]
  congr 1
  funext k st1
  cases k <;> rfl
theorem wp_raise {cn : Str} : Wx Xe (ex cl (.raise_ cn es) en st) Q = Wx Xe (evs cl es en st) fun ws st1 => Xe ⟨cn, ws⟩ st1 := by rw [ex, wp_bind]; rfl
/-- what is raised in the body is heard, or goes on -/
theorem wp_try {own : List Nat} {cs no : List Str} {i : Nat} : Wx Xe (ex cl (.try_ own a cs no i e) en st) Q = Wx (fun x st1 => if cs.contains x.cls then Wx noX (ev cl e (hearE own i en x.args) st1) (fun w st2 => Q (.rt w) st2) else if no.contains x.cls then Xe x st1 else False) (ex cl a en st) Q := by
  rw [ex]
  cases ex cl a en st with
  | bad => rfl
  | ok o st1 => rfl
  | exc x st1 =>
    show Wx Xe (if cs.contains x.cls then _ else _) Q = if cs.contains x.cls then _ else _
    split
    · rw [wp_noexc, wp_bind]; rfl
    · split <;> rfl
theorem wp_whl : Wx Xe (ex cl (.whl c b) en st) Q = Wx Xe (whlL (fun en st => truR (ev cl c en st)) (fun en st => ex cl b en st) FU en st) Q := by rw [ex]
theorem wp_for {t : Tg} {it : It} : Wx Xe (ex cl (.for_ t it b) en st) Q = Wx Xe (evi cl it en st) fun src st1 => Wx Xe (forL src.get (asg t) (fun en st => ex cl b en st) FU 0 en st1) Q := by rw [ex, wp_bind]
theorem wp_tru {r : Res W} {Q : Bool → Sto → Prop} : Wx Xe (truR r) Q = Wx Xe r fun w st => Wx Xe (truK0 w st) Q := by unfold truR; rw [wp_bind]
end
/-! ### single parts, by what they get -/
section
variable {Xe : Exn → Sto → Prop} {α : Type} {st : Sto} {Q : W → Sto → Prop} {QL : α → Sto → Prop} {p q : Sto → Res α}
theorem wp_of {a : W} : Wx Xe (Res.of (some (a, st))) Q = Q a st := wp_ok
theorem srcV_tup {ws : List W} : srcV (.tup ws) st = .ok (.fix ws) st := rfl
theorem srcV_frl {ws : List W} : srcV (.frl ws) st = .ok (.fix ws) st := rfl
theorem retK_rt {w : W} : retK (.rt w) st = .ok w st := rfl
theorem retK_nx {e : En} : retK (.nx e) st = .ok .non st := rfl
theorem of_some {a : W} : Res.of (some (a, st)) = .ok a st := rfl
theorem tru_bl {b : Bool} : tru st (.bl b) = some b := rfl
theorem tru_int {i : Int} : tru st (.int i) = some (i != 0) := rfl
theorem tru_non : tru st .non = some false := rfl
theorem tru_tup {ws : List W} : tru st (.tup ws) = some (!ws.isEmpty) := rfl
theorem tru_frl {ws : List W} : tru st (.frl ws) = some (!ws.isEmpty) := rfl
theorem tru_lst {n : Nat} {ws : List W} (h : st[n]? = some (.lst ws)) : tru st (.ref n) = some (!ws.isEmpty) := by simp only [tru, h]
theorem tru_dct {n : Nat} {ws : List (L2.Key × W)} (h : st[n]? = some (.dct ws)) : tru st (.ref n) = some (!ws.isEmpty) := by simp only [tru, h]
theorem truK0_bl {b : Bool} : truK0 (.bl b) st = .ok b st := rfl
theorem truK0_int {i : Int} : truK0 (.int i) st = .ok (i != 0) st := rfl
theorem truK0_tup {ws : List W} : truK0 (.tup ws) st = .ok (!ws.isEmpty) st := rfl
theorem truK0_frl {ws : List W} : truK0 (.frl ws) st = .ok (!ws.isEmpty) st := rfl
theorem truK0_non : truK0 .non st = .ok false st := rfl
theorem truK0_lst {n : Nat} {ws : List W} (h : st[n]? = some (.lst ws)) : truK0 (.ref n) st = .ok (!ws.isEmpty) st := by simp only [truK0, tru_lst h]
theorem scK_bl {stop b : Bool} {k : Sto → Res W} : scK stop k (.bl b) st = if b = stop then .ok (.bl b) st else k st := rfl
theorem iteK_true : iteK p q true st = p st := rfl
theorem iteK_false : iteK p q false st = q st := rfl
theorem cmp_eq {x y : W} : cmp .eq x y st = eqD st x y := rfl
theorem cmp_ne {x y : W} : cmp .ne x y st = (eqD st x y).map (!·) := rfl
theorem cmp_lt {i j : Int} : cmp .lt (.int i) (.int j) st = some (decide (i < j)) := rfl
theorem cmp_le {i j : Int} : cmp .le (.int i) (.int j) st = some (decide (i ≤ j)) := rfl
theorem cmp_gt {i j : Int} : cmp .gt (.int i) (.int j) st = some (decide (j < i)) := rfl
theorem cmp_ge {i j : Int} : cmp .ge (.int i) (.int j) st = some (decide (j ≤ i)) := rfl
theorem cmp_in {x y : W} : cmp .isin x y st = inW st x y := rfl
theorem cmp_notin {x y : W} : cmp .notin x y st = (inW st x y).map (!·) := rfl
theorem cmp_isN {x : W} : cmp .isN x .non st = some (isNon x) := rfl
theorem cmp_notN {x : W} : cmp .notN x .non st = some (!isNon x) := rfl
theorem eqD_int {i j : Int} : eqD st (.int i) (.int j) = some (i == j) := rfl
theorem eqD_str {i j : Str} : eqD st (.str i) (.str j) = some (i == j) := rfl
theorem inW_tup {x : W} {ws : List W} : inW st x (.tup ws) = if flatW x && ws.all flatW then some (ws.any fun y => eqF y x) else none := rfl
theorem bin_int {o : BinO} {i j : Int} : bin o (.int i) (.int j) st = (binI o i j).map fun k => (.int k, st) := rfl
theorem binI_add {i j : Int} : binI .add i j = some (i + j) := rfl
theorem binI_sub {i j : Int} : binI .sub i j = some (i - j) := rfl
theorem binI_mod {i j : Int} : binI .mod i j = if decide (0 < j) then some (i % j) else none := rfl
theorem binI_fdiv {i j : Int} : binI .fdiv i j = if divOk j then some (i / j) else none := rfl
theorem binI_mul {i j : Int} : binI .mul i j = if small64 i || small64 j || bigOk i j then some (i * j) else none := rfl
theorem binI_pow {i j : Int} : binI .pow i j = if powOk i j then some (i ^ j.toNat) else none := rfl
theorem binI_shl {i j : Int} : binI .shl i j = if powOk i j then some (i * 2 ^ j.toNat) else none := rfl
theorem binI_shr {i j : Int} : binI .shr i j = if decide (0 ≤ j) then some (i / 2 ^ j.toNat) else none := rfl
theorem binI_mod_pos {i j : Int} (h : 0 < j) : binI .mod i j = some (i % j) := by rw [binI_mod, if_pos (decide_eq_true h)]
theorem negK_int {i : Int} : negK (.int i) st = .ok (.int (-i)) st := rfl
theorem lstK_ok {ws : List W} (h : ws.length ≤ 1000) : lstK ws st = newR st (.lst ws) := if_pos (Nat.le_trans h (by decide))
theorem tupK_ok {ws : List W} (h : ws.length ≤ 1000) : tupK ws st = .ok (.tup ws) st := if_pos (Nat.le_trans h (by decide))
theorem wp_callK {cl : Nat → List W → Sto → Res W} {f : Nat} {ws : List W} : Wx Xe (callK cl f none ws st) Q = Wx Xe (cl f ws st) Q := rfl
theorem bi_int {i : Int} : bi .int [.int i] st = some (.int i, st) := rfl
theorem bi_abs {i : Int} : bi .abs [.int i] st = some (.int (if i < 0 then -i else i), st) := rfl
theorem bi_repr {w : W} {d : PyData} (h : toD st w = some d) (h2 : reprOk d = true) : bi .repr [w] st = some (.str d.shown, st) := by
  show (match toD st w with | some d => if reprOk d then some (W.str d.shown, st) else none | none => none) = _
  rw [h]
  exact if_pos h2
theorem bi_len_lst {n : Nat} {ws : List W} (h : st[n]? = some (.lst ws)) : bi .len [.ref n] st = some (.int ws.length, st) := by
  show (match dctOf st (.ref n) with | some kvs => some (W.int kvs.length, st) | none => (seqOf st (.ref n)).map fun xs : List W => (W.int xs.length, st)) = _
  simp only [dctOf, seqOf, h]
  rfl
theorem bi_len_tup {ws : List W} : bi .len [.tup ws] st = some (.int ws.length, st) := rfl
theorem bi_len_frl {ws : List W} : bi .len [.frl ws] st = some (.int ws.length, st) := rfl
theorem isLK_lst {n : Nat} {ws : List W} {k : Sto → Res W} (h : st[n]? = some (.lst ws)) : isLK k (.ref n) st = k st := by simp only [isLK, lstOf, h]
theorem mt_append {n : Nat} {ws : List W} {y : W} (h : st[n]? = some (.lst ws)) (hl : ws.length < sizeLine) : mt .append (.ref n) [y] st = some (.non, st.set n (.lst (ws ++ [y]))) := by
  simp only [mt, h]; exact if_pos hl
theorem mt_pop {n : Nat} {ws : List W} {y : W} (h : st[n]? = some (.lst (ws ++ [y]))) : mt .pop (.ref n) [] st = some (y, st.set n (.lst ws)) := by
  simp only [mt, h, List.dropLast_concat]
  simp
theorem setK_nm {i : Nat} {en : En} {w : W} {Q : Out → Sto → Prop} (h : i < en.length) : Wx Xe (setK (.nm i) en w st) Q = Q (.nx (en.set i (some w))) st := by
  unfold setK
  rw [asg, if_pos h]
  exact wp_ok
theorem keyK_str {y : W} {k : Sto → Res (List (L2.Key × W))} {s : Str} : keyK y k (.str s) st = (k st).bind fun r st3 => .ok ((.inr s, y) :: r) st3 := rfl
theorem keyK_int {y : W} {k : Sto → Res (List (L2.Key × W))} {s : Int} : keyK y k (.int s) st = (k st).bind fun r st3 => .ok ((.inl s, y) :: r) st3 := rfl
theorem dspK_ok {n : Nat} {kvs : List (L2.Key × W)} (h : st[n]? = some (.dct [])) (hl : kvs.length ≤ 15) : dspK n kvs st = .ok (.ref n) (st.set n (.dct (mergeW kvs))) := by
  simp only [dspK, h]
  exact if_pos hl
theorem set_last {o u : Ob} : (st ++ [o]).set st.length u = st ++ [u] := by
  rw [List.set_append_right _ _ (Nat.le_refl _)]; simp
theorem setK_tp {ts : Tgs} {en : En} {ws : List W} : setK (.tp ts) en (.tup ws) st = match asgs ts ws en with | some en1 => .ok (.nx en1) st | none => .bad := rfl
theorem wp_evs_cons {cl : Nat → List W → Sto → Res W} {a : E} {es : Es} {en : En} {Q : List W → Sto → Prop} : Wx Xe (evs cl (.cons a es) en st) Q = Wx Xe (ev cl a en st) fun x st1 => Wx Xe (evs cl es en st1) fun xs st2 => Q (x :: xs) st2 := by
  rw [evs]; simp only [wp_bind, wp_ok]
theorem wp_ite2 {b : Bool} {p q : Sto → Res α} {QL : α → Sto → Prop} : Wx Xe (iteK p q b st) QL = if b then Wx Xe (p st) QL else Wx Xe (q st) QL := by cases b <;> rfl
theorem bin_cat {m k : Nat} {a b : List W} (h1 : st[m]? = some (.lst a)) (h2 : st[k]? = some (.lst b)) (hl : a.length + b.length ≤ 16777216) : bin .add (.ref m) (.ref k) st = some (.ref st.length, st ++ [.lst (a ++ b)]) := by
  simp only [bin, h1, h2]
  exact if_pos hl
theorem rep_one {α : Type} (x : α) : ∀ k : Nat, (List.replicate k [x]).flatten = List.replicate k x
  | 0 => rfl
  | k + 1 => by rw [List.replicate_succ, List.flatten_cons, rep_one x k]; rfl
theorem bin_rep {m k : Nat} {x : W} (h1 : st[m]? = some (.lst [x])) (hk : k ≤ 1000000) : bin .mul (.ref m) (.int (k : Int)) st = some (.ref st.length, st ++ [.lst (List.replicate k x)]) := by
  simp only [bin, h1]
  rw [if_pos, Int.toNat_natCast, rep_one]
  · rfl
  · rw [Bool.and_eq_true]
    refine ⟨decide_eq_true ⟨by omega, by omega⟩, decide_eq_true ?_⟩
    rw [Int.toNat_natCast]
    show 1 * k ≤ 16777216
    omega
theorem cut_from {ws : List W} {k : Nat} (h : k ≤ ws.length) : cutW ws (some (k : Int)) none = ws.drop k := by
  unfold cutW
  rw [HT.sIx_nat, show HT.sIx ws.length ws.length none = ws.length from rfl, Nat.min_eq_left h, List.take_of_length_le (by rw [List.length_drop]; omega)]
theorem slW_lst {m : Nat} {ws : List W} {lo hi : Option Int} (h : st[m]? = some (.lst ws)) : slW (.ref m) lo hi st = some (.ref st.length, st ++ [.lst (cutW ws lo hi)]) := by
  simp only [slW, h]
  rfl
end
/-! ### numbers -/
theorem pds_ints (ρ : Nat → Option PyData) : ∀ ns : List Int, pds ρ (ns.map .int) = some (ns.map .int)
  | [] => rfl
  | n :: ns => by rw [List.map_cons, pds, pds_ints ρ ns]; rfl
theorem toD_int {st : Sto} {i : Int} : toD st (.int i) = some (.int i) := rfl
theorem toD_bl {st : Sto} {i : Bool} : toD st (.bl i) = some (.bool i) := rfl
theorem toD_non {st : Sto} : toD st .non = some .none := rfl
theorem toD_str {st : Sto} {s : Str} : toD st (.str s) = some (.str s) := rfl
theorem toD_ints {st : Sto} {n : Nat} {ns : List Int} (h : st[n]? = some (.lst (ns.map .int))) : toD st (.ref n) = some (.list (ns.map .int)) := by
  show rho st 9 n = _
  rw [rho, h]
  simp only [pds_ints]
  rfl
theorem canLay_ints : ∀ ns : List Int, PyData.canLayAll0 (ns.map PyData.int) = true
  | [] => by simp only [List.map_nil, PyData.canLayAll0]
  | n :: ns => by
    simp only [List.map_cons, PyData.canLayAll0, PyData.canLay0, canLay_ints ns, Bool.and_self]
theorem depthAll_ints : ∀ ns : List Int, PyData.depthAll (ns.map PyData.int) = 0
  | [] => by simp only [List.map_nil, PyData.depthAll]
  | n :: ns => by
    simp only [List.map_cons, PyData.depthAll, PyData.depth, depthAll_ints ns, Nat.max_self]
theorem shaped_ints (ns : List Int) : shapedB (.list (ns.map .int)) = true := by
  simp only [shapedB, SeqAt.shaped, PyData.canLay0, PyData.depth, canLay_ints, depthAll_ints]
  decide
theorem shaped_tupints (ns : List Int) : shapedB (.tuple (ns.map .int)) = true := by
  simp only [shapedB, SeqAt.shaped, PyData.canLay0, PyData.depth, canLay_ints, depthAll_ints]
  decide
theorem shaped_nil : shapedB (.list []) = true := by
  simp only [shapedB, SeqAt.shaped, PyData.canLay0, PyData.canLayAll0, PyData.depth, PyData.depthAll]
  decide
theorem eqvAll_ints : ∀ ns ms : List Int, PyData.eqvAll (ns.map .int) (ms.map .int) = decide (ns = ms)
  | [], [] => by simp [PyData.eqvAll]
  | [], _ :: _ => by simp [PyData.eqvAll]
  | _ :: _, [] => by simp [PyData.eqvAll]
  | n :: ns, m :: ms => by
    simp only [List.map_cons, PyData.eqvAll, PyData.eqv, eqvAll_ints ns ms]
    by_cases h : n = m <;> by_cases h2 : ns = ms <;> simp [h, h2]
theorem eqD_ints {st : Sto} {a b : Nat} {ns ms : List Int} (h1 : st[a]? = some (.lst (ns.map .int))) (h2 : st[b]? = some (.lst (ms.map .int))) : eqD st (.ref a) (.ref b) = some (decide (ns = ms)) := by
  show (match toD st (.ref a), toD st (.ref b) with
    | some d, some e => if shapedB d && shapedB e then some (PyData.eqv d e) else none
    | _, _ => none) = _
  rw [toD_ints h1, toD_ints h2]
  simp only [shaped_ints, Bool.and_self, if_true, PyData.eqv, eqvAll_ints]
theorem eqD_nil {st : Sto} {a b : Nat} {ns : List Int} (h1 : st[a]? = some (.lst (ns.map .int))) (h2 : st[b]? = some (.lst [])) : eqD st (.ref a) (.ref b) = some ns.isEmpty := by
  rw [eqD_ints (ms := []) h1 h2]
  cases ns <;> rfl
end Ci
/-! Cj2: the laws' source of draws. -/
namespace Ci
open PySem

def anyT : E := (.and (.cmp .ne (.ix (.var 0) (.con (.int 0))) (.lst .nil)) (.cmp .eq (.ix (.ix (.var 0) (.con (.int 0))) (.neg (.con (.int 1)))) (.con (.int 0))))
def anyB : S := (.xpr (.mt .pop (.ix (.var 0) (.con (.int 0))) .nil))
def anyR : S :=
  (.seq (.ite (.cmp .ne (.ix (.var 0) (.con (.int 0))) (.lst .nil)) (.seq (.set 2 (.bi .int (.cons (.mt .pop (.ix (.var 0) (.con (.int 0))) .nil) .nil)))
  (.seq (.xpr (.mt .append (.ix (.var 0) (.con (.int 0))) (.cons (.bin .fdiv (.var 2) (.var 1)) .nil)))
  (.ret (.bin .mod (.var 2) (.var 1))))) .skip)
  (.seq (.sto (.var 0) (.con (.int 1)) (.bin .mod (.bi .int (.cons (.bin .add (.bin .mul (.ix (.var 0) (.con (.int 1))) (.con (.int 40693))) (.con (.int 71))) .nil)) (.con (.int 2147483647))))
  (.ret (.bin .mod (.bi .int (.cons (.bin .fdiv (.ix (.var 0) (.con (.int 1))) (.con (.int 64))) .nil)) (.var 1)))))
def cAny : S := (.seq (.whl anyT anyB) anyR)
theorem atW_nat (ws : List W) (k : Nat) : atW ws (k : Int) = ws[k]? := by
  unfold atW L2.atI L2.ixN
  rw [if_pos (by omega)]
  by_cases h : k < ws.length
  · rw [if_pos (by omega), Option.bind_some]
    rfl
  · rw [if_neg (by omega), List.getElem?_eq_none (by omega)]
    rfl
theorem atW_0 (ws : List W) : atW ws 0 = ws[0]? := atW_nat ws 0
theorem atW_1 (ws : List W) : atW ws 1 = ws[1]? := atW_nat ws 1
theorem atW_2 (ws : List W) : atW ws 2 = ws[2]? := atW_nat ws 2
theorem atW_last (ws : List W) : atW ws (-1) = ws[ws.length - 1]? := by
  unfold atW L2.atI L2.ixN
  rw [if_neg (by omega)]
  by_cases h : 0 < ws.length
  · rw [if_pos (by omega), Option.bind_some]
    congr 1
    omega
  · rw [if_neg (by omega), List.getElem?_eq_none (by omega)]
    rfl
theorem sub_lst {st : Sto} {n : Nat} {ws : List W} {i : Int} (h : st[n]? = some (.lst ws)) : sub st (.ref n) (.int i) = atW ws i := by
  simp only [sub, dctOf, h, ixW]
theorem sub_tup {st : Sto} {ws : List W} {i : Int} : sub st (.tup ws) (.int i) = atW ws i := rfl
theorem sub_frl {st : Sto} {ws : List W} {i : Int} : sub st (.frl ws) (.int i) = atW ws i := rfl
section
variable {cl : Nat → List W → Sto → Res W} {d c : Nat} {st : Sto}
/-- a source of draws with so many great numbers -/
structure DealN (st : Sto) (d c : Nat) (b : Int) (ns : List Int) : Prop where
  ne : d ≠ c
  at_ : st[d]? = some (.lst [.ref c, .int b])
  cel : st[c]? = some (.lst (ns.map .int))
  few : ns.length ≤ 63
theorem Deal.n (h : Deal st d c) : ∃ b ns, DealN st d c b ns := let ⟨n, ⟨b, h1⟩, ns, h2, h3⟩ := h; ⟨b, ns, n, h1, h2, h3⟩
theorem DealN.deal {b : Int} {ns : List Int} (h : DealN st d c b ns) : Deal st d c := ⟨h.ne, ⟨b, h.at_⟩, ns, h.cel, h.few⟩
theorem DealN.new {b : Int} {ns : List Int} {o : Ob} (h : DealN st d c b ns) : DealN (st ++ [o]) d c b ns := ⟨h.ne, getNew h.at_, getNew h.cel, h.few⟩
theorem DealN.put {b : Int} {ns ms : List Int} (h : DealN st d c b ns) (hm : ms.length ≤ 63) : DealN (st.set c (.lst (ms.map .int))) d c b ms :=
  ⟨h.ne, by rw [List.getElem?_set_ne h.ne.symm]; exact h.at_, by rw [List.getElem?_set_self (List.getElem?_eq_some_iff.mp h.cel).1], hm⟩
theorem DealN.turn {b b' : Int} {ns : List Int} (h : DealN st d c b ns) : DealN (st.set d (.lst [.ref c, .int b'])) d c b' ns :=
  ⟨h.ne, by rw [List.getElem?_set_self (List.getElem?_eq_some_iff.mp h.at_).1], by rw [List.getElem?_set_ne h.ne]; exact h.cel, h.few⟩
theorem any_test {x : Int} {y : Option W} {b : Int} {ns : List Int} (D : DealN st d c b ns) (Q : Bool → Sto → Prop) (h : ∀ k, (k = true → ns ≠ []) → Q k (st ++ [.lst []])) :
    Wx noX (truR (ev cl anyT [some (.ref d), some (.int x), y] st)) Q := by
  unfold anyT
  rcases List.eq_nil_or_concat ns with e | ⟨ms, y, e⟩
  · subst e
    try simp -implicitDefEqProofs only [wp_ok, wp_exc, wp_bind, wp_raise, wp_try, wp_noexc, wp_seq, wp_skip, wp_brk, wp_cnt, wp_retN, wp_ret, wp_set, wp_par, wp_unp, wp_sto, wp_xpr, wp_ite, wp_for, wp_whl, wp_tru, sk_nx, sk_rt, sk_bk, sk_ct, lk_nx, lk_ct, lk_bk, lk_rt, ik_true, ik_false, ev, evs, evo, evi, evc, evd, keyK_str, keyK_int, retK_rt, retK_nx, iteK_true, iteK_false, truK0_bl, truK0_int, truK0_tup, truK0_frl, truK0_non, scK_bl, wp_callK, cmpO, cmp_eq, cmp_ne, cmp_lt, cmp_le, cmp_gt, cmp_ge, cmp_isN, cmp_notN, eqD_int, eqD_str, bin_int, binI_add, binI_sub, of_some, negK_int, setK_nm, setK_tp, setsK, asg, asgs, tgsOf, intK, rngK, srcV_tup, srcV_frl, subO, startE, newR, new, bi_int, bi_abs, bi_len_tup, bi_len_frl,  Option.map_some, Option.map_none, Option.bind_some, List.map_cons, List.map_nil, List.length_cons, List.length_nil, List.length_append, List.length_map, List.length_set, List.cons_append, List.nil_append, List.getElem?_cons_zero, List.getElem?_cons_succ, List.set_cons_zero, List.set_cons_succ, if_true, if_false, Bool.false_eq_true, Bool.true_eq_false, Bool.not_true, Bool.not_false, decide_true, decide_false, Nat.reduceEqDiff, Nat.zero_lt_succ, List.replicate_succ, List.replicate_zero, Nat.reduceSub, Nat.reduceAdd, Nat.reduceLT, Nat.reduceLeDiff, Nat.zero_le, id, lstK_ok, tupK_ok, sub_lst D.at_, sub_lst D.new.at_, atW_0, eqD_nil D.new.cel getLast, List.isEmpty_nil, Bool.not_true]
    exact h false (fun z => by cases z)
  · have hc := D.new (o := .lst []).cel
    rw [e, List.concat_eq_append, List.map_append, List.map_cons, List.map_nil] at hc
    have he : ns.isEmpty = false := by rw [e]; simp
    have hl : ∀ u : List W, (u ++ [W.int y])[(u ++ [W.int y]).length - 1]? = some (.int y) := fun u => by simp
    try simp -implicitDefEqProofs only [wp_ok, wp_exc, wp_bind, wp_raise, wp_try, wp_noexc, wp_seq, wp_skip, wp_brk, wp_cnt, wp_retN, wp_ret, wp_set, wp_par, wp_unp, wp_sto, wp_xpr, wp_ite, wp_for, wp_whl, wp_tru, sk_nx, sk_rt, sk_bk, sk_ct, lk_nx, lk_ct, lk_bk, lk_rt, ik_true, ik_false, ev, evs, evo, evi, evc, evd, keyK_str, keyK_int, retK_rt, retK_nx, iteK_true, iteK_false, truK0_bl, truK0_int, truK0_tup, truK0_frl, truK0_non, scK_bl, wp_callK, cmpO, cmp_eq, cmp_ne, cmp_lt, cmp_le, cmp_gt, cmp_ge, cmp_isN, cmp_notN, eqD_int, eqD_str, bin_int, binI_add, binI_sub, of_some, negK_int, setK_nm, setK_tp, setsK, asg, asgs, tgsOf, intK, rngK, srcV_tup, srcV_frl, subO, startE, newR, new, bi_int, bi_abs, bi_len_tup, bi_len_frl,  Option.map_some, Option.map_none, Option.bind_some, List.map_cons, List.map_nil, List.length_cons, List.length_nil, List.length_append, List.length_map, List.length_set, List.cons_append, List.nil_append, List.getElem?_cons_zero, List.getElem?_cons_succ, List.set_cons_zero, List.set_cons_succ, if_true, if_false, Bool.false_eq_true, Bool.true_eq_false, Bool.not_true, Bool.not_false, decide_true, decide_false, Nat.reduceEqDiff, Nat.zero_lt_succ, List.replicate_succ, List.replicate_zero, Nat.reduceSub, Nat.reduceAdd, Nat.reduceLT, Nat.reduceLeDiff, Nat.zero_le, id, lstK_ok, tupK_ok, sub_lst D.at_, sub_lst D.new.at_, atW_0, eqD_nil D.new.cel getLast, he, Bool.not_false]
    try rw [if_neg (by decide)]
    try simp -implicitDefEqProofs only [wp_ok, wp_exc, wp_bind, wp_raise, wp_try, wp_noexc, wp_seq, wp_skip, wp_brk, wp_cnt, wp_retN, wp_ret, wp_set, wp_par, wp_unp, wp_sto, wp_xpr, wp_ite, wp_for, wp_whl, wp_tru, sk_nx, sk_rt, sk_bk, sk_ct, lk_nx, lk_ct, lk_bk, lk_rt, ik_true, ik_false, ev, evs, evo, evi, evc, evd, keyK_str, keyK_int, retK_rt, retK_nx, iteK_true, iteK_false, truK0_bl, truK0_int, truK0_tup, truK0_frl, truK0_non, scK_bl, wp_callK, cmpO, cmp_eq, cmp_ne, cmp_lt, cmp_le, cmp_gt, cmp_ge, cmp_isN, cmp_notN, eqD_int, eqD_str, bin_int, binI_add, binI_sub, of_some, negK_int, setK_nm, setK_tp, setsK, asg, asgs, tgsOf, intK, rngK, srcV_tup, srcV_frl, subO, startE, newR, new, bi_int, bi_abs, bi_len_tup, bi_len_frl,  Option.map_some, Option.map_none, Option.bind_some, List.map_cons, List.map_nil, List.length_cons, List.length_nil, List.length_append, List.length_map, List.length_set, List.cons_append, List.nil_append, List.getElem?_cons_zero, List.getElem?_cons_succ, List.set_cons_zero, List.set_cons_succ, if_true, if_false, Bool.false_eq_true, Bool.true_eq_false, Bool.not_true, Bool.not_false, decide_true, decide_false, Nat.reduceEqDiff, Nat.zero_lt_succ, List.replicate_succ, List.replicate_zero, Nat.reduceSub, Nat.reduceAdd, Nat.reduceLT, Nat.reduceLeDiff, Nat.zero_le, id, lstK_ok, tupK_ok, sub_lst D.at_, sub_lst D.new.at_, atW_0, sub_lst hc]
    rw [show (-1 : Int) = -1 from rfl, atW_last, hl]
    try simp -implicitDefEqProofs only [wp_ok, wp_exc, wp_bind, wp_raise, wp_try, wp_noexc, wp_seq, wp_skip, wp_brk, wp_cnt, wp_retN, wp_ret, wp_set, wp_par, wp_unp, wp_sto, wp_xpr, wp_ite, wp_for, wp_whl, wp_tru, sk_nx, sk_rt, sk_bk, sk_ct, lk_nx, lk_ct, lk_bk, lk_rt, ik_true, ik_false, ev, evs, evo, evi, evc, evd, keyK_str, keyK_int, retK_rt, retK_nx, iteK_true, iteK_false, truK0_bl, truK0_int, truK0_tup, truK0_frl, truK0_non, scK_bl, wp_callK, cmpO, cmp_eq, cmp_ne, cmp_lt, cmp_le, cmp_gt, cmp_ge, cmp_isN, cmp_notN, eqD_int, eqD_str, bin_int, binI_add, binI_sub, of_some, negK_int, setK_nm, setK_tp, setsK, asg, asgs, tgsOf, intK, rngK, srcV_tup, srcV_frl, subO, startE, newR, new, bi_int, bi_abs, bi_len_tup, bi_len_frl,  Option.map_some, Option.map_none, Option.bind_some, List.map_cons, List.map_nil, List.length_cons, List.length_nil, List.length_append, List.length_map, List.length_set, List.cons_append, List.nil_append, List.getElem?_cons_zero, List.getElem?_cons_succ, List.set_cons_zero, List.set_cons_succ, if_true, if_false, Bool.false_eq_true, Bool.true_eq_false, Bool.not_true, Bool.not_false, decide_true, decide_false, Nat.reduceEqDiff, Nat.zero_lt_succ, List.replicate_succ, List.replicate_zero, Nat.reduceSub, Nat.reduceAdd, Nat.reduceLT, Nat.reduceLeDiff, Nat.zero_le, id, lstK_ok, tupK_ok]
    exact h _ fun _ => by rw [e]; simp
def DrawQ (st : Sto) (d c : Nat) (m : Int) (w : W) (st' : Sto) : Prop := ∃ r : Int, w = .int r ∧ 0 ≤ r ∧ r < m ∧ Deal st' d c ∧ Keep d c st st'
theorem any_rest {m : Int} {b : Int} {ns : List Int} (D : DealN st d c b ns) (hm : 0 < m) (hd : divOk m = true) :
    Wx noX (ex cl anyR [some (.ref d), some (.int m), none] st) fun o st' => Wx noX (retK o st') (DrawQ st d c m) := by
  unfold anyR
  have k1 : Keep d c st (st ++ [Ob.lst []]) := Keep.new
  have D1 := D.new (o := Ob.lst [])
  rcases List.eq_nil_or_concat ns with e | ⟨ms, y, e⟩
  · subst e
    have D2 := D1.turn (b' := (b * 40693 + 71) % 2147483647)
    have hs : setI (W.ref d) (W.int 1) (W.int ((b * 40693 + 71) % 2147483647)) (st ++ [Ob.lst []]) = some ((st ++ [Ob.lst []]).set d (Ob.lst [W.ref c, W.int ((b * 40693 + 71) % 2147483647)])) := by
      simp only [setI, D1.at_]
      rfl
    have hmul : binI .mul b 40693 = some (b * 40693) := by rw [binI_mul, if_pos (by simp [small64])]
    have hf : ∀ x : Int, binI .fdiv x 64 = some (x / 64) := fun x => by rw [binI_fdiv, if_pos (by decide)]
    have hmo : ∀ x : Int, binI .mod x 2147483647 = some (x % 2147483647) := fun x => binI_mod_pos (by decide)
    try simp -implicitDefEqProofs only [wp_ok, wp_exc, wp_bind, wp_raise, wp_try, wp_noexc, wp_seq, wp_skip, wp_brk, wp_cnt, wp_retN, wp_ret, wp_set, wp_par, wp_unp, wp_sto, wp_xpr, wp_ite, wp_for, wp_whl, wp_tru, sk_nx, sk_rt, sk_bk, sk_ct, lk_nx, lk_ct, lk_bk, lk_rt, ik_true, ik_false, ev, evs, evo, evi, evc, evd, keyK_str, keyK_int, retK_rt, retK_nx, iteK_true, iteK_false, truK0_bl, truK0_int, truK0_tup, truK0_frl, truK0_non, scK_bl, wp_callK, cmpO, cmp_eq, cmp_ne, cmp_lt, cmp_le, cmp_gt, cmp_ge, cmp_isN, cmp_notN, eqD_int, eqD_str, bin_int, binI_add, binI_sub, of_some, negK_int, setK_nm, setK_tp, setsK, asg, asgs, tgsOf, intK, rngK, srcV_tup, srcV_frl, subO, startE, newR, new, bi_int, bi_abs, bi_len_tup, bi_len_frl,  Option.map_some, Option.map_none, Option.bind_some, List.map_cons, List.map_nil, List.length_cons, List.length_nil, List.length_append, List.length_map, List.length_set, List.cons_append, List.nil_append, List.getElem?_cons_zero, List.getElem?_cons_succ, List.set_cons_zero, List.set_cons_succ, if_true, if_false, Bool.false_eq_true, Bool.true_eq_false, Bool.not_true, Bool.not_false, decide_true, decide_false, Nat.reduceEqDiff, Nat.zero_lt_succ, List.replicate_succ, List.replicate_zero, Nat.reduceSub, Nat.reduceAdd, Nat.reduceLT, Nat.reduceLeDiff, Nat.zero_le, id, lstK_ok, tupK_ok, sub_lst D.at_, sub_lst D1.at_, sub_lst D2.at_, atW_0, atW_1, eqD_nil D1.cel getLast, List.isEmpty_nil, Bool.not_true, hmul, hf, hmo, binI_mod_pos hm, hs, stoK]
    exact ⟨_, rfl, Int.emod_nonneg _ (by omega), Int.emod_lt_of_pos _ hm, D2.deal, k1.trans (Keep.set (.inl rfl))⟩
  · have he : ns.isEmpty = false := by rw [e]; simp
    have hc := D1.cel
    have e' : ns.map W.int = ms.map W.int ++ [W.int y] := by rw [e]; simp
    rw [e'] at hc
    have hfew : (ms ++ [y / m]).length ≤ 63 := by have := D.few; rw [e] at this; simpa using this
    have D3 := D1.put (ms := ms) (by simp at hfew; omega)
    have D4 := D3.put (ms := ms ++ [y / m]) hfew
    have hl : (ms.map W.int).length < sizeLine := by rw [List.length_map]; simp at hfew; unfold sizeLine; omega
    have hf : binI .fdiv y m = some (y / m) := by rw [binI_fdiv, if_pos hd]
    have hp := mt_pop hc
    have ha := mt_append (y := W.int (y / m)) D3.cel hl
    try simp -implicitDefEqProofs only [wp_ok, wp_exc, wp_bind, wp_raise, wp_try, wp_noexc, wp_seq, wp_skip, wp_brk, wp_cnt, wp_retN, wp_ret, wp_set, wp_par, wp_unp, wp_sto, wp_xpr, wp_ite, wp_for, wp_whl, wp_tru, sk_nx, sk_rt, sk_bk, sk_ct, lk_nx, lk_ct, lk_bk, lk_rt, ik_true, ik_false, ev, evs, evo, evi, evc, evd, keyK_str, keyK_int, retK_rt, retK_nx, iteK_true, iteK_false, truK0_bl, truK0_int, truK0_tup, truK0_frl, truK0_non, scK_bl, wp_callK, cmpO, cmp_eq, cmp_ne, cmp_lt, cmp_le, cmp_gt, cmp_ge, cmp_isN, cmp_notN, eqD_int, eqD_str, bin_int, binI_add, binI_sub, of_some, negK_int, setK_nm, setK_tp, setsK, asg, asgs, tgsOf, intK, rngK, srcV_tup, srcV_frl, subO, startE, newR, new, bi_int, bi_abs, bi_len_tup, bi_len_frl,  Option.map_some, Option.map_none, Option.bind_some, List.map_cons, List.map_nil, List.length_cons, List.length_nil, List.length_append, List.length_map, List.length_set, List.cons_append, List.nil_append, List.getElem?_cons_zero, List.getElem?_cons_succ, List.set_cons_zero, List.set_cons_succ, if_true, if_false, Bool.false_eq_true, Bool.true_eq_false, Bool.not_true, Bool.not_false, decide_true, decide_false, Nat.reduceEqDiff, Nat.zero_lt_succ, List.replicate_succ, List.replicate_zero, Nat.reduceSub, Nat.reduceAdd, Nat.reduceLT, Nat.reduceLeDiff, Nat.zero_le, id, lstK_ok, tupK_ok, sub_lst D.at_, sub_lst D1.at_, atW_0, eqD_nil D1.cel getLast, he, Bool.not_false, isLK_lst D1.cel, hp, sub_lst D3.at_, isLK_lst D3.cel, hf, ha, binI_mod_pos hm]
    rw [List.map_append, List.map_cons, List.map_nil] at D4
    exact ⟨_, rfl, Int.emod_nonneg _ (by omega), Int.emod_lt_of_pos _ hm, D4.deal, (k1.trans (Keep.set (.inr rfl))).trans (Keep.set (.inr rfl))⟩
/-- a draw: a number from 0 to b - 1, the source goes on -/
theorem any_ok {tab : List Fd} {n i : Nat} {m : Int} (ht : tab[i]? = some ⟨2, 3, cAny⟩) (D : Deal st d c) (hm : 0 < m) (hd : divOk m = true) :
    Wx noX (run tab (n + 1) i [.ref d, .int m] st) (DrawQ st d c m) := by
  refine wp_run ht rfl ?_
  obtain ⟨b, ns, D⟩ := D.n
  unfold cAny
  simp only [startE, List.map_cons, List.map_nil, List.length_cons, List.length_nil, Nat.reduceAdd, Nat.reduceSub, List.replicate_succ, List.replicate_zero, List.cons_append, List.nil_append, wp_seq, wp_whl]
  refine wp_whlL (fun k en st' => en = [some (.ref d), some (.int m), none] ∧ ∃ ns, DealN st' d c b ns ∧ Keep d c st st' ∧ k = ns.length) ?_ FU ns.length _ _ (Nat.lt_of_le_of_lt D.few (by decide)) ⟨rfl, ns, D, Keep.refl, rfl⟩
  rintro k en st' ⟨rfl, ns, D, kp, rfl⟩
  refine any_test D _ fun k hk => ?_
  cases k with
  | false =>
    refine Wp.mono (any_rest D.new hm hd) fun o st2 q => q.mono ?_
    rintro w st3 ⟨r, h1, h2, h3, h4, h5⟩
    exact ⟨r, h1, h2, h3, h4, (kp.trans Keep.new).trans h5⟩
  | true =>
    have hn := hk rfl
    have D1 := D.new (o := Ob.lst [])
    rcases List.eq_nil_or_concat ns with e | ⟨ms, y, e⟩
    · exact absurd e hn
    · have hc := D1.cel
      have e' : ns.map W.int = ms.map W.int ++ [W.int y] := by rw [e]; simp
      rw [e'] at hc
      have hfew : ms.length + 1 ≤ 63 := by have := D.few; rw [e] at this; simpa using this
      have D3 := D1.put (ms := ms) (by omega)
      have hp := mt_pop hc
      refine ⟨by rw [e]; simp, ?_⟩
      unfold anyB
      try simp -implicitDefEqProofs only [wp_ok, wp_exc, wp_bind, wp_raise, wp_try, wp_noexc, wp_seq, wp_skip, wp_brk, wp_cnt, wp_retN, wp_ret, wp_set, wp_par, wp_unp, wp_sto, wp_xpr, wp_ite, wp_for, wp_whl, wp_tru, sk_nx, sk_rt, sk_bk, sk_ct, lk_nx, lk_ct, lk_bk, lk_rt, ik_true, ik_false, ev, evs, evo, evi, evc, evd, keyK_str, keyK_int, retK_rt, retK_nx, iteK_true, iteK_false, truK0_bl, truK0_int, truK0_tup, truK0_frl, truK0_non, scK_bl, wp_callK, cmpO, cmp_eq, cmp_ne, cmp_lt, cmp_le, cmp_gt, cmp_ge, cmp_isN, cmp_notN, eqD_int, eqD_str, bin_int, binI_add, binI_sub, of_some, negK_int, setK_nm, setK_tp, setsK, asg, asgs, tgsOf, intK, rngK, srcV_tup, srcV_frl, subO, startE, newR, new, bi_int, bi_abs, bi_len_tup, bi_len_frl,  Option.map_some, Option.map_none, Option.bind_some, List.map_cons, List.map_nil, List.length_cons, List.length_nil, List.length_append, List.length_map, List.length_set, List.cons_append, List.nil_append, List.getElem?_cons_zero, List.getElem?_cons_succ, List.set_cons_zero, List.set_cons_succ, if_true, if_false, Bool.false_eq_true, Bool.true_eq_false, Bool.not_true, Bool.not_false, decide_true, decide_false, Nat.reduceEqDiff, Nat.zero_lt_succ, List.replicate_succ, List.replicate_zero, Nat.reduceSub, Nat.reduceAdd, Nat.reduceLT, Nat.reduceLeDiff, Nat.zero_le, id, lstK_ok, tupK_ok, sub_lst D1.at_, atW_0, isLK_lst D1.cel, hp]
      exact ⟨ms.length, by rw [e]; simp, by trivial, ms, D3, (kp.trans Keep.new).trans (Keep.set (.inr rfl)), rfl⟩
end
end Ci
/-! Cj3: one of some things; the source drawn from the script. -/
namespace Ci
open PySem

def cOf (f : Nat) : S := (.ret (.ix (.var 1) (.call f none (.cons (.var 0) (.cons (.bi .len (.cons (.var 1) .nil)) .nil)))))
def cMixed (f : Nat) : S :=
  (.seq (.par [2, 3] (.cons (.bi .list (.cons (.var 1) .nil)) (.cons (.lst .nil) .nil)))
  (.seq (.whl (.cmp .ne (.var 2) (.lst .nil)) (.xpr (.mt .append (.var 3) (.cons (.mt .popAt (.var 2) (.cons (.call f none (.cons (.var 0) (.cons (.bi .len (.cons (.var 2) .nil)) .nil))) .nil)) .nil))))
  (.ret (.var 3))))
theorem divOk_len {n : Nat} (h0 : 0 < n) (h : n < 1073741824) : divOk (n : Int) = true := by
  unfold divOk
  rw [decide_eq_true (by omega : 0 < (n : Int)), decide_eq_true (by omega : (n : Int) < 1073741824)]
  rfl
section
variable {tab : List Fd} {n i f : Nat} {st : Sto} {d c : Nat}
def OfQ (st : Sto) (d c : Nat) (ws : List W) (w : W) (st' : Sto) : Prop := w ∈ ws ∧ Deal st' d c ∧ Keep d c st st'
theorem of_ok {a : Nat} {ws : List W} (hf : tab[f]? = some ⟨2, 3, cAny⟩) (ht : tab[i]? = some ⟨2, 2, cOf f⟩) (D : Deal st d c) (O : Own d c st a ws) (h0 : 0 < ws.length) (h1 : ws.length < 1073741824) :
    Wx noX (run tab (n + 2) i [.ref d, .ref a] st) (OfQ st d c ws) := by
  refine wp_run ht rfl ?_
  unfold cOf
  try simp -implicitDefEqProofs only [wp_ok, wp_exc, wp_bind, wp_raise, wp_try, wp_noexc, wp_seq, wp_skip, wp_brk, wp_cnt, wp_retN, wp_ret, wp_set, wp_par, wp_unp, wp_sto, wp_xpr, wp_ite, wp_for, wp_whl, wp_tru, sk_nx, sk_rt, sk_bk, sk_ct, lk_nx, lk_ct, lk_bk, lk_rt, ik_true, ik_false, ev, evs, evo, evi, evc, evd, keyK_str, keyK_int, retK_rt, retK_nx, iteK_true, iteK_false, truK0_bl, truK0_int, truK0_tup, truK0_frl, truK0_non, scK_bl, wp_callK, cmpO, cmp_eq, cmp_ne, cmp_lt, cmp_le, cmp_gt, cmp_ge, cmp_isN, cmp_notN, eqD_int, eqD_str, bin_int, binI_add, binI_sub, of_some, negK_int, setK_nm, setK_tp, setsK, asg, asgs, tgsOf, intK, rngK, srcV_tup, srcV_frl, subO, startE, newR, new, bi_int, bi_abs, bi_len_tup, bi_len_frl,  Option.map_some, Option.map_none, Option.bind_some, List.map_cons, List.map_nil, List.length_cons, List.length_nil, List.length_append, List.length_map, List.length_set, List.cons_append, List.nil_append, List.getElem?_cons_zero, List.getElem?_cons_succ, List.set_cons_zero, List.set_cons_succ, if_true, if_false, Bool.false_eq_true, Bool.true_eq_false, Bool.not_true, Bool.not_false, decide_true, decide_false, Nat.reduceEqDiff, Nat.zero_lt_succ, List.replicate_succ, List.replicate_zero, Nat.reduceSub, Nat.reduceAdd, Nat.reduceLT, Nat.reduceLeDiff, Nat.zero_le, id, lstK_ok, tupK_ok, bi_len_lst O.1]
  refine Wp.mono (any_ok hf D (by omega) (divOk_len h0 h1)) ?_
  rintro w st1 ⟨r, rfl, r0, r1, D1, k⟩
  obtain ⟨m, rfl⟩ := Int.eq_ofNat_of_zero_le r0
  have hm : m < ws.length := by omega
  have e : sub st1 (.ref a) (.int (m : Int)) = some ws[m] := by rw [sub_lst (O.keep k).1, atW_nat, List.getElem?_eq_getElem hm]
  try simp -implicitDefEqProofs only [wp_ok, wp_exc, wp_bind, wp_raise, wp_try, wp_noexc, wp_seq, wp_skip, wp_brk, wp_cnt, wp_retN, wp_ret, wp_set, wp_par, wp_unp, wp_sto, wp_xpr, wp_ite, wp_for, wp_whl, wp_tru, sk_nx, sk_rt, sk_bk, sk_ct, lk_nx, lk_ct, lk_bk, lk_rt, ik_true, ik_false, ev, evs, evo, evi, evc, evd, keyK_str, keyK_int, retK_rt, retK_nx, iteK_true, iteK_false, truK0_bl, truK0_int, truK0_tup, truK0_frl, truK0_non, scK_bl, wp_callK, cmpO, cmp_eq, cmp_ne, cmp_lt, cmp_le, cmp_gt, cmp_ge, cmp_isN, cmp_notN, eqD_int, eqD_str, bin_int, binI_add, binI_sub, of_some, negK_int, setK_nm, setK_tp, setsK, asg, asgs, tgsOf, intK, rngK, srcV_tup, srcV_frl, subO, startE, newR, new, bi_int, bi_abs, bi_len_tup, bi_len_frl,  Option.map_some, Option.map_none, Option.bind_some, List.map_cons, List.map_nil, List.length_cons, List.length_nil, List.length_append, List.length_map, List.length_set, List.cons_append, List.nil_append, List.getElem?_cons_zero, List.getElem?_cons_succ, List.set_cons_zero, List.set_cons_succ, if_true, if_false, Bool.false_eq_true, Bool.true_eq_false, Bool.not_true, Bool.not_false, decide_true, decide_false, Nat.reduceEqDiff, Nat.zero_lt_succ, List.replicate_succ, List.replicate_zero, Nat.reduceSub, Nat.reduceAdd, Nat.reduceLT, Nat.reduceLeDiff, Nat.zero_le, id, lstK_ok, tupK_ok, e]
  exact ⟨List.getElem_mem hm, D1, k⟩
theorem of_tup {ws : List W} (hf : tab[f]? = some ⟨2, 3, cAny⟩) (ht : tab[i]? = some ⟨2, 2, cOf f⟩) (D : Deal st d c) (h0 : 0 < ws.length) (h1 : ws.length < 1073741824) :
    Wx noX (run tab (n + 2) i [.ref d, .tup ws] st) (OfQ st d c ws) := by
  refine wp_run ht rfl ?_
  unfold cOf
  try simp -implicitDefEqProofs only [wp_ok, wp_exc, wp_bind, wp_raise, wp_try, wp_noexc, wp_seq, wp_skip, wp_brk, wp_cnt, wp_retN, wp_ret, wp_set, wp_par, wp_unp, wp_sto, wp_xpr, wp_ite, wp_for, wp_whl, wp_tru, sk_nx, sk_rt, sk_bk, sk_ct, lk_nx, lk_ct, lk_bk, lk_rt, ik_true, ik_false, ev, evs, evo, evi, evc, evd, keyK_str, keyK_int, retK_rt, retK_nx, iteK_true, iteK_false, truK0_bl, truK0_int, truK0_tup, truK0_frl, truK0_non, scK_bl, wp_callK, cmpO, cmp_eq, cmp_ne, cmp_lt, cmp_le, cmp_gt, cmp_ge, cmp_isN, cmp_notN, eqD_int, eqD_str, bin_int, binI_add, binI_sub, of_some, negK_int, setK_nm, setK_tp, setsK, asg, asgs, tgsOf, intK, rngK, srcV_tup, srcV_frl, subO, startE, newR, new, bi_int, bi_abs, bi_len_tup, bi_len_frl,  Option.map_some, Option.map_none, Option.bind_some, List.map_cons, List.map_nil, List.length_cons, List.length_nil, List.length_append, List.length_map, List.length_set, List.cons_append, List.nil_append, List.getElem?_cons_zero, List.getElem?_cons_succ, List.set_cons_zero, List.set_cons_succ, if_true, if_false, Bool.false_eq_true, Bool.true_eq_false, Bool.not_true, Bool.not_false, decide_true, decide_false, Nat.reduceEqDiff, Nat.zero_lt_succ, List.replicate_succ, List.replicate_zero, Nat.reduceSub, Nat.reduceAdd, Nat.reduceLT, Nat.reduceLeDiff, Nat.zero_le, id, lstK_ok, tupK_ok]
  refine Wp.mono (any_ok hf D (by omega) (divOk_len h0 h1)) ?_
  rintro w st1 ⟨r, rfl, r0, r1, D1, k⟩
  obtain ⟨m, rfl⟩ := Int.eq_ofNat_of_zero_le r0
  have hm : m < ws.length := by omega
  have e : sub st1 (.tup ws) (.int (m : Int)) = some ws[m] := by rw [sub_tup, atW_nat, List.getElem?_eq_getElem hm]
  try simp -implicitDefEqProofs only [wp_ok, wp_exc, wp_bind, wp_raise, wp_try, wp_noexc, wp_seq, wp_skip, wp_brk, wp_cnt, wp_retN, wp_ret, wp_set, wp_par, wp_unp, wp_sto, wp_xpr, wp_ite, wp_for, wp_whl, wp_tru, sk_nx, sk_rt, sk_bk, sk_ct, lk_nx, lk_ct, lk_bk, lk_rt, ik_true, ik_false, ev, evs, evo, evi, evc, evd, keyK_str, keyK_int, retK_rt, retK_nx, iteK_true, iteK_false, truK0_bl, truK0_int, truK0_tup, truK0_frl, truK0_non, scK_bl, wp_callK, cmpO, cmp_eq, cmp_ne, cmp_lt, cmp_le, cmp_gt, cmp_ge, cmp_isN, cmp_notN, eqD_int, eqD_str, bin_int, binI_add, binI_sub, of_some, negK_int, setK_nm, setK_tp, setsK, asg, asgs, tgsOf, intK, rngK, srcV_tup, srcV_frl, subO, startE, newR, new, bi_int, bi_abs, bi_len_tup, bi_len_frl,  Option.map_some, Option.map_none, Option.bind_some, List.map_cons, List.map_nil, List.length_cons, List.length_nil, List.length_append, List.length_map, List.length_set, List.cons_append, List.nil_append, List.getElem?_cons_zero, List.getElem?_cons_succ, List.set_cons_zero, List.set_cons_succ, if_true, if_false, Bool.false_eq_true, Bool.true_eq_false, Bool.not_true, Bool.not_false, decide_true, decide_false, Nat.reduceEqDiff, Nat.zero_lt_succ, List.replicate_succ, List.replicate_zero, Nat.reduceSub, Nat.reduceAdd, Nat.reduceLT, Nat.reduceLeDiff, Nat.zero_le, id, lstK_ok, tupK_ok, e]
  exact ⟨List.getElem_mem hm, D1, k⟩
end

def cDraw : S :=
  (.seq (.set 2 (.lc [4] (.nm 4) (.val (.sl (.var 0) .nil (.cons (.con (.int 48)) .nil))) .nil (.bi .abs (.cons (.bi .int (.cons (.var 4) .nil)) .nil))))
  (.seq (.set 3 (.bin .add (.con (.int 7919)) (.bin .mul (.con (.int 104729)) (.var 1))))
  (.seq (.for_ (.nm 4) (.val (.var 2)) (.set 3 (.bin .mod (.bi .int (.cons (.bin .add (.bin .add (.bin .mul (.var 3) (.con (.int 48271))) (.bin .mod (.var 4) (.con (.int 2147483549)))) (.con (.int 11))) .nil)) (.con (.int 2147483647)))))
  (.ret (.lst (.cons (.rev (.lc [4] (.nm 4) (.val (.var 2)) (.cons (.cmp .ge (.var 4) (.bin .pow (.con (.int 10)) (.con (.int 18)))) .nil) (.var 4))) (.cons (.var 3) .nil)))))))
theorem cut48 (ns : List Int) : cutW (ns.map W.int) none (some 48) = (ns.take (min 48 ns.length)).map W.int := by
  unfold cutW
  rw [show HT.sIx (ns.map W.int).length 0 none = 0 from rfl, show HT.sIx (ns.map W.int).length (ns.map W.int).length (some 48) = min 48 (ns.map W.int).length from HT.sIx_nat _ _ 48]
  simp [List.map_take]
theorem srcOf_lst {st : Sto} {n : Nat} {ws : List W} (h : st[n]? = some (.lst ws)) : srcOf st (.ref n) = some (.live n) := by simp only [srcOf, h]
theorem srcV_lst {st : Sto} {n : Nat} {ws : List W} (h : st[n]? = some (.lst ws)) : srcV (.ref n) st = .ok (.live n) st := by
  simp only [srcV, dctOf, srcK, srcOf, h]
  rfl
theorem get_live {st : Sto} {n k : Nat} {ws : List W} (h : st[n]? = some (.lst ws)) : (Src.live n).get st k = some ws[k]? := by simp only [Src.get, h]
theorem slW_frl {ws : List W} {lo hi : Option Int} {st : Sto} : slW (.frl ws) lo hi st = some (.ref st.length, st ++ [.lst (cutW ws lo hi)]) := rfl
theorem revW_lst {st : Sto} {n : Nat} {ws : List W} (h : st[n]? = some (.lst ws)) : revW (.ref n) st = some (.ref st.length, st ++ [.lst ws.reverse]) := by
  simp only [revW, lstOf, h]
  rfl
def DrawnQ (st : Sto) (w : W) (st' : Sto) : Prop := ∃ d c, w = .ref d ∧ Deal st' d c ∧ ∀ (m : Nat) (o : Ob), st[m]? = some o → st'[m]? = some o ∧ m ≠ d ∧ m ≠ c
theorem draw_ok {tab : List Fd} {n i : Nat} {st : Sto} {ns : List Int} {salt : Int} (ht : tab[i]? = some ⟨2, 5, cDraw⟩) (hs : small64 salt = true) (hl : ns.length ≤ 63) :
    Wx noX (run tab (n + 1) i [.frl (ns.map .int), .int salt] st) (DrawnQ st) := by
  refine wp_run ht rfl ?_
  unfold cDraw
  have h1 : binI .mul 104729 salt = some (104729 * salt) := by rw [binI_mul, if_pos (by rw [hs]; simp)]
  try simp -implicitDefEqProofs only [wp_ok, wp_exc, wp_bind, wp_raise, wp_try, wp_noexc, wp_seq, wp_skip, wp_brk, wp_cnt, wp_retN, wp_ret, wp_set, wp_par, wp_unp, wp_sto, wp_xpr, wp_ite, wp_for, wp_whl, wp_tru, sk_nx, sk_rt, sk_bk, sk_ct, lk_nx, lk_ct, lk_bk, lk_rt, ik_true, ik_false, ev, evs, evo, evi, evc, evd, keyK_str, keyK_int, retK_rt, retK_nx, iteK_true, iteK_false, truK0_bl, truK0_int, truK0_tup, truK0_frl, truK0_non, scK_bl, wp_callK, cmpO, cmp_eq, cmp_ne, cmp_lt, cmp_le, cmp_gt, cmp_ge, cmp_isN, cmp_notN, eqD_int, eqD_str, bin_int, binI_add, binI_sub, of_some, negK_int, setK_nm, setK_tp, setsK, asg, asgs, tgsOf, intK, rngK, srcV_tup, srcV_frl, subO, startE, newR, new, bi_int, bi_abs, bi_len_tup, bi_len_frl,  Option.map_some, Option.map_none, Option.bind_some, List.map_cons, List.map_nil, List.length_cons, List.length_nil, List.length_append, List.length_map, List.length_set, List.cons_append, List.nil_append, List.getElem?_cons_zero, List.getElem?_cons_succ, List.set_cons_zero, List.set_cons_succ, if_true, if_false, Bool.false_eq_true, Bool.true_eq_false, Bool.not_true, Bool.not_false, decide_true, decide_false, Nat.reduceEqDiff, Nat.zero_lt_succ, List.replicate_succ, List.replicate_zero, Nat.reduceSub, Nat.reduceAdd, Nat.reduceLT, Nat.reduceLeDiff, Nat.zero_le, id, lstK_ok, tupK_ok, slW_frl, cut48]
  rw [srcV_lst getLast]
  try simp -implicitDefEqProofs only [wp_ok, wp_exc, wp_bind, wp_raise, wp_try, wp_noexc, wp_seq, wp_skip, wp_brk, wp_cnt, wp_retN, wp_ret, wp_set, wp_par, wp_unp, wp_sto, wp_xpr, wp_ite, wp_for, wp_whl, wp_tru, sk_nx, sk_rt, sk_bk, sk_ct, lk_nx, lk_ct, lk_bk, lk_rt, ik_true, ik_false, ev, evs, evo, evi, evc, evd, keyK_str, keyK_int, retK_rt, retK_nx, iteK_true, iteK_false, truK0_bl, truK0_int, truK0_tup, truK0_frl, truK0_non, scK_bl, wp_callK, cmpO, cmp_eq, cmp_ne, cmp_lt, cmp_le, cmp_gt, cmp_ge, cmp_isN, cmp_notN, eqD_int, eqD_str, bin_int, binI_add, binI_sub, of_some, negK_int, setK_nm, setK_tp, setsK, asg, asgs, tgsOf, intK, rngK, srcV_tup, srcV_frl, subO, startE, newR, new, bi_int, bi_abs, bi_len_tup, bi_len_frl,  Option.map_some, Option.map_none, Option.bind_some, List.map_cons, List.map_nil, List.length_cons, List.length_nil, List.length_append, List.length_map, List.length_set, List.cons_append, List.nil_append, List.getElem?_cons_zero, List.getElem?_cons_succ, List.set_cons_zero, List.set_cons_succ, if_true, if_false, Bool.false_eq_true, Bool.true_eq_false, Bool.not_true, Bool.not_false, decide_true, decide_false, Nat.reduceEqDiff, Nat.zero_lt_succ, List.replicate_succ, List.replicate_zero, Nat.reduceSub, Nat.reduceAdd, Nat.reduceLT, Nat.reduceLeDiff, Nat.zero_le, id, lstK_ok, tupK_ok]
  obtain ⟨cells, hcells⟩ : ∃ x, x = ns.take (min 48 ns.length) := ⟨_, rfl⟩
  obtain ⟨st1, hst1⟩ : ∃ x : Sto, x = st ++ [Ob.lst (cells.map W.int)] := ⟨_, rfl⟩
  have hlen : st.length + 1 = st1.length := by rw [hst1]; simp
  rw [← hcells, ← hst1, hlen]
  have hcl : cells.length ≤ 63 := by rw [hcells, List.length_take]; omega
  have g1 : st1[st.length]? = some (.lst (cells.map W.int)) := by rw [hst1]; exact getLast
  have old1 : ∀ (m : Nat) (o : Ob), st[m]? = some o → st1[m]? = some o := fun m o h => by rw [hst1]; exact getNew h
  refine wp_lcL (cells.map W.int) (fun k st' => ∃ ms : List Int, ms.length = k ∧ st' = st1 ++ [Ob.lst (ms.map W.int)]) ?_ ?_ ?_ FU 0 _ (Nat.zero_le _) ?_ ⟨[], rfl, rfl⟩
  · rintro k st' ⟨ms, _, rfl⟩
    exact get_live (getNew g1)
  · rintro k w st' hw ⟨ms, hk, rfl⟩
    rw [List.getElem?_map] at hw
    obtain ⟨x, hx, rfl⟩ := Option.map_eq_some_iff.mp hw
    have hkl := (List.getElem?_eq_some_iff.mp hx).1
    refine ⟨_, rfl, ?_⟩
    try simp -implicitDefEqProofs only [wp_ok, wp_exc, wp_bind, wp_raise, wp_try, wp_noexc, wp_seq, wp_skip, wp_brk, wp_cnt, wp_retN, wp_ret, wp_set, wp_par, wp_unp, wp_sto, wp_xpr, wp_ite, wp_for, wp_whl, wp_tru, sk_nx, sk_rt, sk_bk, sk_ct, lk_nx, lk_ct, lk_bk, lk_rt, ik_true, ik_false, ev, evs, evo, evi, evc, evd, keyK_str, keyK_int, retK_rt, retK_nx, iteK_true, iteK_false, truK0_bl, truK0_int, truK0_tup, truK0_frl, truK0_non, scK_bl, wp_callK, cmpO, cmp_eq, cmp_ne, cmp_lt, cmp_le, cmp_gt, cmp_ge, cmp_isN, cmp_notN, eqD_int, eqD_str, bin_int, binI_add, binI_sub, of_some, negK_int, setK_nm, setK_tp, setsK, asg, asgs, tgsOf, intK, rngK, srcV_tup, srcV_frl, subO, startE, newR, new, bi_int, bi_abs, bi_len_tup, bi_len_frl,  Option.map_some, Option.map_none, Option.bind_some, List.map_cons, List.map_nil, List.length_cons, List.length_nil, List.length_append, List.length_map, List.length_set, List.cons_append, List.nil_append, List.getElem?_cons_zero, List.getElem?_cons_succ, List.set_cons_zero, List.set_cons_succ, if_true, if_false, Bool.false_eq_true, Bool.true_eq_false, Bool.not_true, Bool.not_false, decide_true, decide_false, Nat.reduceEqDiff, Nat.zero_lt_succ, List.replicate_succ, List.replicate_zero, Nat.reduceSub, Nat.reduceAdd, Nat.reduceLT, Nat.reduceLeDiff, Nat.zero_le, id, lstK_ok, tupK_ok, wipeE]
    refine ⟨ms.map W.int, getLast, by rw [List.length_map]; unfold sizeLine; omega, ms ++ [if x < 0 then -x else x], ?_, ?_⟩
    · simp [hk]
    · simp
  · rintro st' ⟨ms, hm, rfl⟩
    rw [List.length_map] at hm
    obtain ⟨st2, hst2⟩ : ∃ x : Sto, x = st1 ++ [Ob.lst (ms.map W.int)] := ⟨_, rfl⟩
    have g2 : st2[st1.length]? = some (.lst (ms.map W.int)) := by rw [hst2]; exact getLast
    have old2 : ∀ (m : Nat) (o : Ob), st[m]? = some o → st2[m]? = some o := fun m o h => by rw [hst2]; exact getNew (old1 m o h)
    have len2 : st.length < st2.length := by rw [hst2]; simp; omega
    rw [← hst2]
    try simp -implicitDefEqProofs only [wp_ok, wp_exc, wp_bind, wp_raise, wp_try, wp_noexc, wp_seq, wp_skip, wp_brk, wp_cnt, wp_retN, wp_ret, wp_set, wp_par, wp_unp, wp_sto, wp_xpr, wp_ite, wp_for, wp_whl, wp_tru, sk_nx, sk_rt, sk_bk, sk_ct, lk_nx, lk_ct, lk_bk, lk_rt, ik_true, ik_false, ev, evs, evo, evi, evc, evd, keyK_str, keyK_int, retK_rt, retK_nx, iteK_true, iteK_false, truK0_bl, truK0_int, truK0_tup, truK0_frl, truK0_non, scK_bl, wp_callK, cmpO, cmp_eq, cmp_ne, cmp_lt, cmp_le, cmp_gt, cmp_ge, cmp_isN, cmp_notN, eqD_int, eqD_str, bin_int, binI_add, binI_sub, of_some, negK_int, setK_nm, setK_tp, setsK, asg, asgs, tgsOf, intK, rngK, srcV_tup, srcV_frl, subO, startE, newR, new, bi_int, bi_abs, bi_len_tup, bi_len_frl,  Option.map_some, Option.map_none, Option.bind_some, List.map_cons, List.map_nil, List.length_cons, List.length_nil, List.length_append, List.length_map, List.length_set, List.cons_append, List.nil_append, List.getElem?_cons_zero, List.getElem?_cons_succ, List.set_cons_zero, List.set_cons_succ, if_true, if_false, Bool.false_eq_true, Bool.true_eq_false, Bool.not_true, Bool.not_false, decide_true, decide_false, Nat.reduceEqDiff, Nat.zero_lt_succ, List.replicate_succ, List.replicate_zero, Nat.reduceSub, Nat.reduceAdd, Nat.reduceLT, Nat.reduceLeDiff, Nat.zero_le, id, lstK_ok, tupK_ok, h1, srcV_lst g2]
    refine wp_forL (ms.map W.int) (fun k en st' => st' = st2 ∧ ∃ (b : Int) (x : Option W), en = [some (.frl (ns.map .int)), some (.int salt), some (.ref st1.length), some (.int b), x]) ?_ ?_ ?_ FU 0 _ _ (Nat.zero_le _) ?_ ⟨rfl, _, _, rfl⟩
    · rintro k en st' ⟨rfl, _⟩
      exact get_live g2
    · rintro k w en st' hw ⟨rfl, b, x, rfl⟩
      rw [List.getElem?_map] at hw
      obtain ⟨y, hy, rfl⟩ := Option.map_eq_some_iff.mp hw
      refine ⟨_, rfl, ?_⟩
      have hmul : binI .mul b 48271 = some (b * 48271) := by rw [binI_mul, if_pos (by simp [small64])]
      have hmo : ∀ x : Int, binI .mod x 2147483647 = some (x % 2147483647) := fun x => binI_mod_pos (by decide)
      have hmo2 : ∀ x : Int, binI .mod x 2147483549 = some (x % 2147483549) := fun x => binI_mod_pos (by decide)
      try simp -implicitDefEqProofs only [wp_ok, wp_exc, wp_bind, wp_raise, wp_try, wp_noexc, wp_seq, wp_skip, wp_brk, wp_cnt, wp_retN, wp_ret, wp_set, wp_par, wp_unp, wp_sto, wp_xpr, wp_ite, wp_for, wp_whl, wp_tru, sk_nx, sk_rt, sk_bk, sk_ct, lk_nx, lk_ct, lk_bk, lk_rt, ik_true, ik_false, ev, evs, evo, evi, evc, evd, keyK_str, keyK_int, retK_rt, retK_nx, iteK_true, iteK_false, truK0_bl, truK0_int, truK0_tup, truK0_frl, truK0_non, scK_bl, wp_callK, cmpO, cmp_eq, cmp_ne, cmp_lt, cmp_le, cmp_gt, cmp_ge, cmp_isN, cmp_notN, eqD_int, eqD_str, bin_int, binI_add, binI_sub, of_some, negK_int, setK_nm, setK_tp, setsK, asg, asgs, tgsOf, intK, rngK, srcV_tup, srcV_frl, subO, startE, newR, new, bi_int, bi_abs, bi_len_tup, bi_len_frl,  Option.map_some, Option.map_none, Option.bind_some, List.map_cons, List.map_nil, List.length_cons, List.length_nil, List.length_append, List.length_map, List.length_set, List.cons_append, List.nil_append, List.getElem?_cons_zero, List.getElem?_cons_succ, List.set_cons_zero, List.set_cons_succ, if_true, if_false, Bool.false_eq_true, Bool.true_eq_false, Bool.not_true, Bool.not_false, decide_true, decide_false, Nat.reduceEqDiff, Nat.zero_lt_succ, List.replicate_succ, List.replicate_zero, Nat.reduceSub, Nat.reduceAdd, Nat.reduceLT, Nat.reduceLeDiff, Nat.zero_le, id, lstK_ok, tupK_ok, hmul, hmo, hmo2]
      exact ⟨by trivial, _, _, rfl⟩
    · rintro en st' ⟨rfl, b, x, rfl⟩
      have hp : binI .pow 10 18 = some 1000000000000000000 := by decide
      try simp -implicitDefEqProofs only [wp_ok, wp_exc, wp_bind, wp_raise, wp_try, wp_noexc, wp_seq, wp_skip, wp_brk, wp_cnt, wp_retN, wp_ret, wp_set, wp_par, wp_unp, wp_sto, wp_xpr, wp_ite, wp_for, wp_whl, wp_tru, sk_nx, sk_rt, sk_bk, sk_ct, lk_nx, lk_ct, lk_bk, lk_rt, ik_true, ik_false, ev, evs, evo, evi, evc, evd, keyK_str, keyK_int, retK_rt, retK_nx, iteK_true, iteK_false, truK0_bl, truK0_int, truK0_tup, truK0_frl, truK0_non, scK_bl, wp_callK, cmpO, cmp_eq, cmp_ne, cmp_lt, cmp_le, cmp_gt, cmp_ge, cmp_isN, cmp_notN, eqD_int, eqD_str, bin_int, binI_add, binI_sub, of_some, negK_int, setK_nm, setK_tp, setsK, asg, asgs, tgsOf, intK, rngK, srcV_tup, srcV_frl, subO, startE, newR, new, bi_int, bi_abs, bi_len_tup, bi_len_frl,  Option.map_some, Option.map_none, Option.bind_some, List.map_cons, List.map_nil, List.length_cons, List.length_nil, List.length_append, List.length_map, List.length_set, List.cons_append, List.nil_append, List.getElem?_cons_zero, List.getElem?_cons_succ, List.set_cons_zero, List.set_cons_succ, if_true, if_false, Bool.false_eq_true, Bool.true_eq_false, Bool.not_true, Bool.not_false, decide_true, decide_false, Nat.reduceEqDiff, Nat.zero_lt_succ, List.replicate_succ, List.replicate_zero, Nat.reduceSub, Nat.reduceAdd, Nat.reduceLT, Nat.reduceLeDiff, Nat.zero_le, id, lstK_ok, tupK_ok, srcV_lst g2]
      refine wp_lcL (ms.map W.int) (fun k st3 => ∃ us : List Int, us.length ≤ k ∧ st3 = st' ++ [Ob.lst (us.map W.int)]) ?_ ?_ ?_ FU 0 _ (Nat.zero_le _) ?_ ⟨[], Nat.le_refl _, rfl⟩
      · rintro k st3 ⟨us, _, rfl⟩
        exact get_live (getNew g2)
      · rintro k w st3 hw ⟨us, hk, rfl⟩
        rw [List.getElem?_map] at hw
        obtain ⟨y, hy, rfl⟩ := Option.map_eq_some_iff.mp hw
        have hkl := (List.getElem?_eq_some_iff.mp hy).1
        refine ⟨_, rfl, ?_⟩
        try simp -implicitDefEqProofs only [wp_ok, wp_exc, wp_bind, wp_raise, wp_try, wp_noexc, wp_seq, wp_skip, wp_brk, wp_cnt, wp_retN, wp_ret, wp_set, wp_par, wp_unp, wp_sto, wp_xpr, wp_ite, wp_for, wp_whl, wp_tru, sk_nx, sk_rt, sk_bk, sk_ct, lk_nx, lk_ct, lk_bk, lk_rt, ik_true, ik_false, ev, evs, evo, evi, evc, evd, keyK_str, keyK_int, retK_rt, retK_nx, iteK_true, iteK_false, truK0_bl, truK0_int, truK0_tup, truK0_frl, truK0_non, scK_bl, wp_callK, cmpO, cmp_eq, cmp_ne, cmp_lt, cmp_le, cmp_gt, cmp_ge, cmp_isN, cmp_notN, eqD_int, eqD_str, bin_int, binI_add, binI_sub, of_some, negK_int, setK_nm, setK_tp, setsK, asg, asgs, tgsOf, intK, rngK, srcV_tup, srcV_frl, subO, startE, newR, new, bi_int, bi_abs, bi_len_tup, bi_len_frl,  Option.map_some, Option.map_none, Option.bind_some, List.map_cons, List.map_nil, List.length_cons, List.length_nil, List.length_append, List.length_map, List.length_set, List.cons_append, List.nil_append, List.getElem?_cons_zero, List.getElem?_cons_succ, List.set_cons_zero, List.set_cons_succ, if_true, if_false, Bool.false_eq_true, Bool.true_eq_false, Bool.not_true, Bool.not_false, decide_true, decide_false, Nat.reduceEqDiff, Nat.zero_lt_succ, List.replicate_succ, List.replicate_zero, Nat.reduceSub, Nat.reduceAdd, Nat.reduceLT, Nat.reduceLeDiff, Nat.zero_le, id, lstK_ok, tupK_ok, wipeE, hp]
        by_cases hc : (1000000000000000000 : Int) ≤ y
        · rw [decide_eq_true hc]
          try simp -implicitDefEqProofs only [wp_ok, wp_exc, wp_bind, wp_raise, wp_try, wp_noexc, wp_seq, wp_skip, wp_brk, wp_cnt, wp_retN, wp_ret, wp_set, wp_par, wp_unp, wp_sto, wp_xpr, wp_ite, wp_for, wp_whl, wp_tru, sk_nx, sk_rt, sk_bk, sk_ct, lk_nx, lk_ct, lk_bk, lk_rt, ik_true, ik_false, ev, evs, evo, evi, evc, evd, keyK_str, keyK_int, retK_rt, retK_nx, iteK_true, iteK_false, truK0_bl, truK0_int, truK0_tup, truK0_frl, truK0_non, scK_bl, wp_callK, cmpO, cmp_eq, cmp_ne, cmp_lt, cmp_le, cmp_gt, cmp_ge, cmp_isN, cmp_notN, eqD_int, eqD_str, bin_int, binI_add, binI_sub, of_some, negK_int, setK_nm, setK_tp, setsK, asg, asgs, tgsOf, intK, rngK, srcV_tup, srcV_frl, subO, startE, newR, new, bi_int, bi_abs, bi_len_tup, bi_len_frl,  Option.map_some, Option.map_none, Option.bind_some, List.map_cons, List.map_nil, List.length_cons, List.length_nil, List.length_append, List.length_map, List.length_set, List.cons_append, List.nil_append, List.getElem?_cons_zero, List.getElem?_cons_succ, List.set_cons_zero, List.set_cons_succ, if_true, if_false, Bool.false_eq_true, Bool.true_eq_false, Bool.not_true, Bool.not_false, decide_true, decide_false, Nat.reduceEqDiff, Nat.zero_lt_succ, List.replicate_succ, List.replicate_zero, Nat.reduceSub, Nat.reduceAdd, Nat.reduceLT, Nat.reduceLeDiff, Nat.zero_le, id, lstK_ok, tupK_ok]
          refine ⟨us.map W.int, getLast, by rw [List.length_map]; unfold sizeLine; omega, us ++ [y], ?_, ?_⟩
          · simp; omega
          · simp
        · rw [decide_eq_false hc]
          try simp -implicitDefEqProofs only [wp_ok, wp_exc, wp_bind, wp_raise, wp_try, wp_noexc, wp_seq, wp_skip, wp_brk, wp_cnt, wp_retN, wp_ret, wp_set, wp_par, wp_unp, wp_sto, wp_xpr, wp_ite, wp_for, wp_whl, wp_tru, sk_nx, sk_rt, sk_bk, sk_ct, lk_nx, lk_ct, lk_bk, lk_rt, ik_true, ik_false, ev, evs, evo, evi, evc, evd, keyK_str, keyK_int, retK_rt, retK_nx, iteK_true, iteK_false, truK0_bl, truK0_int, truK0_tup, truK0_frl, truK0_non, scK_bl, wp_callK, cmpO, cmp_eq, cmp_ne, cmp_lt, cmp_le, cmp_gt, cmp_ge, cmp_isN, cmp_notN, eqD_int, eqD_str, bin_int, binI_add, binI_sub, of_some, negK_int, setK_nm, setK_tp, setsK, asg, asgs, tgsOf, intK, rngK, srcV_tup, srcV_frl, subO, startE, newR, new, bi_int, bi_abs, bi_len_tup, bi_len_frl,  Option.map_some, Option.map_none, Option.bind_some, List.map_cons, List.map_nil, List.length_cons, List.length_nil, List.length_append, List.length_map, List.length_set, List.cons_append, List.nil_append, List.getElem?_cons_zero, List.getElem?_cons_succ, List.set_cons_zero, List.set_cons_succ, if_true, if_false, Bool.false_eq_true, Bool.true_eq_false, Bool.not_true, Bool.not_false, decide_true, decide_false, Nat.reduceEqDiff, Nat.zero_lt_succ, List.replicate_succ, List.replicate_zero, Nat.reduceSub, Nat.reduceAdd, Nat.reduceLT, Nat.reduceLeDiff, Nat.zero_le, id, lstK_ok, tupK_ok]
          exact ⟨us, by omega, rfl⟩
      · rintro st3 ⟨us, hu, rfl⟩
        rw [List.length_map] at hu
        try simp -implicitDefEqProofs only [wp_ok, wp_exc, wp_bind, wp_raise, wp_try, wp_noexc, wp_seq, wp_skip, wp_brk, wp_cnt, wp_retN, wp_ret, wp_set, wp_par, wp_unp, wp_sto, wp_xpr, wp_ite, wp_for, wp_whl, wp_tru, sk_nx, sk_rt, sk_bk, sk_ct, lk_nx, lk_ct, lk_bk, lk_rt, ik_true, ik_false, ev, evs, evo, evi, evc, evd, keyK_str, keyK_int, retK_rt, retK_nx, iteK_true, iteK_false, truK0_bl, truK0_int, truK0_tup, truK0_frl, truK0_non, scK_bl, wp_callK, cmpO, cmp_eq, cmp_ne, cmp_lt, cmp_le, cmp_gt, cmp_ge, cmp_isN, cmp_notN, eqD_int, eqD_str, bin_int, binI_add, binI_sub, of_some, negK_int, setK_nm, setK_tp, setsK, asg, asgs, tgsOf, intK, rngK, srcV_tup, srcV_frl, subO, startE, newR, new, bi_int, bi_abs, bi_len_tup, bi_len_frl,  Option.map_some, Option.map_none, Option.bind_some, List.map_cons, List.map_nil, List.length_cons, List.length_nil, List.length_append, List.length_map, List.length_set, List.cons_append, List.nil_append, List.getElem?_cons_zero, List.getElem?_cons_succ, List.set_cons_zero, List.set_cons_succ, if_true, if_false, Bool.false_eq_true, Bool.true_eq_false, Bool.not_true, Bool.not_false, decide_true, decide_false, Nat.reduceEqDiff, Nat.zero_lt_succ, List.replicate_succ, List.replicate_zero, Nat.reduceSub, Nat.reduceAdd, Nat.reduceLT, Nat.reduceLeDiff, Nat.zero_le, id, lstK_ok, tupK_ok, revW_lst getLast]
        rw [← List.map_reverse]
        obtain ⟨st4, hst4⟩ : ∃ x : Sto, x = st' ++ [Ob.lst (us.map W.int)] ++ [Ob.lst (us.reverse.map W.int)] := ⟨_, rfl⟩
        have hl4 : st4.length = st'.length + 1 + 1 := by rw [hst4]; simp
        have g4 : st4[st'.length + 1]? = some (.lst (us.reverse.map W.int)) := by
          have : (st' ++ [Ob.lst (us.map W.int)]).length = st'.length + 1 := by simp
          rw [hst4, ← this]; exact getLast
        rw [← hst4, ← hl4]
        refine ⟨st4.length, st'.length + 1, by trivial, ⟨by omega, ⟨b, getLast⟩, us.reverse, getNew g4, by simp; omega⟩, fun m o h => ?_⟩
        have hm' := (List.getElem?_eq_some_iff.mp h).1
        exact ⟨getNew (by rw [hst4]; exact getNew (getNew (old2 m o h))), by omega, by omega⟩
      · rw [List.length_map]; unfold FU; omega
    · rw [List.length_map]; unfold FU; omega
  · rw [List.length_map]; unfold FU; omega
end Ci
/-! Cj4: lists of numbers compared, ranges, stores that only grow. -/
namespace Ci
open PySem

/-! ### order -/
theorem listLt_lexI : ∀ xs ys : List Int, PySem.W.listLt xs ys = lexI xs ys
  | [], [] => rfl
  | [], _ :: _ => rfl
  | _ :: _, [] => rfl
  | x :: xs, y :: ys => by
    rw [PySem.W.listLt, lexI, listLt_lexI xs ys]
    rfl
theorem dataLt_ints (xs ys : List Int) : PySem.W.dataLt (.list (xs.map .int)) (.list (ys.map .int)) = lexI xs ys := by
  rw [PySem.W.dataLt_list, ← listLt_lexI]
  exact PySem.W.lexAll_map xs ys
theorem alike_ints (xs ys : List Int) : PySem.W.alike (.list (xs.map .int)) (.list (ys.map .int)) = true := by
  rw [PySem.W.alike]
  exact PySem.W.alikeAll_map xs ys
theorem ordD_ints {f : PyData → PyData → Bool} {st : Sto} {a b : Nat} {xs ys : List Int} (h1 : st[a]? = some (.lst (xs.map .int))) (h2 : st[b]? = some (.lst (ys.map .int))) :
    ordD f st (.ref a) (.ref b) = some (f (.list (xs.map .int)) (.list (ys.map .int))) := by
  unfold ordD
  rw [toD_ints h1, toD_ints h2]
  simp only [alike_ints, noneD, PyData.depth, depthAll_ints]
  rfl
section
variable {st : Sto} {a b : Nat} {xs ys : List Int}
theorem cmp_lt_ints (h1 : st[a]? = some (.lst (xs.map .int))) (h2 : st[b]? = some (.lst (ys.map .int))) : cmp .lt (.ref a) (.ref b) st = some (lexI xs ys) := by
  rw [show cmp .lt (.ref a) (.ref b) st = ordD PySem.W.dataLt st (.ref a) (.ref b) from rfl, ordD_ints h1 h2, dataLt_ints]
theorem cmp_le_ints (h1 : st[a]? = some (.lst (xs.map .int))) (h2 : st[b]? = some (.lst (ys.map .int))) : cmp .le (.ref a) (.ref b) st = some (!lexI ys xs) := by
  rw [show cmp .le (.ref a) (.ref b) st = ordD (fun d e => !PySem.W.dataLt e d) st (.ref a) (.ref b) from rfl, ordD_ints h1 h2, dataLt_ints]
end
/-! ### ranges -/
theorem rngOf_nat {n : Nat} (h : n < 1000000) : rngOf [.int (n : Int)] = some (0, (n : Int)) := by
  have : rgOk 0 (n : Int) = true := by unfold rgOk; exact decide_eq_true ⟨by decide, by decide, by omega, by omega⟩
  simp only [rngOf, this, if_true]
theorem rngOf_two {a b : Int} (h : -1000000000 ≤ a) (h2 : a < 1000000000) (h3 : -1000000000 ≤ b) (h4 : b < 1000000000) : rngOf [.int a, .int b] = some (a, b) := by
  have : rgOk a b = true := by unfold rgOk; exact decide_eq_true ⟨by omega, by omega, by omega, by omega⟩
  simp only [rngOf, this, if_true]
theorem rngW_len (n : Nat) : (rngW 0 (n : Int)).length = n := by unfold rngW; simp
theorem rngW_get {n k : Nat} {w : W} (h : (rngW 0 (n : Int))[k]? = some w) : k < n ∧ w = .int k := by
  unfold rngW at h
  rw [List.getElem?_map] at h
  obtain ⟨j, hj, rfl⟩ := Option.map_eq_some_iff.mp h
  have hk := (List.getElem?_eq_some_iff.mp hj).1
  rw [List.length_range] at hk
  rw [List.getElem?_range hk] at hj
  cases hj
  exact ⟨by omega, by congr 1; omega⟩
theorem get_fix {ws : List W} {st : Sto} {k : Nat} : (Src.fix ws).get st k = some ws[k]? := rfl
/-- for i in range(n): no break within I, the body's own ends otherwise -/
theorem wp_rng {as : W → En → Option En} {body : En → Sto → Res Out} {Q : Out → Sto → Prop} {en : En} {st : Sto} (n : Nat) (hn : n < 1000000) (I : Nat → En → Sto → Prop)
    (step : ∀ k en st, k < n → I k en st → ∃ en1, as (.int (k : Int)) en = some en1 ∧ Wx noX (body en1 st) (Lk (I (k + 1)) Q)) (fin : ∀ en st, I n en st → Q (.nx en) st) (i0 : I 0 en st) :
    Wx noX (forL (Src.fix (rngW 0 (n : Int))).get as body FU 0 en st) Q := by
  refine wp_forL (rngW 0 (n : Int)) I (fun _ _ _ _ => rfl) ?_ ?_ FU 0 en st (Nat.zero_le _) ?_ i0
  · intro k w en st hw i
    obtain ⟨hk, rfl⟩ := rngW_get hw
    exact step k en st hk i
  · intro en st i
    rw [rngW_len] at i
    exact fin en st i
  · rw [rngW_len]; unfold FU; omega
/-! ### stores that grow -/
def Ext (st st' : Sto) : Prop := st.length ≤ st'.length ∧ ∀ (m : Nat) (o : Ob), st[m]? = some o → st'[m]? = some o
theorem Ext.refl {st : Sto} : Ext st st := ⟨Nat.le_refl _, fun _ _ h => h⟩
theorem Ext.trans {a b c : Sto} (x : Ext a b) (y : Ext b c) : Ext a c := ⟨Nat.le_trans x.1 y.1, fun m o h => y.2 m o (x.2 m o h)⟩
theorem Ext.new {st : Sto} {o : Ob} : Ext st (st ++ [o]) := ⟨by simp, fun m u h => getNew h⟩
/-- what lies behind the old end may change -/
theorem Ext.set {st st' : Sto} {m : Nat} {o : Ob} (h : Ext st st') (hm : st.length ≤ m) : Ext st (st'.set m o) := ⟨by rw [List.length_set]; exact h.1, fun k u e => by
  have := (List.getElem?_eq_some_iff.mp e).1
  rw [List.getElem?_set_ne (by omega)]
  exact h.2 k u e⟩
theorem Ext.keep {st st' : Sto} {d c : Nat} (h : Ext st st') : Keep d c st st' := fun m o _ _ e => h.2 m o e
theorem Deal.ext {st st' : Sto} {d c : Nat} (D : Deal st d c) (h : Ext st st') : Deal st' d c := ⟨D.ne, D.at_.imp fun _ e => h.2 _ _ e, D.cel.imp fun _ e => ⟨h.2 _ _ e.1, e.2⟩⟩
theorem Deal.lt {st : Sto} {d c : Nat} (D : Deal st d c) : d < st.length ∧ c < st.length := by
  obtain ⟨_, ⟨b, h1⟩, ns, h2, _⟩ := D
  exact ⟨(List.getElem?_eq_some_iff.mp h1).1, (List.getElem?_eq_some_iff.mp h2).1⟩
/-- a new list, nothing else changed -/
def NewL (st : Sto) (ws : List W) (w : W) (st' : Sto) : Prop := ∃ a, w = .ref a ∧ Ext st st' ∧ st.length ≤ a ∧ st'[a]? = some (.lst ws)
theorem own_of {st st' : Sto} {a d c : Nat} {ws : List W} (D : Deal st d c) (h : st.length ≤ a) (e : st'[a]? = some (.lst ws)) : Own d c st' a ws := ⟨e, by have := D.lt; omega, by have := D.lt; omega⟩
/-! ### texts of numbers -/
theorem reprOk_small {i : Int} (h0 : -(2 ^ 64) ≤ i) (h : i ≤ 2 ^ 64) : reprOk (.int i) = true := by
  show decide (i.natAbs.log2 < 1920) = true
  apply decide_eq_true
  by_cases e : i.natAbs = 0
  · rw [e]; decide
  · have : i.natAbs < 2 ^ 65 := by omega
    have := (Nat.log2_lt e).mpr this
    omega
theorem bi_repr_int {st : Sto} {i : Int} (h0 : -(2 ^ 64) ≤ i) (h : i ≤ 2 ^ 64) : bi .repr [.int i] st = some (.str (PyData.int i).shown, st) := bi_repr toD_int (reprOk_small h0 h)
theorem beq_str (s : Str) : (s == s) = true := by
  have : LawfulBEq Str := inferInstance
  exact beq_self_eq_true s
theorem powOk_1 {w : Nat} (h : w ≤ 1000000) : powOk 1 (w : Int) = true := by
  unfold powOk
  exact decide_eq_true ⟨by omega, by omega, by decide⟩
theorem divOk_pow {w : Nat} (h : w < 9000) : divOk (2 ^ w) = true := by
  unfold divOk
  have e : ((2 : Int) ^ w).natAbs = 2 ^ w := by rw [Int.natAbs_pow]; rfl
  rw [e, Nat.log2_two_pow, decide_eq_true h, Bool.or_true, decide_eq_true (Int.pow_pos (by decide))]
  rfl
end Ci
/-! Cj5: kinds, tuples, lists of truths. -/
namespace Ci
open PySem

section
variable {st : Sto} {i : Int} {b : Bool} {s : Str} {ws us : List W} {n : Nat}
theorem isi_int_int : isiK ["int"] (.int i) st = .ok (.bl true) st := rfl
theorem isi_int_bl : isiK ["int"] (.bl b) st = .ok (.bl true) st := rfl
theorem isi_int_non : isiK ["int"] .non st = .ok (.bl false) st := rfl
theorem isi_int_str : isiK ["int"] (.str s) st = .ok (.bl false) st := rfl
theorem isi_int_tup : isiK ["int"] (.tup ws) st = .ok (.bl false) st := rfl
theorem isi_bool_int : isiK ["bool"] (.int i) st = .ok (.bl false) st := rfl
theorem isi_bool_bl : isiK ["bool"] (.bl b) st = .ok (.bl true) st := rfl
theorem isi_tuple_tup : isiK ["tuple"] (.tup ws) st = .ok (.bl true) st := rfl
theorem isi_tuple_non : isiK ["tuple"] .non st = .ok (.bl false) st := rfl
theorem isi_tuple_int : isiK ["tuple"] (.int i) st = .ok (.bl false) st := rfl
theorem isi_tuple_bl : isiK ["tuple"] (.bl b) st = .ok (.bl false) st := rfl
theorem isi_tuple_str : isiK ["tuple"] (.str s) st = .ok (.bl false) st := rfl
theorem isi_tuple_lst (h : st[n]? = some (.lst ws)) : isiK ["tuple"] (.ref n) st = .ok (.bl false) st := by simp only [isiK, tyOf, h]; rfl
theorem isi_str_str : isiK ["str"] (.str s) st = .ok (.bl true) st := rfl
theorem isi_str_non : isiK ["str"] .non st = .ok (.bl false) st := rfl
theorem isi_str_int : isiK ["str"] (.int i) st = .ok (.bl false) st := rfl
theorem isi_str_tup : isiK ["str"] (.tup ws) st = .ok (.bl false) st := rfl
theorem isi_list_lst (h : st[n]? = some (.lst ws)) : isiK ["list"] (.ref n) st = .ok (.bl true) st := by simp only [isiK, tyOf, h]; rfl
theorem slW_tup {lo hi : Option Int} : slW (.tup ws) lo hi st = some (.tup (cutW ws lo hi), st) := rfl
theorem cut_drop {k : Nat} : cutW ws (some (k : Int)) none = ws.drop k := by
  unfold cutW
  rw [HT.sIx_nat, show HT.sIx ws.length ws.length none = ws.length from rfl]
  rcases Nat.le_total k ws.length with h | h
  · rw [Nat.min_eq_left h, List.take_of_length_le (by rw [List.length_drop]; omega)]
  · rw [Nat.min_eq_right h, List.drop_of_length_le (Nat.le_refl _), List.drop_of_length_le h, List.take_nil]
theorem cut_take {k : Nat} : cutW ws none (some (k : Int)) = ws.take k := by
  unfold cutW
  rw [HT.sIx_nat, show HT.sIx ws.length 0 none = 0 from rfl, List.drop_zero, Nat.sub_zero]
  rcases Nat.le_total k ws.length with h | h
  · rw [Nat.min_eq_left h]
  · rw [Nat.min_eq_right h, List.take_length, List.take_of_length_le h]
theorem bin_tup (h : ws.length + us.length ≤ 16777216) : bin .add (.tup ws) (.tup us) st = some (.tup (ws ++ us), st) := if_pos h
theorem bi_tuple_lst (h : st[n]? = some (.lst ws)) : bi .tuple [.ref n] st = some (.tup ws, st) := by simp only [bi, seqOf, h]; rfl
theorem bi_tuple_tup : bi .tuple [.tup ws] st = some (.tup ws, st) := rfl
theorem bi_list_tup : bi .list [.tup ws] st = some (.ref st.length, st ++ [.lst ws]) := rfl
theorem bi_list_lst (h : st[n]? = some (.lst ws)) : bi .list [.ref n] st = some (.ref st.length, st ++ [.lst ws]) := by simp only [bi, seqOf, h]; rfl
theorem blsOf_map {α : Type} (f : α → Bool) : ∀ l : List α, blsOf (l.map fun x => .bl (f x)) = some (l.map f)
  | [] => rfl
  | x :: l => by rw [List.map_cons, blsOf, blsOf_map f l]; rfl
theorem bi_all_lst {bs : List Bool} (h : st[n]? = some (.lst (bs.map .bl))) : bi .all [.ref n] st = some (.bl (bs.all id), st) := by
  have e : blsOf (bs.map .bl) = some bs := by
    have := blsOf_map id bs
    rw [List.map_id] at this
    exact this
  simp only [bi, lstOf, h, Option.bind_some, e]
  rfl
theorem bi_any_lst {bs : List Bool} (h : st[n]? = some (.lst (bs.map .bl))) : bi .any [.ref n] st = some (.bl (bs.any id), st) := by
  have e : blsOf (bs.map .bl) = some bs := by
    have := blsOf_map id bs
    rw [List.map_id] at this
    exact this
  simp only [bi, lstOf, h, Option.bind_some, e]
  rfl
theorem bi_repr_bl : bi .repr [.bl b] st = some (.str (PyData.bool b).shown, st) := rfl
theorem bi_repr_non : bi .repr [.non] st = some (.str PyData.none.shown, st) := rfl
theorem is_bl {x y : Bool} : cmp .isN (.bl x) (.bl y) st = some (decide (x = y)) := rfl
theorem isnot_bl {x y : Bool} : cmp .notN (.bl x) (.bl y) st = some (!decide (x = y)) := rfl
theorem eqD_data {x y : W} {d e : PyData} (h1 : toD st x = some d) (h2 : toD st y = some e) (h3 : shapedB d = true) (h4 : shapedB e = true) (hx : ∀ s, x ≠ .str s) (hx2 : ∀ i, x ≠ .int i) : eqD st x y = some (PyData.eqv d e) := by
  unfold eqD
  split
  · exact absurd rfl (hx _)
  · exact absurd rfl (hx2 _)
  · rw [h1, h2]
    simp only [h3, h4, Bool.and_self, if_true]
theorem eqD_tup {y : W} {d e : PyData} (h1 : toD st (.tup ws) = some d) (h2 : toD st y = some e) (h3 : shapedB d = true) (h4 : shapedB e = true) : eqD st (.tup ws) y = some (PyData.eqv d e) :=
  eqD_data h1 h2 h3 h4 (fun _ h => by cases h) fun _ h => by cases h
end
end Ci
/-! Cj6: comprehensions by what they tell. -/
namespace Ci
open PySem

section
variable {get : Sto → Nat → Option (Option W)} {as : W → En → Option En} {en0 : En} {test : En → Sto → Res Bool} {elt : En → Sto → Res W} {st : Sto}
theorem Deal.set {d c m : Nat} {o : Ob} (D : Deal st d c) (h1 : m ≠ d) (h2 : m ≠ c) : Deal (st.set m o) d c :=
  ⟨D.ne, D.at_.imp fun b e => by rw [List.getElem?_set_ne h1]; exact e, D.cel.imp fun ns e => ⟨by rw [List.getElem?_set_ne h2]; exact e.1, e.2⟩⟩
theorem Keep.setB {d c m : Nat} {st' : Sto} {o : Ob} (k : Keep d c st st') (h : st.length ≤ m) : Keep d c st (st'.set m o) := fun n u h1 h2 e => by
  have := (List.getElem?_eq_some_iff.mp e).1
  rw [List.getElem?_set_ne (by omega)]
  exact k n u h1 h2 e
/-- each item is drawn -/
theorem wp_lcD {d c : Nat} {Q : W → Sto → Prop} (ws : List W) (hl : ws.length ≤ 1000000) (P : W → Prop) (D : Deal st d c) (hg : ∀ k st', Keep d c st st' → get st' k = some ws[k]?) (ht : ∀ en st', test en st' = .ok true st')
    (step : ∀ w ∈ ws, ∃ en1, as w en0 = some en1 ∧ ∀ st', Deal st' d c → Keep d c st st' → Wx noX (elt en1 st') fun y st2 => P y ∧ Deal st2 d c ∧ Keep d c st' st2)
    (fin : ∀ acc st', acc.length = ws.length → (∀ y ∈ acc, P y) → Deal st' d c → Keep d c st st' → Own d c st' st.length acc → Q (.ref st.length) st') :
    Wx noX (lcL get as en0 test elt st.length FU 0 (st ++ [.lst []])) Q := by
  have hD := D.fresh
  refine wp_lcL ws (fun k st' => ∃ acc : List W, acc.length = k ∧ (∀ y ∈ acc, P y) ∧ Deal st' d c ∧ Keep d c st st' ∧ st'[st.length]? = some (.lst acc)) ?_ ?_ ?_ FU 0 _ (Nat.zero_le _) (by unfold FU; omega) ⟨[], rfl, (fun y h => by cases h), D.new, Keep.new, getLast⟩
  · rintro k st' ⟨acc, _, _, _, kp, _⟩
    exact hg k st' kp
  · rintro k w st' hw ⟨acc, hk, hP, D', kp, ha⟩
    have hkl := (List.getElem?_eq_some_iff.mp hw).1
    obtain ⟨en1, e1, q⟩ := step w (List.mem_of_getElem? hw)
    refine ⟨en1, e1, ?_⟩
    rw [ht, wp_ok]
    refine (q st' D' kp).mono ?_
    rintro y st2 ⟨py, D2, k2⟩
    refine ⟨acc, k2 _ _ hD.1 hD.2 ha, by rw [hk]; unfold sizeLine; omega, acc ++ [y], by simp [hk], fun z hz => ?_, D2.set hD.1 hD.2, (kp.trans k2).setB (Nat.le_refl _), ?_⟩
    · rcases List.mem_append.mp hz with hz | hz
      · exact hP z hz
      · rw [List.mem_singleton.mp hz]; exact py
    · rw [List.getElem?_set_self (List.getElem?_eq_some_iff.mp (k2 _ _ hD.1 hD.2 ha)).1]
  · rintro st' ⟨acc, hk, hP, D', kp, ha⟩
    exact fin acc st' hk hP D' kp ⟨ha, hD⟩
/-- each item is reckoned, nothing is changed -/
theorem wp_lcF (ws : List W) (hl : ws.length ≤ 1000000) (p : W → Bool) (f : W → W) (hg : ∀ k st', Ext st st' → get st' k = some ws[k]?)
    (step : ∀ w ∈ ws, ∃ en1, as w en0 = some en1 ∧ ∀ st', Ext st st' → Wx noX (test en1 st') fun b st2 => b = p w ∧ Ext st' st2 ∧ (p w = true → Wx noX (elt en1 st2) fun y st3 => y = f w ∧ Ext st2 st3)) :
    Wx noX (lcL get as en0 test elt st.length FU 0 (st ++ [.lst []])) (NewL st ((ws.filter p).map f)) := by
  refine wp_lcL ws (fun k st' => Ext st st' ∧ st'[st.length]? = some (.lst (((ws.take k).filter p).map f))) ?_ ?_ ?_ FU 0 _ (Nat.zero_le _) (by unfold FU; omega) ⟨Ext.new, getLast⟩
  · rintro k st' ⟨x, _⟩
    exact hg k st' x
  · rintro k w st' hw ⟨x, ha⟩
    obtain ⟨hkl, hwe⟩ := List.getElem?_eq_some_iff.mp hw
    obtain ⟨en1, e1, q⟩ := step w (List.mem_of_getElem? hw)
    refine ⟨en1, e1, (q st' x).mono ?_⟩
    rintro b st2 ⟨rfl, x2, q2⟩
    have tk : ws.take (k + 1) = ws.take k ++ [w] := by rw [List.take_succ_eq_append_getElem hkl, hwe]
    cases hp : p w with
    | true =>
      refine (q2 hp).mono ?_
      rintro y st3 ⟨rfl, x3⟩
      refine ⟨_, x3.2 _ _ (x2.2 _ _ ha), ?_, (x.trans (x2.trans x3)).set (Nat.le_refl _), ?_⟩
      · have := List.length_filter_le p (ws.take k)
        rw [List.length_map]
        rw [List.length_take] at this
        unfold sizeLine
        omega
      · rw [List.getElem?_set_self (List.getElem?_eq_some_iff.mp (x3.2 _ _ (x2.2 _ _ ha))).1, tk, List.filter_append]
        simp [hp]
    | false =>
      refine ⟨x.trans x2, ?_⟩
      rw [x2.2 _ _ ha, tk, List.filter_append]
      simp [hp]
  · rintro st' ⟨x, ha⟩
    rw [List.take_length] at ha
    exact ⟨_, rfl, x, Nat.le_refl _, ha⟩
end
/-! ### sorted -/
theorem bi_sorted {w : W} {st : Sto} : bi .sorted [w] st = sortedW w st := by simp only [bi]
theorem strsOf_map : ∀ ss : List Str, strsOf (ss.map .str) = some ss
  | [] => rfl
  | s :: ss => by rw [List.map_cons, strsOf, strsOf_map ss]; rfl
theorem intsOf_map : ∀ ss : List Int, intsOf (ss.map .int) = some ss
  | [] => rfl
  | s :: ss => by rw [List.map_cons, intsOf, intsOf_map ss]; rfl
theorem intsOf_strs {ss : List Str} (h : ss ≠ []) : intsOf (ss.map .str) = none := by
  cases ss with
  | nil => exact absurd rfl h
  | cons s ss => rfl
theorem sorted_tupS {st : Sto} {ss : List Str} (h : ss ≠ []) : bi .sorted [.tup (ss.map .str)] st = some (.ref st.length, st ++ [.lst ((sortS ss).map .str)]) := by
  rw [bi_sorted]
  simp only [sortedW, dctOf, seqOf, Option.bind_some, intsOf_strs h, strsOf_map]
  rfl
theorem sorted_lstS {st : Sto} {a : Nat} {ss : List Str} (h : ss ≠ []) (g : st[a]? = some (.lst (ss.map .str))) : bi .sorted [.ref a] st = some (.ref st.length, st ++ [.lst ((sortS ss).map .str)]) := by
  rw [bi_sorted]
  simp only [sortedW, dctOf, seqOf, g, Option.bind_some, intsOf_strs h, strsOf_map]
  rfl
theorem sorted_lstI {st : Sto} {a : Nat} {ns : List Int} (g : st[a]? = some (.lst (ns.map .int))) : bi .sorted [.ref a] st = some (.ref st.length, st ++ [.lst ((sortI ns).map .int)]) := by
  rw [bi_sorted]
  simp only [sortedW, dctOf, seqOf, g, Option.bind_some, intsOf_map]
  rfl
/-! ### texts in rows of texts -/
theorem any_strs (ss : List Str) (s : Str) : (ss.map W.str).any (fun y => eqF y (.str s)) = ss.any fun y => y == s := by
  rw [List.any_map]; rfl
theorem flat_strs (ss : List Str) : (ss.map W.str).all flatW = true := by
  rw [List.all_map]
  exact List.all_eq_true.mpr fun _ _ => rfl
theorem in_tupS {st : Sto} {s : Str} {ss : List Str} : inW st (.str s) (.tup (ss.map .str)) = some (ss.any fun y => y == s) := by
  rw [inW_tup, flat_strs, any_strs]
  rfl
end Ci
namespace Law
open PySem L2 PyProof.Rows Ci
def top (i : Nat) : Stmt := PySem.Challenge.pw_anypasses_k42_papers_and_their_words.main.body.getD i (.Pass ⟨0, 0, 0, 0⟩)
def k_CALL_WORDS : W := (.tup [(.str "call_out"), (.str "constant_arg"), (.str "functions_out"), (.str "globals_out"), (.str "inline"), (.str "merge"), (.str "param_drop"), (.str "result_drop"), (.str "result_known"), (.str "tail_loop")])
def k_FLOW_WORDS : W := (.tup [(.str "bend"), (.str "carry"), (.str "drop"), (.str "join"), (.str "land"), (.str "param_out"), (.str "pick"), (.str "twin")])
def k_MEMORY_WORDS : W := (.tup [(.str "forward"), (.str "load_out"), (.str "promote"), (.str "store_out")])
def k_VALUE_WORDS : W := (.tup [(.str "put_in"), (.str "take_lot"), (.str "take_out"), (.str "use"), (.str "use_in")])
abbrev s0 : Stmt := top 8
abbrev N0 : List Str := []
abbrev ps0 : List Str := []
/-- step_words();  -/
def c0 : S :=
  (.ret (.bi .tuple (.cons (.bi .sorted (.cons (.bin .add (.bin .add (.bin .add (.con k_CALL_WORDS) (.con k_FLOW_WORDS)) (.con k_MEMORY_WORDS)) (.con k_VALUE_WORDS)) .nil)) .nil)))
def d0 : Fd := ⟨0, 0, c0⟩
abbrev s1 : Stmt := top 9
abbrev N1 : List Str := ["value"]
abbrev ps1 : List Str := ["value"]
/-- is_step(value); 0 value -/
def c1 : S :=
  (.ret (.and (.isi ["tuple"] (.var 0)) (.and (.cmp .gt (.bi .len (.cons (.var 0) .nil)) (.con (.int 0))) (.and (.isi ["str"] (.ix (.var 0) (.con (.int 0)))) (.cmp .isin (.ix (.var 0) (.con (.int 0))) (.call 0 none .nil))))))
def d1 : Fd := ⟨1, 1, c1⟩
abbrev s2 : Stmt := top 10
abbrev N2 : List Str := ["value", "step"]
abbrev ps2 : List Str := ["value"]
/-- is_paper(value); 0 value, 1 step -/
def c2 : S :=
  (.ret (.and (.isi ["tuple"] (.var 0)) (.bi .all (.cons (.lc [1] (.nm 1) (.val (.var 0)) .nil (.call 1 none (.cons (.var 1) .nil))) .nil))))
def d2 : Fd := ⟨1, 2, c2⟩
abbrev s3 : Stmt := top 11
abbrev N3 : List Str := ["step"]
abbrev ps3 : List Str := ["step"]
/-- step_kind(step); 0 step -/
def c3 : S :=
  (.seq (.ite (.not (.call 1 none (.cons (.var 0) .nil))) (.raise_ "InvalidQuestion" (.cons (.con (.int 0)) .nil)) .skip)
  (.seq (.ite (.cmp .isin (.ix (.var 0) (.con (.int 0))) (.con k_VALUE_WORDS)) (.ret (.con (.str "value"))) .skip)
  (.seq (.ite (.cmp .isin (.ix (.var 0) (.con (.int 0))) (.con k_FLOW_WORDS)) (.ret (.con (.str "flow"))) .skip)
  (.ret (.ite (.cmp .isin (.ix (.var 0) (.con (.int 0))) (.con k_MEMORY_WORDS)) (.con (.str "memory")) (.con (.str "call")))))))
def d3 : Fd := ⟨1, 1, c3⟩
abbrev s4 : Stmt := top 13
abbrev N4 : List Str := ["_law_script", "_law_salt", "_law_cells", "_law_blend", "_law_cell"]
abbrev ps4 : List Str := ["_law_script", "_law_salt"]
/-- _law_draw(_law_script, _law_salt); 0 _law_script, 1 _law_salt, 2 _law_cells, 3 _law_blend, 4 _law_cell -/
def c4 : S :=
  (.seq (.set 2 (.lc [4] (.nm 4) (.val (.sl (.var 0) .nil (.cons (.con (.int 48)) .nil))) .nil (.bi .abs (.cons (.bi .int (.cons (.var 4) .nil)) .nil))))
  (.seq (.set 3 (.bin .add (.con (.int 7919)) (.bin .mul (.con (.int 104729)) (.var 1))))
  (.seq (.for_ (.nm 4) (.val (.var 2)) (.set 3 (.bin .mod (.bi .int (.cons (.bin .add (.bin .add (.bin .mul (.var 3) (.con (.int 48271))) (.bin .mod (.var 4) (.con (.int 2147483549)))) (.con (.int 11))) .nil)) (.con (.int 2147483647)))))
  (.ret (.lst (.cons (.rev (.lc [4] (.nm 4) (.val (.var 2)) (.cons (.cmp .ge (.var 4) (.bin .pow (.con (.int 10)) (.con (.int 18)))) .nil) (.var 4))) (.cons (.var 3) .nil)))))))
def d4 : Fd := ⟨2, 5, c4⟩
abbrev s5 : Stmt := top 14
abbrev N5 : List Str := ["_law_deal", "_law_bound", "_law_rest"]
abbrev ps5 : List Str := ["_law_deal", "_law_bound"]
/-- _law_any(_law_deal, _law_bound); 0 _law_deal, 1 _law_bound, 2 _law_rest -/
def c5 : S :=
  (.seq (.whl (.and (.cmp .ne (.ix (.var 0) (.con (.int 0))) (.lst .nil)) (.cmp .eq (.ix (.ix (.var 0) (.con (.int 0))) (.neg (.con (.int 1)))) (.con (.int 0)))) (.xpr (.mt .pop (.ix (.var 0) (.con (.int 0))) .nil)))
  (.seq (.ite (.cmp .ne (.ix (.var 0) (.con (.int 0))) (.lst .nil)) (.seq (.set 2 (.bi .int (.cons (.mt .pop (.ix (.var 0) (.con (.int 0))) .nil) .nil)))
  (.seq (.xpr (.mt .append (.ix (.var 0) (.con (.int 0))) (.cons (.bin .fdiv (.var 2) (.var 1)) .nil)))
  (.ret (.bin .mod (.var 2) (.var 1))))) .skip)
  (.seq (.sto (.var 0) (.con (.int 1)) (.bin .mod (.bi .int (.cons (.bin .add (.bin .mul (.ix (.var 0) (.con (.int 1))) (.con (.int 40693))) (.con (.int 71))) .nil)) (.con (.int 2147483647))))
  (.ret (.bin .mod (.bi .int (.cons (.bin .fdiv (.ix (.var 0) (.con (.int 1))) (.con (.int 64))) .nil)) (.var 1))))))
def d5 : Fd := ⟨2, 3, c5⟩
abbrev s6 : Stmt := top 15
abbrev N6 : List Str := ["_law_deal", "_law_some"]
abbrev ps6 : List Str := ["_law_deal", "_law_some"]
/-- _law_of(_law_deal, _law_some); 0 _law_deal, 1 _law_some -/
def c6 : S :=
  (.ret (.ix (.var 1) (.call 5 none (.cons (.var 0) (.cons (.bi .len (.cons (.var 1) .nil)) .nil)))))
def d6 : Fd := ⟨2, 2, c6⟩
abbrev s8 : Stmt := top 17
abbrev N8 : List Str := ["_law_value", "_law_flow", "_law_memory", "_law_call"]
abbrev ps8 : List Str := []
/-- _law_words(); 0 _law_value, 1 _law_flow, 2 _law_memory, 3 _law_call -/
def c8 : S :=
  (.seq (.par [0, 1] (.cons (.lst (.cons (.con (.str "put_in")) (.cons (.con (.str "take_lot")) (.cons (.con (.str "take_out")) (.cons (.con (.str "use")) (.cons (.con (.str "use_in")) .nil)))))) (.cons (.lst (.cons (.con (.str "bend")) (.cons (.con (.str "carry")) (.cons (.con (.str "drop")) (.cons (.con (.str "join")) (.cons (.con (.str "land")) (.cons (.con (.str "param_out")) (.cons (.con (.str "pick")) (.cons (.con (.str "twin")) .nil))))))))) .nil)))
  (.seq (.set 2 (.lst (.cons (.con (.str "forward")) (.cons (.con (.str "load_out")) (.cons (.con (.str "promote")) (.cons (.con (.str "store_out")) .nil))))))
  (.seq (.set 3 (.lst (.cons (.con (.str "call_out")) (.cons (.con (.str "constant_arg")) (.cons (.con (.str "functions_out")) (.cons (.con (.str "globals_out")) (.cons (.con (.str "inline")) (.cons (.con (.str "merge")) (.cons (.con (.str "param_drop")) (.cons (.con (.str "result_drop")) .nil))))))))))
  (.ret (.dsp (.cons (.con (.str "value")) (.cons (.var 0) (.cons (.con (.str "flow")) (.cons (.var 1) (.cons (.con (.str "memory")) (.cons (.var 2) (.cons (.con (.str "call")) (.cons (.bin .add (.var 3) (.lst (.cons (.con (.str "result_known")) (.cons (.con (.str "tail_loop")) .nil)))) .nil)))))))))))))
def d8 : Fd := ⟨0, 4, c8⟩
abbrev s9 : Stmt := top 18
abbrev N9 : List Str := ["_law_step", "wrong"]
abbrev ps9 : List Str := ["_law_step"]
/-- _law_kind(_law_step); 0 _law_step, 1 wrong -/
def c9 : S :=
  (.try_ [] (.ret (.call 3 (some [0]) (.cons (.var 0) .nil))) ["InvalidQuestion"] [] 1 (.lst (.cons (.var 1) .nil)))
def d9 : Fd := ⟨1, 2, c9⟩
abbrev s10 : Stmt := top 19
abbrev N10 : List Str := ["_law_script", "_law_deal", "_law_table", "_law_all_words", "_law_kind_here", "_law_turn", "_law_step", "_law_bad", "_law_paper", "_law_at", "_law_more"]
abbrev ps10 : List Str := ["_law_script"]
/-- law(_law_script); 0 _law_script, 1 _law_deal, 2 _law_table, 3 _law_all_words, 4 _law_kind_here, 5 _law_turn, 6 _law_step, 7 _law_bad, 8 _law_paper, 9 _law_at, 10 _law_more -/
def c10 : S :=
  (.seq (.set 1 (.call 4 none (.cons (.var 0) (.cons (.con (.int 42)) .nil))))
  (.seq (.unp (.tp (.cons (.nm 2) (.cons (.nm 3) .nil))) (.tup (.cons (.call 8 none .nil) (.cons (.lst .nil) .nil))))
  (.seq (.for_ (.nm 4) (.val (.var 2)) (.set 3 (.bin .add (.var 3) (.ix (.var 2) (.var 4)))))
  (.seq (.ite (.cmp .ne (.bi .repr (.cons (.call 0 none .nil) .nil)) (.bi .repr (.cons (.bi .tuple (.cons (.bi .sorted (.cons (.var 3) .nil)) .nil)) .nil))) (.ret (.con (.bl false))) .skip)
  (.seq (.for_ (.nm 5) (.rng (.cons (.con (.int 6)) .nil)) (.seq (.set 4 (.call 6 none (.cons (.var 1) (.cons (.lst (.cons (.con (.str "value")) (.cons (.con (.str "flow")) (.cons (.con (.str "memory")) (.cons (.con (.str "call")) .nil))))) .nil))))
  (.seq (.set 6 (.bin .add (.tup (.cons (.call 6 none (.cons (.var 1) (.cons (.ix (.var 2) (.var 4)) .nil))) .nil)) (.bi .tuple (.cons (.lc [10] (.nm 10) (.rng (.cons (.call 5 none (.cons (.var 1) (.cons (.con (.int 4)) .nil))) .nil)) .nil (.call 5 none (.cons (.var 1) (.cons (.con (.int 9)) .nil)))) .nil))))
  (.seq (.ite (.cmp .ne (.bi .repr (.cons (.call 9 none (.cons (.var 6) .nil)) .nil)) (.bi .repr (.cons (.var 4) .nil))) (.ret (.con (.bl false))) .skip)
  (.seq (.set 7 (.call 6 none (.cons (.var 1) (.cons (.lst (.cons (.bi .list (.cons (.var 6) .nil)) (.cons (.tup .nil) (.cons (.con .non) (.cons (.ix (.var 6) (.con (.int 0))) (.cons (.bin .add (.tup (.cons (.con (.str "Use")) .nil)) (.sl (.var 6) (.cons (.con (.int 1)) .nil) .nil)) (.cons (.tup (.cons (.con (.int 3)) .nil)) (.cons (.tup (.cons (.tup (.cons (.ix (.var 6) (.con (.int 0))) .nil)) .nil)) (.cons (.tup (.cons (.con (.str "")) .nil)) (.cons (.tup (.cons (.con .non) .nil)) (.cons (.dsp .nil) .nil))))))))))) .nil))))
  (.seq (.set 8 (.bi .tuple (.cons (.lc [10] (.nm 10) (.rng (.cons (.call 5 none (.cons (.var 1) (.cons (.con (.int 6)) .nil))) .nil)) .nil (.tup (.cons (.call 6 none (.cons (.var 1) (.cons (.var 3) .nil))) (.cons (.con (.str "main")) .nil)))) .nil)))
  (.seq (.set 9 (.call 5 none (.cons (.var 1) (.cons (.bin .add (.bi .len (.cons (.var 8) .nil)) (.con (.int 1))) .nil))))
  (.seq (.ite (.or (.cmp .notN (.call 2 (some [0]) (.cons (.var 8) .nil)) (.con (.bl true))) (.or (.cmp .notN (.call 2 none (.cons (.bi .list (.cons (.var 8) .nil)) .nil)) (.con (.bl false))) (.cmp .ne (.call 9 none (.cons (.var 7) .nil)) (.lst (.cons (.con (.int 0)) .nil))))) (.ret (.con (.bl false))) .skip)
  (.ite (.or (.cmp .notN (.call 2 none (.cons (.bin .add (.bin .add (.sl (.var 8) .nil (.cons (.var 9) .nil)) (.tup (.cons (.var 7) .nil))) (.sl (.var 8) (.cons (.var 9) .nil) .nil)) .nil)) (.con (.bl false))) (.cmp .notN (.call 2 none (.cons (.call 6 none (.cons (.var 1) (.cons (.lst (.cons (.con .non) (.cons (.con (.int 7)) (.cons (.con (.str "use")) (.cons (.dsp .nil) .nil))))) .nil))) .nil)) (.con (.bl false)))) (.ret (.con (.bl false))) .skip)))))))))
  (.ret (.con (.bl true))))))))
def d10 : Fd := ⟨1, 11, c10⟩
def tab : List Fd := [d0, d1, d2, d3, d4, d5, d6, ⟨0, 0, .skip⟩, d8, d9, d10]
/-! ### the walk -/
def es : List ErrD := [⟨"InvalidQuestion", defArgs (initOf (top 2)), defBody (initOf (top 2)), defScope (initOf (top 2))⟩]
def ms : List (Str × Str × Bool) := [("InvalidQuestion", "InvalidQuestion", true)]
structure Fx (P : Program) (K : PySem.W.Frag) (mg : Str → Option Value) : Prop where
  f_abs : mg "abs" = none
  f_all : mg "all" = none
  f_int : mg "int" = none
  f_isinstance : mg "isinstance" = none
  f_len : mg "len" = none
  f_list : mg "list" = none
  f_range : mg "range" = none
  f_repr : mg "repr" = none
  f_sorted : mg "sorted" = none
  f_str : mg "str" = none
  f_tuple : mg "tuple" = none
  k_CALL_WORDS : ConP K mg "CALL_WORDS" k_CALL_WORDS
  k_FLOW_WORDS : ConP K mg "FLOW_WORDS" k_FLOW_WORDS
  k_MEMORY_WORDS : ConP K mg "MEMORY_WORDS" k_MEMORY_WORDS
  k_VALUE_WORDS : ConP K mg "VALUE_WORDS" k_VALUE_WORDS
  x_InvalidQuestion : CiE.ErrT K P "InvalidQuestion" (Str.ofString "at") (CiE.errC K "InvalidQuestion") (CiE.errI K "InvalidQuestion") (defArgs (initOf (top 2))) (defBody (initOf (top 2))) (defScope (initOf (top 2)))
  g_InvalidQuestion : mg "InvalidQuestion" = some (.ref (CiE.errC K "InvalidQuestion"))
  h_InvalidQuestion : Hears K (CiE.errC K "InvalidQuestion") ["InvalidQuestion"] []
theorem is_InvalidQuestion : CiE.InitS (Str.ofString "at") (defArgs (initOf (top 2))) (defBody (initOf (top 2))) (defScope (initOf (top 2))) := ⟨_, _, _, _, _, _, _, _, _, _, _, _, _, rfl, rfl, rfl, fun _ _ _ _ _ _ _ _ _ _ => rfl, rfl, rfl, rfl, rfl, rfl, rfl, by decide +kernel, by decide +kernel, fun _ => ⟨_, rfl⟩⟩
theorem sc0 : FnScope N0 ps0 (defScope s0) := ⟨rfl, rfl, rfl, by decide +kernel, rfl, by decide +kernel, by decide +kernel⟩
abbrev Q0 (P : Program) (w : World) (K : PySem.W.Frag) (mg : Str → Option Value) (base : Heap) (n : Nat) : Prop := DefP P w K mg base tab n 0 "step_words" ps0 (defArgs s0) (defBody s0) (defScope s0)
theorem bd0 : ∀ (kV doc pm : Value) (an : Option Addr) (cdv ct : Value) (us : List Value), us.length = ps0.length → bindArgs (PySem.W.fnOf "step_words" "step_words" (defArgs s0) (defBody s0) (defScope s0) .none kV doc pm an cdv ct) ⟨us, []⟩ = pure (ps0.zip us) := fun _ _ _ _ _ _ us hl => match us, hl with | [], _ => rfl
theorem sc1 : FnScope N1 ps1 (defScope s1) := ⟨rfl, rfl, rfl, by decide +kernel, rfl, by decide +kernel, by decide +kernel⟩
abbrev Q1 (P : Program) (w : World) (K : PySem.W.Frag) (mg : Str → Option Value) (base : Heap) (n : Nat) : Prop := DefP P w K mg base tab n 1 "is_step" ps1 (defArgs s1) (defBody s1) (defScope s1)
theorem bd1 : ∀ (kV doc pm : Value) (an : Option Addr) (cdv ct : Value) (us : List Value), us.length = ps1.length → bindArgs (PySem.W.fnOf "is_step" "is_step" (defArgs s1) (defBody s1) (defScope s1) .none kV doc pm an cdv ct) ⟨us, []⟩ = pure (ps1.zip us) := fun _ _ _ _ _ _ us hl => match us, hl with | [_], _ => rfl
theorem sc2 : FnScope N2 ps2 (defScope s2) := ⟨rfl, rfl, rfl, by decide +kernel, rfl, by decide +kernel, by decide +kernel⟩
abbrev Q2 (P : Program) (w : World) (K : PySem.W.Frag) (mg : Str → Option Value) (base : Heap) (n : Nat) : Prop := DefP P w K mg base tab n 2 "is_paper" ps2 (defArgs s2) (defBody s2) (defScope s2)
theorem bd2 : ∀ (kV doc pm : Value) (an : Option Addr) (cdv ct : Value) (us : List Value), us.length = ps2.length → bindArgs (PySem.W.fnOf "is_paper" "is_paper" (defArgs s2) (defBody s2) (defScope s2) .none kV doc pm an cdv ct) ⟨us, []⟩ = pure (ps2.zip us) := fun _ _ _ _ _ _ us hl => match us, hl with | [_], _ => rfl
theorem sc3 : FnScope N3 ps3 (defScope s3) := ⟨rfl, rfl, rfl, by decide +kernel, rfl, by decide +kernel, by decide +kernel⟩
abbrev Q3 (P : Program) (w : World) (K : PySem.W.Frag) (mg : Str → Option Value) (base : Heap) (n : Nat) : Prop := DefP P w K mg base tab n 3 "step_kind" ps3 (defArgs s3) (defBody s3) (defScope s3)
theorem bd3 : ∀ (kV doc pm : Value) (an : Option Addr) (cdv ct : Value) (us : List Value), us.length = ps3.length → bindArgs (PySem.W.fnOf "step_kind" "step_kind" (defArgs s3) (defBody s3) (defScope s3) .none kV doc pm an cdv ct) ⟨us, []⟩ = pure (ps3.zip us) := fun _ _ _ _ _ _ us hl => match us, hl with | [_], _ => rfl
theorem sc4 : FnScope N4 ps4 (defScope s4) := ⟨rfl, rfl, rfl, by decide +kernel, rfl, by decide +kernel, by decide +kernel⟩
abbrev Q4 (P : Program) (w : World) (K : PySem.W.Frag) (mg : Str → Option Value) (base : Heap) (n : Nat) : Prop := DefP P w K mg base tab n 4 "_law_draw" ps4 (defArgs s4) (defBody s4) (defScope s4)
theorem bd4 : ∀ (kV doc pm : Value) (an : Option Addr) (cdv ct : Value) (us : List Value), us.length = ps4.length → bindArgs (PySem.W.fnOf "_law_draw" "_law_draw" (defArgs s4) (defBody s4) (defScope s4) .none kV doc pm an cdv ct) ⟨us, []⟩ = pure (ps4.zip us) := fun _ _ _ _ _ _ us hl => match us, hl with | [_, _], _ => rfl
theorem sc5 : FnScope N5 ps5 (defScope s5) := ⟨rfl, rfl, rfl, by decide +kernel, rfl, by decide +kernel, by decide +kernel⟩
abbrev Q5 (P : Program) (w : World) (K : PySem.W.Frag) (mg : Str → Option Value) (base : Heap) (n : Nat) : Prop := DefP P w K mg base tab n 5 "_law_any" ps5 (defArgs s5) (defBody s5) (defScope s5)
theorem bd5 : ∀ (kV doc pm : Value) (an : Option Addr) (cdv ct : Value) (us : List Value), us.length = ps5.length → bindArgs (PySem.W.fnOf "_law_any" "_law_any" (defArgs s5) (defBody s5) (defScope s5) .none kV doc pm an cdv ct) ⟨us, []⟩ = pure (ps5.zip us) := fun _ _ _ _ _ _ us hl => match us, hl with | [_, _], _ => rfl
theorem sc6 : FnScope N6 ps6 (defScope s6) := ⟨rfl, rfl, rfl, by decide +kernel, rfl, by decide +kernel, by decide +kernel⟩
abbrev Q6 (P : Program) (w : World) (K : PySem.W.Frag) (mg : Str → Option Value) (base : Heap) (n : Nat) : Prop := DefP P w K mg base tab n 6 "_law_of" ps6 (defArgs s6) (defBody s6) (defScope s6)
theorem bd6 : ∀ (kV doc pm : Value) (an : Option Addr) (cdv ct : Value) (us : List Value), us.length = ps6.length → bindArgs (PySem.W.fnOf "_law_of" "_law_of" (defArgs s6) (defBody s6) (defScope s6) .none kV doc pm an cdv ct) ⟨us, []⟩ = pure (ps6.zip us) := fun _ _ _ _ _ _ us hl => match us, hl with | [_, _], _ => rfl
theorem sc8 : FnScope N8 ps8 (defScope s8) := ⟨rfl, rfl, rfl, by decide +kernel, rfl, by decide +kernel, by decide +kernel⟩
abbrev Q8 (P : Program) (w : World) (K : PySem.W.Frag) (mg : Str → Option Value) (base : Heap) (n : Nat) : Prop := DefP P w K mg base tab n 8 "_law_words" ps8 (defArgs s8) (defBody s8) (defScope s8)
theorem bd8 : ∀ (kV doc pm : Value) (an : Option Addr) (cdv ct : Value) (us : List Value), us.length = ps8.length → bindArgs (PySem.W.fnOf "_law_words" "_law_words" (defArgs s8) (defBody s8) (defScope s8) .none kV doc pm an cdv ct) ⟨us, []⟩ = pure (ps8.zip us) := fun _ _ _ _ _ _ us hl => match us, hl with | [], _ => rfl
theorem sc9 : FnScope N9 ps9 (defScope s9) := ⟨rfl, rfl, rfl, by decide +kernel, rfl, by decide +kernel, by decide +kernel⟩
abbrev Q9 (P : Program) (w : World) (K : PySem.W.Frag) (mg : Str → Option Value) (base : Heap) (n : Nat) : Prop := DefP P w K mg base tab n 9 "_law_kind" ps9 (defArgs s9) (defBody s9) (defScope s9)
theorem bd9 : ∀ (kV doc pm : Value) (an : Option Addr) (cdv ct : Value) (us : List Value), us.length = ps9.length → bindArgs (PySem.W.fnOf "_law_kind" "_law_kind" (defArgs s9) (defBody s9) (defScope s9) .none kV doc pm an cdv ct) ⟨us, []⟩ = pure (ps9.zip us) := fun _ _ _ _ _ _ us hl => match us, hl with | [_], _ => rfl
theorem sc10 : FnScope N10 ps10 (defScope s10) := ⟨rfl, rfl, rfl, by decide +kernel, rfl, by decide +kernel, by decide +kernel⟩
abbrev Q10 (P : Program) (w : World) (K : PySem.W.Frag) (mg : Str → Option Value) (base : Heap) (n : Nat) : Prop := DefP P w K mg base tab n 10 "law" ps10 (defArgs s10) (defBody s10) (defScope s10)
theorem bd10 : ∀ (kV doc pm : Value) (an : Option Addr) (cdv ct : Value) (us : List Value), us.length = ps10.length → bindArgs (PySem.W.fnOf "law" "law" (defArgs s10) (defBody s10) (defScope s10) .none kV doc pm an cdv ct) ⟨us, []⟩ = pure (ps10.zip us) := fun _ _ _ _ _ _ us hl => match us, hl with | [_], _ => rfl
theorem kw3_0_0 : KwOk "step_kind" ps3 ["step"] [0] 0 1 (defArgs s3) (defBody s3) (defScope s3) := fun _ _ _ _ _ _ us ws h1 h2 => match us, ws, h1, h2 with | [], [x0], _, _ => ⟨[x0], rfl, rfl, rfl⟩
theorem kw2_0_0 : KwOk "is_paper" ps2 ["value"] [0] 0 1 (defArgs s2) (defBody s2) (defScope s2) := fun _ _ _ _ _ _ us ws h1 h2 => match us, ws, h1, h2 with | [], [x0], _, _ => ⟨[x0], rfl, rfl, rfl⟩
section
variable {P : Program} {w : World} {K : PySem.W.Frag} {mg : Str → Option Value} {base : Heap} {n : Nat}
theorem b0 (fx : Fx P K mg)  : BodyP P w K mg base tab n N0 "step_words" (defBody s0) (defScope s0) c0 := by
  intro f cdv A outer s H E hr hg
  have ok := bodyZ_ok (P := P) (w := w) (K := K) (mg := mg) (base := base) (outer := outer) (H := H) (E := E) (cl := run tab n) sc0.nd hr hg
  exact (s_one (s_ret (w_bi .tuple ok rfl fx.f_tuple (by decide +kernel) (w_cons (w_bi .sorted ok rfl fx.f_sorted (by decide +kernel) (w_cons (w_bin .add (w_bin .add (w_bin .add (w_con fx.k_CALL_WORDS rfl) (w_con fx.k_FLOW_WORDS rfl)) (w_con fx.k_MEMORY_WORDS rfl)) (w_con fx.k_VALUE_WORDS rfl)) w_nil)) w_nil))))
theorem b1 (fx : Fx P K mg) (q_step_words : Q0 P w K mg base n) : BodyP P w K mg base tab n N1 "is_step" (defBody s1) (defScope s1) c1 := by
  intro f cdv A outer s H E hr hg
  have ok := bodyZ_ok (P := P) (w := w) (K := K) (mg := mg) (base := base) (outer := outer) (H := H) (E := E) (cl := run tab n) sc1.nd hr hg
  exact (s_one (s_ret (w_and (w_isi (w_var 0) rfl fx.f_isinstance rfl fx.f_tuple (by decide +kernel) kit_tuple) (w_and (w_cmp .gt ok (w_bi .len ok rfl fx.f_len (by decide +kernel) (w_cons (w_var 0) w_nil)) w_int) (w_and (w_isi (w_ix ok (w_var 0) w_int) rfl fx.f_isinstance rfl fx.f_str (by decide +kernel) kit_str) (w_one (w_cmp .isin ok (w_ix ok (w_var 0) w_int) (w_call0 0 ok (DefP.callee q_step_words hr) rfl bd0))))))))
theorem b2 (fx : Fx P K mg) (q_is_step : Q1 P w K mg base n) : BodyP P w K mg base tab n N2 "is_paper" (defBody s2) (defScope s2) c2 := by
  intro f cdv A outer s H E hr hg
  have ok := bodyZ_ok (P := P) (w := w) (K := K) (mg := mg) (base := base) (outer := outer) (H := H) (E := E) (cl := run tab n) sc2.nd hr hg
  exact (s_one (s_ret (w_and (w_isi (w_var 0) rfl fx.f_isinstance rfl fx.f_tuple (by decide +kernel) kit_tuple) (w_one (w_bi .all ok rfl fx.f_all (by decide +kernel) (w_cons (w_lc (own := [("step", 1)]) ok (i_val (w_var 0)) (blkOk_by (by kernel_rfl)) (fun _ _ _ _ _ => (g_nm 1 sc2.nd)) (fun s0 H0 C0 l0 fp0 => c_nil) (fun s0 H0 C0 l0 fp0 => (w_call 1 (Cz.Ok.blk ok s0 H0 _ C0 l0 fp0) (Callee.blk (DefP.callee q_is_step hr) s0 H0 _ C0 l0 fp0) rfl (w_cons (w_var 1) w_nil) bd1)) (hsl_by (by decide))) w_nil))))))
theorem b3 (fx : Fx P K mg) (q_is_step : Q1 P w K mg base n) : BodyP P w K mg base tab n N3 "step_kind" (defBody s3) (defScope s3) c3 := by
  intro f cdv A outer s H E hr hg
  have ok := bodyZ_ok (P := P) (w := w) (K := K) (mg := mg) (base := base) (outer := outer) (H := H) (E := E) (cl := run tab n) sc3.nd hr hg
  exact (s_cons (s_ite (t_not (t_tru (w_call 1 ok (DefP.callee q_is_step hr) rfl (w_cons (w_var 0) w_nil) bd1))) (s_one (s_raise ok fx.x_InvalidQuestion hr w_int rfl)) s_nil)
  (s_cons (s_ite (t_cmp .isin ok (w_ix ok (w_var 0) w_int) (w_con fx.k_VALUE_WORDS rfl)) (s_one (s_ret w_str)) s_nil)
  (s_cons (s_ite (t_cmp .isin ok (w_ix ok (w_var 0) w_int) (w_con fx.k_FLOW_WORDS rfl)) (s_one (s_ret w_str)) s_nil)
  (s_one (s_ret (w_ite (t_cmp .isin ok (w_ix ok (w_var 0) w_int) (w_con fx.k_MEMORY_WORDS rfl)) w_str w_str))))))
theorem b4 (fx : Fx P K mg)  : BodyP P w K mg base tab n N4 "_law_draw" (defBody s4) (defScope s4) c4 := by
  intro f cdv A outer s H E hr hg
  have ok := bodyZ_ok (P := P) (w := w) (K := K) (mg := mg) (base := base) (outer := outer) (H := H) (E := E) (cl := run tab n) sc4.nd hr hg
  exact (s_cons (s_setLc 2 (own := [("_law_cell", 4)]) ok (i_val (w_sl (w_var 0) w_o0 (w_o1 w_int))) (blkOk_by (by kernel_rfl)) (fun _ _ _ _ _ => (g_nm 4 sc4.nd)) (fun s0 H0 C0 l0 fp0 => c_nil) (fun s0 H0 C0 l0 fp0 => (w_bi .abs (Cz.Ok.blk ok s0 H0 _ C0 l0 fp0) rfl fx.f_abs (by decide +kernel) (w_cons (w_bi .int (Cz.Ok.blk ok s0 H0 _ C0 l0 fp0) rfl fx.f_int (by decide +kernel) (w_cons (w_var 4) w_nil)) w_nil))) (hsl_by (by decide)) (sw_true rfl rfl rfl (by decide +kernel)))
  (s_cons (s_set 3 sc4.nd (w_bin .add w_int (w_bin .mul w_int (w_var 1))))
  (s_cons (s_for ok bodyZ_pass (i_val (w_var 2)) (g_nm 4 sc4.nd) (fun _ _ => rfl) (s_one (s_set 3 sc4.nd (w_bin .mod (w_bi .int ok rfl fx.f_int (by decide +kernel) (w_cons (w_bin .add (w_bin .add (w_bin .mul (w_var 3) w_int) (w_bin .mod (w_var 4) w_int)) w_int) w_nil)) w_int))))
  (s_one (s_ret (w_lst (w_cons (w_rev (w_lc (own := [("_law_cell", 4)]) ok (i_val (w_var 2)) (blkOk_by (by kernel_rfl)) (fun _ _ _ _ _ => (g_nm 4 sc4.nd)) (fun s0 H0 C0 l0 fp0 => (c_one (t_cmp .ge (Cz.Ok.blk ok s0 H0 _ C0 l0 fp0) (w_var 4) (w_bin .pow w_int w_int)))) (fun s0 H0 C0 l0 fp0 => (w_var 4)) (hsl_by (by decide)))) (w_cons (w_var 3) w_nil))))))))
theorem b5 (fx : Fx P K mg)  : BodyP P w K mg base tab n N5 "_law_any" (defBody s5) (defScope s5) c5 := by
  intro f cdv A outer s H E hr hg
  have ok := bodyZ_ok (P := P) (w := w) (K := K) (mg := mg) (base := base) (outer := outer) (H := H) (E := E) (cl := run tab n) sc5.nd hr hg
  exact (s_cons (s_whl bodyZ_pass (SW.t (t_and (t_cmp .ne ok (w_ix ok (w_var 0) w_int) (w_lst w_nil)) (t_and1 (t_cmp .eq ok (w_ix ok (w_ix ok (w_var 0) w_int) (w_neg w_int)) w_int)))) (s_one (s_expr (w_mt0 .pop PySem.F.slot_list_pop rfl (w_ix ok (w_var 0) w_int)))))
  (s_cons (s_ite (t_cmp .ne ok (w_ix ok (w_var 0) w_int) (w_lst w_nil)) (s_cons (s_set 2 sc5.nd (w_bi .int ok rfl fx.f_int (by decide +kernel) (w_cons (w_mt0 .pop PySem.F.slot_list_pop rfl (w_ix ok (w_var 0) w_int)) w_nil)))
  (s_cons (s_expr (w_mt .append PySem.F.slot_list_append rfl (w_ix ok (w_var 0) w_int) (w_cons (w_bin .fdiv (w_var 2) (w_var 1)) w_nil)))
  (s_one (s_ret (w_bin .mod (w_var 2) (w_var 1)))))) s_nil)
  (s_cons (s_sto ok (w_var 0) w_int (w_bin .mod (w_bi .int ok rfl fx.f_int (by decide +kernel) (w_cons (w_bin .add (w_bin .mul (w_ix ok (w_var 0) w_int) w_int) w_int) w_nil)) w_int))
  (s_one (s_ret (w_bin .mod (w_bi .int ok rfl fx.f_int (by decide +kernel) (w_cons (w_bin .fdiv (w_ix ok (w_var 0) w_int) w_int) w_nil)) (w_var 1)))))))
theorem b6 (fx : Fx P K mg) (q__law_any : Q5 P w K mg base n) : BodyP P w K mg base tab n N6 "_law_of" (defBody s6) (defScope s6) c6 := by
  intro f cdv A outer s H E hr hg
  have ok := bodyZ_ok (P := P) (w := w) (K := K) (mg := mg) (base := base) (outer := outer) (H := H) (E := E) (cl := run tab n) sc6.nd hr hg
  exact (s_one (s_ret (w_ix ok (w_var 1) (w_call 5 ok (DefP.callee q__law_any hr) rfl (w_cons (w_var 0) (w_cons (w_bi .len ok rfl fx.f_len (by decide +kernel) (w_cons (w_var 1) w_nil)) w_nil)) bd5))))
theorem b8 (fx : Fx P K mg)  : BodyP P w K mg base tab n N8 "_law_words" (defBody s8) (defScope s8) c8 := by
  intro f cdv A outer s H E hr hg
  have ok := bodyZ_ok (P := P) (w := w) (K := K) (mg := mg) (base := base) (outer := outer) (H := H) (E := E) (cl := run tab n) sc8.nd hr hg
  exact (s_cons (s_par2 0 1 ok (w_cons (w_lst (w_cons w_str (w_cons w_str (w_cons w_str (w_cons w_str (w_cons w_str w_nil)))))) (w_cons (w_lst (w_cons w_str (w_cons w_str (w_cons w_str (w_cons w_str (w_cons w_str (w_cons w_str (w_cons w_str (w_cons w_str w_nil))))))))) w_nil)) rfl)
  (s_cons (s_set 2 sc8.nd (w_lst (w_cons w_str (w_cons w_str (w_cons w_str (w_cons w_str w_nil))))))
  (s_cons (s_set 3 sc8.nd (w_lst (w_cons w_str (w_cons w_str (w_cons w_str (w_cons w_str (w_cons w_str (w_cons w_str (w_cons w_str (w_cons w_str w_nil))))))))))
  (s_one (s_ret (w_dsp (d_cons w_str (w_var 0) (d_cons w_str (w_var 1) (d_cons w_str (w_var 2) (d_cons w_str (w_bin .add (w_var 3) (w_lst (w_cons w_str (w_cons w_str w_nil)))) d_nil))))))))))
theorem b9 (fx : Fx P K mg) (q_step_kind : Q3 P w K mg base n) : BodyP P w K mg base tab n N9 "_law_kind" (defBody s9) (defScope s9) c9 := by
  intro f cdv A outer s H E hr hg
  have ok := bodyZ_ok (P := P) (w := w) (K := K) (mg := mg) (base := base) (outer := outer) (H := H) (E := E) (cl := run tab n) sc9.nd hr hg
  exact (s_one (s_try (B := fun j => ([] : List Nat).contains j) (own := []) 1 ok rfl rfl ⟨rfl, by decide, .inl fx.g_InvalidQuestion⟩ fx.h_InvalidQuestion (fun _ _ => rfl) (fun j h => List.contains_iff_mem.mp h) (fun W0 pn0 xe0 tk0 hp0 => (s_one (s_ret (w_callK0 3 (Cz.Ok.tr ok tk0) (Callee.tr (DefP.callee q_step_kind hr) pn0 xe0 W0) rfl (k_cons (w_var 0) k_nil) kw3_0_0)))) (fun a0 oe0 cls0 d0 pns0 hz0 hf0 => (x_lst (x_cons (x_at 1 hz0 hf0) x_nil)))))
theorem b10 (fx : Fx P K mg) (q_step_words : Q0 P w K mg base n) (q_is_paper : Q2 P w K mg base n) (q__law_draw : Q4 P w K mg base n) (q__law_any : Q5 P w K mg base n) (q__law_of : Q6 P w K mg base n) (q__law_words : Q8 P w K mg base n) (q__law_kind : Q9 P w K mg base n) : BodyP P w K mg base tab n N10 "law" (defBody s10) (defScope s10) c10 := by
  intro f cdv A outer s H E hr hg
  have ok := bodyZ_ok (P := P) (w := w) (K := K) (mg := mg) (base := base) (outer := outer) (H := H) (E := E) (cl := run tab n) sc10.nd hr hg
  exact (s_cons (s_set 1 sc10.nd (w_call 4 ok (DefP.callee q__law_draw hr) rfl (w_cons (w_var 0) (w_cons w_int w_nil)) bd4))
  (s_cons (s_unp (w_tup (w_cons (w_call0 8 ok (DefP.callee q__law_words hr) rfl bd8) (w_cons (w_lst w_nil) w_nil))) (g_tp rfl (gs_cons (g_nm 2 sc10.nd) (gs_cons (g_nm 3 sc10.nd) gs_nil)) (fun _ _ _ h => asgs_len h)) (fun _ _ => rfl))
  (s_cons (s_for ok bodyZ_pass (i_val (w_var 2)) (g_nm 4 sc10.nd) (fun _ _ => rfl) (s_one (s_set 3 sc10.nd (w_bin .add (w_var 3) (w_ix ok (w_var 2) (w_var 4))))))
  (s_cons (s_ite (t_cmp .ne ok (w_bi .repr ok rfl fx.f_repr (by decide +kernel) (w_cons (w_call0 0 ok (DefP.callee q_step_words hr) rfl bd0) w_nil)) (w_bi .repr ok rfl fx.f_repr (by decide +kernel) (w_cons (w_bi .tuple ok rfl fx.f_tuple (by decide +kernel) (w_cons (w_bi .sorted ok rfl fx.f_sorted (by decide +kernel) (w_cons (w_var 3) w_nil)) w_nil)) w_nil))) (s_one (s_ret w_bl)) s_nil)
  (s_cons (s_for ok bodyZ_pass (i_rng1 rfl fx.f_range w_int) (g_nm 5 sc10.nd) (fun _ _ => rfl) (s_cons (s_set 4 sc10.nd (w_call 6 ok (DefP.callee q__law_of hr) rfl (w_cons (w_var 1) (w_cons (w_lst (w_cons w_str (w_cons w_str (w_cons w_str (w_cons w_str w_nil))))) w_nil)) bd6))
  (s_cons (s_set 6 sc10.nd (w_bin .add (w_tup (w_cons (w_call 6 ok (DefP.callee q__law_of hr) rfl (w_cons (w_var 1) (w_cons (w_ix ok (w_var 2) (w_var 4)) w_nil)) bd6) w_nil)) (w_bi .tuple ok rfl fx.f_tuple (by decide +kernel) (w_cons (w_lc (own := [("_law_more", 10)]) ok (i_rng1 rfl fx.f_range (w_call 5 ok (DefP.callee q__law_any hr) rfl (w_cons (w_var 1) (w_cons w_int w_nil)) bd5)) (blkOk_by (by kernel_rfl)) (fun _ _ _ _ _ => (g_nm 10 sc10.nd)) (fun s0 H0 C0 l0 fp0 => c_nil) (fun s0 H0 C0 l0 fp0 => (w_call 5 (Cz.Ok.blk ok s0 H0 _ C0 l0 fp0) (Callee.blk (DefP.callee q__law_any hr) s0 H0 _ C0 l0 fp0) rfl (w_cons (w_var 1) (w_cons w_int w_nil)) bd5)) (hsl_by (by decide))) w_nil))))
  (s_cons (s_ite (t_cmp .ne ok (w_bi .repr ok rfl fx.f_repr (by decide +kernel) (w_cons (w_call 9 ok (DefP.callee q__law_kind hr) rfl (w_cons (w_var 6) w_nil) bd9) w_nil)) (w_bi .repr ok rfl fx.f_repr (by decide +kernel) (w_cons (w_var 4) w_nil))) (s_one (s_ret w_bl)) s_nil)
  (s_cons (s_set 7 sc10.nd (w_call 6 ok (DefP.callee q__law_of hr) rfl (w_cons (w_var 1) (w_cons (w_lst (w_cons (w_bi .list ok rfl fx.f_list (by decide +kernel) (w_cons (w_var 6) w_nil)) (w_cons (w_tup w_nil) (w_cons w_non (w_cons (w_ix ok (w_var 6) w_int) (w_cons (w_bin .add (w_tup (w_cons w_str w_nil)) (w_sl (w_var 6) (w_o1 w_int) w_o0)) (w_cons (w_tup (w_cons w_int w_nil)) (w_cons (w_tup (w_cons (w_tup (w_cons (w_ix ok (w_var 6) w_int) w_nil)) w_nil)) (w_cons (w_tup (w_cons w_str w_nil)) (w_cons (w_tup (w_cons w_non w_nil)) (w_cons w_dsp0 w_nil))))))))))) w_nil)) bd6))
  (s_cons (s_set 8 sc10.nd (w_bi .tuple ok rfl fx.f_tuple (by decide +kernel) (w_cons (w_lc (own := [("_law_more", 10)]) ok (i_rng1 rfl fx.f_range (w_call 5 ok (DefP.callee q__law_any hr) rfl (w_cons (w_var 1) (w_cons w_int w_nil)) bd5)) (blkOk_by (by kernel_rfl)) (fun _ _ _ _ _ => (g_nm 10 sc10.nd)) (fun s0 H0 C0 l0 fp0 => c_nil) (fun s0 H0 C0 l0 fp0 => (w_tup (w_cons (w_call 6 (Cz.Ok.blk ok s0 H0 _ C0 l0 fp0) (Callee.blk (DefP.callee q__law_of hr) s0 H0 _ C0 l0 fp0) rfl (w_cons (w_var 1) (w_cons (w_var 3) w_nil)) bd6) (w_cons w_str w_nil)))) (hsl_by (by decide))) w_nil)))
  (s_cons (s_set 9 sc10.nd (w_call 5 ok (DefP.callee q__law_any hr) rfl (w_cons (w_var 1) (w_cons (w_bin .add (w_bi .len ok rfl fx.f_len (by decide +kernel) (w_cons (w_var 8) w_nil)) w_int) w_nil)) bd5))
  (s_cons (s_ite (SW.t (t_or (t_cmp .notN ok (w_callK0 2 ok (DefP.callee q_is_paper hr) rfl (k_cons (w_var 8) k_nil) kw2_0_0) w_bl) (t_or (t_cmp .notN ok (w_call 2 ok (DefP.callee q_is_paper hr) rfl (w_cons (w_bi .list ok rfl fx.f_list (by decide +kernel) (w_cons (w_var 8) w_nil)) w_nil) bd2) w_bl) (t_or1 (t_cmp .ne ok (w_call 9 ok (DefP.callee q__law_kind hr) rfl (w_cons (w_var 7) w_nil) bd9) (w_lst (w_cons w_int w_nil))))))) (s_one (s_ret w_bl)) s_nil)
  (s_one (s_ite (SW.t (t_or (t_cmp .notN ok (w_call 2 ok (DefP.callee q_is_paper hr) rfl (w_cons (w_bin .add (w_bin .add (w_sl (w_var 8) w_o0 (w_o1 (w_var 9))) (w_tup (w_cons (w_var 7) w_nil))) (w_sl (w_var 8) (w_o1 (w_var 9)) w_o0)) w_nil) bd2) w_bl) (t_or1 (t_cmp .notN ok (w_call 2 ok (DefP.callee q_is_paper hr) rfl (w_cons (w_call 6 ok (DefP.callee q__law_of hr) rfl (w_cons (w_var 1) (w_cons (w_lst (w_cons w_non (w_cons w_int (w_cons w_str (w_cons w_dsp0 w_nil))))) w_nil)) bd6) w_nil) bd2) w_bl)))) (s_one (s_ret w_bl)) s_nil))))))))))
  (s_one (s_ret w_bl)))))))
theorem all (fx : Fx P K mg) (z0 : Q0 P w K mg base 0) (z1 : Q1 P w K mg base 0) (z2 : Q2 P w K mg base 0) (z3 : Q3 P w K mg base 0) (z4 : Q4 P w K mg base 0) (z5 : Q5 P w K mg base 0) (z6 : Q6 P w K mg base 0) (z8 : Q8 P w K mg base 0) (z9 : Q9 P w K mg base 0) (z10 : Q10 P w K mg base 0) : ∀ n, Q0 P w K mg base n ∧ Q1 P w K mg base n ∧ Q2 P w K mg base n ∧ Q3 P w K mg base n ∧ Q4 P w K mg base n ∧ Q5 P w K mg base n ∧ Q6 P w K mg base n ∧ Q8 P w K mg base n ∧ Q9 P w K mg base n ∧ Q10 P w K mg base n
  | 0 => ⟨z0, z1, z2, z3, z4, z5, z6, z8, z9, z10⟩
  | n + 1 => by
    obtain ⟨q0, q1, q2, q3, q4, q5, q6, q8, q9, q10⟩ := all fx z0 z1 z2 z3 z4 z5 z6 z8 z9 z10 n
    exact ⟨q0.succ (d := d0) rfl sc0 rfl rfl (b0 fx ), q1.succ (d := d1) rfl sc1 rfl rfl (b1 fx q0), q2.succ (d := d2) rfl sc2 rfl rfl (b2 fx q1), q3.succ (d := d3) rfl sc3 rfl rfl (b3 fx q1), q4.succ (d := d4) rfl sc4 rfl rfl (b4 fx ), q5.succ (d := d5) rfl sc5 rfl rfl (b5 fx ), q6.succ (d := d6) rfl sc6 rfl rfl (b6 fx q5), q8.succ (d := d8) rfl sc8 rfl rfl (b8 fx ), q9.succ (d := d9) rfl sc9 rfl rfl (b9 fx q3), q10.succ (d := d10) rfl sc10 rfl rfl (b10 fx q0 q2 q4 q5 q6 q8 q9)⟩
end
/-! ### the head -/
def fn : List He.DefD := [⟨("step_words", none), "step_words", "step_words", defArgs s0, defBody s0, defScope s0, [], []⟩, ⟨("is_step", none), "is_step", "is_step", defArgs s1, defBody s1, defScope s1, [], []⟩, ⟨("is_paper", none), "is_paper", "is_paper", defArgs s2, defBody s2, defScope s2, [], []⟩, ⟨("step_kind", none), "step_kind", "step_kind", defArgs s3, defBody s3, defScope s3, [], []⟩, ⟨("_law_draw", none), "_law_draw", "_law_draw", defArgs s4, defBody s4, defScope s4, [], []⟩, ⟨("_law_any", none), "_law_any", "_law_any", defArgs s5, defBody s5, defScope s5, [], []⟩, ⟨("_law_of", none), "_law_of", "_law_of", defArgs s6, defBody s6, defScope s6, [], []⟩, ⟨("_law_words", none), "_law_words", "_law_words", defArgs s8, defBody s8, defScope s8, [], []⟩, ⟨("_law_kind", none), "_law_kind", "_law_kind", defArgs s9, defBody s9, defScope s9, [], []⟩, ⟨("law", none), "law", "law", defArgs s10, defBody s10, defScope s10, [], []⟩]
def fa : List He.Fa := [.glo "step_words", .glo "is_step", .glo "is_paper", .glo "step_kind", .glo "_law_draw", .glo "_law_any", .glo "_law_of", .glo "_law_words", .glo "_law_kind", .glo "law", .free "abs", .free "all", .free "int", .free "isinstance", .free "len", .free "list", .free "range", .free "repr", .free "sorted", .free "str", .free "tuple"]
def cons : List (Str × W) := [("CALL_WORDS", k_CALL_WORDS), ("FLOW_WORDS", k_FLOW_WORDS), ("MEMORY_WORDS", k_MEMORY_WORDS), ("VALUE_WORDS", k_VALUE_WORDS)]
abbrev R : PySem.W.OpenRow := PySem.W.OpenLaw.row PySem.Challenge.rw_anypasses_k42_papers_and_their_words
abbrev file : Str := (PySem.Challenge.rw_anypasses_k42_papers_and_their_words).prog.main.file
abbrev hk : PySem.W.Hook := hookE 4 file fa fn cons es ms
def ob (s : PySem.W.SharedT) : AlE := obsE 4 file fa fn cons es ms (HandSHeadRun.getT s)
theorem ob_eq (s : PySem.W.SharedT) : ob s = hk.obs s.abs := obsE_eq (HandSHeadRun.getT_eq s)
abbrev loose : List Str := ["PassError", "InvalidQuestion", "CALL_WORDS", "FLOW_WORDS", "MEMORY_WORDS", "VALUE_WORDS", "step_words", "is_step", "is_paper", "step_kind", "_law_draw", "_law_any", "_law_of", "_law_mixed", "_law_words", "_law_kind"]
theorem runs (w : World) : HandSHeadRun.RunEq R (PySem.W.view R.prog [19]) hk ob 4000 loose w := by
  intro os
  kernel_rfl
theorem facts {P : Program} {w : World} {K : PySem.W.Frag} {h : Heap} {mg : Str → Option Value} {f : Addr} (X : K.In h) (G : h.Ns mainGlobals mg) (hfa : mg ("law" : Str) = some (.ref f)) (c0 : SaysE P.main.file fa fn cons es ms K) (ht : (P.main.scope.names.lookup (Str.ofString "super")).isSome = false) :
    ∃ fd : FuncData, (∀ (s : Shared) (v : Value), BindsTo s fd ⟨[v], []⟩ [("_law_script", v)]) ∧ ∀ base : Heap, K.In base → base.Ns mainGlobals mg → FnG P w K mg base 20 f fd ps10 (spR K (run tab 20 10) 1) := by
  have c := c0.c
  obtain ⟨fd0, F0⟩ := c.1.def_ 0 rfl
  have m0 := He.glo_ok X G (c.1.fact 0 (f := .glo "step_words") rfl)
  obtain ⟨fd1, F1⟩ := c.1.def_ 1 rfl
  have m1 := He.glo_ok X G (c.1.fact 1 (f := .glo "is_step") rfl)
  obtain ⟨fd2, F2⟩ := c.1.def_ 2 rfl
  have m2 := He.glo_ok X G (c.1.fact 2 (f := .glo "is_paper") rfl)
  obtain ⟨fd3, F3⟩ := c.1.def_ 3 rfl
  have m3 := He.glo_ok X G (c.1.fact 3 (f := .glo "step_kind") rfl)
  obtain ⟨fd4, F4⟩ := c.1.def_ 4 rfl
  have m4 := He.glo_ok X G (c.1.fact 4 (f := .glo "_law_draw") rfl)
  obtain ⟨fd5, F5⟩ := c.1.def_ 5 rfl
  have m5 := He.glo_ok X G (c.1.fact 5 (f := .glo "_law_any") rfl)
  obtain ⟨fd6, F6⟩ := c.1.def_ 6 rfl
  have m6 := He.glo_ok X G (c.1.fact 6 (f := .glo "_law_of") rfl)
  obtain ⟨fd8, F8⟩ := c.1.def_ 7 rfl
  have m8 := He.glo_ok X G (c.1.fact 7 (f := .glo "_law_words") rfl)
  obtain ⟨fd9, F9⟩ := c.1.def_ 8 rfl
  have m9 := He.glo_ok X G (c.1.fact 8 (f := .glo "_law_kind") rfl)
  obtain ⟨fd10, F10⟩ := c.1.def_ 9 rfl
  have m10 := He.glo_ok X G (c.1.fact 9 (f := .glo "law") rfl)
  have e := hfa.symm.trans m10
  cases e
  have fx : Fx P K mg := ⟨He.free_ok X G (c.1.fact 10 (f := .free "abs") rfl), He.free_ok X G (c.1.fact 11 (f := .free "all") rfl), He.free_ok X G (c.1.fact 12 (f := .free "int") rfl), He.free_ok X G (c.1.fact 13 (f := .free "isinstance") rfl), He.free_ok X G (c.1.fact 14 (f := .free "len") rfl), He.free_ok X G (c.1.fact 15 (f := .free "list") rfl), He.free_ok X G (c.1.fact 16 (f := .free "range") rfl), He.free_ok X G (c.1.fact 17 (f := .free "repr") rfl), He.free_ok X G (c.1.fact 18 (f := .free "sorted") rfl), He.free_ok X G (c.1.fact 19 (f := .free "str") rfl), He.free_ok X G (c.1.fact 20 (f := .free "tuple") rfl), con_ok c X G 0 (p := ("CALL_WORDS", k_CALL_WORDS)) rfl, con_ok c X G 1 (p := ("FLOW_WORDS", k_FLOW_WORDS)) rfl, con_ok c X G 2 (p := ("MEMORY_WORDS", k_MEMORY_WORDS)) rfl, con_ok c X G 3 (p := ("VALUE_WORDS", k_VALUE_WORDS)) rfl, c0.err 0 rfl is_InvalidQuestion ht rfl, c0.clause X G (y := "InvalidQuestion") (b := true) (by decide +kernel), c0.hear (by decide +kernel) (by decide +kernel)⟩
  have b := FunD.bindsA (ps := ps10) F10 bd10
  refine ⟨fd10, fun s v => b s [v] rfl, fun base _ _ => ?_⟩
  obtain ⟨q0, q1, q2, q3, q4, q5, q6, q8, q9, q10⟩ := all (P := P) (w := w) (base := base) fx (DefP.zero m0 F0) (DefP.zero m1 F1) (DefP.zero m2 F2) (DefP.zero m3 F3) (DefP.zero m4 F4) (DefP.zero m5 F5) (DefP.zero m6 F6) (DefP.zero m8 F8) (DefP.zero m9 F9) (DefP.zero m10 F10) 20
  obtain ⟨f1, fd1, h1, FF, GG⟩ := q10
  have e1 := h1.symm.trans m10
  cases e1
  have e2 : fd1 = fd10 := funD_same FF F10
  rw [← e2]
  exact GG
theorem walked (hlaw : ∀ ns : List Int, ns.length ≤ 63 → ∃ st, run tab 20 10 [.frl (ns.map .int)] [] = .ok (.bl true) st) : (PySem.Challenge.rw_anypasses_k42_papers_and_their_words).Holds := by
  w_on; o_law
  refine HandSHeadRun.head_any (r := R) (q := PySem.W.view R.prog [19]) (H := hk) (ob := ob) (M := 4000) (loose := loose) (d := HandSHeadRun.topDef R.prog 19) (kwd := []) ob_eq
    (by kernel_rfl) (fun s => by kernel_rfl) runs (by kernel_rfl) (by kernel_rfl) (by kernel_rfl) (by rfl) (by first | assumption | decide +kernel) (by decide +kernel) ⟨rfl, rfl, rfl, rfl, rfl, by decide +kernel⟩ ?hw ?hc
  case hw => w_witness2
  case hc =>
    refine walkG (l := PySem.Challenge.rw_anypasses_k42_papers_and_their_words) (n := 63) (k := 20) (x := "_law_script") (r := run tab 20 10) rfl (by decide) (by kernel_rfl) ⟨rfl, by decide, by decide⟩ ?F hlaw
    intro w mg fa h Y G hmg0
    obtain ⟨K, KX, c⟩ := Y
    have hmg : mg ("law" : PySem.Str) = some (.ref fa) := by
      have e : (HandSHeadRun.topDef R.prog 19).name = ("law" : PySem.Str) := by kernel_rfl
      rw [← e]
      exact hmg0
    obtain ⟨fd, hb, hF⟩ := facts (P := (PySem.Challenge.rw_anypasses_k42_papers_and_their_words).prog) (w := w) KX G hmg c (by decide +kernel)
    exact ⟨K, fd, KX, hb, hF⟩
end Law
/-! K42: words, steps, papers. -/
namespace K42
open PySem Ci Law

def cW : List Str := ["call_out", "constant_arg", "functions_out", "globals_out", "inline", "merge", "param_drop", "result_drop", "result_known", "tail_loop"]
def fW : List Str := ["bend", "carry", "drop", "join", "land", "param_out", "pick", "twin"]
def mW : List Str := ["forward", "load_out", "promote", "store_out"]
def vW : List Str := ["put_in", "take_lot", "take_out", "use", "use_in"]
def aW : List Str := cW ++ fW ++ mW ++ vW
/-- all of them, ascending -/
def sW : List Str := ["bend", "call_out", "carry", "constant_arg", "drop", "forward", "functions_out", "globals_out", "inline", "join", "land", "load_out", "merge", "param_drop", "param_out", "pick", "promote", "put_in", "result_drop", "result_known", "store_out", "tail_loop", "take_lot", "take_out", "twin", "use", "use_in"]
theorem sorted_aW : sortS aW = sW := by decide +kernel
theorem kc : k_CALL_WORDS = .tup (cW.map .str) := rfl
theorem kf : k_FLOW_WORDS = .tup (fW.map .str) := rfl
theorem km : k_MEMORY_WORDS = .tup (mW.map .str) := rfl
theorem kv : k_VALUE_WORDS = .tup (vW.map .str) := rfl
section
variable {n : Nat} {st : Sto}
theorem words_ok : Wx noX (Ci.run tab (n + 1) 0 [] st) fun w st' => w = .tup (sW.map .str) ∧ Ext st st' := by
  refine wp_run (d := d0) rfl rfl ?_
  show Wx noX (ex _ c0 _ _) _
  unfold c0
  have e1 : bin .add k_CALL_WORDS k_FLOW_WORDS st = some (.tup ((cW ++ fW).map .str), st) := rfl
  have e2 : bin .add (.tup ((cW ++ fW).map .str)) k_MEMORY_WORDS st = some (.tup ((cW ++ fW ++ mW).map .str), st) := rfl
  have e3 : bin .add (.tup ((cW ++ fW ++ mW).map .str)) k_VALUE_WORDS st = some (.tup (aW.map .str), st) := rfl
  have e4 := sorted_tupS (st := st) (ss := aW) (by decide)
  rw [sorted_aW] at e4
  have e5 : bi .tuple [.ref st.length] (st ++ [.lst (sW.map .str)]) = some (.tup (sW.map .str), st ++ [.lst (sW.map .str)]) := bi_tuple_lst getLast
  try simp -implicitDefEqProofs only [wp_ok, wp_exc, wp_bind, wp_raise, wp_try, wp_noexc, wp_seq, wp_skip, wp_brk, wp_cnt, wp_retN, wp_ret, wp_set, wp_par, wp_unp, wp_sto, wp_xpr, wp_ite, wp_for, wp_whl, wp_tru, sk_nx, sk_rt, sk_bk, sk_ct, lk_nx, lk_ct, lk_bk, lk_rt, ik_true, ik_false, ev, evs, evo, evi, evc, evd, keyK_str, keyK_int, retK_rt, retK_nx, iteK_true, iteK_false, truK0_bl, truK0_int, truK0_tup, truK0_frl, truK0_non, scK_bl, wp_callK, cmpO, cmp_eq, cmp_ne, cmp_lt, cmp_le, cmp_gt, cmp_ge, cmp_isN, cmp_notN, eqD_int, eqD_str, bin_int, binI_add, binI_sub, of_some, negK_int, setK_nm, setK_tp, setsK, asg, asgs, tgsOf, intK, rngK, srcV_tup, srcV_frl, subO, startE, newR, new, bi_int, bi_abs, bi_len_tup, bi_len_frl,  Option.map_some, Option.map_none, Option.bind_some, List.map_cons, List.map_nil, List.length_cons, List.length_nil, List.length_append, List.length_map, List.length_set, List.cons_append, List.nil_append, List.getElem?_cons_zero, List.getElem?_cons_succ, List.set_cons_zero, List.set_cons_succ, if_true, if_false, Bool.false_eq_true, Bool.true_eq_false, Bool.not_true, Bool.not_false, decide_true, decide_false, Nat.reduceEqDiff, Nat.zero_lt_succ, List.replicate_succ, List.replicate_zero, Nat.reduceSub, Nat.reduceAdd, Nat.reduceLT, Nat.reduceLeDiff, Nat.zero_le, id, lstK_ok, tupK_ok, d0, e1, e2, e3, e4, e5]
  exact ⟨by first | rfl | trivial, Ext.new⟩
def stepB : W → Bool
  | .tup (.str s :: _) => sW.any fun y => y == s
  | _ => false
/-- things that are looked at -/
def Gd (st : Sto) : W → Prop
  | .tup (x :: _) => flatW x = true ∨ ∃ ws, x = .tup ws
  | .ref n => (∃ ws, st[n]? = some (.lst ws)) ∨ ∃ kvs, st[n]? = some (.dct kvs)
  | .frl _ => False
  | _ => True
theorem Gd.ext {st st' : Sto} (x : Ext st st') {w : W} (h : Gd st w) : Gd st' w := by
  cases w with
  | ref n => exact h.imp (fun ⟨ws, e⟩ => ⟨ws, x.2 _ _ e⟩) fun ⟨ws, e⟩ => ⟨ws, x.2 _ _ e⟩
  | tup ws => cases ws <;> exact h
  | _ => exact h
theorem isi_tuple_ref {m : Nat} (h : (∃ ws, st[m]? = some (.lst ws)) ∨ ∃ kvs, st[m]? = some (.dct kvs)) : isiK ["tuple"] (.ref m) st = .ok (.bl false) st := by
  rcases h with ⟨ws, e⟩ | ⟨ws, e⟩ <;> simp only [isiK, tyOf, e] <;> rfl
theorem step_ok {w : W} (g : Gd st w) : Wx noX (Ci.run tab (n + 2) 1 [w] st) fun r st' => r = .bl (stepB w) ∧ Ext st st' := by
  refine wp_run (d := d1) rfl rfl ?_
  show Wx noX (ex _ c1 _ _) _
  unfold c1
  cases w with
  | non => try simp -implicitDefEqProofs only [wp_ok, wp_exc, wp_bind, wp_raise, wp_try, wp_noexc, wp_seq, wp_skip, wp_brk, wp_cnt, wp_retN, wp_ret, wp_set, wp_par, wp_unp, wp_sto, wp_xpr, wp_ite, wp_for, wp_whl, wp_tru, sk_nx, sk_rt, sk_bk, sk_ct, lk_nx, lk_ct, lk_bk, lk_rt, ik_true, ik_false, ev, evs, evo, evi, evc, evd, keyK_str, keyK_int, retK_rt, retK_nx, iteK_true, iteK_false, truK0_bl, truK0_int, truK0_tup, truK0_frl, truK0_non, scK_bl, wp_callK, cmpO, cmp_eq, cmp_ne, cmp_lt, cmp_le, cmp_gt, cmp_ge, cmp_isN, cmp_notN, eqD_int, eqD_str, bin_int, binI_add, binI_sub, of_some, negK_int, setK_nm, setK_tp, setsK, asg, asgs, tgsOf, intK, rngK, srcV_tup, srcV_frl, subO, startE, newR, new, bi_int, bi_abs, bi_len_tup, bi_len_frl,  Option.map_some, Option.map_none, Option.bind_some, List.map_cons, List.map_nil, List.length_cons, List.length_nil, List.length_append, List.length_map, List.length_set, List.cons_append, List.nil_append, List.getElem?_cons_zero, List.getElem?_cons_succ, List.set_cons_zero, List.set_cons_succ, if_true, if_false, Bool.false_eq_true, Bool.true_eq_false, Bool.not_true, Bool.not_false, decide_true, decide_false, Nat.reduceEqDiff, Nat.zero_lt_succ, List.replicate_succ, List.replicate_zero, Nat.reduceSub, Nat.reduceAdd, Nat.reduceLT, Nat.reduceLeDiff, Nat.zero_le, id, lstK_ok, tupK_ok, d1, isi_int_int, isi_int_bl, isi_int_non, isi_int_str, isi_int_tup, isi_bool_int, isi_bool_bl, isi_tuple_tup, isi_tuple_non, isi_tuple_int, isi_tuple_bl, isi_tuple_str, isi_str_str, isi_str_non, isi_str_int, isi_str_tup]; exact ⟨rfl, Ext.refl⟩
  | bl _ => try simp -implicitDefEqProofs only [wp_ok, wp_exc, wp_bind, wp_raise, wp_try, wp_noexc, wp_seq, wp_skip, wp_brk, wp_cnt, wp_retN, wp_ret, wp_set, wp_par, wp_unp, wp_sto, wp_xpr, wp_ite, wp_for, wp_whl, wp_tru, sk_nx, sk_rt, sk_bk, sk_ct, lk_nx, lk_ct, lk_bk, lk_rt, ik_true, ik_false, ev, evs, evo, evi, evc, evd, keyK_str, keyK_int, retK_rt, retK_nx, iteK_true, iteK_false, truK0_bl, truK0_int, truK0_tup, truK0_frl, truK0_non, scK_bl, wp_callK, cmpO, cmp_eq, cmp_ne, cmp_lt, cmp_le, cmp_gt, cmp_ge, cmp_isN, cmp_notN, eqD_int, eqD_str, bin_int, binI_add, binI_sub, of_some, negK_int, setK_nm, setK_tp, setsK, asg, asgs, tgsOf, intK, rngK, srcV_tup, srcV_frl, subO, startE, newR, new, bi_int, bi_abs, bi_len_tup, bi_len_frl,  Option.map_some, Option.map_none, Option.bind_some, List.map_cons, List.map_nil, List.length_cons, List.length_nil, List.length_append, List.length_map, List.length_set, List.cons_append, List.nil_append, List.getElem?_cons_zero, List.getElem?_cons_succ, List.set_cons_zero, List.set_cons_succ, if_true, if_false, Bool.false_eq_true, Bool.true_eq_false, Bool.not_true, Bool.not_false, decide_true, decide_false, Nat.reduceEqDiff, Nat.zero_lt_succ, List.replicate_succ, List.replicate_zero, Nat.reduceSub, Nat.reduceAdd, Nat.reduceLT, Nat.reduceLeDiff, Nat.zero_le, id, lstK_ok, tupK_ok, d1, isi_int_int, isi_int_bl, isi_int_non, isi_int_str, isi_int_tup, isi_bool_int, isi_bool_bl, isi_tuple_tup, isi_tuple_non, isi_tuple_int, isi_tuple_bl, isi_tuple_str, isi_str_str, isi_str_non, isi_str_int, isi_str_tup]; exact ⟨rfl, Ext.refl⟩
  | int _ => try simp -implicitDefEqProofs only [wp_ok, wp_exc, wp_bind, wp_raise, wp_try, wp_noexc, wp_seq, wp_skip, wp_brk, wp_cnt, wp_retN, wp_ret, wp_set, wp_par, wp_unp, wp_sto, wp_xpr, wp_ite, wp_for, wp_whl, wp_tru, sk_nx, sk_rt, sk_bk, sk_ct, lk_nx, lk_ct, lk_bk, lk_rt, ik_true, ik_false, ev, evs, evo, evi, evc, evd, keyK_str, keyK_int, retK_rt, retK_nx, iteK_true, iteK_false, truK0_bl, truK0_int, truK0_tup, truK0_frl, truK0_non, scK_bl, wp_callK, cmpO, cmp_eq, cmp_ne, cmp_lt, cmp_le, cmp_gt, cmp_ge, cmp_isN, cmp_notN, eqD_int, eqD_str, bin_int, binI_add, binI_sub, of_some, negK_int, setK_nm, setK_tp, setsK, asg, asgs, tgsOf, intK, rngK, srcV_tup, srcV_frl, subO, startE, newR, new, bi_int, bi_abs, bi_len_tup, bi_len_frl,  Option.map_some, Option.map_none, Option.bind_some, List.map_cons, List.map_nil, List.length_cons, List.length_nil, List.length_append, List.length_map, List.length_set, List.cons_append, List.nil_append, List.getElem?_cons_zero, List.getElem?_cons_succ, List.set_cons_zero, List.set_cons_succ, if_true, if_false, Bool.false_eq_true, Bool.true_eq_false, Bool.not_true, Bool.not_false, decide_true, decide_false, Nat.reduceEqDiff, Nat.zero_lt_succ, List.replicate_succ, List.replicate_zero, Nat.reduceSub, Nat.reduceAdd, Nat.reduceLT, Nat.reduceLeDiff, Nat.zero_le, id, lstK_ok, tupK_ok, d1, isi_int_int, isi_int_bl, isi_int_non, isi_int_str, isi_int_tup, isi_bool_int, isi_bool_bl, isi_tuple_tup, isi_tuple_non, isi_tuple_int, isi_tuple_bl, isi_tuple_str, isi_str_str, isi_str_non, isi_str_int, isi_str_tup]; exact ⟨rfl, Ext.refl⟩
  | str _ => try simp -implicitDefEqProofs only [wp_ok, wp_exc, wp_bind, wp_raise, wp_try, wp_noexc, wp_seq, wp_skip, wp_brk, wp_cnt, wp_retN, wp_ret, wp_set, wp_par, wp_unp, wp_sto, wp_xpr, wp_ite, wp_for, wp_whl, wp_tru, sk_nx, sk_rt, sk_bk, sk_ct, lk_nx, lk_ct, lk_bk, lk_rt, ik_true, ik_false, ev, evs, evo, evi, evc, evd, keyK_str, keyK_int, retK_rt, retK_nx, iteK_true, iteK_false, truK0_bl, truK0_int, truK0_tup, truK0_frl, truK0_non, scK_bl, wp_callK, cmpO, cmp_eq, cmp_ne, cmp_lt, cmp_le, cmp_gt, cmp_ge, cmp_isN, cmp_notN, eqD_int, eqD_str, bin_int, binI_add, binI_sub, of_some, negK_int, setK_nm, setK_tp, setsK, asg, asgs, tgsOf, intK, rngK, srcV_tup, srcV_frl, subO, startE, newR, new, bi_int, bi_abs, bi_len_tup, bi_len_frl,  Option.map_some, Option.map_none, Option.bind_some, List.map_cons, List.map_nil, List.length_cons, List.length_nil, List.length_append, List.length_map, List.length_set, List.cons_append, List.nil_append, List.getElem?_cons_zero, List.getElem?_cons_succ, List.set_cons_zero, List.set_cons_succ, if_true, if_false, Bool.false_eq_true, Bool.true_eq_false, Bool.not_true, Bool.not_false, decide_true, decide_false, Nat.reduceEqDiff, Nat.zero_lt_succ, List.replicate_succ, List.replicate_zero, Nat.reduceSub, Nat.reduceAdd, Nat.reduceLT, Nat.reduceLeDiff, Nat.zero_le, id, lstK_ok, tupK_ok, d1, isi_int_int, isi_int_bl, isi_int_non, isi_int_str, isi_int_tup, isi_bool_int, isi_bool_bl, isi_tuple_tup, isi_tuple_non, isi_tuple_int, isi_tuple_bl, isi_tuple_str, isi_str_str, isi_str_non, isi_str_int, isi_str_tup]; exact ⟨rfl, Ext.refl⟩
  | frl _ => exact g.elim
  | ref m => try simp -implicitDefEqProofs only [wp_ok, wp_exc, wp_bind, wp_raise, wp_try, wp_noexc, wp_seq, wp_skip, wp_brk, wp_cnt, wp_retN, wp_ret, wp_set, wp_par, wp_unp, wp_sto, wp_xpr, wp_ite, wp_for, wp_whl, wp_tru, sk_nx, sk_rt, sk_bk, sk_ct, lk_nx, lk_ct, lk_bk, lk_rt, ik_true, ik_false, ev, evs, evo, evi, evc, evd, keyK_str, keyK_int, retK_rt, retK_nx, iteK_true, iteK_false, truK0_bl, truK0_int, truK0_tup, truK0_frl, truK0_non, scK_bl, wp_callK, cmpO, cmp_eq, cmp_ne, cmp_lt, cmp_le, cmp_gt, cmp_ge, cmp_isN, cmp_notN, eqD_int, eqD_str, bin_int, binI_add, binI_sub, of_some, negK_int, setK_nm, setK_tp, setsK, asg, asgs, tgsOf, intK, rngK, srcV_tup, srcV_frl, subO, startE, newR, new, bi_int, bi_abs, bi_len_tup, bi_len_frl,  Option.map_some, Option.map_none, Option.bind_some, List.map_cons, List.map_nil, List.length_cons, List.length_nil, List.length_append, List.length_map, List.length_set, List.cons_append, List.nil_append, List.getElem?_cons_zero, List.getElem?_cons_succ, List.set_cons_zero, List.set_cons_succ, if_true, if_false, Bool.false_eq_true, Bool.true_eq_false, Bool.not_true, Bool.not_false, decide_true, decide_false, Nat.reduceEqDiff, Nat.zero_lt_succ, List.replicate_succ, List.replicate_zero, Nat.reduceSub, Nat.reduceAdd, Nat.reduceLT, Nat.reduceLeDiff, Nat.zero_le, id, lstK_ok, tupK_ok, d1, isi_tuple_ref g]; exact ⟨rfl, Ext.refl⟩
  | tup ws =>
    cases ws with
    | nil => try simp -implicitDefEqProofs only [wp_ok, wp_exc, wp_bind, wp_raise, wp_try, wp_noexc, wp_seq, wp_skip, wp_brk, wp_cnt, wp_retN, wp_ret, wp_set, wp_par, wp_unp, wp_sto, wp_xpr, wp_ite, wp_for, wp_whl, wp_tru, sk_nx, sk_rt, sk_bk, sk_ct, lk_nx, lk_ct, lk_bk, lk_rt, ik_true, ik_false, ev, evs, evo, evi, evc, evd, keyK_str, keyK_int, retK_rt, retK_nx, iteK_true, iteK_false, truK0_bl, truK0_int, truK0_tup, truK0_frl, truK0_non, scK_bl, wp_callK, cmpO, cmp_eq, cmp_ne, cmp_lt, cmp_le, cmp_gt, cmp_ge, cmp_isN, cmp_notN, eqD_int, eqD_str, bin_int, binI_add, binI_sub, of_some, negK_int, setK_nm, setK_tp, setsK, asg, asgs, tgsOf, intK, rngK, srcV_tup, srcV_frl, subO, startE, newR, new, bi_int, bi_abs, bi_len_tup, bi_len_frl,  Option.map_some, Option.map_none, Option.bind_some, List.map_cons, List.map_nil, List.length_cons, List.length_nil, List.length_append, List.length_map, List.length_set, List.cons_append, List.nil_append, List.getElem?_cons_zero, List.getElem?_cons_succ, List.set_cons_zero, List.set_cons_succ, if_true, if_false, Bool.false_eq_true, Bool.true_eq_false, Bool.not_true, Bool.not_false, decide_true, decide_false, Nat.reduceEqDiff, Nat.zero_lt_succ, List.replicate_succ, List.replicate_zero, Nat.reduceSub, Nat.reduceAdd, Nat.reduceLT, Nat.reduceLeDiff, Nat.zero_le, id, lstK_ok, tupK_ok, d1, isi_int_int, isi_int_bl, isi_int_non, isi_int_str, isi_int_tup, isi_bool_int, isi_bool_bl, isi_tuple_tup, isi_tuple_non, isi_tuple_int, isi_tuple_bl, isi_tuple_str, isi_str_str, isi_str_non, isi_str_int, isi_str_tup]; exact ⟨rfl, Ext.refl⟩
    | cons x ws =>
      have e0 : ∀ s : Sto, sub s (.tup (x :: ws)) (.int 0) = some x := fun s => by rw [sub_tup, atW_0]; rfl
      have hl : decide ((0 : Int) < ((ws.length + 1 : Nat) : Int)) = true := decide_eq_true (by omega)
      have no : ∀ {x : W}, (x = .non ∨ (∃ b, x = .bl b) ∨ (∃ i, x = .int i) ∨ ∃ us, x = .tup us) → isiK ["str"] x st = .ok (.bl false) st := fun {x} h => by
        rcases h with rfl | ⟨_, rfl⟩ | ⟨_, rfl⟩ | ⟨_, rfl⟩ <;> rfl
      have neg : (x = .non ∨ (∃ b, x = .bl b) ∨ (∃ i, x = .int i) ∨ ∃ us, x = .tup us) → stepB (.tup (x :: ws)) = false ∧ isiK ["str"] x st = .ok (.bl false) st := fun h => ⟨by rcases h with rfl | ⟨_, rfl⟩ | ⟨_, rfl⟩ | ⟨_, rfl⟩ <;> rfl, no h⟩
      have fin : (x = .non ∨ (∃ b, x = .bl b) ∨ (∃ i, x = .int i) ∨ ∃ us, x = .tup us) ∨ ∃ s, x = .str s := by
        rcases g with g | ⟨us, rfl⟩
        · cases x with
          | non => exact .inl (.inl rfl)
          | bl b => exact .inl (.inr (.inl ⟨b, rfl⟩))
          | int b => exact .inl (.inr (.inr (.inl ⟨b, rfl⟩)))
          | str s => exact .inr ⟨s, rfl⟩
          | tup _ => cases g
          | frl _ => cases g
          | ref _ => cases g
        · exact .inl (.inr (.inr (.inr ⟨us, rfl⟩)))
      rcases fin with h | ⟨s, rfl⟩
      · obtain ⟨h1, h2⟩ := neg h
        try simp -implicitDefEqProofs only [wp_ok, wp_exc, wp_bind, wp_raise, wp_try, wp_noexc, wp_seq, wp_skip, wp_brk, wp_cnt, wp_retN, wp_ret, wp_set, wp_par, wp_unp, wp_sto, wp_xpr, wp_ite, wp_for, wp_whl, wp_tru, sk_nx, sk_rt, sk_bk, sk_ct, lk_nx, lk_ct, lk_bk, lk_rt, ik_true, ik_false, ev, evs, evo, evi, evc, evd, keyK_str, keyK_int, retK_rt, retK_nx, iteK_true, iteK_false, truK0_bl, truK0_int, truK0_tup, truK0_frl, truK0_non, scK_bl, wp_callK, cmpO, cmp_eq, cmp_ne, cmp_lt, cmp_le, cmp_gt, cmp_ge, cmp_isN, cmp_notN, eqD_int, eqD_str, bin_int, binI_add, binI_sub, of_some, negK_int, setK_nm, setK_tp, setsK, asg, asgs, tgsOf, intK, rngK, srcV_tup, srcV_frl, subO, startE, newR, new, bi_int, bi_abs, bi_len_tup, bi_len_frl,  Option.map_some, Option.map_none, Option.bind_some, List.map_cons, List.map_nil, List.length_cons, List.length_nil, List.length_append, List.length_map, List.length_set, List.cons_append, List.nil_append, List.getElem?_cons_zero, List.getElem?_cons_succ, List.set_cons_zero, List.set_cons_succ, if_true, if_false, Bool.false_eq_true, Bool.true_eq_false, Bool.not_true, Bool.not_false, decide_true, decide_false, Nat.reduceEqDiff, Nat.zero_lt_succ, List.replicate_succ, List.replicate_zero, Nat.reduceSub, Nat.reduceAdd, Nat.reduceLT, Nat.reduceLeDiff, Nat.zero_le, id, lstK_ok, tupK_ok, d1, isi_int_int, isi_int_bl, isi_int_non, isi_int_str, isi_int_tup, isi_bool_int, isi_bool_bl, isi_tuple_tup, isi_tuple_non, isi_tuple_int, isi_tuple_bl, isi_tuple_str, isi_str_str, isi_str_non, isi_str_int, isi_str_tup, hl, e0, h2]
        exact ⟨by rw [h1], Ext.refl⟩
      · try simp -implicitDefEqProofs only [wp_ok, wp_exc, wp_bind, wp_raise, wp_try, wp_noexc, wp_seq, wp_skip, wp_brk, wp_cnt, wp_retN, wp_ret, wp_set, wp_par, wp_unp, wp_sto, wp_xpr, wp_ite, wp_for, wp_whl, wp_tru, sk_nx, sk_rt, sk_bk, sk_ct, lk_nx, lk_ct, lk_bk, lk_rt, ik_true, ik_false, ev, evs, evo, evi, evc, evd, keyK_str, keyK_int, retK_rt, retK_nx, iteK_true, iteK_false, truK0_bl, truK0_int, truK0_tup, truK0_frl, truK0_non, scK_bl, wp_callK, cmpO, cmp_eq, cmp_ne, cmp_lt, cmp_le, cmp_gt, cmp_ge, cmp_isN, cmp_notN, eqD_int, eqD_str, bin_int, binI_add, binI_sub, of_some, negK_int, setK_nm, setK_tp, setsK, asg, asgs, tgsOf, intK, rngK, srcV_tup, srcV_frl, subO, startE, newR, new, bi_int, bi_abs, bi_len_tup, bi_len_frl,  Option.map_some, Option.map_none, Option.bind_some, List.map_cons, List.map_nil, List.length_cons, List.length_nil, List.length_append, List.length_map, List.length_set, List.cons_append, List.nil_append, List.getElem?_cons_zero, List.getElem?_cons_succ, List.set_cons_zero, List.set_cons_succ, if_true, if_false, Bool.false_eq_true, Bool.true_eq_false, Bool.not_true, Bool.not_false, decide_true, decide_false, Nat.reduceEqDiff, Nat.zero_lt_succ, List.replicate_succ, List.replicate_zero, Nat.reduceSub, Nat.reduceAdd, Nat.reduceLT, Nat.reduceLeDiff, Nat.zero_le, id, lstK_ok, tupK_ok, d1, isi_int_int, isi_int_bl, isi_int_non, isi_int_str, isi_int_tup, isi_bool_int, isi_bool_bl, isi_tuple_tup, isi_tuple_non, isi_tuple_int, isi_tuple_bl, isi_tuple_str, isi_str_str, isi_str_non, isi_str_int, isi_str_tup, hl, e0]
        refine (words_ok (n := n)).mono ?_
        rintro r st' ⟨rfl, x⟩
        try simp -implicitDefEqProofs only [wp_ok, wp_exc, wp_bind, wp_raise, wp_try, wp_noexc, wp_seq, wp_skip, wp_brk, wp_cnt, wp_retN, wp_ret, wp_set, wp_par, wp_unp, wp_sto, wp_xpr, wp_ite, wp_for, wp_whl, wp_tru, sk_nx, sk_rt, sk_bk, sk_ct, lk_nx, lk_ct, lk_bk, lk_rt, ik_true, ik_false, ev, evs, evo, evi, evc, evd, keyK_str, keyK_int, retK_rt, retK_nx, iteK_true, iteK_false, truK0_bl, truK0_int, truK0_tup, truK0_frl, truK0_non, scK_bl, wp_callK, cmpO, cmp_eq, cmp_ne, cmp_lt, cmp_le, cmp_gt, cmp_ge, cmp_isN, cmp_notN, eqD_int, eqD_str, bin_int, binI_add, binI_sub, of_some, negK_int, setK_nm, setK_tp, setsK, asg, asgs, tgsOf, intK, rngK, srcV_tup, srcV_frl, subO, startE, newR, new, bi_int, bi_abs, bi_len_tup, bi_len_frl,  Option.map_some, Option.map_none, Option.bind_some, List.map_cons, List.map_nil, List.length_cons, List.length_nil, List.length_append, List.length_map, List.length_set, List.cons_append, List.nil_append, List.getElem?_cons_zero, List.getElem?_cons_succ, List.set_cons_zero, List.set_cons_succ, if_true, if_false, Bool.false_eq_true, Bool.true_eq_false, Bool.not_true, Bool.not_false, decide_true, decide_false, Nat.reduceEqDiff, Nat.zero_lt_succ, List.replicate_succ, List.replicate_zero, Nat.reduceSub, Nat.reduceAdd, Nat.reduceLT, Nat.reduceLeDiff, Nat.zero_le, id, lstK_ok, tupK_ok, cmp_in, in_tupS]
        exact ⟨rfl, x⟩
def kindS (s : Str) : Str := if vW.any (fun y => y == s) then "value" else if fW.any (fun y => y == s) then "flow" else if mW.any (fun y => y == s) then "memory" else "call"
theorem kind_ok {s : Str} {ws : List W} (h : stepB (.tup (.str s :: ws)) = true) {Xe : Exn → Sto → Prop} {Q : W → Sto → Prop} (q : ∀ st', Ext st st' → Q (.str (kindS s)) st') : Wx Xe (Ci.run tab (n + 3) 3 [.tup (.str s :: ws)] st) Q := by
  refine wp_run (d := d3) rfl rfl ?_
  show Wx Xe (ex _ c3 _ _) _
  unfold c3
  have e0 : ∀ st : Sto, sub st (.tup (.str s :: ws)) (.int 0) = some (.str s) := fun s => by rw [sub_tup, atW_0]; rfl
  try simp -implicitDefEqProofs only [wp_ok, wp_exc, wp_bind, wp_raise, wp_try, wp_noexc, wp_seq, wp_skip, wp_brk, wp_cnt, wp_retN, wp_ret, wp_set, wp_par, wp_unp, wp_sto, wp_xpr, wp_ite, wp_for, wp_whl, wp_tru, sk_rt, sk_bk, sk_ct, lk_nx, lk_ct, lk_bk, lk_rt, ik_true, ik_false, ev, evs, evo, evi, evc, evd, keyK_str, keyK_int, retK_rt, retK_nx, iteK_true, iteK_false, truK0_bl, truK0_int, truK0_tup, truK0_frl, truK0_non, scK_bl, wp_callK, cmpO, cmp_eq, cmp_ne, cmp_lt, cmp_le, cmp_gt, cmp_ge, cmp_isN, cmp_notN, eqD_int, eqD_str, bin_int, binI_add, binI_sub, of_some, negK_int, setK_nm, setK_tp, setsK, asg, asgs, tgsOf, intK, rngK, srcV_tup, srcV_frl, subO, startE, newR, new, bi_int, bi_abs, bi_len_tup, bi_len_frl,  Option.map_some, Option.map_none, Option.bind_some, List.map_cons, List.map_nil, List.length_cons, List.length_nil, List.length_append, List.length_map, List.length_set, List.cons_append, List.nil_append, List.getElem?_cons_zero, List.getElem?_cons_succ, List.set_cons_zero, List.set_cons_succ, if_true, if_false, Bool.false_eq_true, Bool.true_eq_false, Bool.not_true, Bool.not_false, decide_true, decide_false, Nat.reduceEqDiff, Nat.zero_lt_succ, List.replicate_succ, List.replicate_zero, Nat.reduceSub, Nat.reduceAdd, Nat.reduceLT, Nat.reduceLeDiff, Nat.zero_le, id, lstK_ok, tupK_ok, d3]
  refine Wp.mono (step_ok (n := n) (.inl rfl)) ?_
  rintro r st' ⟨rfl, x⟩
  rw [h]
  try simp -implicitDefEqProofs only [wp_ok, wp_exc, wp_bind, wp_raise, wp_try, wp_noexc, wp_seq, wp_skip, wp_brk, wp_cnt, wp_retN, wp_ret, wp_set, wp_par, wp_unp, wp_sto, wp_xpr, wp_ite, wp_for, wp_whl, wp_tru, sk_rt, sk_bk, sk_ct, lk_nx, lk_ct, lk_bk, lk_rt, ik_true, ik_false, ev, evs, evo, evi, evc, evd, keyK_str, keyK_int, retK_rt, retK_nx, iteK_true, iteK_false, truK0_bl, truK0_int, truK0_tup, truK0_frl, truK0_non, scK_bl, wp_callK, cmpO, cmp_eq, cmp_ne, cmp_lt, cmp_le, cmp_gt, cmp_ge, cmp_isN, cmp_notN, eqD_int, eqD_str, bin_int, binI_add, binI_sub, of_some, negK_int, setK_nm, setK_tp, setsK, asg, asgs, tgsOf, intK, rngK, srcV_tup, srcV_frl, subO, startE, newR, new, bi_int, bi_abs, bi_len_tup, bi_len_frl,  Option.map_some, Option.map_none, Option.bind_some, List.map_cons, List.map_nil, List.length_cons, List.length_nil, List.length_append, List.length_map, List.length_set, List.cons_append, List.nil_append, List.getElem?_cons_zero, List.getElem?_cons_succ, List.set_cons_zero, List.set_cons_succ, if_true, if_false, Bool.false_eq_true, Bool.true_eq_false, Bool.not_true, Bool.not_false, decide_true, decide_false, Nat.reduceEqDiff, Nat.zero_lt_succ, List.replicate_succ, List.replicate_zero, Nat.reduceSub, Nat.reduceAdd, Nat.reduceLT, Nat.reduceLeDiff, Nat.zero_le, id, lstK_ok, tupK_ok]
  rw [sk_nx]
  have q := q st' x
  unfold kindS at q
  try simp -implicitDefEqProofs only [wp_ok, wp_exc, wp_bind, wp_raise, wp_try, wp_noexc, wp_seq, wp_skip, wp_brk, wp_cnt, wp_retN, wp_ret, wp_set, wp_par, wp_unp, wp_sto, wp_xpr, wp_ite, wp_for, wp_whl, wp_tru, sk_rt, sk_bk, sk_ct, lk_nx, lk_ct, lk_bk, lk_rt, ik_true, ik_false, ev, evs, evo, evi, evc, evd, keyK_str, keyK_int, retK_rt, retK_nx, iteK_true, iteK_false, truK0_bl, truK0_int, truK0_tup, truK0_frl, truK0_non, scK_bl, wp_callK, cmpO, cmp_eq, cmp_ne, cmp_lt, cmp_le, cmp_gt, cmp_ge, cmp_isN, cmp_notN, eqD_int, eqD_str, bin_int, binI_add, binI_sub, of_some, negK_int, setK_nm, setK_tp, setsK, asg, asgs, tgsOf, intK, rngK, srcV_tup, srcV_frl, subO, startE, newR, new, bi_int, bi_abs, bi_len_tup, bi_len_frl,  Option.map_some, Option.map_none, Option.bind_some, List.map_cons, List.map_nil, List.length_cons, List.length_nil, List.length_append, List.length_map, List.length_set, List.cons_append, List.nil_append, List.getElem?_cons_zero, List.getElem?_cons_succ, List.set_cons_zero, List.set_cons_succ, if_true, if_false, Bool.false_eq_true, Bool.true_eq_false, Bool.not_true, Bool.not_false, decide_true, decide_false, Nat.reduceEqDiff, Nat.zero_lt_succ, List.replicate_succ, List.replicate_zero, Nat.reduceSub, Nat.reduceAdd, Nat.reduceLT, Nat.reduceLeDiff, Nat.zero_le, id, lstK_ok, tupK_ok, e0, cmp_in, kv, in_tupS]
  cases hv : vW.any (fun y => y == s) with
  | true =>
    rw [hv, if_pos rfl] at q
    try simp -implicitDefEqProofs only [wp_ok, wp_exc, wp_bind, wp_raise, wp_try, wp_noexc, wp_seq, wp_skip, wp_brk, wp_cnt, wp_retN, wp_ret, wp_set, wp_par, wp_unp, wp_sto, wp_xpr, wp_ite, wp_for, wp_whl, wp_tru, sk_rt, sk_bk, sk_ct, lk_nx, lk_ct, lk_bk, lk_rt, ik_true, ik_false, ev, evs, evo, evi, evc, evd, keyK_str, keyK_int, retK_rt, retK_nx, iteK_true, iteK_false, truK0_bl, truK0_int, truK0_tup, truK0_frl, truK0_non, scK_bl, wp_callK, cmpO, cmp_eq, cmp_ne, cmp_lt, cmp_le, cmp_gt, cmp_ge, cmp_isN, cmp_notN, eqD_int, eqD_str, bin_int, binI_add, binI_sub, of_some, negK_int, setK_nm, setK_tp, setsK, asg, asgs, tgsOf, intK, rngK, srcV_tup, srcV_frl, subO, startE, newR, new, bi_int, bi_abs, bi_len_tup, bi_len_frl,  Option.map_some, Option.map_none, Option.bind_some, List.map_cons, List.map_nil, List.length_cons, List.length_nil, List.length_append, List.length_map, List.length_set, List.cons_append, List.nil_append, List.getElem?_cons_zero, List.getElem?_cons_succ, List.set_cons_zero, List.set_cons_succ, if_true, if_false, Bool.false_eq_true, Bool.true_eq_false, Bool.not_true, Bool.not_false, decide_true, decide_false, Nat.reduceEqDiff, Nat.zero_lt_succ, List.replicate_succ, List.replicate_zero, Nat.reduceSub, Nat.reduceAdd, Nat.reduceLT, Nat.reduceLeDiff, Nat.zero_le, id, lstK_ok, tupK_ok]
    exact q
  | false =>
    rw [hv, if_neg (by simp)] at q
    try simp -implicitDefEqProofs only [wp_ok, wp_exc, wp_bind, wp_raise, wp_try, wp_noexc, wp_seq, wp_skip, wp_brk, wp_cnt, wp_retN, wp_ret, wp_set, wp_par, wp_unp, wp_sto, wp_xpr, wp_ite, wp_for, wp_whl, wp_tru, sk_rt, sk_bk, sk_ct, lk_nx, lk_ct, lk_bk, lk_rt, ik_true, ik_false, ev, evs, evo, evi, evc, evd, keyK_str, keyK_int, retK_rt, retK_nx, iteK_true, iteK_false, truK0_bl, truK0_int, truK0_tup, truK0_frl, truK0_non, scK_bl, wp_callK, cmpO, cmp_eq, cmp_ne, cmp_lt, cmp_le, cmp_gt, cmp_ge, cmp_isN, cmp_notN, eqD_int, eqD_str, bin_int, binI_add, binI_sub, of_some, negK_int, setK_nm, setK_tp, setsK, asg, asgs, tgsOf, intK, rngK, srcV_tup, srcV_frl, subO, startE, newR, new, bi_int, bi_abs, bi_len_tup, bi_len_frl,  Option.map_some, Option.map_none, Option.bind_some, List.map_cons, List.map_nil, List.length_cons, List.length_nil, List.length_append, List.length_map, List.length_set, List.cons_append, List.nil_append, List.getElem?_cons_zero, List.getElem?_cons_succ, List.set_cons_zero, List.set_cons_succ, if_true, if_false, Bool.false_eq_true, Bool.true_eq_false, Bool.not_true, Bool.not_false, decide_true, decide_false, Nat.reduceEqDiff, Nat.zero_lt_succ, List.replicate_succ, List.replicate_zero, Nat.reduceSub, Nat.reduceAdd, Nat.reduceLT, Nat.reduceLeDiff, Nat.zero_le, id, lstK_ok, tupK_ok]
    rw [sk_nx]
    try simp -implicitDefEqProofs only [wp_ok, wp_exc, wp_bind, wp_raise, wp_try, wp_noexc, wp_seq, wp_skip, wp_brk, wp_cnt, wp_retN, wp_ret, wp_set, wp_par, wp_unp, wp_sto, wp_xpr, wp_ite, wp_for, wp_whl, wp_tru, sk_rt, sk_bk, sk_ct, lk_nx, lk_ct, lk_bk, lk_rt, ik_true, ik_false, ev, evs, evo, evi, evc, evd, keyK_str, keyK_int, retK_rt, retK_nx, iteK_true, iteK_false, truK0_bl, truK0_int, truK0_tup, truK0_frl, truK0_non, scK_bl, wp_callK, cmpO, cmp_eq, cmp_ne, cmp_lt, cmp_le, cmp_gt, cmp_ge, cmp_isN, cmp_notN, eqD_int, eqD_str, bin_int, binI_add, binI_sub, of_some, negK_int, setK_nm, setK_tp, setsK, asg, asgs, tgsOf, intK, rngK, srcV_tup, srcV_frl, subO, startE, newR, new, bi_int, bi_abs, bi_len_tup, bi_len_frl,  Option.map_some, Option.map_none, Option.bind_some, List.map_cons, List.map_nil, List.length_cons, List.length_nil, List.length_append, List.length_map, List.length_set, List.cons_append, List.nil_append, List.getElem?_cons_zero, List.getElem?_cons_succ, List.set_cons_zero, List.set_cons_succ, if_true, if_false, Bool.false_eq_true, Bool.true_eq_false, Bool.not_true, Bool.not_false, decide_true, decide_false, Nat.reduceEqDiff, Nat.zero_lt_succ, List.replicate_succ, List.replicate_zero, Nat.reduceSub, Nat.reduceAdd, Nat.reduceLT, Nat.reduceLeDiff, Nat.zero_le, id, lstK_ok, tupK_ok, e0, cmp_in, kf, in_tupS]
    cases hf : fW.any (fun y => y == s) with
    | true =>
      rw [hf, if_pos rfl] at q
      try simp -implicitDefEqProofs only [wp_ok, wp_exc, wp_bind, wp_raise, wp_try, wp_noexc, wp_seq, wp_skip, wp_brk, wp_cnt, wp_retN, wp_ret, wp_set, wp_par, wp_unp, wp_sto, wp_xpr, wp_ite, wp_for, wp_whl, wp_tru, sk_rt, sk_bk, sk_ct, lk_nx, lk_ct, lk_bk, lk_rt, ik_true, ik_false, ev, evs, evo, evi, evc, evd, keyK_str, keyK_int, retK_rt, retK_nx, iteK_true, iteK_false, truK0_bl, truK0_int, truK0_tup, truK0_frl, truK0_non, scK_bl, wp_callK, cmpO, cmp_eq, cmp_ne, cmp_lt, cmp_le, cmp_gt, cmp_ge, cmp_isN, cmp_notN, eqD_int, eqD_str, bin_int, binI_add, binI_sub, of_some, negK_int, setK_nm, setK_tp, setsK, asg, asgs, tgsOf, intK, rngK, srcV_tup, srcV_frl, subO, startE, newR, new, bi_int, bi_abs, bi_len_tup, bi_len_frl,  Option.map_some, Option.map_none, Option.bind_some, List.map_cons, List.map_nil, List.length_cons, List.length_nil, List.length_append, List.length_map, List.length_set, List.cons_append, List.nil_append, List.getElem?_cons_zero, List.getElem?_cons_succ, List.set_cons_zero, List.set_cons_succ, if_true, if_false, Bool.false_eq_true, Bool.true_eq_false, Bool.not_true, Bool.not_false, decide_true, decide_false, Nat.reduceEqDiff, Nat.zero_lt_succ, List.replicate_succ, List.replicate_zero, Nat.reduceSub, Nat.reduceAdd, Nat.reduceLT, Nat.reduceLeDiff, Nat.zero_le, id, lstK_ok, tupK_ok]
      exact q
    | false =>
      rw [hf, if_neg (by simp)] at q
      try simp -implicitDefEqProofs only [wp_ok, wp_exc, wp_bind, wp_raise, wp_try, wp_noexc, wp_seq, wp_skip, wp_brk, wp_cnt, wp_retN, wp_ret, wp_set, wp_par, wp_unp, wp_sto, wp_xpr, wp_ite, wp_for, wp_whl, wp_tru, sk_rt, sk_bk, sk_ct, lk_nx, lk_ct, lk_bk, lk_rt, ik_true, ik_false, ev, evs, evo, evi, evc, evd, keyK_str, keyK_int, retK_rt, retK_nx, iteK_true, iteK_false, truK0_bl, truK0_int, truK0_tup, truK0_frl, truK0_non, scK_bl, wp_callK, cmpO, cmp_eq, cmp_ne, cmp_lt, cmp_le, cmp_gt, cmp_ge, cmp_isN, cmp_notN, eqD_int, eqD_str, bin_int, binI_add, binI_sub, of_some, negK_int, setK_nm, setK_tp, setsK, asg, asgs, tgsOf, intK, rngK, srcV_tup, srcV_frl, subO, startE, newR, new, bi_int, bi_abs, bi_len_tup, bi_len_frl,  Option.map_some, Option.map_none, Option.bind_some, List.map_cons, List.map_nil, List.length_cons, List.length_nil, List.length_append, List.length_map, List.length_set, List.cons_append, List.nil_append, List.getElem?_cons_zero, List.getElem?_cons_succ, List.set_cons_zero, List.set_cons_succ, if_true, if_false, Bool.false_eq_true, Bool.true_eq_false, Bool.not_true, Bool.not_false, decide_true, decide_false, Nat.reduceEqDiff, Nat.zero_lt_succ, List.replicate_succ, List.replicate_zero, Nat.reduceSub, Nat.reduceAdd, Nat.reduceLT, Nat.reduceLeDiff, Nat.zero_le, id, lstK_ok, tupK_ok]
      rw [sk_nx]
      try simp -implicitDefEqProofs only [wp_ok, wp_exc, wp_bind, wp_raise, wp_try, wp_noexc, wp_seq, wp_skip, wp_brk, wp_cnt, wp_retN, wp_ret, wp_set, wp_par, wp_unp, wp_sto, wp_xpr, wp_ite, wp_for, wp_whl, wp_tru, sk_rt, sk_bk, sk_ct, lk_nx, lk_ct, lk_bk, lk_rt, ik_true, ik_false, ev, evs, evo, evi, evc, evd, keyK_str, keyK_int, retK_rt, retK_nx, iteK_true, iteK_false, truK0_bl, truK0_int, truK0_tup, truK0_frl, truK0_non, scK_bl, wp_callK, cmpO, cmp_eq, cmp_ne, cmp_lt, cmp_le, cmp_gt, cmp_ge, cmp_isN, cmp_notN, eqD_int, eqD_str, bin_int, binI_add, binI_sub, of_some, negK_int, setK_nm, setK_tp, setsK, asg, asgs, tgsOf, intK, rngK, srcV_tup, srcV_frl, subO, startE, newR, new, bi_int, bi_abs, bi_len_tup, bi_len_frl,  Option.map_some, Option.map_none, Option.bind_some, List.map_cons, List.map_nil, List.length_cons, List.length_nil, List.length_append, List.length_map, List.length_set, List.cons_append, List.nil_append, List.getElem?_cons_zero, List.getElem?_cons_succ, List.set_cons_zero, List.set_cons_succ, if_true, if_false, Bool.false_eq_true, Bool.true_eq_false, Bool.not_true, Bool.not_false, decide_true, decide_false, Nat.reduceEqDiff, Nat.zero_lt_succ, List.replicate_succ, List.replicate_zero, Nat.reduceSub, Nat.reduceAdd, Nat.reduceLT, Nat.reduceLeDiff, Nat.zero_le, id, lstK_ok, tupK_ok, e0, cmp_in, km, in_tupS]
      cases hm : mW.any (fun y => y == s) with
      | true =>
        rw [hm, if_pos rfl] at q
        try simp -implicitDefEqProofs only [wp_ok, wp_exc, wp_bind, wp_raise, wp_try, wp_noexc, wp_seq, wp_skip, wp_brk, wp_cnt, wp_retN, wp_ret, wp_set, wp_par, wp_unp, wp_sto, wp_xpr, wp_ite, wp_for, wp_whl, wp_tru, sk_rt, sk_bk, sk_ct, lk_nx, lk_ct, lk_bk, lk_rt, ik_true, ik_false, ev, evs, evo, evi, evc, evd, keyK_str, keyK_int, retK_rt, retK_nx, iteK_true, iteK_false, truK0_bl, truK0_int, truK0_tup, truK0_frl, truK0_non, scK_bl, wp_callK, cmpO, cmp_eq, cmp_ne, cmp_lt, cmp_le, cmp_gt, cmp_ge, cmp_isN, cmp_notN, eqD_int, eqD_str, bin_int, binI_add, binI_sub, of_some, negK_int, setK_nm, setK_tp, setsK, asg, asgs, tgsOf, intK, rngK, srcV_tup, srcV_frl, subO, startE, newR, new, bi_int, bi_abs, bi_len_tup, bi_len_frl,  Option.map_some, Option.map_none, Option.bind_some, List.map_cons, List.map_nil, List.length_cons, List.length_nil, List.length_append, List.length_map, List.length_set, List.cons_append, List.nil_append, List.getElem?_cons_zero, List.getElem?_cons_succ, List.set_cons_zero, List.set_cons_succ, if_true, if_false, Bool.false_eq_true, Bool.true_eq_false, Bool.not_true, Bool.not_false, decide_true, decide_false, Nat.reduceEqDiff, Nat.zero_lt_succ, List.replicate_succ, List.replicate_zero, Nat.reduceSub, Nat.reduceAdd, Nat.reduceLT, Nat.reduceLeDiff, Nat.zero_le, id, lstK_ok, tupK_ok]
        exact q
      | false =>
        rw [hm, if_neg (by simp)] at q
        try simp -implicitDefEqProofs only [wp_ok, wp_exc, wp_bind, wp_raise, wp_try, wp_noexc, wp_seq, wp_skip, wp_brk, wp_cnt, wp_retN, wp_ret, wp_set, wp_par, wp_unp, wp_sto, wp_xpr, wp_ite, wp_for, wp_whl, wp_tru, sk_rt, sk_bk, sk_ct, lk_nx, lk_ct, lk_bk, lk_rt, ik_true, ik_false, ev, evs, evo, evi, evc, evd, keyK_str, keyK_int, retK_rt, retK_nx, iteK_true, iteK_false, truK0_bl, truK0_int, truK0_tup, truK0_frl, truK0_non, scK_bl, wp_callK, cmpO, cmp_eq, cmp_ne, cmp_lt, cmp_le, cmp_gt, cmp_ge, cmp_isN, cmp_notN, eqD_int, eqD_str, bin_int, binI_add, binI_sub, of_some, negK_int, setK_nm, setK_tp, setsK, asg, asgs, tgsOf, intK, rngK, srcV_tup, srcV_frl, subO, startE, newR, new, bi_int, bi_abs, bi_len_tup, bi_len_frl,  Option.map_some, Option.map_none, Option.bind_some, List.map_cons, List.map_nil, List.length_cons, List.length_nil, List.length_append, List.length_map, List.length_set, List.cons_append, List.nil_append, List.getElem?_cons_zero, List.getElem?_cons_succ, List.set_cons_zero, List.set_cons_succ, if_true, if_false, Bool.false_eq_true, Bool.true_eq_false, Bool.not_true, Bool.not_false, decide_true, decide_false, Nat.reduceEqDiff, Nat.zero_lt_succ, List.replicate_succ, List.replicate_zero, Nat.reduceSub, Nat.reduceAdd, Nat.reduceLT, Nat.reduceLeDiff, Nat.zero_le, id, lstK_ok, tupK_ok]
        exact q
theorem kind_no {w : W} (g : Gd st w) (h : stepB w = false) {Xe : Exn → Sto → Prop} {Q : W → Sto → Prop} (q : ∀ st', Ext st st' → Xe ⟨"InvalidQuestion", [.int 0]⟩ st') : Wx Xe (Ci.run tab (n + 3) 3 [w] st) Q := by
  refine wp_run (d := d3) rfl rfl ?_
  show Wx Xe (ex _ c3 _ _) _
  unfold c3
  try simp -implicitDefEqProofs only [wp_ok, wp_exc, wp_bind, wp_raise, wp_try, wp_noexc, wp_seq, wp_skip, wp_brk, wp_cnt, wp_retN, wp_ret, wp_set, wp_par, wp_unp, wp_sto, wp_xpr, wp_ite, wp_for, wp_whl, wp_tru, sk_rt, sk_bk, sk_ct, lk_nx, lk_ct, lk_bk, lk_rt, ik_true, ik_false, ev, evs, evo, evi, evc, evd, keyK_str, keyK_int, retK_rt, retK_nx, iteK_true, iteK_false, truK0_bl, truK0_int, truK0_tup, truK0_frl, truK0_non, scK_bl, wp_callK, cmpO, cmp_eq, cmp_ne, cmp_lt, cmp_le, cmp_gt, cmp_ge, cmp_isN, cmp_notN, eqD_int, eqD_str, bin_int, binI_add, binI_sub, of_some, negK_int, setK_nm, setK_tp, setsK, asg, asgs, tgsOf, intK, rngK, srcV_tup, srcV_frl, subO, startE, newR, new, bi_int, bi_abs, bi_len_tup, bi_len_frl,  Option.map_some, Option.map_none, Option.bind_some, List.map_cons, List.map_nil, List.length_cons, List.length_nil, List.length_append, List.length_map, List.length_set, List.cons_append, List.nil_append, List.getElem?_cons_zero, List.getElem?_cons_succ, List.set_cons_zero, List.set_cons_succ, if_true, if_false, Bool.false_eq_true, Bool.true_eq_false, Bool.not_true, Bool.not_false, decide_true, decide_false, Nat.reduceEqDiff, Nat.zero_lt_succ, List.replicate_succ, List.replicate_zero, Nat.reduceSub, Nat.reduceAdd, Nat.reduceLT, Nat.reduceLeDiff, Nat.zero_le, id, lstK_ok, tupK_ok, d3]
  refine Wp.mono (step_ok (n := n) g) ?_
  rintro r st' ⟨rfl, x⟩
  rw [h]
  try simp -implicitDefEqProofs only [wp_ok, wp_exc, wp_bind, wp_raise, wp_try, wp_noexc, wp_seq, wp_skip, wp_brk, wp_cnt, wp_retN, wp_ret, wp_set, wp_par, wp_unp, wp_sto, wp_xpr, wp_ite, wp_for, wp_whl, wp_tru, sk_rt, sk_bk, sk_ct, lk_nx, lk_ct, lk_bk, lk_rt, ik_true, ik_false, ev, evs, evo, evi, evc, evd, keyK_str, keyK_int, retK_rt, retK_nx, iteK_true, iteK_false, truK0_bl, truK0_int, truK0_tup, truK0_frl, truK0_non, scK_bl, wp_callK, cmpO, cmp_eq, cmp_ne, cmp_lt, cmp_le, cmp_gt, cmp_ge, cmp_isN, cmp_notN, eqD_int, eqD_str, bin_int, binI_add, binI_sub, of_some, negK_int, setK_nm, setK_tp, setsK, asg, asgs, tgsOf, intK, rngK, srcV_tup, srcV_frl, subO, startE, newR, new, bi_int, bi_abs, bi_len_tup, bi_len_frl,  Option.map_some, Option.map_none, Option.bind_some, List.map_cons, List.map_nil, List.length_cons, List.length_nil, List.length_append, List.length_map, List.length_set, List.cons_append, List.nil_append, List.getElem?_cons_zero, List.getElem?_cons_succ, List.set_cons_zero, List.set_cons_succ, if_true, if_false, Bool.false_eq_true, Bool.true_eq_false, Bool.not_true, Bool.not_false, decide_true, decide_false, Nat.reduceEqDiff, Nat.zero_lt_succ, List.replicate_succ, List.replicate_zero, Nat.reduceSub, Nat.reduceAdd, Nat.reduceLT, Nat.reduceLeDiff, Nat.zero_le, id, lstK_ok, tupK_ok]
  exact q st' x
theorem heard_ok {s : Str} {ws : List W} (h : stepB (.tup (.str s :: ws)) = true) : Wx noX (Ci.run tab (n + 4) 9 [.tup (.str s :: ws)] st) fun r st' => r = .str (kindS s) ∧ Ext st st' := by
  refine wp_run (d := d9) rfl rfl ?_
  show Wx noX (ex _ c9 _ _) _
  unfold c9
  have k3 : ∀ (Xe : Exn → Sto → Prop) (w0 : W) (st : Sto) (Q : W → Sto → Prop), Wx Xe (callK (Ci.run tab (n + 3)) 3 (some [0]) [w0] st) Q = Wx Xe (Ci.run tab (n + 3) 3 [w0] st) Q := fun _ _ _ _ => rfl
  try simp -implicitDefEqProofs only [wp_ok, wp_exc, wp_bind, wp_raise, wp_try, wp_noexc, wp_seq, wp_skip, wp_brk, wp_cnt, wp_retN, wp_ret, wp_set, wp_par, wp_unp, wp_sto, wp_xpr, wp_ite, wp_for, wp_whl, wp_tru, sk_rt, sk_bk, sk_ct, lk_nx, lk_ct, lk_bk, lk_rt, ik_true, ik_false, ev, evs, evo, evi, evc, evd, keyK_str, keyK_int, retK_rt, retK_nx, iteK_true, iteK_false, truK0_bl, truK0_int, truK0_tup, truK0_frl, truK0_non, scK_bl, wp_callK, cmpO, cmp_eq, cmp_ne, cmp_lt, cmp_le, cmp_gt, cmp_ge, cmp_isN, cmp_notN, eqD_int, eqD_str, bin_int, binI_add, binI_sub, of_some, negK_int, setK_nm, setK_tp, setsK, asg, asgs, tgsOf, intK, rngK, srcV_tup, srcV_frl, subO, startE, newR, new, bi_int, bi_abs, bi_len_tup, bi_len_frl,  Option.map_some, Option.map_none, Option.bind_some, List.map_cons, List.map_nil, List.length_cons, List.length_nil, List.length_append, List.length_map, List.length_set, List.cons_append, List.nil_append, List.getElem?_cons_zero, List.getElem?_cons_succ, List.set_cons_zero, List.set_cons_succ, if_true, if_false, Bool.false_eq_true, Bool.true_eq_false, Bool.not_true, Bool.not_false, decide_true, decide_false, Nat.reduceEqDiff, Nat.zero_lt_succ, List.replicate_succ, List.replicate_zero, Nat.reduceSub, Nat.reduceAdd, Nat.reduceLT, Nat.reduceLeDiff, Nat.zero_le, id, lstK_ok, tupK_ok, d9, k3]
  refine kind_ok h fun st' x => ?_
  try simp -implicitDefEqProofs only [wp_ok, wp_exc, wp_bind, wp_raise, wp_try, wp_noexc, wp_seq, wp_skip, wp_brk, wp_cnt, wp_retN, wp_ret, wp_set, wp_par, wp_unp, wp_sto, wp_xpr, wp_ite, wp_for, wp_whl, wp_tru, sk_rt, sk_bk, sk_ct, lk_nx, lk_ct, lk_bk, lk_rt, ik_true, ik_false, ev, evs, evo, evi, evc, evd, keyK_str, keyK_int, retK_rt, retK_nx, iteK_true, iteK_false, truK0_bl, truK0_int, truK0_tup, truK0_frl, truK0_non, scK_bl, wp_callK, cmpO, cmp_eq, cmp_ne, cmp_lt, cmp_le, cmp_gt, cmp_ge, cmp_isN, cmp_notN, eqD_int, eqD_str, bin_int, binI_add, binI_sub, of_some, negK_int, setK_nm, setK_tp, setsK, asg, asgs, tgsOf, intK, rngK, srcV_tup, srcV_frl, subO, startE, newR, new, bi_int, bi_abs, bi_len_tup, bi_len_frl,  Option.map_some, Option.map_none, Option.bind_some, List.map_cons, List.map_nil, List.length_cons, List.length_nil, List.length_append, List.length_map, List.length_set, List.cons_append, List.nil_append, List.getElem?_cons_zero, List.getElem?_cons_succ, List.set_cons_zero, List.set_cons_succ, if_true, if_false, Bool.false_eq_true, Bool.true_eq_false, Bool.not_true, Bool.not_false, decide_true, decide_false, Nat.reduceEqDiff, Nat.zero_lt_succ, List.replicate_succ, List.replicate_zero, Nat.reduceSub, Nat.reduceAdd, Nat.reduceLT, Nat.reduceLeDiff, Nat.zero_le, id, lstK_ok, tupK_ok]
  exact ⟨by first | rfl | trivial, x⟩
theorem heard_no {w : W} (g : Gd st w) (h : stepB w = false) : Wx noX (Ci.run tab (n + 4) 9 [w] st) (NewL st [.int 0]) := by
  refine wp_run (d := d9) rfl rfl ?_
  show Wx noX (ex _ c9 _ _) _
  unfold c9
  have k3 : ∀ (Xe : Exn → Sto → Prop) (w0 : W) (st : Sto) (Q : W → Sto → Prop), Wx Xe (callK (Ci.run tab (n + 3)) 3 (some [0]) [w0] st) Q = Wx Xe (Ci.run tab (n + 3) 3 [w0] st) Q := fun _ _ _ _ => rfl
  try simp -implicitDefEqProofs only [wp_ok, wp_exc, wp_bind, wp_raise, wp_try, wp_noexc, wp_seq, wp_skip, wp_brk, wp_cnt, wp_retN, wp_ret, wp_set, wp_par, wp_unp, wp_sto, wp_xpr, wp_ite, wp_for, wp_whl, wp_tru, sk_rt, sk_bk, sk_ct, lk_nx, lk_ct, lk_bk, lk_rt, ik_true, ik_false, ev, evs, evo, evi, evc, evd, keyK_str, keyK_int, retK_rt, retK_nx, iteK_true, iteK_false, truK0_bl, truK0_int, truK0_tup, truK0_frl, truK0_non, scK_bl, wp_callK, cmpO, cmp_eq, cmp_ne, cmp_lt, cmp_le, cmp_gt, cmp_ge, cmp_isN, cmp_notN, eqD_int, eqD_str, bin_int, binI_add, binI_sub, of_some, negK_int, setK_nm, setK_tp, setsK, asg, asgs, tgsOf, intK, rngK, srcV_tup, srcV_frl, subO, startE, newR, new, bi_int, bi_abs, bi_len_tup, bi_len_frl,  Option.map_some, Option.map_none, Option.bind_some, List.map_cons, List.map_nil, List.length_cons, List.length_nil, List.length_append, List.length_map, List.length_set, List.cons_append, List.nil_append, List.getElem?_cons_zero, List.getElem?_cons_succ, List.set_cons_zero, List.set_cons_succ, if_true, if_false, Bool.false_eq_true, Bool.true_eq_false, Bool.not_true, Bool.not_false, decide_true, decide_false, Nat.reduceEqDiff, Nat.zero_lt_succ, List.replicate_succ, List.replicate_zero, Nat.reduceSub, Nat.reduceAdd, Nat.reduceLT, Nat.reduceLeDiff, Nat.zero_le, id, lstK_ok, tupK_ok, d9, k3]
  refine kind_no g h fun st' x => ?_
  rw [if_pos (by decide)]
  try simp -implicitDefEqProofs only [wp_ok, wp_exc, wp_bind, wp_raise, wp_try, wp_noexc, wp_seq, wp_skip, wp_brk, wp_cnt, wp_retN, wp_ret, wp_set, wp_par, wp_unp, wp_sto, wp_xpr, wp_ite, wp_for, wp_whl, wp_tru, sk_rt, sk_bk, sk_ct, lk_nx, lk_ct, lk_bk, lk_rt, ik_true, ik_false, ev, evs, evo, evi, evc, evd, keyK_str, keyK_int, retK_rt, retK_nx, iteK_true, iteK_false, truK0_bl, truK0_int, truK0_tup, truK0_frl, truK0_non, scK_bl, wp_callK, cmpO, cmp_eq, cmp_ne, cmp_lt, cmp_le, cmp_gt, cmp_ge, cmp_isN, cmp_notN, eqD_int, eqD_str, bin_int, binI_add, binI_sub, of_some, negK_int, setK_nm, setK_tp, setsK, asg, asgs, tgsOf, intK, rngK, srcV_tup, srcV_frl, subO, startE, newR, new, bi_int, bi_abs, bi_len_tup, bi_len_frl,  Option.map_some, Option.map_none, Option.bind_some, List.map_cons, List.map_nil, List.length_cons, List.length_nil, List.length_append, List.length_map, List.length_set, List.cons_append, List.nil_append, List.getElem?_cons_zero, List.getElem?_cons_succ, List.set_cons_zero, List.set_cons_succ, if_true, if_false, Bool.false_eq_true, Bool.true_eq_false, Bool.not_true, Bool.not_false, decide_true, decide_false, Nat.reduceEqDiff, Nat.zero_lt_succ, List.replicate_succ, List.replicate_zero, Nat.reduceSub, Nat.reduceAdd, Nat.reduceLT, Nat.reduceLeDiff, Nat.zero_le, id, lstK_ok, tupK_ok, hearE, wipeE]
  exact ⟨_, rfl, x.trans Ext.new, x.1, getLast⟩
end
end K42
/-! K42b: papers; the table of words. -/
namespace K42
open PySem Ci Law

section
variable {n : Nat} {st : Sto}
theorem paper_ok {ws : List W} (hl : ws.length ≤ 1000) (g : ∀ w ∈ ws, Gd st w) : Wx noX (Ci.run tab (n + 3) 2 [.tup ws] st) fun r st' => r = .bl (ws.all stepB) ∧ Ext st st' := by
  refine wp_run (d := d2) rfl rfl ?_
  show Wx noX (ex _ c2 _ _) _
  unfold c2
  try simp -implicitDefEqProofs only [wp_ok, wp_exc, wp_bind, wp_raise, wp_try, wp_noexc, wp_seq, wp_skip, wp_brk, wp_cnt, wp_retN, wp_ret, wp_set, wp_par, wp_unp, wp_sto, wp_xpr, wp_ite, wp_for, wp_whl, wp_tru, sk_nx, sk_rt, sk_bk, sk_ct, lk_nx, lk_ct, lk_bk, lk_rt, ik_true, ik_false, ev, evs, evo, evi, evc, evd, keyK_str, keyK_int, retK_rt, retK_nx, iteK_true, iteK_false, truK0_bl, truK0_int, truK0_tup, truK0_frl, truK0_non, scK_bl, wp_callK, cmpO, cmp_eq, cmp_ne, cmp_lt, cmp_le, cmp_gt, cmp_ge, cmp_isN, cmp_notN, eqD_int, eqD_str, bin_int, binI_add, binI_sub, of_some, negK_int, setK_nm, setK_tp, setsK, asg, asgs, tgsOf, intK, rngK, srcV_tup, srcV_frl, subO, startE, newR, new, bi_int, bi_abs, bi_len_tup, bi_len_frl,  Option.map_some, Option.map_none, Option.bind_some, List.map_cons, List.map_nil, List.length_cons, List.length_nil, List.length_append, List.length_map, List.length_set, List.cons_append, List.nil_append, List.getElem?_cons_zero, List.getElem?_cons_succ, List.set_cons_zero, List.set_cons_succ, if_true, if_false, Bool.false_eq_true, Bool.true_eq_false, Bool.not_true, Bool.not_false, decide_true, decide_false, Nat.reduceEqDiff, Nat.zero_lt_succ, List.replicate_succ, List.replicate_zero, Nat.reduceSub, Nat.reduceAdd, Nat.reduceLT, Nat.reduceLeDiff, Nat.zero_le, id, lstK_ok, tupK_ok, d2, isi_int_int, isi_int_bl, isi_int_non, isi_int_str, isi_int_tup, isi_bool_int, isi_bool_bl, isi_tuple_tup, isi_tuple_non, isi_tuple_int, isi_tuple_bl, isi_tuple_str, isi_str_str, isi_str_non, isi_str_int, isi_str_tup]
  refine Wp.mono (wp_lcF ws (by omega) (fun _ => true) (fun w => .bl (stepB w)) (fun k st' _ => rfl) ?_) ?_
  · intro w hw
    refine ⟨_, rfl, fun st' x => ?_⟩
    try simp -implicitDefEqProofs only [wp_ok, wp_exc, wp_bind, wp_raise, wp_try, wp_noexc, wp_seq, wp_skip, wp_brk, wp_cnt, wp_retN, wp_ret, wp_set, wp_par, wp_unp, wp_sto, wp_xpr, wp_ite, wp_for, wp_whl, wp_tru, sk_nx, sk_rt, sk_bk, sk_ct, lk_nx, lk_ct, lk_bk, lk_rt, ik_true, ik_false, ev, evs, evo, evi, evc, evd, keyK_str, keyK_int, retK_rt, retK_nx, iteK_true, iteK_false, truK0_bl, truK0_int, truK0_tup, truK0_frl, truK0_non, scK_bl, wp_callK, cmpO, cmp_eq, cmp_ne, cmp_lt, cmp_le, cmp_gt, cmp_ge, cmp_isN, cmp_notN, eqD_int, eqD_str, bin_int, binI_add, binI_sub, of_some, negK_int, setK_nm, setK_tp, setsK, asg, asgs, tgsOf, intK, rngK, srcV_tup, srcV_frl, subO, startE, newR, new, bi_int, bi_abs, bi_len_tup, bi_len_frl,  Option.map_some, Option.map_none, Option.bind_some, List.map_cons, List.map_nil, List.length_cons, List.length_nil, List.length_append, List.length_map, List.length_set, List.cons_append, List.nil_append, List.getElem?_cons_zero, List.getElem?_cons_succ, List.set_cons_zero, List.set_cons_succ, if_true, if_false, Bool.false_eq_true, Bool.true_eq_false, Bool.not_true, Bool.not_false, decide_true, decide_false, Nat.reduceEqDiff, Nat.zero_lt_succ, List.replicate_succ, List.replicate_zero, Nat.reduceSub, Nat.reduceAdd, Nat.reduceLT, Nat.reduceLeDiff, Nat.zero_le, id, lstK_ok, tupK_ok, wipeE]
    refine ⟨by trivial, Ext.refl, fun _ => ?_⟩
    refine (step_ok (n := n) ((g w hw).ext x)).mono ?_
    rintro r st2 ⟨rfl, x2⟩
    exact ⟨rfl, x2⟩
  rintro r st' ⟨a, rfl, x, la, ga⟩
  rw [List.filter_eq_self.mpr fun _ _ => rfl] at ga
  have hb : bi .all [.ref a] st' = some (.bl (ws.all stepB), st') := by
    have e : st'[a]? = some (.lst ((ws.map stepB).map .bl)) := by rw [List.map_map]; exact ga
    rw [bi_all_lst e, List.all_map]
    rfl
  try simp -implicitDefEqProofs only [wp_ok, wp_exc, wp_bind, wp_raise, wp_try, wp_noexc, wp_seq, wp_skip, wp_brk, wp_cnt, wp_retN, wp_ret, wp_set, wp_par, wp_unp, wp_sto, wp_xpr, wp_ite, wp_for, wp_whl, wp_tru, sk_nx, sk_rt, sk_bk, sk_ct, lk_nx, lk_ct, lk_bk, lk_rt, ik_true, ik_false, ev, evs, evo, evi, evc, evd, keyK_str, keyK_int, retK_rt, retK_nx, iteK_true, iteK_false, truK0_bl, truK0_int, truK0_tup, truK0_frl, truK0_non, scK_bl, wp_callK, cmpO, cmp_eq, cmp_ne, cmp_lt, cmp_le, cmp_gt, cmp_ge, cmp_isN, cmp_notN, eqD_int, eqD_str, bin_int, binI_add, binI_sub, of_some, negK_int, setK_nm, setK_tp, setsK, asg, asgs, tgsOf, intK, rngK, srcV_tup, srcV_frl, subO, startE, newR, new, bi_int, bi_abs, bi_len_tup, bi_len_frl,  Option.map_some, Option.map_none, Option.bind_some, List.map_cons, List.map_nil, List.length_cons, List.length_nil, List.length_append, List.length_map, List.length_set, List.cons_append, List.nil_append, List.getElem?_cons_zero, List.getElem?_cons_succ, List.set_cons_zero, List.set_cons_succ, if_true, if_false, Bool.false_eq_true, Bool.true_eq_false, Bool.not_true, Bool.not_false, decide_true, decide_false, Nat.reduceEqDiff, Nat.zero_lt_succ, List.replicate_succ, List.replicate_zero, Nat.reduceSub, Nat.reduceAdd, Nat.reduceLT, Nat.reduceLeDiff, Nat.zero_le, id, lstK_ok, tupK_ok, hb]
  exact ⟨by trivial, x⟩
theorem paper_no {w : W} (g : Gd st w) (h : ∀ ws, w ≠ .tup ws) : Wx noX (Ci.run tab (n + 3) 2 [w] st) fun r st' => r = .bl false ∧ Ext st st' := by
  refine wp_run (d := d2) rfl rfl ?_
  show Wx noX (ex _ c2 _ _) _
  unfold c2
  cases w with
  | non => try simp -implicitDefEqProofs only [wp_ok, wp_exc, wp_bind, wp_raise, wp_try, wp_noexc, wp_seq, wp_skip, wp_brk, wp_cnt, wp_retN, wp_ret, wp_set, wp_par, wp_unp, wp_sto, wp_xpr, wp_ite, wp_for, wp_whl, wp_tru, sk_nx, sk_rt, sk_bk, sk_ct, lk_nx, lk_ct, lk_bk, lk_rt, ik_true, ik_false, ev, evs, evo, evi, evc, evd, keyK_str, keyK_int, retK_rt, retK_nx, iteK_true, iteK_false, truK0_bl, truK0_int, truK0_tup, truK0_frl, truK0_non, scK_bl, wp_callK, cmpO, cmp_eq, cmp_ne, cmp_lt, cmp_le, cmp_gt, cmp_ge, cmp_isN, cmp_notN, eqD_int, eqD_str, bin_int, binI_add, binI_sub, of_some, negK_int, setK_nm, setK_tp, setsK, asg, asgs, tgsOf, intK, rngK, srcV_tup, srcV_frl, subO, startE, newR, new, bi_int, bi_abs, bi_len_tup, bi_len_frl,  Option.map_some, Option.map_none, Option.bind_some, List.map_cons, List.map_nil, List.length_cons, List.length_nil, List.length_append, List.length_map, List.length_set, List.cons_append, List.nil_append, List.getElem?_cons_zero, List.getElem?_cons_succ, List.set_cons_zero, List.set_cons_succ, if_true, if_false, Bool.false_eq_true, Bool.true_eq_false, Bool.not_true, Bool.not_false, decide_true, decide_false, Nat.reduceEqDiff, Nat.zero_lt_succ, List.replicate_succ, List.replicate_zero, Nat.reduceSub, Nat.reduceAdd, Nat.reduceLT, Nat.reduceLeDiff, Nat.zero_le, id, lstK_ok, tupK_ok, d2, isi_int_int, isi_int_bl, isi_int_non, isi_int_str, isi_int_tup, isi_bool_int, isi_bool_bl, isi_tuple_tup, isi_tuple_non, isi_tuple_int, isi_tuple_bl, isi_tuple_str, isi_str_str, isi_str_non, isi_str_int, isi_str_tup]; exact ⟨by trivial, Ext.refl⟩
  | bl _ => try simp -implicitDefEqProofs only [wp_ok, wp_exc, wp_bind, wp_raise, wp_try, wp_noexc, wp_seq, wp_skip, wp_brk, wp_cnt, wp_retN, wp_ret, wp_set, wp_par, wp_unp, wp_sto, wp_xpr, wp_ite, wp_for, wp_whl, wp_tru, sk_nx, sk_rt, sk_bk, sk_ct, lk_nx, lk_ct, lk_bk, lk_rt, ik_true, ik_false, ev, evs, evo, evi, evc, evd, keyK_str, keyK_int, retK_rt, retK_nx, iteK_true, iteK_false, truK0_bl, truK0_int, truK0_tup, truK0_frl, truK0_non, scK_bl, wp_callK, cmpO, cmp_eq, cmp_ne, cmp_lt, cmp_le, cmp_gt, cmp_ge, cmp_isN, cmp_notN, eqD_int, eqD_str, bin_int, binI_add, binI_sub, of_some, negK_int, setK_nm, setK_tp, setsK, asg, asgs, tgsOf, intK, rngK, srcV_tup, srcV_frl, subO, startE, newR, new, bi_int, bi_abs, bi_len_tup, bi_len_frl,  Option.map_some, Option.map_none, Option.bind_some, List.map_cons, List.map_nil, List.length_cons, List.length_nil, List.length_append, List.length_map, List.length_set, List.cons_append, List.nil_append, List.getElem?_cons_zero, List.getElem?_cons_succ, List.set_cons_zero, List.set_cons_succ, if_true, if_false, Bool.false_eq_true, Bool.true_eq_false, Bool.not_true, Bool.not_false, decide_true, decide_false, Nat.reduceEqDiff, Nat.zero_lt_succ, List.replicate_succ, List.replicate_zero, Nat.reduceSub, Nat.reduceAdd, Nat.reduceLT, Nat.reduceLeDiff, Nat.zero_le, id, lstK_ok, tupK_ok, d2, isi_int_int, isi_int_bl, isi_int_non, isi_int_str, isi_int_tup, isi_bool_int, isi_bool_bl, isi_tuple_tup, isi_tuple_non, isi_tuple_int, isi_tuple_bl, isi_tuple_str, isi_str_str, isi_str_non, isi_str_int, isi_str_tup]; exact ⟨by trivial, Ext.refl⟩
  | int _ => try simp -implicitDefEqProofs only [wp_ok, wp_exc, wp_bind, wp_raise, wp_try, wp_noexc, wp_seq, wp_skip, wp_brk, wp_cnt, wp_retN, wp_ret, wp_set, wp_par, wp_unp, wp_sto, wp_xpr, wp_ite, wp_for, wp_whl, wp_tru, sk_nx, sk_rt, sk_bk, sk_ct, lk_nx, lk_ct, lk_bk, lk_rt, ik_true, ik_false, ev, evs, evo, evi, evc, evd, keyK_str, keyK_int, retK_rt, retK_nx, iteK_true, iteK_false, truK0_bl, truK0_int, truK0_tup, truK0_frl, truK0_non, scK_bl, wp_callK, cmpO, cmp_eq, cmp_ne, cmp_lt, cmp_le, cmp_gt, cmp_ge, cmp_isN, cmp_notN, eqD_int, eqD_str, bin_int, binI_add, binI_sub, of_some, negK_int, setK_nm, setK_tp, setsK, asg, asgs, tgsOf, intK, rngK, srcV_tup, srcV_frl, subO, startE, newR, new, bi_int, bi_abs, bi_len_tup, bi_len_frl,  Option.map_some, Option.map_none, Option.bind_some, List.map_cons, List.map_nil, List.length_cons, List.length_nil, List.length_append, List.length_map, List.length_set, List.cons_append, List.nil_append, List.getElem?_cons_zero, List.getElem?_cons_succ, List.set_cons_zero, List.set_cons_succ, if_true, if_false, Bool.false_eq_true, Bool.true_eq_false, Bool.not_true, Bool.not_false, decide_true, decide_false, Nat.reduceEqDiff, Nat.zero_lt_succ, List.replicate_succ, List.replicate_zero, Nat.reduceSub, Nat.reduceAdd, Nat.reduceLT, Nat.reduceLeDiff, Nat.zero_le, id, lstK_ok, tupK_ok, d2, isi_int_int, isi_int_bl, isi_int_non, isi_int_str, isi_int_tup, isi_bool_int, isi_bool_bl, isi_tuple_tup, isi_tuple_non, isi_tuple_int, isi_tuple_bl, isi_tuple_str, isi_str_str, isi_str_non, isi_str_int, isi_str_tup]; exact ⟨by trivial, Ext.refl⟩
  | str _ => try simp -implicitDefEqProofs only [wp_ok, wp_exc, wp_bind, wp_raise, wp_try, wp_noexc, wp_seq, wp_skip, wp_brk, wp_cnt, wp_retN, wp_ret, wp_set, wp_par, wp_unp, wp_sto, wp_xpr, wp_ite, wp_for, wp_whl, wp_tru, sk_nx, sk_rt, sk_bk, sk_ct, lk_nx, lk_ct, lk_bk, lk_rt, ik_true, ik_false, ev, evs, evo, evi, evc, evd, keyK_str, keyK_int, retK_rt, retK_nx, iteK_true, iteK_false, truK0_bl, truK0_int, truK0_tup, truK0_frl, truK0_non, scK_bl, wp_callK, cmpO, cmp_eq, cmp_ne, cmp_lt, cmp_le, cmp_gt, cmp_ge, cmp_isN, cmp_notN, eqD_int, eqD_str, bin_int, binI_add, binI_sub, of_some, negK_int, setK_nm, setK_tp, setsK, asg, asgs, tgsOf, intK, rngK, srcV_tup, srcV_frl, subO, startE, newR, new, bi_int, bi_abs, bi_len_tup, bi_len_frl,  Option.map_some, Option.map_none, Option.bind_some, List.map_cons, List.map_nil, List.length_cons, List.length_nil, List.length_append, List.length_map, List.length_set, List.cons_append, List.nil_append, List.getElem?_cons_zero, List.getElem?_cons_succ, List.set_cons_zero, List.set_cons_succ, if_true, if_false, Bool.false_eq_true, Bool.true_eq_false, Bool.not_true, Bool.not_false, decide_true, decide_false, Nat.reduceEqDiff, Nat.zero_lt_succ, List.replicate_succ, List.replicate_zero, Nat.reduceSub, Nat.reduceAdd, Nat.reduceLT, Nat.reduceLeDiff, Nat.zero_le, id, lstK_ok, tupK_ok, d2, isi_int_int, isi_int_bl, isi_int_non, isi_int_str, isi_int_tup, isi_bool_int, isi_bool_bl, isi_tuple_tup, isi_tuple_non, isi_tuple_int, isi_tuple_bl, isi_tuple_str, isi_str_str, isi_str_non, isi_str_int, isi_str_tup]; exact ⟨by trivial, Ext.refl⟩
  | frl _ => exact g.elim
  | ref m => try simp -implicitDefEqProofs only [wp_ok, wp_exc, wp_bind, wp_raise, wp_try, wp_noexc, wp_seq, wp_skip, wp_brk, wp_cnt, wp_retN, wp_ret, wp_set, wp_par, wp_unp, wp_sto, wp_xpr, wp_ite, wp_for, wp_whl, wp_tru, sk_nx, sk_rt, sk_bk, sk_ct, lk_nx, lk_ct, lk_bk, lk_rt, ik_true, ik_false, ev, evs, evo, evi, evc, evd, keyK_str, keyK_int, retK_rt, retK_nx, iteK_true, iteK_false, truK0_bl, truK0_int, truK0_tup, truK0_frl, truK0_non, scK_bl, wp_callK, cmpO, cmp_eq, cmp_ne, cmp_lt, cmp_le, cmp_gt, cmp_ge, cmp_isN, cmp_notN, eqD_int, eqD_str, bin_int, binI_add, binI_sub, of_some, negK_int, setK_nm, setK_tp, setsK, asg, asgs, tgsOf, intK, rngK, srcV_tup, srcV_frl, subO, startE, newR, new, bi_int, bi_abs, bi_len_tup, bi_len_frl,  Option.map_some, Option.map_none, Option.bind_some, List.map_cons, List.map_nil, List.length_cons, List.length_nil, List.length_append, List.length_map, List.length_set, List.cons_append, List.nil_append, List.getElem?_cons_zero, List.getElem?_cons_succ, List.set_cons_zero, List.set_cons_succ, if_true, if_false, Bool.false_eq_true, Bool.true_eq_false, Bool.not_true, Bool.not_false, decide_true, decide_false, Nat.reduceEqDiff, Nat.zero_lt_succ, List.replicate_succ, List.replicate_zero, Nat.reduceSub, Nat.reduceAdd, Nat.reduceLT, Nat.reduceLeDiff, Nat.zero_le, id, lstK_ok, tupK_ok, d2, isi_tuple_ref g]; exact ⟨by trivial, Ext.refl⟩
  | tup ws => exact absurd rfl (h ws)
/-- the table's entries -/
def kvT (a b c e : Nat) : List (L2.Key × W) := [(.inr "value", .ref a), (.inr "flow", .ref b), (.inr "memory", .ref c), (.inr "call", .ref e)]
structure Tb (st : Sto) (m a b c e : Nat) : Prop where
  v : st[a]? = some (.lst (vW.map .str))
  f : st[b]? = some (.lst (fW.map .str))
  m : st[c]? = some (.lst (mW.map .str))
  c : st[e]? = some (.lst (cW.map .str))
def cW0 : List Str := ["call_out", "constant_arg", "functions_out", "globals_out", "inline", "merge", "param_drop", "result_drop"]
theorem table_ok : Wx noX (Ci.run tab (n + 1) 8 [] st) fun w st' => ∃ m a b c e, w = .ref m ∧ Ext st st' ∧ st.length ≤ m ∧ st.length ≤ a ∧ st.length ≤ b ∧ st.length ≤ c ∧ st.length ≤ e ∧ st'[m]? = some (.dct (kvT a b c e)) ∧ Tb st' m a b c e ∧ a ≠ m ∧ b ≠ m ∧ c ≠ m ∧ e ≠ m := by
  refine wp_run (d := d8) rfl rfl ?_
  show Wx noX (ex _ c8 _ _) _
  unfold c8
  try simp -implicitDefEqProofs only [wp_ok, wp_exc, wp_bind, wp_raise, wp_try, wp_noexc, wp_seq, wp_skip, wp_brk, wp_cnt, wp_retN, wp_ret, wp_set, wp_par, wp_unp, wp_sto, wp_xpr, wp_ite, wp_for, wp_whl, wp_tru, sk_rt, sk_bk, sk_ct, lk_nx, lk_ct, lk_bk, lk_rt, ik_true, ik_false, ev, evs, evo, evi, evc, evd, keyK_str, keyK_int, retK_rt, retK_nx, iteK_true, iteK_false, truK0_bl, truK0_int, truK0_tup, truK0_frl, truK0_non, scK_bl, wp_callK, cmpO, cmp_eq, cmp_ne, cmp_lt, cmp_le, cmp_gt, cmp_ge, cmp_isN, cmp_notN, eqD_int, eqD_str, bin_int, binI_add, binI_sub, of_some, negK_int, setK_nm, setK_tp, setsK, asg, asgs, tgsOf, intK, rngK, srcV_tup, srcV_frl, subO, startE, newR, new, bi_int, bi_abs, bi_len_tup, bi_len_frl,  Option.map_some, Option.map_none, Option.bind_some, List.map_cons, List.map_nil, List.length_cons, List.length_nil, List.length_append, List.length_map, List.length_set, List.cons_append, List.nil_append, List.getElem?_cons_zero, List.getElem?_cons_succ, List.set_cons_zero, List.set_cons_succ, if_true, if_false, Bool.false_eq_true, Bool.true_eq_false, Bool.not_true, Bool.not_false, decide_true, decide_false, Nat.reduceEqDiff, Nat.zero_lt_succ, List.replicate_succ, List.replicate_zero, Nat.reduceSub, Nat.reduceAdd, Nat.reduceLT, Nat.reduceLeDiff, Nat.zero_le, id, lstK_ok, tupK_ok, d8]
  rw [sk_nx]
  try simp -implicitDefEqProofs only [wp_ok, wp_exc, wp_bind, wp_raise, wp_try, wp_noexc, wp_seq, wp_skip, wp_brk, wp_cnt, wp_retN, wp_ret, wp_set, wp_par, wp_unp, wp_sto, wp_xpr, wp_ite, wp_for, wp_whl, wp_tru, sk_rt, sk_bk, sk_ct, lk_nx, lk_ct, lk_bk, lk_rt, ik_true, ik_false, ev, evs, evo, evi, evc, evd, keyK_str, keyK_int, retK_rt, retK_nx, iteK_true, iteK_false, truK0_bl, truK0_int, truK0_tup, truK0_frl, truK0_non, scK_bl, wp_callK, cmpO, cmp_eq, cmp_ne, cmp_lt, cmp_le, cmp_gt, cmp_ge, cmp_isN, cmp_notN, eqD_int, eqD_str, bin_int, binI_add, binI_sub, of_some, negK_int, setK_nm, setK_tp, setsK, asg, asgs, tgsOf, intK, rngK, srcV_tup, srcV_frl, subO, startE, newR, new, bi_int, bi_abs, bi_len_tup, bi_len_frl,  Option.map_some, Option.map_none, Option.bind_some, List.map_cons, List.map_nil, List.length_cons, List.length_nil, List.length_append, List.length_map, List.length_set, List.cons_append, List.nil_append, List.getElem?_cons_zero, List.getElem?_cons_succ, List.set_cons_zero, List.set_cons_succ, if_true, if_false, Bool.false_eq_true, Bool.true_eq_false, Bool.not_true, Bool.not_false, decide_true, decide_false, Nat.reduceEqDiff, Nat.zero_lt_succ, List.replicate_succ, List.replicate_zero, Nat.reduceSub, Nat.reduceAdd, Nat.reduceLT, Nat.reduceLeDiff, Nat.zero_le, id, lstK_ok, tupK_ok]
  rw [sk_nx]
  try simp -implicitDefEqProofs only [wp_ok, wp_exc, wp_bind, wp_raise, wp_try, wp_noexc, wp_seq, wp_skip, wp_brk, wp_cnt, wp_retN, wp_ret, wp_set, wp_par, wp_unp, wp_sto, wp_xpr, wp_ite, wp_for, wp_whl, wp_tru, sk_rt, sk_bk, sk_ct, lk_nx, lk_ct, lk_bk, lk_rt, ik_true, ik_false, ev, evs, evo, evi, evc, evd, keyK_str, keyK_int, retK_rt, retK_nx, iteK_true, iteK_false, truK0_bl, truK0_int, truK0_tup, truK0_frl, truK0_non, scK_bl, wp_callK, cmpO, cmp_eq, cmp_ne, cmp_lt, cmp_le, cmp_gt, cmp_ge, cmp_isN, cmp_notN, eqD_int, eqD_str, bin_int, binI_add, binI_sub, of_some, negK_int, setK_nm, setK_tp, setsK, asg, asgs, tgsOf, intK, rngK, srcV_tup, srcV_frl, subO, startE, newR, new, bi_int, bi_abs, bi_len_tup, bi_len_frl,  Option.map_some, Option.map_none, Option.bind_some, List.map_cons, List.map_nil, List.length_cons, List.length_nil, List.length_append, List.length_map, List.length_set, List.cons_append, List.nil_append, List.getElem?_cons_zero, List.getElem?_cons_succ, List.set_cons_zero, List.set_cons_succ, if_true, if_false, Bool.false_eq_true, Bool.true_eq_false, Bool.not_true, Bool.not_false, decide_true, decide_false, Nat.reduceEqDiff, Nat.zero_lt_succ, List.replicate_succ, List.replicate_zero, Nat.reduceSub, Nat.reduceAdd, Nat.reduceLT, Nat.reduceLeDiff, Nat.zero_le, id, lstK_ok, tupK_ok]
  rw [sk_nx]
  obtain ⟨s1, h1⟩ : ∃ s, s = st ++ [Ob.lst (vW.map .str)] := ⟨_, rfl⟩
  obtain ⟨s2, h2⟩ : ∃ s, s = s1 ++ [Ob.lst (fW.map .str)] := ⟨_, rfl⟩
  obtain ⟨s3, h3⟩ : ∃ s, s = s2 ++ [Ob.lst (mW.map .str)] := ⟨_, rfl⟩
  obtain ⟨s4, h4⟩ : ∃ s, s = s3 ++ [Ob.lst (cW0.map .str)] := ⟨_, rfl⟩
  have l1 : s1.length = st.length + 1 := by rw [h1]; simp
  have l2 : s2.length = st.length + 1 + 1 := by rw [h2]; simp [l1]
  have l3 : s3.length = st.length + 1 + 1 + 1 := by rw [h3]; simp [l2]
  have l4 : s4.length = st.length + 1 + 1 + 1 + 1 := by rw [h4]; simp [l3]
  have e4 : st ++ [Ob.lst [W.str "put_in", W.str "take_lot", W.str "take_out", W.str "use", W.str "use_in"]] ++ [Ob.lst [W.str "bend", W.str "carry", W.str "drop", W.str "join", W.str "land", W.str "param_out", W.str "pick", W.str "twin"]] ++ [Ob.lst [W.str "forward", W.str "load_out", W.str "promote", W.str "store_out"]] ++ [Ob.lst [W.str "call_out", W.str "constant_arg", W.str "functions_out", W.str "globals_out", W.str "inline", W.str "merge", W.str "param_drop", W.str "result_drop"]] = s4 := by
    rw [h4, h3, h2, h1]; rfl
  have g1 : s4[st.length]? = some (.lst (vW.map .str)) := by rw [h4, h3, h2, h1]; exact getNew (getNew (getNew getLast))
  have g2 : s4[st.length + 1]? = some (.lst (fW.map .str)) := by rw [h4, h3, h2, ← l1]; exact getNew (getNew getLast)
  have g3 : s4[st.length + 1 + 1]? = some (.lst (mW.map .str)) := by rw [h4, h3, ← l2]; exact getNew getLast
  have g4 : s4[st.length + 1 + 1 + 1]? = some (.lst (cW0.map .str)) := by rw [h4, ← l3]; exact getLast
  have x4 : Ext st s4 := by rw [h4, h3, h2, h1]; exact ((Ext.new.trans Ext.new).trans Ext.new).trans Ext.new
  simp only [e4]
  have hd : (s4 ++ [Ob.dct []] ++ [Ob.lst [W.str "result_known", W.str "tail_loop"]])[st.length + 1 + 1 + 1 + 1]? = some (.dct []) := by rw [← l4]; exact getNew getLast
  have l6 : (s4 ++ [Ob.dct []]).length = st.length + 1 + 1 + 1 + 1 + 1 := by simp [l4]
  have b1 : bin .add (.ref (st.length + 1 + 1 + 1)) (.ref (st.length + 1 + 1 + 1 + 1 + 1)) (s4 ++ [Ob.dct []] ++ [Ob.lst [W.str "result_known", W.str "tail_loop"]]) = _ := bin_cat (getNew (getNew g4)) (by rw [← l6]; exact getLast) (by decide)
  try simp -implicitDefEqProofs only [wp_ok, wp_exc, wp_bind, wp_raise, wp_try, wp_noexc, wp_seq, wp_skip, wp_brk, wp_cnt, wp_retN, wp_ret, wp_set, wp_par, wp_unp, wp_sto, wp_xpr, wp_ite, wp_for, wp_whl, wp_tru, sk_rt, sk_bk, sk_ct, lk_nx, lk_ct, lk_bk, lk_rt, ik_true, ik_false, ev, evs, evo, evi, evc, evd, keyK_str, keyK_int, retK_rt, retK_nx, iteK_true, iteK_false, truK0_bl, truK0_int, truK0_tup, truK0_frl, truK0_non, scK_bl, wp_callK, cmpO, cmp_eq, cmp_ne, cmp_lt, cmp_le, cmp_gt, cmp_ge, cmp_isN, cmp_notN, eqD_int, eqD_str, bin_int, binI_add, binI_sub, of_some, negK_int, setK_nm, setK_tp, setsK, asg, asgs, tgsOf, intK, rngK, srcV_tup, srcV_frl, subO, startE, newR, new, bi_int, bi_abs, bi_len_tup, bi_len_frl,  Option.map_some, Option.map_none, Option.bind_some, List.map_cons, List.map_nil, List.length_cons, List.length_nil, List.length_append, List.length_map, List.length_set, List.cons_append, List.nil_append, List.getElem?_cons_zero, List.getElem?_cons_succ, List.set_cons_zero, List.set_cons_succ, if_true, if_false, Bool.false_eq_true, Bool.true_eq_false, Bool.not_true, Bool.not_false, decide_true, decide_false, Nat.reduceEqDiff, Nat.zero_lt_succ, List.replicate_succ, List.replicate_zero, Nat.reduceSub, Nat.reduceAdd, Nat.reduceLT, Nat.reduceLeDiff, Nat.zero_le, id, lstK_ok, tupK_ok, l4, b1, dspK_ok (getNew hd)]
  refine ⟨_, st.length, st.length + 1, st.length + 1 + 1, st.length + 1 + 1 + 1 + 1 + 1 + 1, rfl, ?_, by omega, by omega, by omega, by omega, by omega, ?_, ⟨?_, ?_, ?_, ?_⟩, by omega, by omega, by omega, by omega⟩
  · exact (x4.trans ((Ext.new.trans Ext.new).trans Ext.new)).set (by omega)
  · rw [List.getElem?_set_self (List.getElem?_eq_some_iff.mp (getNew hd)).1]
    rfl
  · rw [List.getElem?_set_ne (by omega)]; exact getNew (getNew (getNew g1))
  · rw [List.getElem?_set_ne (by omega)]; exact getNew (getNew (getNew g2))
  · rw [List.getElem?_set_ne (by omega)]; exact getNew (getNew (getNew g3))
  · rw [List.getElem?_set_ne (by omega)]
    have l7 : (s4 ++ [Ob.dct []] ++ [Ob.lst [W.str "result_known", W.str "tail_loop"]]).length = st.length + 1 + 1 + 1 + 1 + 1 + 1 := by simp [l4]
    rw [← l7]
    exact getLast
end
end K42
/-! K42c: the law holds. -/
namespace K42
open PySem Ci Law

/-- the words of a kind -/
def wordsOf : Str → List Str := fun k => if k = "value" then vW else if k = "flow" then fW else if k = "memory" then mW else cW
def pre : Nat → List Str
  | 0 => []
  | 1 => vW
  | 2 => vW ++ fW
  | 3 => vW ++ fW ++ mW
  | _ => vW ++ fW ++ mW ++ cW
def kinds : List Str := ["value", "flow", "memory", "call"]
theorem kind_eq : ∀ k ∈ kinds, ∀ s ∈ wordsOf k, kindS s = k ∧ stepB (.tup [.str s]) = true := by decide +kernel
theorem all_step : ∀ s ∈ pre 4, (sW.any fun y => y == s) = true := by decide +kernel
theorem sorted_pre : sortS (pre 4) = sW := by decide +kernel
theorem repr_kind : ∀ k ∈ kinds, reprOk (.str k) = true := by decide +kernel
/-- the table stands -/
structure TbD (st : Sto) (d c : Nat) (m : Nat) (p : Nat × Nat × Nat × Nat) : Prop where
  tt : st[m]? = some (.fdc (kvT p.1 p.2.1 p.2.2.1 p.2.2.2)) ∧ m ≠ d ∧ m ≠ c
  ta : Own d c st p.1 (vW.map .str)
  tb : Own d c st p.2.1 (fW.map .str)
  tc : Own d c st p.2.2.1 (mW.map .str)
  te : Own d c st p.2.2.2 (cW.map .str)
theorem TbD.keep {st st' : Sto} {d c m : Nat} {p : Nat × Nat × Nat × Nat} (T : TbD st d c m p) (k : Keep d c st st') : TbD st' d c m p :=
  ⟨⟨k _ _ T.tt.2.1 T.tt.2.2 T.tt.1, T.tt.2⟩, T.ta.keep k, T.tb.keep k, T.tc.keep k, T.te.keep k⟩
theorem TbD.at {st : Sto} {d c m : Nat} {p : Nat × Nat × Nat × Nat} (T : TbD st d c m p) {k : Str} (hk : k ∈ kinds) : ∃ q, sub st (.ref m) (.str k) = some (.ref q) ∧ Own d c st q ((wordsOf k).map .str) := by
  have e : dctOf st (.ref m) = some (kvT p.1 p.2.1 p.2.2.1 p.2.2.2) := by simp only [dctOf, T.tt.1]
  simp only [kinds, List.mem_cons, List.mem_nil_iff, or_false] at hk
  rcases hk with rfl | rfl | rfl | rfl
  · exact ⟨p.1, by simp only [sub, e]; rfl, T.ta⟩
  · exact ⟨p.2.1, by simp only [sub, e]; rfl, T.tb⟩
  · exact ⟨p.2.2.1, by simp only [sub, e]; rfl, T.tc⟩
  · exact ⟨p.2.2.2, by simp only [sub, e]; rfl, T.te⟩
def GdD (d c : Nat) (st : Sto) (w : W) : Prop := Gd st w ∧ ∀ n, w = .ref n → n ≠ d ∧ n ≠ c
theorem GdD.keep {d c : Nat} {st st' : Sto} {w : W} (g : GdD d c st w) (k : Keep d c st st') : GdD d c st' w := by
  refine ⟨?_, g.2⟩
  cases w with
  | ref n =>
    obtain ⟨h1, h2⟩ := g.2 n rfl
    exact g.1.imp (fun ⟨ws, e⟩ => ⟨ws, k _ _ h1 h2 e⟩) fun ⟨ws, e⟩ => ⟨ws, k _ _ h1 h2 e⟩
  | tup ws => have := g.1; cases ws <;> exact this
  | frl ws => exact g.1
  | _ => exact trivial
def body : S := match c10 with
  | .seq _ (.seq _ (.seq _ (.seq _ (.seq (.for_ _ _ b) _)))) => b
  | _ => .skip
def EnOk (ns : List Int) (d m q : Nat) (en : En) : Prop := ∃ x4 x5 x6 x7 x8 x9 x10 : Option W, en = [some (.frl (ns.map .int)), some (.ref d), some (.ref m), some (.ref q), x4, x5, x6, x7, x8, x9, x10]
theorem bl_ne {st : Sto} {x : Bool} : cmp .notN (.bl x) (.bl x) st = some false := by rw [isnot_bl]; simp
theorem mem_str {ss : List Str} {w : W} (h : w ∈ ss.map W.str) : ∃ s, s ∈ ss ∧ w = .str s := let ⟨s, h1, h2⟩ := List.mem_map.mp h; ⟨s, h1, h2.symm⟩
def isI : W → Bool
  | .int _ => true
  | _ => false
def isSt : W → Prop
  | .tup [.str s, .str _] => s ∈ pre 4
  | _ => False
theorem body_ok {ns : List Int} {d c m q : Nat} {p : Nat × Nat × Nat × Nat} {en : En} {st : Sto} {Q : Out → Sto → Prop} (D : Deal st d c) (T : TbD st d c m p) (O : Own d c st q ((pre 4).map .str)) (he : EnOk ns d m q en) :
    Wx noX (ex (Ci.run tab 19) body en st) (Lk (fun e st' => EnOk ns d m q e ∧ Deal st' d c ∧ TbD st' d c m p ∧ Own d c st' q ((pre 4).map .str)) Q) := by
  obtain ⟨x4, x5, x6, x7, x8, x9, x10, rfl⟩ := he
  unfold body c10
  show Wx noX (ex (Ci.run tab 19) (.seq _ _) _ st) _
  try simp -implicitDefEqProofs only [wp_ok, wp_exc, wp_bind, wp_raise, wp_try, wp_noexc, wp_seq, wp_skip, wp_brk, wp_cnt, wp_retN, wp_ret, wp_set, wp_par, wp_unp, wp_sto, wp_xpr, wp_ite, wp_for, wp_whl, wp_tru, sk_rt, sk_bk, sk_ct, lk_nx, lk_ct, lk_bk, lk_rt, ik_true, ik_false, ev, evs, evo, evi, evc, evd, keyK_str, keyK_int, retK_rt, retK_nx, iteK_true, iteK_false, truK0_bl, truK0_int, truK0_tup, truK0_frl, truK0_non, scK_bl, wp_callK, cmpO, cmp_eq, cmp_ne, cmp_lt, cmp_le, cmp_gt, cmp_ge, cmp_isN, cmp_notN, eqD_int, eqD_str, bin_int, binI_add, binI_sub, of_some, negK_int, setK_nm, setK_tp, setsK, asg, asgs, tgsOf, intK, rngK, srcV_tup, srcV_frl, subO, startE, newR, new, bi_int, bi_abs, bi_len_tup, bi_len_frl,  Option.map_some, Option.map_none, Option.bind_some, List.map_cons, List.map_nil, List.length_cons, List.length_nil, List.length_append, List.length_map, List.length_set, List.cons_append, List.nil_append, List.getElem?_cons_zero, List.getElem?_cons_succ, List.set_cons_zero, List.set_cons_succ, if_true, if_false, Bool.false_eq_true, Bool.true_eq_false, Bool.not_true, Bool.not_false, decide_true, decide_false, Nat.reduceEqDiff, Nat.zero_lt_succ, List.replicate_succ, List.replicate_zero, Nat.reduceSub, Nat.reduceAdd, Nat.reduceLT, Nat.reduceLeDiff, Nat.zero_le, id, lstK_ok, tupK_ok]
  refine Wp.mono (of_ok (n := 17) (f := 5) (i := 6) rfl rfl D.new D.own (by decide) (by decide)) ?_
  rintro w1 st1 ⟨hw1, D1, k1⟩
  obtain ⟨kd, hkd, rfl⟩ : ∃ k, k ∈ kinds ∧ w1 = .str k := mem_str hw1
  have T1 := (T.keep Keep.new).keep k1
  have O1 := (O.keep Keep.new).keep k1
  try simp -implicitDefEqProofs only [wp_ok, wp_exc, wp_bind, wp_raise, wp_try, wp_noexc, wp_seq, wp_skip, wp_brk, wp_cnt, wp_retN, wp_ret, wp_set, wp_par, wp_unp, wp_sto, wp_xpr, wp_ite, wp_for, wp_whl, wp_tru, sk_rt, sk_bk, sk_ct, lk_nx, lk_ct, lk_bk, lk_rt, ik_true, ik_false, ev, evs, evo, evi, evc, evd, keyK_str, keyK_int, retK_rt, retK_nx, iteK_true, iteK_false, truK0_bl, truK0_int, truK0_tup, truK0_frl, truK0_non, scK_bl, wp_callK, cmpO, cmp_eq, cmp_ne, cmp_lt, cmp_le, cmp_gt, cmp_ge, cmp_isN, cmp_notN, eqD_int, eqD_str, bin_int, binI_add, binI_sub, of_some, negK_int, setK_nm, setK_tp, setsK, asg, asgs, tgsOf, intK, rngK, srcV_tup, srcV_frl, subO, startE, newR, new, bi_int, bi_abs, bi_len_tup, bi_len_frl,  Option.map_some, Option.map_none, Option.bind_some, List.map_cons, List.map_nil, List.length_cons, List.length_nil, List.length_append, List.length_map, List.length_set, List.cons_append, List.nil_append, List.getElem?_cons_zero, List.getElem?_cons_succ, List.set_cons_zero, List.set_cons_succ, if_true, if_false, Bool.false_eq_true, Bool.true_eq_false, Bool.not_true, Bool.not_false, decide_true, decide_false, Nat.reduceEqDiff, Nat.zero_lt_succ, List.replicate_succ, List.replicate_zero, Nat.reduceSub, Nat.reduceAdd, Nat.reduceLT, Nat.reduceLeDiff, Nat.zero_le, id, lstK_ok, tupK_ok]
  rw [sk_nx]
  obtain ⟨qk, eq, Oq⟩ := T1.at hkd
  have hwl : 0 < ((wordsOf kd).map W.str).length ∧ ((wordsOf kd).map W.str).length < 1073741824 := by
    have : ∀ k ∈ kinds, 0 < (wordsOf k).length ∧ (wordsOf k).length < 100 := by decide
    have := this kd hkd
    rw [List.length_map]
    omega
  try simp -implicitDefEqProofs only [wp_ok, wp_exc, wp_bind, wp_raise, wp_try, wp_noexc, wp_seq, wp_skip, wp_brk, wp_cnt, wp_retN, wp_ret, wp_set, wp_par, wp_unp, wp_sto, wp_xpr, wp_ite, wp_for, wp_whl, wp_tru, sk_rt, sk_bk, sk_ct, lk_nx, lk_ct, lk_bk, lk_rt, ik_true, ik_false, ev, evs, evo, evi, evc, evd, keyK_str, keyK_int, retK_rt, retK_nx, iteK_true, iteK_false, truK0_bl, truK0_int, truK0_tup, truK0_frl, truK0_non, scK_bl, wp_callK, cmpO, cmp_eq, cmp_ne, cmp_lt, cmp_le, cmp_gt, cmp_ge, cmp_isN, cmp_notN, eqD_int, eqD_str, bin_int, binI_add, binI_sub, of_some, negK_int, setK_nm, setK_tp, setsK, asg, asgs, tgsOf, intK, rngK, srcV_tup, srcV_frl, subO, startE, newR, new, bi_int, bi_abs, bi_len_tup, bi_len_frl,  Option.map_some, Option.map_none, Option.bind_some, List.map_cons, List.map_nil, List.length_cons, List.length_nil, List.length_append, List.length_map, List.length_set, List.cons_append, List.nil_append, List.getElem?_cons_zero, List.getElem?_cons_succ, List.set_cons_zero, List.set_cons_succ, if_true, if_false, Bool.false_eq_true, Bool.true_eq_false, Bool.not_true, Bool.not_false, decide_true, decide_false, Nat.reduceEqDiff, Nat.zero_lt_succ, List.replicate_succ, List.replicate_zero, Nat.reduceSub, Nat.reduceAdd, Nat.reduceLT, Nat.reduceLeDiff, Nat.zero_le, id, lstK_ok, tupK_ok, eq]
  refine Wp.mono (of_ok (n := 17) (f := 5) (i := 6) rfl rfl D1 Oq hwl.1 hwl.2) ?_
  rintro w2 st2 ⟨hw2, D2, k2⟩
  obtain ⟨s, hs, rfl⟩ := mem_str hw2
  obtain ⟨ks, ss⟩ := kind_eq kd hkd s hs
  try simp -implicitDefEqProofs only [wp_ok, wp_exc, wp_bind, wp_raise, wp_try, wp_noexc, wp_seq, wp_skip, wp_brk, wp_cnt, wp_retN, wp_ret, wp_set, wp_par, wp_unp, wp_sto, wp_xpr, wp_ite, wp_for, wp_whl, wp_tru, sk_rt, sk_bk, sk_ct, lk_nx, lk_ct, lk_bk, lk_rt, ik_true, ik_false, ev, evs, evo, evi, evc, evd, keyK_str, keyK_int, retK_rt, retK_nx, iteK_true, iteK_false, truK0_bl, truK0_int, truK0_tup, truK0_frl, truK0_non, scK_bl, wp_callK, cmpO, cmp_eq, cmp_ne, cmp_lt, cmp_le, cmp_gt, cmp_ge, cmp_isN, cmp_notN, eqD_int, eqD_str, bin_int, binI_add, binI_sub, of_some, negK_int, setK_nm, setK_tp, setsK, asg, asgs, tgsOf, intK, rngK, srcV_tup, srcV_frl, subO, startE, newR, new, bi_int, bi_abs, bi_len_tup, bi_len_frl,  Option.map_some, Option.map_none, Option.bind_some, List.map_cons, List.map_nil, List.length_cons, List.length_nil, List.length_append, List.length_map, List.length_set, List.cons_append, List.nil_append, List.getElem?_cons_zero, List.getElem?_cons_succ, List.set_cons_zero, List.set_cons_succ, if_true, if_false, Bool.false_eq_true, Bool.true_eq_false, Bool.not_true, Bool.not_false, decide_true, decide_false, Nat.reduceEqDiff, Nat.zero_lt_succ, List.replicate_succ, List.replicate_zero, Nat.reduceSub, Nat.reduceAdd, Nat.reduceLT, Nat.reduceLeDiff, Nat.zero_le, id, lstK_ok, tupK_ok]
  refine Wp.mono (any_ok (n := 18) (i := 5) rfl D2 (by decide) (by decide)) ?_
  rintro w3 st3 ⟨r, rfl, r0, r1, D3, k3⟩
  obtain ⟨j, rfl⟩ := Int.eq_ofNat_of_zero_le r0
  have hrj : rngOf [.int (j : Int)] = some (0, (j : Int)) := rngOf_nat (by omega)
  try simp -implicitDefEqProofs only [wp_ok, wp_exc, wp_bind, wp_raise, wp_try, wp_noexc, wp_seq, wp_skip, wp_brk, wp_cnt, wp_retN, wp_ret, wp_set, wp_par, wp_unp, wp_sto, wp_xpr, wp_ite, wp_for, wp_whl, wp_tru, sk_rt, sk_bk, sk_ct, lk_nx, lk_ct, lk_bk, lk_rt, ik_true, ik_false, ev, evs, evo, evi, evc, evd, keyK_str, keyK_int, retK_rt, retK_nx, iteK_true, iteK_false, truK0_bl, truK0_int, truK0_tup, truK0_frl, truK0_non, scK_bl, wp_callK, cmpO, cmp_eq, cmp_ne, cmp_lt, cmp_le, cmp_gt, cmp_ge, cmp_isN, cmp_notN, eqD_int, eqD_str, bin_int, binI_add, binI_sub, of_some, negK_int, setK_nm, setK_tp, setsK, asg, asgs, tgsOf, intK, rngK, srcV_tup, srcV_frl, subO, startE, newR, new, bi_int, bi_abs, bi_len_tup, bi_len_frl,  Option.map_some, Option.map_none, Option.bind_some, List.map_cons, List.map_nil, List.length_cons, List.length_nil, List.length_append, List.length_map, List.length_set, List.cons_append, List.nil_append, List.getElem?_cons_zero, List.getElem?_cons_succ, List.set_cons_zero, List.set_cons_succ, if_true, if_false, Bool.false_eq_true, Bool.true_eq_false, Bool.not_true, Bool.not_false, decide_true, decide_false, Nat.reduceEqDiff, Nat.zero_lt_succ, List.replicate_succ, List.replicate_zero, Nat.reduceSub, Nat.reduceAdd, Nat.reduceLT, Nat.reduceLeDiff, Nat.zero_le, id, lstK_ok, tupK_ok, hrj]
  refine wp_lcD (d := d) (c := c) (rngW 0 (j : Int)) (by rw [rngW_len]; omega) (fun y => isI y = true) D3 (fun _ _ _ => rfl) (fun _ _ => rfl) ?_ ?_
  · intro w hw
    refine ⟨_, rfl, fun st' D' k' => ?_⟩
    try simp -implicitDefEqProofs only [wp_ok, wp_exc, wp_bind, wp_raise, wp_try, wp_noexc, wp_seq, wp_skip, wp_brk, wp_cnt, wp_retN, wp_ret, wp_set, wp_par, wp_unp, wp_sto, wp_xpr, wp_ite, wp_for, wp_whl, wp_tru, sk_rt, sk_bk, sk_ct, lk_nx, lk_ct, lk_bk, lk_rt, ik_true, ik_false, ev, evs, evo, evi, evc, evd, keyK_str, keyK_int, retK_rt, retK_nx, iteK_true, iteK_false, truK0_bl, truK0_int, truK0_tup, truK0_frl, truK0_non, scK_bl, wp_callK, cmpO, cmp_eq, cmp_ne, cmp_lt, cmp_le, cmp_gt, cmp_ge, cmp_isN, cmp_notN, eqD_int, eqD_str, bin_int, binI_add, binI_sub, of_some, negK_int, setK_nm, setK_tp, setsK, asg, asgs, tgsOf, intK, rngK, srcV_tup, srcV_frl, subO, startE, newR, new, bi_int, bi_abs, bi_len_tup, bi_len_frl,  Option.map_some, Option.map_none, Option.bind_some, List.map_cons, List.map_nil, List.length_cons, List.length_nil, List.length_append, List.length_map, List.length_set, List.cons_append, List.nil_append, List.getElem?_cons_zero, List.getElem?_cons_succ, List.set_cons_zero, List.set_cons_succ, if_true, if_false, Bool.false_eq_true, Bool.true_eq_false, Bool.not_true, Bool.not_false, decide_true, decide_false, Nat.reduceEqDiff, Nat.zero_lt_succ, List.replicate_succ, List.replicate_zero, Nat.reduceSub, Nat.reduceAdd, Nat.reduceLT, Nat.reduceLeDiff, Nat.zero_le, id, lstK_ok, tupK_ok, wipeE]
    refine Wp.mono (any_ok (n := 18) (i := 5) rfl D' (by decide) (by decide)) ?_
    rintro w4 st4 ⟨r4, rfl, -, -, D4, k4⟩
    exact ⟨rfl, D4, k4⟩
  intro acc st4 hacc hP D4 k4 Oacc
  rw [rngW_len] at hacc
  have b1 : bin .add (.tup [.str s]) (.tup acc) st4 = some (.tup (.str s :: acc), st4) := bin_tup (by show 1 + acc.length ≤ _; omega)
  try simp -implicitDefEqProofs only [wp_ok, wp_exc, wp_bind, wp_raise, wp_try, wp_noexc, wp_seq, wp_skip, wp_brk, wp_cnt, wp_retN, wp_ret, wp_set, wp_par, wp_unp, wp_sto, wp_xpr, wp_ite, wp_for, wp_whl, wp_tru, sk_rt, sk_bk, sk_ct, lk_nx, lk_ct, lk_bk, lk_rt, ik_true, ik_false, ev, evs, evo, evi, evc, evd, keyK_str, keyK_int, retK_rt, retK_nx, iteK_true, iteK_false, truK0_bl, truK0_int, truK0_tup, truK0_frl, truK0_non, scK_bl, wp_callK, cmpO, cmp_eq, cmp_ne, cmp_lt, cmp_le, cmp_gt, cmp_ge, cmp_isN, cmp_notN, eqD_int, eqD_str, bin_int, binI_add, binI_sub, of_some, negK_int, setK_nm, setK_tp, setsK, asg, asgs, tgsOf, intK, rngK, srcV_tup, srcV_frl, subO, startE, newR, new, bi_int, bi_abs, bi_len_tup, bi_len_frl,  Option.map_some, Option.map_none, Option.bind_some, List.map_cons, List.map_nil, List.length_cons, List.length_nil, List.length_append, List.length_map, List.length_set, List.cons_append, List.nil_append, List.getElem?_cons_zero, List.getElem?_cons_succ, List.set_cons_zero, List.set_cons_succ, if_true, if_false, Bool.false_eq_true, Bool.true_eq_false, Bool.not_true, Bool.not_false, decide_true, decide_false, Nat.reduceEqDiff, Nat.zero_lt_succ, List.replicate_succ, List.replicate_zero, Nat.reduceSub, Nat.reduceAdd, Nat.reduceLT, Nat.reduceLeDiff, Nat.zero_le, id, lstK_ok, tupK_ok, bi_tuple_lst Oacc.1, b1]
  rw [sk_nx]
  have T4 := ((T1.keep k2).keep k3).keep k4
  have O4 := ((O1.keep k2).keep k3).keep k4
  have sB : stepB (.tup (.str s :: acc)) = true := ss
  have hrk : ∀ st : Sto, bi .repr [.str kd] st = some (.str (PyData.str kd).shown, st) := fun st => bi_repr rfl (repr_kind kd hkd)
  try simp -implicitDefEqProofs only [wp_ok, wp_exc, wp_bind, wp_raise, wp_try, wp_noexc, wp_seq, wp_skip, wp_brk, wp_cnt, wp_retN, wp_ret, wp_set, wp_par, wp_unp, wp_sto, wp_xpr, wp_ite, wp_for, wp_whl, wp_tru, sk_rt, sk_bk, sk_ct, lk_nx, lk_ct, lk_bk, lk_rt, ik_true, ik_false, ev, evs, evo, evi, evc, evd, keyK_str, keyK_int, retK_rt, retK_nx, iteK_true, iteK_false, truK0_bl, truK0_int, truK0_tup, truK0_frl, truK0_non, scK_bl, wp_callK, cmpO, cmp_eq, cmp_ne, cmp_lt, cmp_le, cmp_gt, cmp_ge, cmp_isN, cmp_notN, eqD_int, eqD_str, bin_int, binI_add, binI_sub, of_some, negK_int, setK_nm, setK_tp, setsK, asg, asgs, tgsOf, intK, rngK, srcV_tup, srcV_frl, subO, startE, newR, new, bi_int, bi_abs, bi_len_tup, bi_len_frl,  Option.map_some, Option.map_none, Option.bind_some, List.map_cons, List.map_nil, List.length_cons, List.length_nil, List.length_append, List.length_map, List.length_set, List.cons_append, List.nil_append, List.getElem?_cons_zero, List.getElem?_cons_succ, List.set_cons_zero, List.set_cons_succ, if_true, if_false, Bool.false_eq_true, Bool.true_eq_false, Bool.not_true, Bool.not_false, decide_true, decide_false, Nat.reduceEqDiff, Nat.zero_lt_succ, List.replicate_succ, List.replicate_zero, Nat.reduceSub, Nat.reduceAdd, Nat.reduceLT, Nat.reduceLeDiff, Nat.zero_le, id, lstK_ok, tupK_ok]
  refine Wp.mono (heard_ok (n := 15) sB) ?_
  rintro w5 st5 ⟨rfl, x5'⟩
  rw [ks]
  try simp -implicitDefEqProofs only [wp_ok, wp_exc, wp_bind, wp_raise, wp_try, wp_noexc, wp_seq, wp_skip, wp_brk, wp_cnt, wp_retN, wp_ret, wp_set, wp_par, wp_unp, wp_sto, wp_xpr, wp_ite, wp_for, wp_whl, wp_tru, sk_rt, sk_bk, sk_ct, lk_nx, lk_ct, lk_bk, lk_rt, ik_true, ik_false, ev, evs, evo, evi, evc, evd, keyK_str, keyK_int, retK_rt, retK_nx, iteK_true, iteK_false, truK0_bl, truK0_int, truK0_tup, truK0_frl, truK0_non, scK_bl, wp_callK, cmpO, cmp_eq, cmp_ne, cmp_lt, cmp_le, cmp_gt, cmp_ge, cmp_isN, cmp_notN, eqD_int, eqD_str, bin_int, binI_add, binI_sub, of_some, negK_int, setK_nm, setK_tp, setsK, asg, asgs, tgsOf, intK, rngK, srcV_tup, srcV_frl, subO, startE, newR, new, bi_int, bi_abs, bi_len_tup, bi_len_frl,  Option.map_some, Option.map_none, Option.bind_some, List.map_cons, List.map_nil, List.length_cons, List.length_nil, List.length_append, List.length_map, List.length_set, List.cons_append, List.nil_append, List.getElem?_cons_zero, List.getElem?_cons_succ, List.set_cons_zero, List.set_cons_succ, if_true, if_false, Bool.false_eq_true, Bool.true_eq_false, Bool.not_true, Bool.not_false, decide_true, decide_false, Nat.reduceEqDiff, Nat.zero_lt_succ, List.replicate_succ, List.replicate_zero, Nat.reduceSub, Nat.reduceAdd, Nat.reduceLT, Nat.reduceLeDiff, Nat.zero_le, id, lstK_ok, tupK_ok, hrk, beq_str, Bool.not_true]
  rw [sk_nx]
  have D5 := D4.ext x5'
  have T5 := T4.keep x5'.keep
  have O5 := O4.keep x5'.keep
  -- what is none
  have e0 : ∀ st : Sto, sub st (.tup (.str s :: acc)) (.int 0) = some (.str s) := fun st => by rw [sub_tup, atW_0]; rfl
  have sl1 : ∀ st : Sto, slW (.tup (.str s :: acc)) (some 1) none st = some (.tup acc, st) := fun st => by
    rw [slW_tup, show (some 1 : Option Int) = some ((1 : Nat) : Int) from rfl, cut_drop]; rfl
  have b2 : ∀ st : Sto, bin .add (.tup [.str "Use"]) (.tup acc) st = some (.tup (.str "Use" :: acc), st) := fun st => bin_tup (by show 1 + acc.length ≤ _; omega)
  have hdd : (st5 ++ [Ob.lst (.str s :: acc)] ++ [Ob.dct []])[(st5 ++ [Ob.lst (.str s :: acc)]).length]? = some (.dct []) := getLast
  have hdk : dspK (st5.length + 1) [] (st5 ++ [Ob.lst (W.str s :: acc)] ++ [Ob.dct []]) = .ok (.ref (st5.length + 1)) (st5 ++ [Ob.lst (W.str s :: acc)] ++ [Ob.dct []]) := by
    have := dspK_ok (kvs := []) hdd (by decide)
    rw [show (st5 ++ [Ob.lst (W.str s :: acc)]).length = st5.length + 1 by simp] at this
    rw [this]
    have e : (st5 ++ [Ob.lst (W.str s :: acc)] ++ [Ob.dct []]).set (st5.length + 1) (Ob.dct (mergeW [])) = st5 ++ [Ob.lst (W.str s :: acc)] ++ [Ob.dct []] := by
      have := set_last (st := st5 ++ [Ob.lst (W.str s :: acc)]) (o := Ob.dct []) (u := Ob.dct [])
      rw [show (st5 ++ [Ob.lst (W.str s :: acc)]).length = st5.length + 1 by simp] at this
      exact this
    rw [e]
  try simp -implicitDefEqProofs only [wp_ok, wp_exc, wp_bind, wp_raise, wp_try, wp_noexc, wp_seq, wp_skip, wp_brk, wp_cnt, wp_retN, wp_ret, wp_set, wp_par, wp_unp, wp_sto, wp_xpr, wp_ite, wp_for, wp_whl, wp_tru, sk_rt, sk_bk, sk_ct, lk_nx, lk_ct, lk_bk, lk_rt, ik_true, ik_false, ev, evs, evo, evi, evc, evd, keyK_str, keyK_int, retK_rt, retK_nx, iteK_true, iteK_false, truK0_bl, truK0_int, truK0_tup, truK0_frl, truK0_non, scK_bl, wp_callK, cmpO, cmp_eq, cmp_ne, cmp_lt, cmp_le, cmp_gt, cmp_ge, cmp_isN, cmp_notN, eqD_int, eqD_str, bin_int, binI_add, binI_sub, of_some, negK_int, setK_nm, setK_tp, setsK, asg, asgs, tgsOf, intK, rngK, srcV_tup, srcV_frl, subO, startE, newR, new, bi_int, bi_abs, bi_len_tup, bi_len_frl,  Option.map_some, Option.map_none, Option.bind_some, List.map_cons, List.map_nil, List.length_cons, List.length_nil, List.length_append, List.length_map, List.length_set, List.cons_append, List.nil_append, List.getElem?_cons_zero, List.getElem?_cons_succ, List.set_cons_zero, List.set_cons_succ, if_true, if_false, Bool.false_eq_true, Bool.true_eq_false, Bool.not_true, Bool.not_false, decide_true, decide_false, Nat.reduceEqDiff, Nat.zero_lt_succ, List.replicate_succ, List.replicate_zero, Nat.reduceSub, Nat.reduceAdd, Nat.reduceLT, Nat.reduceLeDiff, Nat.zero_le, id, lstK_ok, tupK_ok, bi_list_tup, e0, sl1, b2, hdk]
  obtain ⟨st6, h6⟩ : ∃ x : Sto, x = st5 ++ [Ob.lst (W.str s :: acc)] ++ [Ob.dct []] := ⟨_, rfl⟩
  have D6 : Deal st6 d c := by rw [h6]; exact D5.new.new
  have k6 : Keep d c st5 st6 := by rw [h6]; exact Keep.new.trans Keep.new
  have g6 : st6[st5.length]? = some (.lst (W.str s :: acc)) := by rw [h6]; exact getNew getLast
  have g6d : st6[st5.length + 1]? = some (.dct []) := by rw [h6, show st5.length + 1 = (st5 ++ [Ob.lst (W.str s :: acc)]).length by simp]; exact getLast
  have l6 : st5.length + 1 + 1 = st6.length := by rw [h6]; simp
  have f5 := D5.fresh
  have f51 := D5.new (o := Ob.lst (W.str s :: acc)) |>.fresh
  rw [show (st5 ++ [Ob.lst (W.str s :: acc)]).length = st5.length + 1 by simp] at f51
  simp only [← h6, l6]
  refine Wp.mono (of_ok (n := 17) (f := 5) (i := 6) rfl rfl D6.new D6.own (by show 0 < 10; decide) (by show 10 < 1073741824; decide)) ?_
  rintro wb st7 ⟨hb, D7, k7⟩
  have k67 : Keep d c st6 st7 := Keep.new.trans k7
  obtain ⟨gb, nb⟩ : GdD d c st7 wb ∧ stepB wb = false := by
    simp only [List.mem_cons, List.mem_nil_iff, or_false] at hb
    rcases hb with rfl | rfl | rfl | rfl | rfl | rfl | rfl | rfl | rfl | rfl
    · exact ⟨GdD.keep ⟨.inl ⟨_, g6⟩, fun n e => by cases e; exact f5⟩ k67, rfl⟩
    · exact ⟨⟨trivial, fun n e => nomatch e⟩, rfl⟩
    · exact ⟨⟨trivial, fun n e => nomatch e⟩, rfl⟩
    · exact ⟨⟨trivial, fun n e => nomatch e⟩, rfl⟩
    · exact ⟨⟨.inl rfl, fun n e => nomatch e⟩, by show (sW.any fun y => y == Str.ofString "Use") = false; decide +kernel⟩
    · exact ⟨⟨.inl rfl, fun n e => nomatch e⟩, rfl⟩
    · exact ⟨⟨.inr ⟨_, rfl⟩, fun n e => nomatch e⟩, rfl⟩
    · exact ⟨⟨.inl rfl, fun n e => nomatch e⟩, by show (sW.any fun y => y == Str.ofString "") = false; decide +kernel⟩
    · exact ⟨⟨.inl rfl, fun n e => nomatch e⟩, rfl⟩
    · exact ⟨GdD.keep ⟨.inr ⟨_, g6d⟩, fun n e => by cases e; exact f51⟩ k67, rfl⟩
  clear hb
  try simp -implicitDefEqProofs only [wp_ok, wp_exc, wp_bind, wp_raise, wp_try, wp_noexc, wp_seq, wp_skip, wp_brk, wp_cnt, wp_retN, wp_ret, wp_set, wp_par, wp_unp, wp_sto, wp_xpr, wp_ite, wp_for, wp_whl, wp_tru, sk_rt, sk_bk, sk_ct, lk_nx, lk_ct, lk_bk, lk_rt, ik_true, ik_false, ev, evs, evo, evi, evc, evd, keyK_str, keyK_int, retK_rt, retK_nx, iteK_true, iteK_false, truK0_bl, truK0_int, truK0_tup, truK0_frl, truK0_non, scK_bl, wp_callK, cmpO, cmp_eq, cmp_ne, cmp_lt, cmp_le, cmp_gt, cmp_ge, cmp_isN, cmp_notN, eqD_int, eqD_str, bin_int, binI_add, binI_sub, of_some, negK_int, setK_nm, setK_tp, setsK, asg, asgs, tgsOf, intK, rngK, srcV_tup, srcV_frl, subO, startE, newR, new, bi_int, bi_abs, bi_len_tup, bi_len_frl,  Option.map_some, Option.map_none, Option.bind_some, List.map_cons, List.map_nil, List.length_cons, List.length_nil, List.length_append, List.length_map, List.length_set, List.cons_append, List.nil_append, List.getElem?_cons_zero, List.getElem?_cons_succ, List.set_cons_zero, List.set_cons_succ, if_true, if_false, Bool.false_eq_true, Bool.true_eq_false, Bool.not_true, Bool.not_false, decide_true, decide_false, Nat.reduceEqDiff, Nat.zero_lt_succ, List.replicate_succ, List.replicate_zero, Nat.reduceSub, Nat.reduceAdd, Nat.reduceLT, Nat.reduceLeDiff, Nat.zero_le, id, lstK_ok, tupK_ok]
  rw [sk_nx]
  have T7 := (T5.keep k6).keep k67
  have O7 := (O5.keep k6).keep k67
  -- a paper
  try simp -implicitDefEqProofs only [wp_ok, wp_exc, wp_bind, wp_raise, wp_try, wp_noexc, wp_seq, wp_skip, wp_brk, wp_cnt, wp_retN, wp_ret, wp_set, wp_par, wp_unp, wp_sto, wp_xpr, wp_ite, wp_for, wp_whl, wp_tru, sk_rt, sk_bk, sk_ct, lk_nx, lk_ct, lk_bk, lk_rt, ik_true, ik_false, ev, evs, evo, evi, evc, evd, keyK_str, keyK_int, retK_rt, retK_nx, iteK_true, iteK_false, truK0_bl, truK0_int, truK0_tup, truK0_frl, truK0_non, scK_bl, wp_callK, cmpO, cmp_eq, cmp_ne, cmp_lt, cmp_le, cmp_gt, cmp_ge, cmp_isN, cmp_notN, eqD_int, eqD_str, bin_int, binI_add, binI_sub, of_some, negK_int, setK_nm, setK_tp, setsK, asg, asgs, tgsOf, intK, rngK, srcV_tup, srcV_frl, subO, startE, newR, new, bi_int, bi_abs, bi_len_tup, bi_len_frl,  Option.map_some, Option.map_none, Option.bind_some, List.map_cons, List.map_nil, List.length_cons, List.length_nil, List.length_append, List.length_map, List.length_set, List.cons_append, List.nil_append, List.getElem?_cons_zero, List.getElem?_cons_succ, List.set_cons_zero, List.set_cons_succ, if_true, if_false, Bool.false_eq_true, Bool.true_eq_false, Bool.not_true, Bool.not_false, decide_true, decide_false, Nat.reduceEqDiff, Nat.zero_lt_succ, List.replicate_succ, List.replicate_zero, Nat.reduceSub, Nat.reduceAdd, Nat.reduceLT, Nat.reduceLeDiff, Nat.zero_le, id, lstK_ok, tupK_ok]
  refine Wp.mono (any_ok (n := 18) (i := 5) rfl D7 (by decide) (by decide)) ?_
  rintro w8 st8 ⟨r8, rfl, r80, r81, D8, k8⟩
  obtain ⟨j8, rfl⟩ := Int.eq_ofNat_of_zero_le r80
  have hrj8 : rngOf [.int (j8 : Int)] = some (0, (j8 : Int)) := rngOf_nat (by omega)
  try simp -implicitDefEqProofs only [wp_ok, wp_exc, wp_bind, wp_raise, wp_try, wp_noexc, wp_seq, wp_skip, wp_brk, wp_cnt, wp_retN, wp_ret, wp_set, wp_par, wp_unp, wp_sto, wp_xpr, wp_ite, wp_for, wp_whl, wp_tru, sk_rt, sk_bk, sk_ct, lk_nx, lk_ct, lk_bk, lk_rt, ik_true, ik_false, ev, evs, evo, evi, evc, evd, keyK_str, keyK_int, retK_rt, retK_nx, iteK_true, iteK_false, truK0_bl, truK0_int, truK0_tup, truK0_frl, truK0_non, scK_bl, wp_callK, cmpO, cmp_eq, cmp_ne, cmp_lt, cmp_le, cmp_gt, cmp_ge, cmp_isN, cmp_notN, eqD_int, eqD_str, bin_int, binI_add, binI_sub, of_some, negK_int, setK_nm, setK_tp, setsK, asg, asgs, tgsOf, intK, rngK, srcV_tup, srcV_frl, subO, startE, newR, new, bi_int, bi_abs, bi_len_tup, bi_len_frl,  Option.map_some, Option.map_none, Option.bind_some, List.map_cons, List.map_nil, List.length_cons, List.length_nil, List.length_append, List.length_map, List.length_set, List.cons_append, List.nil_append, List.getElem?_cons_zero, List.getElem?_cons_succ, List.set_cons_zero, List.set_cons_succ, if_true, if_false, Bool.false_eq_true, Bool.true_eq_false, Bool.not_true, Bool.not_false, decide_true, decide_false, Nat.reduceEqDiff, Nat.zero_lt_succ, List.replicate_succ, List.replicate_zero, Nat.reduceSub, Nat.reduceAdd, Nat.reduceLT, Nat.reduceLeDiff, Nat.zero_le, id, lstK_ok, tupK_ok, hrj8]
  have O8 := O7.keep k8
  refine wp_lcD (d := d) (c := c) (rngW 0 (j8 : Int)) (by rw [rngW_len]; omega) isSt D8 (fun _ _ _ => rfl) (fun _ _ => rfl) ?_ ?_
  · intro w hw
    refine ⟨_, rfl, fun st' D' k' => ?_⟩
    try simp -implicitDefEqProofs only [wp_ok, wp_exc, wp_bind, wp_raise, wp_try, wp_noexc, wp_seq, wp_skip, wp_brk, wp_cnt, wp_retN, wp_ret, wp_set, wp_par, wp_unp, wp_sto, wp_xpr, wp_ite, wp_for, wp_whl, wp_tru, sk_rt, sk_bk, sk_ct, lk_nx, lk_ct, lk_bk, lk_rt, ik_true, ik_false, ev, evs, evo, evi, evc, evd, keyK_str, keyK_int, retK_rt, retK_nx, iteK_true, iteK_false, truK0_bl, truK0_int, truK0_tup, truK0_frl, truK0_non, scK_bl, wp_callK, cmpO, cmp_eq, cmp_ne, cmp_lt, cmp_le, cmp_gt, cmp_ge, cmp_isN, cmp_notN, eqD_int, eqD_str, bin_int, binI_add, binI_sub, of_some, negK_int, setK_nm, setK_tp, setsK, asg, asgs, tgsOf, intK, rngK, srcV_tup, srcV_frl, subO, startE, newR, new, bi_int, bi_abs, bi_len_tup, bi_len_frl,  Option.map_some, Option.map_none, Option.bind_some, List.map_cons, List.map_nil, List.length_cons, List.length_nil, List.length_append, List.length_map, List.length_set, List.cons_append, List.nil_append, List.getElem?_cons_zero, List.getElem?_cons_succ, List.set_cons_zero, List.set_cons_succ, if_true, if_false, Bool.false_eq_true, Bool.true_eq_false, Bool.not_true, Bool.not_false, decide_true, decide_false, Nat.reduceEqDiff, Nat.zero_lt_succ, List.replicate_succ, List.replicate_zero, Nat.reduceSub, Nat.reduceAdd, Nat.reduceLT, Nat.reduceLeDiff, Nat.zero_le, id, lstK_ok, tupK_ok, wipeE]
    refine Wp.mono (of_ok (n := 17) (f := 5) (i := 6) rfl rfl D' (O8.keep k') (by decide) (by decide)) ?_
    rintro w9 st9 ⟨hw9, D9, k9⟩
    obtain ⟨s9, hs9, rfl⟩ := mem_str hw9
    try simp -implicitDefEqProofs only [wp_ok, wp_exc, wp_bind, wp_raise, wp_try, wp_noexc, wp_seq, wp_skip, wp_brk, wp_cnt, wp_retN, wp_ret, wp_set, wp_par, wp_unp, wp_sto, wp_xpr, wp_ite, wp_for, wp_whl, wp_tru, sk_rt, sk_bk, sk_ct, lk_nx, lk_ct, lk_bk, lk_rt, ik_true, ik_false, ev, evs, evo, evi, evc, evd, keyK_str, keyK_int, retK_rt, retK_nx, iteK_true, iteK_false, truK0_bl, truK0_int, truK0_tup, truK0_frl, truK0_non, scK_bl, wp_callK, cmpO, cmp_eq, cmp_ne, cmp_lt, cmp_le, cmp_gt, cmp_ge, cmp_isN, cmp_notN, eqD_int, eqD_str, bin_int, binI_add, binI_sub, of_some, negK_int, setK_nm, setK_tp, setsK, asg, asgs, tgsOf, intK, rngK, srcV_tup, srcV_frl, subO, startE, newR, new, bi_int, bi_abs, bi_len_tup, bi_len_frl,  Option.map_some, Option.map_none, Option.bind_some, List.map_cons, List.map_nil, List.length_cons, List.length_nil, List.length_append, List.length_map, List.length_set, List.cons_append, List.nil_append, List.getElem?_cons_zero, List.getElem?_cons_succ, List.set_cons_zero, List.set_cons_succ, if_true, if_false, Bool.false_eq_true, Bool.true_eq_false, Bool.not_true, Bool.not_false, decide_true, decide_false, Nat.reduceEqDiff, Nat.zero_lt_succ, List.replicate_succ, List.replicate_zero, Nat.reduceSub, Nat.reduceAdd, Nat.reduceLT, Nat.reduceLeDiff, Nat.zero_le, id, lstK_ok, tupK_ok]
    exact ⟨hs9, D9, k9⟩
  intro pap st9 hpap hPp D9 k9 Opap
  rw [rngW_len] at hpap
  try simp -implicitDefEqProofs only [wp_ok, wp_exc, wp_bind, wp_raise, wp_try, wp_noexc, wp_seq, wp_skip, wp_brk, wp_cnt, wp_retN, wp_ret, wp_set, wp_par, wp_unp, wp_sto, wp_xpr, wp_ite, wp_for, wp_whl, wp_tru, sk_rt, sk_bk, sk_ct, lk_nx, lk_ct, lk_bk, lk_rt, ik_true, ik_false, ev, evs, evo, evi, evc, evd, keyK_str, keyK_int, retK_rt, retK_nx, iteK_true, iteK_false, truK0_bl, truK0_int, truK0_tup, truK0_frl, truK0_non, scK_bl, wp_callK, cmpO, cmp_eq, cmp_ne, cmp_lt, cmp_le, cmp_gt, cmp_ge, cmp_isN, cmp_notN, eqD_int, eqD_str, bin_int, binI_add, binI_sub, of_some, negK_int, setK_nm, setK_tp, setsK, asg, asgs, tgsOf, intK, rngK, srcV_tup, srcV_frl, subO, startE, newR, new, bi_int, bi_abs, bi_len_tup, bi_len_frl,  Option.map_some, Option.map_none, Option.bind_some, List.map_cons, List.map_nil, List.length_cons, List.length_nil, List.length_append, List.length_map, List.length_set, List.cons_append, List.nil_append, List.getElem?_cons_zero, List.getElem?_cons_succ, List.set_cons_zero, List.set_cons_succ, if_true, if_false, Bool.false_eq_true, Bool.true_eq_false, Bool.not_true, Bool.not_false, decide_true, decide_false, Nat.reduceEqDiff, Nat.zero_lt_succ, List.replicate_succ, List.replicate_zero, Nat.reduceSub, Nat.reduceAdd, Nat.reduceLT, Nat.reduceLeDiff, Nat.zero_le, id, lstK_ok, tupK_ok, bi_tuple_lst Opap.1]
  rw [sk_nx]
  try simp -implicitDefEqProofs only [wp_ok, wp_exc, wp_bind, wp_raise, wp_try, wp_noexc, wp_seq, wp_skip, wp_brk, wp_cnt, wp_retN, wp_ret, wp_set, wp_par, wp_unp, wp_sto, wp_xpr, wp_ite, wp_for, wp_whl, wp_tru, sk_rt, sk_bk, sk_ct, lk_nx, lk_ct, lk_bk, lk_rt, ik_true, ik_false, ev, evs, evo, evi, evc, evd, keyK_str, keyK_int, retK_rt, retK_nx, iteK_true, iteK_false, truK0_bl, truK0_int, truK0_tup, truK0_frl, truK0_non, scK_bl, wp_callK, cmpO, cmp_eq, cmp_ne, cmp_lt, cmp_le, cmp_gt, cmp_ge, cmp_isN, cmp_notN, eqD_int, eqD_str, bin_int, binI_add, binI_sub, of_some, negK_int, setK_nm, setK_tp, setsK, asg, asgs, tgsOf, intK, rngK, srcV_tup, srcV_frl, subO, startE, newR, new, bi_int, bi_abs, bi_len_tup, bi_len_frl,  Option.map_some, Option.map_none, Option.bind_some, List.map_cons, List.map_nil, List.length_cons, List.length_nil, List.length_append, List.length_map, List.length_set, List.cons_append, List.nil_append, List.getElem?_cons_zero, List.getElem?_cons_succ, List.set_cons_zero, List.set_cons_succ, if_true, if_false, Bool.false_eq_true, Bool.true_eq_false, Bool.not_true, Bool.not_false, decide_true, decide_false, Nat.reduceEqDiff, Nat.zero_lt_succ, List.replicate_succ, List.replicate_zero, Nat.reduceSub, Nat.reduceAdd, Nat.reduceLT, Nat.reduceLeDiff, Nat.zero_le, id, lstK_ok, tupK_ok]
  refine Wp.mono (any_ok (n := 18) (i := 5) rfl D9 (by omega) (by rw [show (pap.length : Int) + 1 = ((pap.length + 1 : Nat) : Int) by omega]; exact divOk_len (by omega) (by omega))) ?_
  rintro w10 st10 ⟨r10, rfl, r100, r101, D10, k10⟩
  obtain ⟨at_, rfl⟩ := Int.eq_ofNat_of_zero_le r100
  try simp -implicitDefEqProofs only [wp_ok, wp_exc, wp_bind, wp_raise, wp_try, wp_noexc, wp_seq, wp_skip, wp_brk, wp_cnt, wp_retN, wp_ret, wp_set, wp_par, wp_unp, wp_sto, wp_xpr, wp_ite, wp_for, wp_whl, wp_tru, sk_rt, sk_bk, sk_ct, lk_nx, lk_ct, lk_bk, lk_rt, ik_true, ik_false, ev, evs, evo, evi, evc, evd, keyK_str, keyK_int, retK_rt, retK_nx, iteK_true, iteK_false, truK0_bl, truK0_int, truK0_tup, truK0_frl, truK0_non, scK_bl, wp_callK, cmpO, cmp_eq, cmp_ne, cmp_lt, cmp_le, cmp_gt, cmp_ge, cmp_isN, cmp_notN, eqD_int, eqD_str, bin_int, binI_add, binI_sub, of_some, negK_int, setK_nm, setK_tp, setsK, asg, asgs, tgsOf, intK, rngK, srcV_tup, srcV_frl, subO, startE, newR, new, bi_int, bi_abs, bi_len_tup, bi_len_frl,  Option.map_some, Option.map_none, Option.bind_some, List.map_cons, List.map_nil, List.length_cons, List.length_nil, List.length_append, List.length_map, List.length_set, List.cons_append, List.nil_append, List.getElem?_cons_zero, List.getElem?_cons_succ, List.set_cons_zero, List.set_cons_succ, if_true, if_false, Bool.false_eq_true, Bool.true_eq_false, Bool.not_true, Bool.not_false, decide_true, decide_false, Nat.reduceEqDiff, Nat.zero_lt_succ, List.replicate_succ, List.replicate_zero, Nat.reduceSub, Nat.reduceAdd, Nat.reduceLT, Nat.reduceLeDiff, Nat.zero_le, id, lstK_ok, tupK_ok]
  rw [sk_nx]
  have gp : ∀ (st : Sto), ∀ w ∈ pap, Gd st w ∧ stepB w = true := fun st w hw => by
    have := hPp w hw
    match w, this with
    | .tup [.str s, .str _], h => exact ⟨.inl rfl, all_step s h⟩
  have hall : pap.all stepB = true := List.all_eq_true.mpr fun w hw => (gp st10 w hw).2
  have k2' : ∀ (Xe : Exn → Sto → Prop) (w0 : W) (st : Sto) (Q : W → Sto → Prop), Wx Xe (callK (Ci.run tab 19) 2 (some [0]) [w0] st) Q = Wx Xe (Ci.run tab 19 2 [w0] st) Q := fun _ _ _ _ => rfl
  try simp -implicitDefEqProofs only [wp_ok, wp_exc, wp_bind, wp_raise, wp_try, wp_noexc, wp_seq, wp_skip, wp_brk, wp_cnt, wp_retN, wp_ret, wp_set, wp_par, wp_unp, wp_sto, wp_xpr, wp_ite, wp_for, wp_whl, wp_tru, sk_rt, sk_bk, sk_ct, lk_nx, lk_ct, lk_bk, lk_rt, ik_true, ik_false, ev, evs, evo, evi, evc, evd, keyK_str, keyK_int, retK_rt, retK_nx, iteK_true, iteK_false, truK0_bl, truK0_int, truK0_tup, truK0_frl, truK0_non, scK_bl, wp_callK, cmpO, cmp_eq, cmp_ne, cmp_lt, cmp_le, cmp_gt, cmp_ge, cmp_isN, cmp_notN, eqD_int, eqD_str, bin_int, binI_add, binI_sub, of_some, negK_int, setK_nm, setK_tp, setsK, asg, asgs, tgsOf, intK, rngK, srcV_tup, srcV_frl, subO, startE, newR, new, bi_int, bi_abs, bi_len_tup, bi_len_frl,  Option.map_some, Option.map_none, Option.bind_some, List.map_cons, List.map_nil, List.length_cons, List.length_nil, List.length_append, List.length_map, List.length_set, List.cons_append, List.nil_append, List.getElem?_cons_zero, List.getElem?_cons_succ, List.set_cons_zero, List.set_cons_succ, if_true, if_false, Bool.false_eq_true, Bool.true_eq_false, Bool.not_true, Bool.not_false, decide_true, decide_false, Nat.reduceEqDiff, Nat.zero_lt_succ, List.replicate_succ, List.replicate_zero, Nat.reduceSub, Nat.reduceAdd, Nat.reduceLT, Nat.reduceLeDiff, Nat.zero_le, id, lstK_ok, tupK_ok, k2']
  refine Wp.mono (paper_ok (n := 16) (by omega) fun w hw => (gp st10 w hw).1) ?_
  rintro w11 st11 ⟨rfl, x11⟩
  rw [hall]
  try simp -implicitDefEqProofs only [wp_ok, wp_exc, wp_bind, wp_raise, wp_try, wp_noexc, wp_seq, wp_skip, wp_brk, wp_cnt, wp_retN, wp_ret, wp_set, wp_par, wp_unp, wp_sto, wp_xpr, wp_ite, wp_for, wp_whl, wp_tru, sk_rt, sk_bk, sk_ct, lk_nx, lk_ct, lk_bk, lk_rt, ik_true, ik_false, ev, evs, evo, evi, evc, evd, keyK_str, keyK_int, retK_rt, retK_nx, iteK_true, iteK_false, truK0_bl, truK0_int, truK0_tup, truK0_frl, truK0_non, scK_bl, wp_callK, cmpO, cmp_eq, cmp_ne, cmp_lt, cmp_le, cmp_gt, cmp_ge, cmp_isN, cmp_notN, eqD_int, eqD_str, bin_int, binI_add, binI_sub, of_some, negK_int, setK_nm, setK_tp, setsK, asg, asgs, tgsOf, intK, rngK, srcV_tup, srcV_frl, subO, startE, newR, new, bi_int, bi_abs, bi_len_tup, bi_len_frl,  Option.map_some, Option.map_none, Option.bind_some, List.map_cons, List.map_nil, List.length_cons, List.length_nil, List.length_append, List.length_map, List.length_set, List.cons_append, List.nil_append, List.getElem?_cons_zero, List.getElem?_cons_succ, List.set_cons_zero, List.set_cons_succ, if_true, if_false, Bool.false_eq_true, Bool.true_eq_false, Bool.not_true, Bool.not_false, decide_true, decide_false, Nat.reduceEqDiff, Nat.zero_lt_succ, List.replicate_succ, List.replicate_zero, Nat.reduceSub, Nat.reduceAdd, Nat.reduceLT, Nat.reduceLeDiff, Nat.zero_le, id, lstK_ok, tupK_ok, bl_ne, bi_list_tup]
  refine Wp.mono (paper_no (n := 16) (.inl ⟨_, getLast⟩) fun ws e => nomatch e) ?_
  rintro w12 st12 ⟨rfl, x12⟩
  try simp -implicitDefEqProofs only [wp_ok, wp_exc, wp_bind, wp_raise, wp_try, wp_noexc, wp_seq, wp_skip, wp_brk, wp_cnt, wp_retN, wp_ret, wp_set, wp_par, wp_unp, wp_sto, wp_xpr, wp_ite, wp_for, wp_whl, wp_tru, sk_rt, sk_bk, sk_ct, lk_nx, lk_ct, lk_bk, lk_rt, ik_true, ik_false, ev, evs, evo, evi, evc, evd, keyK_str, keyK_int, retK_rt, retK_nx, iteK_true, iteK_false, truK0_bl, truK0_int, truK0_tup, truK0_frl, truK0_non, scK_bl, wp_callK, cmpO, cmp_eq, cmp_ne, cmp_lt, cmp_le, cmp_gt, cmp_ge, cmp_isN, cmp_notN, eqD_int, eqD_str, bin_int, binI_add, binI_sub, of_some, negK_int, setK_nm, setK_tp, setsK, asg, asgs, tgsOf, intK, rngK, srcV_tup, srcV_frl, subO, startE, newR, new, bi_int, bi_abs, bi_len_tup, bi_len_frl,  Option.map_some, Option.map_none, Option.bind_some, List.map_cons, List.map_nil, List.length_cons, List.length_nil, List.length_append, List.length_map, List.length_set, List.cons_append, List.nil_append, List.getElem?_cons_zero, List.getElem?_cons_succ, List.set_cons_zero, List.set_cons_succ, if_true, if_false, Bool.false_eq_true, Bool.true_eq_false, Bool.not_true, Bool.not_false, decide_true, decide_false, Nat.reduceEqDiff, Nat.zero_lt_succ, List.replicate_succ, List.replicate_zero, Nat.reduceSub, Nat.reduceAdd, Nat.reduceLT, Nat.reduceLeDiff, Nat.zero_le, id, lstK_ok, tupK_ok, bl_ne]
  have k79 : Keep d c st7 st12 := k8.trans (k9.trans (k10.trans ((x11.trans (Ext.new.trans x12)).keep)))
  have gb12 := gb.keep k79
  refine Wp.mono (heard_no (n := 15) gb12.1 nb) ?_
  rintro w13 st13 ⟨q13, rfl, x13, l13, g13⟩
  have eq13 : eqD (st13 ++ [Ob.lst [.int 0]]) (.ref q13) (.ref st13.length) = some true := by
    have e := eqD_ints (st := st13 ++ [Ob.lst [.int 0]]) (a := q13) (b := st13.length) (ns := [0]) (ms := [0]) (getNew g13) getLast
    exact e.trans rfl
  try simp -implicitDefEqProofs only [wp_ok, wp_exc, wp_bind, wp_raise, wp_try, wp_noexc, wp_seq, wp_skip, wp_brk, wp_cnt, wp_retN, wp_ret, wp_set, wp_par, wp_unp, wp_sto, wp_xpr, wp_ite, wp_for, wp_whl, wp_tru, sk_rt, sk_bk, sk_ct, lk_nx, lk_ct, lk_bk, lk_rt, ik_true, ik_false, ev, evs, evo, evi, evc, evd, keyK_str, keyK_int, retK_rt, retK_nx, iteK_true, iteK_false, truK0_bl, truK0_int, truK0_tup, truK0_frl, truK0_non, scK_bl, wp_callK, cmpO, cmp_eq, cmp_ne, cmp_lt, cmp_le, cmp_gt, cmp_ge, cmp_isN, cmp_notN, eqD_int, eqD_str, bin_int, binI_add, binI_sub, of_some, negK_int, setK_nm, setK_tp, setsK, asg, asgs, tgsOf, intK, rngK, srcV_tup, srcV_frl, subO, startE, newR, new, bi_int, bi_abs, bi_len_tup, bi_len_frl,  Option.map_some, Option.map_none, Option.bind_some, List.map_cons, List.map_nil, List.length_cons, List.length_nil, List.length_append, List.length_map, List.length_set, List.cons_append, List.nil_append, List.getElem?_cons_zero, List.getElem?_cons_succ, List.set_cons_zero, List.set_cons_succ, if_true, if_false, Bool.false_eq_true, Bool.true_eq_false, Bool.not_true, Bool.not_false, decide_true, decide_false, Nat.reduceEqDiff, Nat.zero_lt_succ, List.replicate_succ, List.replicate_zero, Nat.reduceSub, Nat.reduceAdd, Nat.reduceLT, Nat.reduceLeDiff, Nat.zero_le, id, lstK_ok, tupK_ok, eq13]
  rw [sk_nx]
  have D13 : Deal (st13 ++ [Ob.lst [.int 0]]) d c := (D10.ext (x11.trans (Ext.new.trans (x12.trans x13)))).new
  have kf : Keep d c st7 (st13 ++ [Ob.lst [.int 0]]) := k79.trans (x13.keep.trans Keep.new)
  generalize (st13 ++ [Ob.lst [W.int 0]]) = st14 at *
  have hat : at_ ≤ pap.length := by omega
  have s1 : ∀ st : Sto, slW (.tup pap) none (some (at_ : Int)) st = some (.tup (pap.take at_), st) := fun st => by rw [slW_tup, cut_take]
  have s2 : ∀ st : Sto, slW (.tup pap) (some (at_ : Int)) none st = some (.tup (pap.drop at_), st) := fun st => by rw [slW_tup, cut_drop]
  have lt : (pap.take at_).length ≤ 1000 := by rw [List.length_take]; omega
  have ld : (pap.drop at_).length ≤ 1000 := by rw [List.length_drop]; omega
  have b3 : ∀ st : Sto, bin .add (.tup (pap.take at_)) (.tup [wb]) st = some (.tup (pap.take at_ ++ [wb]), st) := fun st => bin_tup (by show _ + 1 ≤ _; omega)
  have b4 : ∀ st : Sto, bin .add (.tup (pap.take at_ ++ [wb])) (.tup (pap.drop at_)) st = some (.tup (pap.take at_ ++ [wb] ++ pap.drop at_), st) := fun st => bin_tup (by rw [List.length_append]; show _ + 1 + _ ≤ _; omega)
  try simp -implicitDefEqProofs only [wp_ok, wp_exc, wp_bind, wp_raise, wp_try, wp_noexc, wp_seq, wp_skip, wp_brk, wp_cnt, wp_retN, wp_ret, wp_set, wp_par, wp_unp, wp_sto, wp_xpr, wp_ite, wp_for, wp_whl, wp_tru, sk_rt, sk_bk, sk_ct, lk_nx, lk_ct, lk_bk, lk_rt, ik_true, ik_false, ev, evs, evo, evi, evc, evd, keyK_str, keyK_int, retK_rt, retK_nx, iteK_true, iteK_false, truK0_bl, truK0_int, truK0_tup, truK0_frl, truK0_non, scK_bl, wp_callK, cmpO, cmp_eq, cmp_ne, cmp_lt, cmp_le, cmp_gt, cmp_ge, cmp_isN, cmp_notN, eqD_int, eqD_str, bin_int, binI_add, binI_sub, of_some, negK_int, setK_nm, setK_tp, setsK, asg, asgs, tgsOf, intK, rngK, srcV_tup, srcV_frl, subO, startE, newR, new, bi_int, bi_abs, bi_len_tup, bi_len_frl,  Option.map_some, Option.map_none, Option.bind_some, List.map_cons, List.map_nil, List.length_cons, List.length_nil, List.length_append, List.length_map, List.length_set, List.cons_append, List.nil_append, List.getElem?_cons_zero, List.getElem?_cons_succ, List.set_cons_zero, List.set_cons_succ, if_true, if_false, Bool.false_eq_true, Bool.true_eq_false, Bool.not_true, Bool.not_false, decide_true, decide_false, Nat.reduceEqDiff, Nat.zero_lt_succ, List.replicate_succ, List.replicate_zero, Nat.reduceSub, Nat.reduceAdd, Nat.reduceLT, Nat.reduceLeDiff, Nat.zero_le, id, lstK_ok, tupK_ok, s1, s2, b3, b4]
  have gb14 := gb.keep kf
  refine Wp.mono (paper_ok (n := 16) (ws := pap.take at_ ++ [wb] ++ pap.drop at_) (by rw [List.length_append, List.length_append]; show _ + 1 + _ ≤ _; rw [List.length_take, List.length_drop]; omega) fun w hw => ?_) ?_
  · rcases List.mem_append.mp hw with hw | hw
    · rcases List.mem_append.mp hw with hw | hw
      · exact (gp st14 w (List.mem_of_mem_take hw)).1
      · rw [List.mem_singleton.mp hw]; exact gb14.1
    · exact (gp st14 w (List.mem_of_mem_drop hw)).1
  rintro w14 st15 ⟨rfl, x15⟩
  rw [List.all_append, List.all_append, show [wb].all stepB = false by simp [nb], Bool.and_false, Bool.false_and]
  have D15 := D13.ext x15
  have hdk2 : dspK st15.length [] (st15 ++ [Ob.dct []]) = .ok (.ref st15.length) (st15 ++ [Ob.dct []]) := by
    rw [dspK_ok (kvs := []) getLast (by decide)]
    rw [show Ob.dct (mergeW []) = Ob.dct [] from rfl, set_last]
  try simp -implicitDefEqProofs only [wp_ok, wp_exc, wp_bind, wp_raise, wp_try, wp_noexc, wp_seq, wp_skip, wp_brk, wp_cnt, wp_retN, wp_ret, wp_set, wp_par, wp_unp, wp_sto, wp_xpr, wp_ite, wp_for, wp_whl, wp_tru, sk_rt, sk_bk, sk_ct, lk_nx, lk_ct, lk_bk, lk_rt, ik_true, ik_false, ev, evs, evo, evi, evc, evd, keyK_str, keyK_int, retK_rt, retK_nx, iteK_true, iteK_false, truK0_bl, truK0_int, truK0_tup, truK0_frl, truK0_non, scK_bl, wp_callK, cmpO, cmp_eq, cmp_ne, cmp_lt, cmp_le, cmp_gt, cmp_ge, cmp_isN, cmp_notN, eqD_int, eqD_str, bin_int, binI_add, binI_sub, of_some, negK_int, setK_nm, setK_tp, setsK, asg, asgs, tgsOf, intK, rngK, srcV_tup, srcV_frl, subO, startE, newR, new, bi_int, bi_abs, bi_len_tup, bi_len_frl,  Option.map_some, Option.map_none, Option.bind_some, List.map_cons, List.map_nil, List.length_cons, List.length_nil, List.length_append, List.length_map, List.length_set, List.cons_append, List.nil_append, List.getElem?_cons_zero, List.getElem?_cons_succ, List.set_cons_zero, List.set_cons_succ, if_true, if_false, Bool.false_eq_true, Bool.true_eq_false, Bool.not_true, Bool.not_false, decide_true, decide_false, Nat.reduceEqDiff, Nat.zero_lt_succ, List.replicate_succ, List.replicate_zero, Nat.reduceSub, Nat.reduceAdd, Nat.reduceLT, Nat.reduceLeDiff, Nat.zero_le, id, lstK_ok, tupK_ok, bl_ne, hdk2]
  have D16 : Deal (st15 ++ [Ob.dct []]) d c := D15.new
  have l16 : st15.length + 1 = (st15 ++ [Ob.dct []]).length := by simp
  rw [l16]
  refine Wp.mono (of_ok (n := 17) (f := 5) (i := 6) rfl rfl D16.new D16.own (by show 0 < 4; decide) (by show 4 < 1073741824; decide)) ?_
  rintro wo st17 ⟨hwo, D17, k17⟩
  have k17' : Keep d c (st15 ++ [Ob.dct []]) st17 := Keep.new.trans k17
  have go : Gd st17 wo ∧ ∀ ws, wo ≠ .tup ws := by
    simp only [List.mem_cons, List.mem_nil_iff, or_false] at hwo
    rcases hwo with rfl | rfl | rfl | rfl
    · exact ⟨trivial, fun ws e => nomatch e⟩
    · exact ⟨trivial, fun ws e => nomatch e⟩
    · exact ⟨trivial, fun ws e => nomatch e⟩
    · exact ⟨.inr ⟨_, k17' _ _ D15.fresh.1 D15.fresh.2 getLast⟩, fun ws e => nomatch e⟩
  try simp -implicitDefEqProofs only [wp_ok, wp_exc, wp_bind, wp_raise, wp_try, wp_noexc, wp_seq, wp_skip, wp_brk, wp_cnt, wp_retN, wp_ret, wp_set, wp_par, wp_unp, wp_sto, wp_xpr, wp_ite, wp_for, wp_whl, wp_tru, sk_rt, sk_bk, sk_ct, lk_nx, lk_ct, lk_bk, lk_rt, ik_true, ik_false, ev, evs, evo, evi, evc, evd, keyK_str, keyK_int, retK_rt, retK_nx, iteK_true, iteK_false, truK0_bl, truK0_int, truK0_tup, truK0_frl, truK0_non, scK_bl, wp_callK, cmpO, cmp_eq, cmp_ne, cmp_lt, cmp_le, cmp_gt, cmp_ge, cmp_isN, cmp_notN, eqD_int, eqD_str, bin_int, binI_add, binI_sub, of_some, negK_int, setK_nm, setK_tp, setsK, asg, asgs, tgsOf, intK, rngK, srcV_tup, srcV_frl, subO, startE, newR, new, bi_int, bi_abs, bi_len_tup, bi_len_frl,  Option.map_some, Option.map_none, Option.bind_some, List.map_cons, List.map_nil, List.length_cons, List.length_nil, List.length_append, List.length_map, List.length_set, List.cons_append, List.nil_append, List.getElem?_cons_zero, List.getElem?_cons_succ, List.set_cons_zero, List.set_cons_succ, if_true, if_false, Bool.false_eq_true, Bool.true_eq_false, Bool.not_true, Bool.not_false, decide_true, decide_false, Nat.reduceEqDiff, Nat.zero_lt_succ, List.replicate_succ, List.replicate_zero, Nat.reduceSub, Nat.reduceAdd, Nat.reduceLT, Nat.reduceLeDiff, Nat.zero_le, id, lstK_ok, tupK_ok]
  refine Wp.mono (paper_no (n := 16) go.1 go.2) ?_
  rintro w18 st18 ⟨rfl, x18⟩
  try simp -implicitDefEqProofs only [wp_ok, wp_exc, wp_bind, wp_raise, wp_try, wp_noexc, wp_seq, wp_skip, wp_brk, wp_cnt, wp_retN, wp_ret, wp_set, wp_par, wp_unp, wp_sto, wp_xpr, wp_ite, wp_for, wp_whl, wp_tru, sk_rt, sk_bk, sk_ct, lk_nx, lk_ct, lk_bk, lk_rt, ik_true, ik_false, ev, evs, evo, evi, evc, evd, keyK_str, keyK_int, retK_rt, retK_nx, iteK_true, iteK_false, truK0_bl, truK0_int, truK0_tup, truK0_frl, truK0_non, scK_bl, wp_callK, cmpO, cmp_eq, cmp_ne, cmp_lt, cmp_le, cmp_gt, cmp_ge, cmp_isN, cmp_notN, eqD_int, eqD_str, bin_int, binI_add, binI_sub, of_some, negK_int, setK_nm, setK_tp, setsK, asg, asgs, tgsOf, intK, rngK, srcV_tup, srcV_frl, subO, startE, newR, new, bi_int, bi_abs, bi_len_tup, bi_len_frl,  Option.map_some, Option.map_none, Option.bind_some, List.map_cons, List.map_nil, List.length_cons, List.length_nil, List.length_append, List.length_map, List.length_set, List.cons_append, List.nil_append, List.getElem?_cons_zero, List.getElem?_cons_succ, List.set_cons_zero, List.set_cons_succ, if_true, if_false, Bool.false_eq_true, Bool.true_eq_false, Bool.not_true, Bool.not_false, decide_true, decide_false, Nat.reduceEqDiff, Nat.zero_lt_succ, List.replicate_succ, List.replicate_zero, Nat.reduceSub, Nat.reduceAdd, Nat.reduceLT, Nat.reduceLeDiff, Nat.zero_le, id, lstK_ok, tupK_ok, bl_ne]
  have ke : Keep d c st7 st18 := kf.trans (x15.keep.trans (Keep.new.trans (k17'.trans x18.keep)))
  exact ⟨⟨_, _, _, _, _, _, _, rfl⟩, D17.ext x18, T7.keep ke, O7.keep ke⟩
end K42
/-! K42d: the law holds. -/
namespace K42
open PySem Ci Law

theorem repr_all : reprOk (.tuple (sW.map .str)) = true := by decide +kernel
theorem toD_all (st : Sto) : toD st (.tup (sW.map .str)) = some (.tuple (sW.map .str)) := rfl
def EnP (ns : List Int) (d m q : Nat) (en : En) : Prop := ∃ x4, en = [some (.frl (ns.map .int)), some (.ref d), some (.ref m), some (.ref q), x4, none, none, none, none, none, none]
theorem law_ok (ns : List Int) (hl : ns.length ≤ 63) : ∃ st, Ci.run tab 20 10 [.frl (ns.map .int)] [] = .ok (.bl true) st := by
  have core : Wx noX (Ci.run tab (19 + 1) 10 [.frl (ns.map .int)] []) fun w _ => w = .bl true := by
    refine wp_run (d := d10) rfl rfl ?_
    show Wx noX (ex _ c10 _ _) _
    have hb : ∀ en st Q, Wx noX (ex (Ci.run tab 19) body en st) Q → Wx noX (ex (Ci.run tab 19) body en st) Q := fun _ _ _ h => h
    unfold body at hb
    unfold c10 at hb ⊢
    try simp -implicitDefEqProofs only [wp_ok, wp_exc, wp_bind, wp_raise, wp_try, wp_noexc, wp_seq, wp_skip, wp_brk, wp_cnt, wp_retN, wp_ret, wp_set, wp_par, wp_unp, wp_sto, wp_xpr, wp_ite, wp_for, wp_whl, wp_tru, sk_rt, sk_bk, sk_ct, lk_nx, lk_ct, lk_bk, lk_rt, ik_true, ik_false, ev, evs, evo, evi, evc, evd, keyK_str, keyK_int, retK_rt, retK_nx, iteK_true, iteK_false, truK0_bl, truK0_int, truK0_tup, truK0_frl, truK0_non, scK_bl, wp_callK, cmpO, cmp_eq, cmp_ne, cmp_lt, cmp_le, cmp_gt, cmp_ge, cmp_isN, cmp_notN, eqD_int, eqD_str, bin_int, binI_add, binI_sub, of_some, negK_int, setK_nm, setK_tp, setsK, asg, asgs, tgsOf, intK, rngK, srcV_tup, srcV_frl, subO, startE, newR, new, bi_int, bi_abs, bi_len_tup, bi_len_frl,  Option.map_some, Option.map_none, Option.bind_some, List.map_cons, List.map_nil, List.length_cons, List.length_nil, List.length_append, List.length_map, List.length_set, List.cons_append, List.nil_append, List.getElem?_cons_zero, List.getElem?_cons_succ, List.set_cons_zero, List.set_cons_succ, if_true, if_false, Bool.false_eq_true, Bool.true_eq_false, Bool.not_true, Bool.not_false, decide_true, decide_false, Nat.reduceEqDiff, Nat.zero_lt_succ, List.replicate_succ, List.replicate_zero, Nat.reduceSub, Nat.reduceAdd, Nat.reduceLT, Nat.reduceLeDiff, Nat.zero_le, id, lstK_ok, tupK_ok, d10]
    refine Wp.mono (draw_ok (n := 18) (i := 4) (ns := ns) (salt := 42) rfl (by decide) hl) ?_
    rintro w st ⟨d, c, rfl, D, -⟩
    try simp -implicitDefEqProofs only [wp_ok, wp_exc, wp_bind, wp_raise, wp_try, wp_noexc, wp_seq, wp_skip, wp_brk, wp_cnt, wp_retN, wp_ret, wp_set, wp_par, wp_unp, wp_sto, wp_xpr, wp_ite, wp_for, wp_whl, wp_tru, sk_rt, sk_bk, sk_ct, lk_nx, lk_ct, lk_bk, lk_rt, ik_true, ik_false, ev, evs, evo, evi, evc, evd, keyK_str, keyK_int, retK_rt, retK_nx, iteK_true, iteK_false, truK0_bl, truK0_int, truK0_tup, truK0_frl, truK0_non, scK_bl, wp_callK, cmpO, cmp_eq, cmp_ne, cmp_lt, cmp_le, cmp_gt, cmp_ge, cmp_isN, cmp_notN, eqD_int, eqD_str, bin_int, binI_add, binI_sub, of_some, negK_int, setK_nm, setK_tp, setsK, asg, asgs, tgsOf, intK, rngK, srcV_tup, srcV_frl, subO, startE, newR, new, bi_int, bi_abs, bi_len_tup, bi_len_frl,  Option.map_some, Option.map_none, Option.bind_some, List.map_cons, List.map_nil, List.length_cons, List.length_nil, List.length_append, List.length_map, List.length_set, List.cons_append, List.nil_append, List.getElem?_cons_zero, List.getElem?_cons_succ, List.set_cons_zero, List.set_cons_succ, if_true, if_false, Bool.false_eq_true, Bool.true_eq_false, Bool.not_true, Bool.not_false, decide_true, decide_false, Nat.reduceEqDiff, Nat.zero_lt_succ, List.replicate_succ, List.replicate_zero, Nat.reduceSub, Nat.reduceAdd, Nat.reduceLT, Nat.reduceLeDiff, Nat.zero_le, id, lstK_ok, tupK_ok]
    rw [sk_nx]
    try simp -implicitDefEqProofs only [wp_ok, wp_exc, wp_bind, wp_raise, wp_try, wp_noexc, wp_seq, wp_skip, wp_brk, wp_cnt, wp_retN, wp_ret, wp_set, wp_par, wp_unp, wp_sto, wp_xpr, wp_ite, wp_for, wp_whl, wp_tru, sk_rt, sk_bk, sk_ct, lk_nx, lk_ct, lk_bk, lk_rt, ik_true, ik_false, ev, evs, evo, evi, evc, evd, keyK_str, keyK_int, retK_rt, retK_nx, iteK_true, iteK_false, truK0_bl, truK0_int, truK0_tup, truK0_frl, truK0_non, scK_bl, wp_callK, cmpO, cmp_eq, cmp_ne, cmp_lt, cmp_le, cmp_gt, cmp_ge, cmp_isN, cmp_notN, eqD_int, eqD_str, bin_int, binI_add, binI_sub, of_some, negK_int, setK_nm, setK_tp, setsK, asg, asgs, tgsOf, intK, rngK, srcV_tup, srcV_frl, subO, startE, newR, new, bi_int, bi_abs, bi_len_tup, bi_len_frl,  Option.map_some, Option.map_none, Option.bind_some, List.map_cons, List.map_nil, List.length_cons, List.length_nil, List.length_append, List.length_map, List.length_set, List.cons_append, List.nil_append, List.getElem?_cons_zero, List.getElem?_cons_succ, List.set_cons_zero, List.set_cons_succ, if_true, if_false, Bool.false_eq_true, Bool.true_eq_false, Bool.not_true, Bool.not_false, decide_true, decide_false, Nat.reduceEqDiff, Nat.zero_lt_succ, List.replicate_succ, List.replicate_zero, Nat.reduceSub, Nat.reduceAdd, Nat.reduceLT, Nat.reduceLeDiff, Nat.zero_le, id, lstK_ok, tupK_ok]
    refine Wp.mono (table_ok (n := 18)) ?_
    rintro w1 st1 ⟨m, a, b, e, f, rfl, x1, lm, la, lb, le, lf, gm, T0, na, nb, nc, nd⟩
    have D1 := D.ext x1
    have hm : ∀ n, st.length ≤ n → n ≠ d ∧ n ≠ c := fun n h => by
      have := D.lt
      omega
    try simp -implicitDefEqProofs only [wp_ok, wp_exc, wp_bind, wp_raise, wp_try, wp_noexc, wp_seq, wp_skip, wp_brk, wp_cnt, wp_retN, wp_ret, wp_set, wp_par, wp_unp, wp_sto, wp_xpr, wp_ite, wp_for, wp_whl, wp_tru, sk_rt, sk_bk, sk_ct, lk_nx, lk_ct, lk_bk, lk_rt, ik_true, ik_false, ev, evs, evo, evi, evc, evd, keyK_str, keyK_int, retK_rt, retK_nx, iteK_true, iteK_false, truK0_bl, truK0_int, truK0_tup, truK0_frl, truK0_non, scK_bl, wp_callK, cmpO, cmp_eq, cmp_ne, cmp_lt, cmp_le, cmp_gt, cmp_ge, cmp_isN, cmp_notN, eqD_int, eqD_str, bin_int, binI_add, binI_sub, of_some, negK_int, setK_nm, setK_tp, setsK, asg, asgs, tgsOf, intK, rngK, srcV_tup, srcV_frl, subO, startE, newR, new, bi_int, bi_abs, bi_len_tup, bi_len_frl,  Option.map_some, Option.map_none, Option.bind_some, List.map_cons, List.map_nil, List.length_cons, List.length_nil, List.length_append, List.length_map, List.length_set, List.cons_append, List.nil_append, List.getElem?_cons_zero, List.getElem?_cons_succ, List.set_cons_zero, List.set_cons_succ, if_true, if_false, Bool.false_eq_true, Bool.true_eq_false, Bool.not_true, Bool.not_false, decide_true, decide_false, Nat.reduceEqDiff, Nat.zero_lt_succ, List.replicate_succ, List.replicate_zero, Nat.reduceSub, Nat.reduceAdd, Nat.reduceLT, Nat.reduceLeDiff, Nat.zero_le, id, lstK_ok, tupK_ok]
    rw [sk_nx]
    have es : srcV (.ref m) (st1 ++ [Ob.lst []]) = .ok (.fix (kinds.map .str)) ((st1 ++ [Ob.lst []]).set m (.fdc (kvT a b e f))) := by
      have g : (st1 ++ [Ob.lst []])[m]? = some (.dct (kvT a b e f)) := getNew gm
      simp only [srcV, dctOf, dkK, g]
      rfl
    try simp -implicitDefEqProofs only [wp_ok, wp_exc, wp_bind, wp_raise, wp_try, wp_noexc, wp_seq, wp_skip, wp_brk, wp_cnt, wp_retN, wp_ret, wp_set, wp_par, wp_unp, wp_sto, wp_xpr, wp_ite, wp_for, wp_whl, wp_tru, sk_rt, sk_bk, sk_ct, lk_nx, lk_ct, lk_bk, lk_rt, ik_true, ik_false, ev, evs, evo, evi, evc, evd, keyK_str, keyK_int, retK_rt, retK_nx, iteK_true, iteK_false, truK0_bl, truK0_int, truK0_tup, truK0_frl, truK0_non, scK_bl, wp_callK, cmpO, cmp_eq, cmp_ne, cmp_lt, cmp_le, cmp_gt, cmp_ge, cmp_isN, cmp_notN, eqD_int, eqD_str, bin_int, binI_add, binI_sub, of_some, negK_int, setK_nm, setK_tp, setsK, asg, asgs, tgsOf, intK, rngK, srcV_tup, srcV_frl, subO, startE, newR, new, bi_int, bi_abs, bi_len_tup, bi_len_frl,  Option.map_some, Option.map_none, Option.bind_some, List.map_cons, List.map_nil, List.length_cons, List.length_nil, List.length_append, List.length_map, List.length_set, List.cons_append, List.nil_append, List.getElem?_cons_zero, List.getElem?_cons_succ, List.set_cons_zero, List.set_cons_succ, if_true, if_false, Bool.false_eq_true, Bool.true_eq_false, Bool.not_true, Bool.not_false, decide_true, decide_false, Nat.reduceEqDiff, Nat.zero_lt_succ, List.replicate_succ, List.replicate_zero, Nat.reduceSub, Nat.reduceAdd, Nat.reduceLT, Nat.reduceLeDiff, Nat.zero_le, id, lstK_ok, tupK_ok, es]
    have ml : m < st1.length := (List.getElem?_eq_some_iff.mp gm).1
    have T1 : TbD ((st1 ++ [Ob.lst []]).set m (.fdc (kvT a b e f))) d c m (a, b, e, f) := by
      refine ⟨⟨List.getElem?_set_self (by simp; omega), hm m lm⟩, ⟨?_, hm a la⟩, ⟨?_, hm b lb⟩, ⟨?_, hm e le⟩, ⟨?_, hm f lf⟩⟩
      · rw [List.getElem?_set_ne (Ne.symm na)]; exact getNew T0.v
      · rw [List.getElem?_set_ne (Ne.symm nb)]; exact getNew T0.f
      · rw [List.getElem?_set_ne (Ne.symm nc)]; exact getNew T0.m
      · rw [List.getElem?_set_ne (Ne.symm nd)]; exact getNew T0.c
    have O1 : Own d c ((st1 ++ [Ob.lst []]).set m (.fdc (kvT a b e f))) st1.length ((pre 0).map .str) := by
      refine ⟨?_, hm _ x1.1⟩
      rw [List.getElem?_set_ne (by omega)]; exact getLast
    have D2 : Deal ((st1 ++ [Ob.lst []]).set m (.fdc (kvT a b e f))) d c := D1.new.set (hm m lm).1 (hm m lm).2
    generalize (st1 ++ [Ob.lst []]).set m (.fdc (kvT a b e f)) = st2 at *
    refine wp_forL (kinds.map .str) (fun k en st => ∃ q, EnP ns d m q en ∧ Deal st d c ∧ TbD st d c m (a, b, e, f) ∧ Own d c st q ((pre k).map .str)) (fun _ _ _ _ => rfl) ?_ ?_ FU 0 _ _ (Nat.zero_le _) (by decide) ⟨_, ⟨_, rfl⟩, D2, T1, O1⟩
    · rintro k w en st3 hw ⟨q, ⟨x4, rfl⟩, D3, T3, O3⟩
      refine ⟨_, rfl, ?_⟩
      obtain ⟨kd, hk, rfl, hp, hl4⟩ : ∃ kd, kd ∈ kinds ∧ w = .str kd ∧ pre (k + 1) = pre k ++ wordsOf kd ∧ (pre k).length + (wordsOf kd).length < 1000 := by
        match k, hw with
        | 0, h => cases h; exact ⟨_, by decide, rfl, by decide, by decide⟩
        | 1, h => cases h; exact ⟨_, by decide, rfl, by decide, by decide⟩
        | 2, h => cases h; exact ⟨_, by decide, rfl, by decide, by decide⟩
        | 3, h => cases h; exact ⟨_, by decide, rfl, by decide, by decide⟩
        | k + 4, h => cases h
      obtain ⟨qk, eq, Oq⟩ := T3.at hk
      have b1 : bin .add (.ref q) (.ref qk) st3 = _ := bin_cat O3.1 Oq.1 (by rw [List.length_map, List.length_map]; omega)
      try simp -implicitDefEqProofs only [wp_ok, wp_exc, wp_bind, wp_raise, wp_try, wp_noexc, wp_seq, wp_skip, wp_brk, wp_cnt, wp_retN, wp_ret, wp_set, wp_par, wp_unp, wp_sto, wp_xpr, wp_ite, wp_for, wp_whl, wp_tru, sk_rt, sk_bk, sk_ct, lk_nx, lk_ct, lk_bk, lk_rt, ik_true, ik_false, ev, evs, evo, evi, evc, evd, keyK_str, keyK_int, retK_rt, retK_nx, iteK_true, iteK_false, truK0_bl, truK0_int, truK0_tup, truK0_frl, truK0_non, scK_bl, wp_callK, cmpO, cmp_eq, cmp_ne, cmp_lt, cmp_le, cmp_gt, cmp_ge, cmp_isN, cmp_notN, eqD_int, eqD_str, bin_int, binI_add, binI_sub, of_some, negK_int, setK_nm, setK_tp, setsK, asg, asgs, tgsOf, intK, rngK, srcV_tup, srcV_frl, subO, startE, newR, new, bi_int, bi_abs, bi_len_tup, bi_len_frl,  Option.map_some, Option.map_none, Option.bind_some, List.map_cons, List.map_nil, List.length_cons, List.length_nil, List.length_append, List.length_map, List.length_set, List.cons_append, List.nil_append, List.getElem?_cons_zero, List.getElem?_cons_succ, List.set_cons_zero, List.set_cons_succ, if_true, if_false, Bool.false_eq_true, Bool.true_eq_false, Bool.not_true, Bool.not_false, decide_true, decide_false, Nat.reduceEqDiff, Nat.zero_lt_succ, List.replicate_succ, List.replicate_zero, Nat.reduceSub, Nat.reduceAdd, Nat.reduceLT, Nat.reduceLeDiff, Nat.zero_le, id, lstK_ok, tupK_ok, eq, b1]
      refine ⟨_, ⟨_, rfl⟩, D3.new, T3.keep Keep.new, ?_⟩
      rw [hp, List.map_append]
      exact D3.own
    · rintro en st3 ⟨q, ⟨x4, rfl⟩, D3, T3, O3⟩
      have O3 : Own d c st3 q ((pre 4).map .str) := O3
      rw [sk_nx]
      try simp -implicitDefEqProofs only [wp_ok, wp_exc, wp_bind, wp_raise, wp_try, wp_noexc, wp_seq, wp_skip, wp_brk, wp_cnt, wp_retN, wp_ret, wp_set, wp_par, wp_unp, wp_sto, wp_xpr, wp_ite, wp_for, wp_whl, wp_tru, sk_rt, sk_bk, sk_ct, lk_nx, lk_ct, lk_bk, lk_rt, ik_true, ik_false, ev, evs, evo, evi, evc, evd, keyK_str, keyK_int, retK_rt, retK_nx, iteK_true, iteK_false, truK0_bl, truK0_int, truK0_tup, truK0_frl, truK0_non, scK_bl, wp_callK, cmpO, cmp_eq, cmp_ne, cmp_lt, cmp_le, cmp_gt, cmp_ge, cmp_isN, cmp_notN, eqD_int, eqD_str, bin_int, binI_add, binI_sub, of_some, negK_int, setK_nm, setK_tp, setsK, asg, asgs, tgsOf, intK, rngK, srcV_tup, srcV_frl, subO, startE, newR, new, bi_int, bi_abs, bi_len_tup, bi_len_frl,  Option.map_some, Option.map_none, Option.bind_some, List.map_cons, List.map_nil, List.length_cons, List.length_nil, List.length_append, List.length_map, List.length_set, List.cons_append, List.nil_append, List.getElem?_cons_zero, List.getElem?_cons_succ, List.set_cons_zero, List.set_cons_succ, if_true, if_false, Bool.false_eq_true, Bool.true_eq_false, Bool.not_true, Bool.not_false, decide_true, decide_false, Nat.reduceEqDiff, Nat.zero_lt_succ, List.replicate_succ, List.replicate_zero, Nat.reduceSub, Nat.reduceAdd, Nat.reduceLT, Nat.reduceLeDiff, Nat.zero_le, id, lstK_ok, tupK_ok]
      refine Wp.mono (words_ok (n := 18)) ?_
      rintro w3 st4 ⟨rfl, x4'⟩
      have r1 : ∀ st : Sto, bi .repr [.tup (sW.map .str)] st = some (.str (PyData.tuple (sW.map .str)).shown, st) := fun st => bi_repr (toD_all st) repr_all
      have s1 := sorted_lstS (st := st4) (ss := pre 4) (by decide) (O3.keep x4'.keep).1
      rw [sorted_pre] at s1
      have t1 : bi .tuple [.ref st4.length] (st4 ++ [.lst (sW.map .str)]) = _ := bi_tuple_lst getLast
      try simp -implicitDefEqProofs only [wp_ok, wp_exc, wp_bind, wp_raise, wp_try, wp_noexc, wp_seq, wp_skip, wp_brk, wp_cnt, wp_retN, wp_ret, wp_set, wp_par, wp_unp, wp_sto, wp_xpr, wp_ite, wp_for, wp_whl, wp_tru, sk_rt, sk_bk, sk_ct, lk_nx, lk_ct, lk_bk, lk_rt, ik_true, ik_false, ev, evs, evo, evi, evc, evd, keyK_str, keyK_int, retK_rt, retK_nx, iteK_true, iteK_false, truK0_bl, truK0_int, truK0_tup, truK0_frl, truK0_non, scK_bl, wp_callK, cmpO, cmp_eq, cmp_ne, cmp_lt, cmp_le, cmp_gt, cmp_ge, cmp_isN, cmp_notN, eqD_int, eqD_str, bin_int, binI_add, binI_sub, of_some, negK_int, setK_nm, setK_tp, setsK, asg, asgs, tgsOf, intK, rngK, srcV_tup, srcV_frl, subO, startE, newR, new, bi_int, bi_abs, bi_len_tup, bi_len_frl,  Option.map_some, Option.map_none, Option.bind_some, List.map_cons, List.map_nil, List.length_cons, List.length_nil, List.length_append, List.length_map, List.length_set, List.cons_append, List.nil_append, List.getElem?_cons_zero, List.getElem?_cons_succ, List.set_cons_zero, List.set_cons_succ, if_true, if_false, Bool.false_eq_true, Bool.true_eq_false, Bool.not_true, Bool.not_false, decide_true, decide_false, Nat.reduceEqDiff, Nat.zero_lt_succ, List.replicate_succ, List.replicate_zero, Nat.reduceSub, Nat.reduceAdd, Nat.reduceLT, Nat.reduceLeDiff, Nat.zero_le, id, lstK_ok, tupK_ok, r1, s1, t1, beq_str, Bool.not_true]
      rw [sk_nx]
      have h6 : rngOf [.int 6] = some (0, 6) := rngOf_nat (n := 6) (by decide)
      try simp -implicitDefEqProofs only [wp_ok, wp_exc, wp_bind, wp_raise, wp_try, wp_noexc, wp_seq, wp_skip, wp_brk, wp_cnt, wp_retN, wp_ret, wp_set, wp_par, wp_unp, wp_sto, wp_xpr, wp_ite, wp_for, wp_whl, wp_tru, sk_rt, sk_bk, sk_ct, lk_nx, lk_ct, lk_bk, lk_rt, ik_true, ik_false, ev, evs, evo, evi, evc, evd, keyK_str, keyK_int, retK_rt, retK_nx, iteK_true, iteK_false, truK0_bl, truK0_int, truK0_tup, truK0_frl, truK0_non, scK_bl, wp_callK, cmpO, cmp_eq, cmp_ne, cmp_lt, cmp_le, cmp_gt, cmp_ge, cmp_isN, cmp_notN, eqD_int, eqD_str, bin_int, binI_add, binI_sub, of_some, negK_int, setK_nm, setK_tp, setsK, asg, asgs, tgsOf, intK, rngK, srcV_tup, srcV_frl, subO, startE, newR, new, bi_int, bi_abs, bi_len_tup, bi_len_frl,  Option.map_some, Option.map_none, Option.bind_some, List.map_cons, List.map_nil, List.length_cons, List.length_nil, List.length_append, List.length_map, List.length_set, List.cons_append, List.nil_append, List.getElem?_cons_zero, List.getElem?_cons_succ, List.set_cons_zero, List.set_cons_succ, if_true, if_false, Bool.false_eq_true, Bool.true_eq_false, Bool.not_true, Bool.not_false, decide_true, decide_false, Nat.reduceEqDiff, Nat.zero_lt_succ, List.replicate_succ, List.replicate_zero, Nat.reduceSub, Nat.reduceAdd, Nat.reduceLT, Nat.reduceLeDiff, Nat.zero_le, id, lstK_ok, tupK_ok, h6]
      refine wp_rng 6 (by decide) (fun k en st => EnOk ns d m q en ∧ Deal st d c ∧ TbD st d c m (a, b, e, f) ∧ Own d c st q ((pre 4).map .str)) ?_ ?_ ⟨⟨_, _, _, _, _, _, _, rfl⟩, (D3.ext x4').new, (T3.keep x4'.keep).keep Keep.new, (O3.keep x4'.keep).keep Keep.new⟩
      · rintro k en st5 hk ⟨⟨x4, x5, x6, x7, x8, x9, x10, rfl⟩, D5, T5, O5⟩
        exact ⟨_, rfl, hb _ _ _ (body_ok D5 T5 O5 ⟨_, _, _, _, _, _, _, rfl⟩)⟩
      · rintro en st5 ⟨⟨x4, x5, x6, x7, x8, x9, x10, rfl⟩, D5, T5, O5⟩
        rw [sk_nx]
        try simp -implicitDefEqProofs only [wp_ok, wp_exc, wp_bind, wp_raise, wp_try, wp_noexc, wp_seq, wp_skip, wp_brk, wp_cnt, wp_retN, wp_ret, wp_set, wp_par, wp_unp, wp_sto, wp_xpr, wp_ite, wp_for, wp_whl, wp_tru, sk_rt, sk_bk, sk_ct, lk_nx, lk_ct, lk_bk, lk_rt, ik_true, ik_false, ev, evs, evo, evi, evc, evd, keyK_str, keyK_int, retK_rt, retK_nx, iteK_true, iteK_false, truK0_bl, truK0_int, truK0_tup, truK0_frl, truK0_non, scK_bl, wp_callK, cmpO, cmp_eq, cmp_ne, cmp_lt, cmp_le, cmp_gt, cmp_ge, cmp_isN, cmp_notN, eqD_int, eqD_str, bin_int, binI_add, binI_sub, of_some, negK_int, setK_nm, setK_tp, setsK, asg, asgs, tgsOf, intK, rngK, srcV_tup, srcV_frl, subO, startE, newR, new, bi_int, bi_abs, bi_len_tup, bi_len_frl,  Option.map_some, Option.map_none, Option.bind_some, List.map_cons, List.map_nil, List.length_cons, List.length_nil, List.length_append, List.length_map, List.length_set, List.cons_append, List.nil_append, List.getElem?_cons_zero, List.getElem?_cons_succ, List.set_cons_zero, List.set_cons_succ, if_true, if_false, Bool.false_eq_true, Bool.true_eq_false, Bool.not_true, Bool.not_false, decide_true, decide_false, Nat.reduceEqDiff, Nat.zero_lt_succ, List.replicate_succ, List.replicate_zero, Nat.reduceSub, Nat.reduceAdd, Nat.reduceLT, Nat.reduceLeDiff, Nat.zero_le, id, lstK_ok, tupK_ok]
        first | done | rfl | trivial
  obtain ⟨w, st, e, rfl⟩ := wp_iff.mp core
  exact ⟨st, e⟩
end K42
theorem PySem.Challenge.cw_anypasses_k42_papers_and_their_words_holds : PySem.Challenge.rw_anypasses_k42_papers_and_their_words.Holds := by
  exact Law.walked K42.law_ok
