import PyProof.Rows.All
import Wide.All
import OpenK.AllK
import Wide.FinOn
import KE.DataCmp
import HandS.ForMost
import HandS.Exc
import HandS.TupAny
import HandS.Deep
import HandS.Wide
import HandS.Style
import HandS.Flow
import HandS.Conv
import HandS.Walk
import HandS.Defaults
import HandS.HeadHook2
import HandS.HeadEnd
import HandS.Head0
import HandS.Head1
import HandS.Head2
import HandS.IsInst
import KE.DatumOrd
import PySem.Challenge.RW_anypasses_k01_operations_on_numbers
set_option Elab.async false
set_option linter.all false
set_option maxRecDepth 100000
set_option maxHeartbeats 4000000
/-! Ci0: a small core language over trees (tuples are trees, lists and dicts stand in a store), its evaluator. -/
namespace Ci
open PySem

inductive W where
  | non | bl (b : Bool) | int (i : Int) | str (s : Str)
  | tup (ws : List W)
  | frl (ws : List W)
  | ref (n : Nat)
inductive Ob where
  | lst (ws : List W)
  | dct (kvs : List (L2.Key × W))
abbrev Sto := List Ob
abbrev En := List (Option W)
structure Exn where
  cls : Nat
  args : List W
inductive Res (α : Type) where
  | ok (a : α) (st : Sto)
  | exc (x : Exn) (st : Sto)
  | bad
def Res.bind {α β : Type} (r : Res α) (k : α → Sto → Res β) : Res β :=
  match r with
  | .ok a st => k a st
  | .exc x st => .exc x st
  | .bad => .bad
def Res.of {α : Type} : Option (α × Sto) → Res α
  | some (a, st) => .ok a st
  | none => .bad

/-! ### data of any depth -/
mutual
def pd (ρ : Nat → Option PyData) : W → Option PyData
  | .non => some .none
  | .bl b => some (.bool b)
  | .int i => some (.int i)
  | .str s => some (.str s)
  | .tup ws => (pds ρ ws).map .tuple
  | .frl ws => (pds ρ ws).map .list
  | .ref n => ρ n
def pds (ρ : Nat → Option PyData) : List W → Option (List PyData)
  | [] => some []
  | w :: ws => match pd ρ w, pds ρ ws with
    | some d, some ds => some (d :: ds)
    | _, _ => none
end
def rho (st : Sto) : Nat → Nat → Option PyData
  | 0, _ => none
  | k + 1, n => match st[n]? with
    | some (.lst ws) => (pds (rho st k) ws).map .list
    | _ => none
def toD (st : Sto) (w : W) : Option PyData := pd (rho st 9) w

/-! ### what is walked, its items now -/
def seqOf (st : Sto) : W → Option (List W)
  | .tup ws => some ws
  | .frl ws => some ws
  | .ref n => match st[n]? with
    | some (.lst ws) => some ws
    | _ => none
  | _ => none
/-- a list's items -/
def lstOf (st : Sto) : W → Option (List W)
  | .frl ws => some ws
  | .ref n => match st[n]? with
    | some (.lst ws) => some ws
    | _ => none
  | _ => none
def isLst (st : Sto) (w : W) : Bool := (lstOf st w).isSome
/-- a new object -/
def new (st : Sto) (o : Ob) : Option (W × Sto) := some (.ref st.length, st ++ [o])
def newR (st : Sto) (o : Ob) : Res W := .ok (.ref st.length) (st ++ [o])

/-! ### truth -/
def tru (st : Sto) : W → Option Bool
  | .non => some false
  | .bl b => some b
  | .int i => some (i != 0)
  | .str s => if s.length ≤ sizeLine then some ((s.length : Int) != 0) else none
  | .tup ws => some (!ws.isEmpty)
  | .frl ws => some (!ws.isEmpty)
  | .ref n => match st[n]? with
    | some (.lst ws) => some (!ws.isEmpty)
    | some (.dct kvs) => some (!kvs.isEmpty)
    | _ => none

/-! ### operators -/
inductive BinO where
  | add | sub | mul | fdiv | mod | pow | shl | shr | band | bor | bxor
  deriving DecidableEq
def BinO.py : BinO → Operator
  | .add => .Add | .sub => .Sub | .mul => .Mult | .fdiv => .FloorDiv | .mod => .Mod | .pow => .Pow
  | .shl => .LShift | .shr => .RShift | .band => .BitAnd | .bor => .BitOr | .bxor => .BitXor
def small64 (i : Int) : Bool := decide (-(2 ^ 64) < i ∧ i < 2 ^ 64)
def bigOk (i j : Int) : Bool := decide (i.natAbs.log2 + j.natAbs.log2 < 1000000)
def powOk (i j : Int) : Bool := decide (0 ≤ j ∧ j ≤ 1000000 ∧ i.natAbs < 2 ^ 64)
def divOk (j : Int) : Bool := decide (0 < j) && (decide (j < 1073741824) || decide (j.natAbs.log2 < 9000))
def binI (o : BinO) (i j : Int) : Option Int :=
  match o with
  | .add => some (i + j)
  | .sub => some (i - j)
  | .mul => if small64 i || small64 j || bigOk i j then some (i * j) else none
  | .fdiv => if divOk j then some (i / j) else none
  | .mod => if decide (0 < j) then some (i % j) else none
  | .pow => if powOk i j then some (i ^ j.toNat) else none
  | .shl => if powOk i j then some (i * 2 ^ j.toNat) else none
  | .shr => if decide (0 ≤ j) then some (i / 2 ^ j.toNat) else none
  | .band => some (Builtin.bitAnd i j)
  | .bor => some (Builtin.bitOr i j)
  | .bxor => some (Builtin.bitXor i j)
def bin (o : BinO) (x y : W) (st : Sto) : Option (W × Sto) :=
  match x, y with
  | .int i, .int j => (binI o i j).map fun k => (.int k, st)
  | .str a, .str b => match o with
    | .add => if a.length + b.length ≤ sizeLine then some (.str (a ++ b), st) else none
    | _ => none
  | .tup a, .tup b => match o with
    | .add => if a.length + b.length ≤ sizeLine then some (.tup (a ++ b), st) else none
    | _ => none
  | .ref m, .ref n => match o, st[m]?, st[n]? with
    | .add, some (.lst a), some (.lst b) => if a.length + b.length ≤ sizeLine then new st (.lst (a ++ b)) else none
    | _, _, _ => none
  | .ref m, .int k => match o, st[m]? with
    | .mul, some (.lst a) => if decide (0 ≤ k ∧ k < 2 ^ 62) && decide (a.length * k.toNat ≤ sizeLine) then new st (.lst (List.replicate k.toNat a).flatten) else none
    | _, _ => none
  | _, _ => none
inductive CmpO where
  | eq | ne | lt | le | gt | ge | isin | notin | isN | notN
  deriving DecidableEq
def CmpO.py : CmpO → CmpOp
  | .eq => .Eq | .ne => .NotEq | .lt => .Lt | .le => .LtE | .gt => .Gt | .ge => .GtE | .isin => .In | .notin => .NotIn | .isN => .Is | .notN => .IsNot
def shapedB (d : PyData) : Bool := SeqAt.shaped d
def eqD (st : Sto) (x y : W) : Option Bool :=
  match x, y with
  | .str a, .str b => some (a == b)
  | .int a, .int b => some (a == b)
  | _, _ => match toD st x, toD st y with
    | some d, some e => if shapedB d && shapedB e then some (PyData.eqv d e) else none
    | _, _ => none
def intsOf : List W → Option (List Int)
  | [] => some []
  | .int i :: ws => (intsOf ws).map (i :: ·)
  | _ => none
def lexI : List Int → List Int → Bool
  | [], [] => false
  | [], _ :: _ => true
  | _ :: _, [] => false
  | x :: xs, y :: ys => if x = y then lexI xs ys else decide (x < y)
def inD (st : Sto) (x : W) (ys : List W) : Option Bool :=
  match toD st x, pds (rho st 8) ys with
  | some d, some ds => if shapedB d && shapedB (.list ds) then some (ds.any fun z => PyData.eqv z d) else none
  | _, _ => none
def flatW : W → Bool
  | .non => true
  | .bl _ => true
  | .int _ => true
  | .str _ => true
  | _ => false
def eqF : W → W → Bool
  | .non, .non => true
  | .bl a, .bl b => a == b
  | .bl a, .int b => (if a then 1 else 0) == b
  | .int a, .bl b => a == (if b then 1 else 0)
  | .int a, .int b => a == b
  | .str a, .str b => a == b
  | _, _ => false
def keyOf : W → Option L2.Key
  | .int i => some (.inl i)
  | .str s => some (.inr s)
  | _ => none
def dgetL (k : L2.Key) : List (L2.Key × W) → Option W
  | [] => none
  | (j, w) :: r => if j = k then some w else dgetL k r
def inW (st : Sto) (x y : W) : Option Bool :=
  match y with
  | .str t => match x with
    | .str s => some (!(Builtin.Str.occurrences t s 0 t.length 1).isEmpty)
    | _ => none
  | .tup ws => if flatW x && ws.all flatW then some (ws.any fun y => eqF y x) else none
  | .frl ws => inD st x ws
  | .ref n => match st[n]? with
    | some (.lst ws) => inD st x ws
    | some (.dct kvs) => (keyOf x).map fun k => (dgetL k kvs).isSome
    | _ => none
  | _ => none
def isNon : W → Bool
  | .non => true
  | _ => false
def noneD : PyData → Bool
  | .none => true
  | _ => false
/-- the order of lists and tuples that are made alike -/
def ordD (f : PyData → PyData → Bool) (st : Sto) (x y : W) : Option Bool :=
  match toD st x, toD st y with
  | some d, some e => if PySem.W.alike d e && !noneD d && decide (min d.depth e.depth ≤ 60) then some (f d e) else none
  | _, _ => none
def cmp (o : CmpO) (x y : W) (st : Sto) : Option Bool :=
  match o with
  | .eq => eqD st x y
  | .ne => (eqD st x y).map (!·)
  | .lt => match x, y with
    | .int i, .int j => some (decide (i < j))
    | .str s, .str t => some (decide (s.cps.toList < t.cps.toList))
    | _, _ => ordD PySem.W.dataLt st x y
  | .le => match x, y with
    | .int i, .int j => some (decide (i ≤ j))
    | _, _ => ordD (fun d e => !PySem.W.dataLt e d) st x y
  | .gt => match x, y with
    | .int i, .int j => some (decide (j < i))
    | _, _ => ordD (fun d e => PySem.W.dataLt e d) st x y
  | .ge => match x, y with
    | .int i, .int j => some (decide (j ≤ i))
    | _, _ => ordD (fun d e => !PySem.W.dataLt d e) st x y
  | .isin => inW st x y
  | .notin => (inW st x y).map (!·)
  | .isN => match y with
    | .non => some (isNon x)
    | .bl b => match x with | .bl a => some (decide (a = b)) | _ => none
    | _ => none
  | .notN => match y with
    | .non => some (!isNon x)
    | .bl b => match x with | .bl a => some (!decide (a = b)) | _ => none
    | _ => none

/-! ### places -/
def atW (xs : List W) (i : Int) : Option W := L2.atI xs i
def ixW (st : Sto) (x y : W) : Option W :=
  match y with
  | .int i => match x with
    | .tup ws => atW ws i
    | .frl ws => atW ws i
    | .str s => if s.length ≤ sizeLine then (L2.atI s.cps.toList i).map fun c => .str ⟨#[c]⟩ else none
    | .ref n => match st[n]? with
      | some (.lst ws) => atW ws i
      | _ => none
    | _ => none
  | _ => none
def cutW (ws : List W) (lo hi : Option Int) : List W := (ws.drop (HT.sIx ws.length 0 lo)).take (HT.sIx ws.length ws.length hi - HT.sIx ws.length 0 lo)
def slW (x : W) (lo hi : Option Int) (st : Sto) : Option (W × Sto) :=
  match x with
  | .tup ws => some (.tup (cutW ws lo hi), st)
  | .frl ws => new st (.lst (cutW ws lo hi))
  | .str s => if s.length ≤ sizeLine then some (.str (L2.cutS s lo hi), st) else none
  | .ref n => match st[n]? with
    | some (.lst ws) => new st (.lst (cutW ws lo hi))
    | _ => none
  | _ => none
def revW (x : W) (st : Sto) : Option (W × Sto) := (lstOf st x).bind fun ws => new st (.lst ws.reverse)
/-! ### dicts by int and text keys -/
def dputL (k : L2.Key) (v : W) (kvs : List (L2.Key × W)) : List (L2.Key × W) :=
  if (kvs.any fun q => decide (q.1 = k)) then kvs.map fun q => if q.1 = k then (q.1, v) else q else kvs ++ [(k, v)]
def dctOf (st : Sto) : W → Option (List (L2.Key × W))
  | .ref n => match st[n]? with
    | some (.dct kvs) => some kvs
    | _ => none
  | _ => none
def mergeW (kvs : List (L2.Key × W)) : List (L2.Key × W) := kvs.foldl (fun acc p => dputL p.1 p.2 acc) []
def setI (x i v : W) (st : Sto) : Option Sto :=
  match x with
  | .ref n => match st[n]? with
    | some (.lst ws) => match i with
      | .int k => (L2.ixN ws.length k).map fun j => st.set n (.lst (ws.set j v))
      | _ => none
    | some (.dct kvs) => (keyOf i).bind fun k => if kvs.length < sizeLine then some (st.set n (.dct (dputL k v kvs))) else none
    | none => none
  | _ => none
/-- x[y] of any kind -/
def sub (st : Sto) (x y : W) : Option W :=
  match dctOf st x with
  | some kvs => (keyOf y).bind fun k => dgetL k kvs
  | none => ixW st x y

/-! ### kinds -/
def tyOf (st : Sto) : W → Option String
  | .non => some "NoneType"
  | .bl _ => some "bool"
  | .int _ => some "int"
  | .str _ => some "str"
  | .tup _ => some "tuple"
  | .frl _ => some "list"
  | .ref n => match st[n]? with
    | some (.lst _) => some "list"
    | some (.dct _) => some "dict"
    | _ => none
def isTy (t u : String) : Bool := t == u || (t == "bool" && u == "int")

/-! ### built-in functions and methods -/
inductive Bi where
  | len | abs | int | str | repr | list | tuple | max2 | min2 | sum | any | all
  deriving DecidableEq
def blsOf : List W → Option (List Bool)
  | [] => some []
  | .bl b :: ws => (blsOf ws).map (b :: ·)
  | _ => none
def reprOk (d : PyData) : Bool :=
  match d with
  | .none => true
  | .bool _ => true
  | .int i => decide (i.natAbs.log2 < 1920)
  | .str x => decide ((reprText x).length ≤ sizeLine)
  | .dict _ => false
  | d => d.showable && !d.hasDict && decide (d.depth ≤ 60) && decide (d.shown.length ≤ sizeLine)
def intOk (i : Int) : Bool := decide (i.natAbs.log2 < 1920)
def bi (b : Bi) (ws : List W) (st : Sto) : Option (W × Sto) :=
  match b, ws with
  | .len, [w] => match w with
    | .str s => if s.length ≤ sizeLine then some (.int s.length, st) else none
    | w => match dctOf st w with
      | some kvs => some (.int kvs.length, st)
      | none => (seqOf st w).map fun xs => (.int xs.length, st)
  | .abs, [.int i] => some (.int (if i < 0 then -i else i), st)
  | .int, [.int i] => some (.int i, st)
  | .int, [.bl b] => some (.int (if b then 1 else 0), st)
  | .str, [.int i] => if intOk i then some (.str (toString i), st) else none
  | .repr, [w] => match toD st w with
    | some d => if reprOk d then some (.str d.shown, st) else none
    | none => none
  | .list, [w] => (seqOf st w).bind fun xs => new st (.lst xs)
  | .tuple, [w] => (seqOf st w).map fun xs => (.tup xs, st)
  | .max2, [.int i, .int j] => some (.int (if j > i then j else i), st)
  | .min2, [.int i, .int j] => some (.int (if j < i then j else i), st)
  | .sum, [w] => (lstOf st w).bind fun xs => (intsOf xs).map fun ns => (.int ns.sum, st)
  | .any, [w] => (lstOf st w).bind fun xs => (blsOf xs).map fun bs => (.bl (bs.any id), st)
  | .all, [w] => (lstOf st w).bind fun xs => (blsOf xs).map fun bs => (.bl (bs.all id), st)
  | _, _ => none
inductive Mt where
  | append | pop | popAt | extend | index | count | reverse
  deriving DecidableEq
def mt (m : Mt) (o : W) (ws : List W) (st : Sto) : Option (W × Sto) :=
  match o with
  | .ref n => match st[n]? with
    | some (.lst xs) => match m, ws with
      | .append, [y] => if xs.length < sizeLine then some (.non, st.set n (.lst (xs ++ [y]))) else none
      | .pop, [] => xs[xs.length - 1]?.map fun y => (y, st.set n (.lst xs.dropLast))
      | .popAt, [.int i] => if decide (-(2 ^ 63) ≤ i ∧ i < 2 ^ 63) then match seqIndex? i xs.length with
          | some k => xs[k]?.map fun y => (y, st.set n (.lst (xs.eraseIdx k)))
          | none => none
        else none
      | .reverse, [] => some (.non, st.set n (.lst xs.reverse))
      | .extend, [.ref m] => match st[m]? with
        | some (.lst zs) => if xs.length + zs.length ≤ sizeLine then some (.non, st.set n (.lst (xs ++ zs))) else none
        | _ => none
      | _, _ => none
    | _ => none
  | _ => none

/-! ### the language -/
mutual
inductive Tg where
  | nm (i : Nat)
  | tp (ts : Tgs)
inductive Tgs where
  | nil
  | cons (t : Tg) (ts : Tgs)
end
mutual
inductive E where
  | var (i : Nat)
  | con (w : W)
  | bin (o : BinO) (a b : E)
  | cmp (o : CmpO) (a b : E)
  | chn (o p : CmpO) (a b c : E)
  | neg (a : E)
  | not (a : E)
  | and (a b : E)
  | or (a b : E)
  | ite (c a b : E)
  | tup (es : Es)
  | lst (es : Es)
  | dsp (es : Es)
  | call (f : Nat) (pm : Option (List Nat)) (es : Es)
  | bi (b : Bi) (es : Es)
  | isi (ts : List String) (a : E)
  | mt (m : Mt) (o : E) (es : Es)
  | ix (a b : E)
  | sl (a : E) (lo hi : Es)
  | rev (a : E)
  | lrg (es : Es)
  | lc (own : List Nat) (tg : Tg) (it : It) (cs : Es) (elt : E)
inductive Es where
  | nil
  | cons (a : E) (es : Es)
inductive It where
  | val (e : E)
  | rng (es : Es)
  | enum (e : E)
  | zip (a b : E)
end
inductive S where
  | skip
  | seq (a b : S)
  | set (i : Nat) (e : E)
  | par (is : List Nat) (es : Es)
  | unp (t : Tg) (e : E)
  | sto (o i e : E)
  | aug (i : Nat) (o : BinO) (e : E)
  | xpr (e : E)
  | ite (c : E) (a b : S)
  | whl (c : E) (b : S)
  | for_ (t : Tg) (it : It) (b : S)
  | ret (e : E)
  | retN
  | brk
  | cnt

/-! ### targets -/
mutual
def asg (t : Tg) (w : W) (en : En) : Option En :=
  match t with
  | .nm i => if i < en.length then some (en.set i (some w)) else none
  | .tp ts => match w with
    | .tup ws => asgs ts ws en
    | _ => none
def asgs (ts : Tgs) (ws : List W) (en : En) : Option En :=
  match ts, ws with
  | .nil, [] => some en
  | .cons t ts, w :: ws => match asg t w en with
    | some en1 => asgs ts ws en1
    | none => none
  | _, _ => none
end
mutual
def Tg.slots : Tg → List Nat
  | .nm i => [i]
  | .tp ts => ts.slots
def Tgs.slots : Tgs → List Nat
  | .nil => []
  | .cons t ts => t.slots ++ ts.slots
end
def wipeE (en : En) : List Nat → En
  | [] => en
  | v :: vs => (wipeE en vs).set v none

/-! ### what is walked -/
inductive Src where
  | fix (ws : List W)
  | live (n : Nat)
  | enum (s : Src)
  | zip (s t : Src)
def Src.get : Src → Sto → Nat → Option (Option W)
  | .fix ws, _, i => some ws[i]?
  | .live n, st, i => match st[n]? with
    | some (.lst ws) => some ws[i]?
    | _ => none
  | .enum s, st, i => match s.get st i with
    | some (some w) => some (some (.tup [.int (i : Nat), w]))
    | some none => some none
    | none => none
  | .zip s t, st, i => match s.get st i, t.get st i with
    | some (some x), some (some y) => some (some (.tup [x, y]))
    | some _, some _ => some none
    | _, _ => none
def srcOf (st : Sto) : W → Option Src
  | .tup ws => some (.fix ws)
  | .frl ws => some (.fix ws)
  | .str s => some (.fix (s.cps.toList.map fun c => .str ⟨#[c]⟩))
  | .ref n => match st[n]? with
    | some (.lst _) => some (.live n)
    | _ => none
  | _ => none
def rgOk (a b : Int) : Bool := decide (-(2 ^ 62) ≤ a ∧ a < 2 ^ 62 ∧ -(2 ^ 62) ≤ b ∧ b < 2 ^ 62)
def rngW (a b : Int) : List W := (List.range (b - a).toNat).map fun i => .int (a + (i : Nat))
def rngOf : List W → Option (Int × Int)
  | [.int b] => if rgOk 0 b then some (0, b) else none
  | [.int a, .int b] => if rgOk a b then some (a, b) else none
  | _ => none
def noexc {α : Type} : Res α → Res α
  | .exc _ _ => .bad
  | r => r
def permW (pm : Option (List Nat)) (ws : List W) : Option (List W) :=
  match pm with
  | none => some ws
  | some l => l.mapM fun i => ws[i]?

inductive Out where
  | nx (en : En)
  | bk (en : En)
  | ct (en : En)
  | rt (w : W)
/-! ### what comes of parts -/
def cmpO (o : CmpO) (x y : W) (st : Sto) : Option (W × Sto) := (cmp o x y st).map fun k => (.bl k, st)
def negK (x : W) (st : Sto) : Res W :=
  match x with
  | .int i => .ok (.int (-i)) st
  | _ => .bad
def truK0 (w : W) (st : Sto) : Res Bool :=
  match tru st w with
  | some b => .ok b st
  | none => .bad
/-- the truth of what was reckoned -/
def truR (r : Res W) : Res Bool := r.bind truK0
def chnK (r : Option Bool) (k : Sto → Res W) (st : Sto) : Res W :=
  match r with
  | some true => k st
  | some false => .ok (.bl false) st
  | none => .bad
def scK (stop : Bool) (k : Sto → Res W) (x : W) (st : Sto) : Res W :=
  match tru st x with
  | some b => if b = stop then .ok x st else k st
  | none => .bad
def iteK {α : Type} (p q : Sto → Res α) (b : Bool) (st : Sto) : Res α :=
  match b with
  | true => p st
  | false => q st
def tupK (ws : List W) (st : Sto) : Res W := if ws.length ≤ sizeLine then .ok (.tup ws) st else .bad
def lstK (ws : List W) (st : Sto) : Res W := if ws.length ≤ sizeLine then newR st (.lst ws) else .bad
def dspK (n : Nat) (kvs : List (L2.Key × W)) (st : Sto) : Res W :=
  match st[n]? with
  | some (.dct []) => if kvs.length ≤ 15 then .ok (.ref n) (st.set n (.dct (mergeW kvs))) else .bad
  | _ => .bad
def callK (cl : Nat → List W → Sto → Res W) (f : Nat) (pm : Option (List Nat)) (ws : List W) (st : Sto) : Res W :=
  match permW pm ws with
  | some us => cl f us st
  | none => .bad
def isLK (k : Sto → Res W) (x : W) (st : Sto) : Res W :=
  match lstOf st x with
  | some _ => k st
  | none => .bad
def isiK (ts : List String) (x : W) (st : Sto) : Res W :=
  match tyOf st x with
  | some t => .ok (.bl (ts.any fun u => isTy t u)) st
  | none => .bad
def subO (x y : W) (st : Sto) : Option (W × Sto) := (sub st x y).map fun w => (w, st)
def lrgK (ws : List W) (st : Sto) : Res W :=
  match rngOf ws with
  | some (a, b) => if (b - a).toNat ≤ 2 ^ 24 then newR st (.lst (rngW a b)) else .bad
  | none => .bad
def keyK (y : W) (k : Sto → Res (List (L2.Key × W))) (x : W) (st : Sto) : Res (List (L2.Key × W)) :=
  match keyOf x with
  | some j => (k st).bind fun r st3 => .ok ((j, y) :: r) st3
  | none => .bad
def intK (x : W) (st : Sto) : Res (Option Int) :=
  match x with
  | .int i => .ok (some i) st
  | _ => .bad
def srcK (f : Src → Src) (x : W) (st : Sto) : Res Src :=
  match srcOf st x with
  | some s => .ok (f s) st
  | none => .bad
/-- both are lists -/
def src2K (x y : W) (st : Sto) : Res Src :=
  match srcOf st x, srcOf st y with
  | some s, some t => if isLst st x && isLst st y then .ok (.zip s t) st else .bad
  | _, _ => .bad
def srcEK (x : W) (st : Sto) : Res Src :=
  match srcOf st x with
  | some s => if isLst st x then .ok (.enum s) st else .bad
  | none => .bad
def rngK (ws : List W) (st : Sto) : Res Src :=
  match rngOf ws with
  | some (a, b) => .ok (.fix (rngW a b)) st
  | none => .bad
/-- y is put behind the list at D -/
def pushK {α : Type} (D : Nat) (k : Sto → Res α) (y : W) (st : Sto) : Res α :=
  match st[D]? with
  | some (.lst acc) => if acc.length < sizeLine then k (st.set D (.lst (acc ++ [y]))) else .bad
  | _ => .bad
def setK (t : Tg) (en : En) (x : W) (st : Sto) : Res Out :=
  match asg t x en with
  | some en1 => .ok (.nx en1) st
  | none => .bad
def setsK (ts : Tgs) (en : En) (ws : List W) (st : Sto) : Res Out :=
  match asgs ts ws en with
  | some en1 => .ok (.nx en1) st
  | none => .bad
def stoK (en : En) (v x y : W) (st : Sto) : Res Out :=
  match setI x y v st with
  | some st4 => .ok (.nx en) st4
  | none => .bad
def augK (i : Nat) (o : BinO) (en : En) (x y : W) (st : Sto) : Res Out :=
  match x, y with
  | .int a, .int b => match binI o a b with
    | some c => .ok (.nx (en.set i (some (.int c)))) st
    | none => .bad
  | _, _ => .bad
def seqK (k : En → Sto → Res Out) (o : Out) (st : Sto) : Res Out :=
  match o with
  | .nx e => k e st
  | o => .ok o st
/-- behind a loop's body: k goes on -/
def loopK (k : En → Sto → Res Out) (o : Out) (st : Sto) : Res Out :=
  match o with
  | .nx e => k e st
  | .ct e => k e st
  | .bk e => .ok (.nx e) st
  | .rt v => .ok (.rt v) st
def varK (o : Option (Option W)) (k : W → Res Out) : Res Out :=
  match o with
  | some (some x) => k x
  | _ => .bad
def FU : Nat := 20000000
section
variable (get : Sto → Nat → Option (Option W)) (as : W → En → Option En)
def forL (body : En → Sto → Res Out) : Nat → Nat → En → Sto → Res Out
  | 0, _, _, _ => .bad
  | F + 1, i, en, st => match get st i with
    | none => .bad
    | some none => .ok (.nx en) st
    | some (some w) => match as w en with
      | none => .bad
      | some en1 => (body en1 st).bind (loopK (forL body F (i + 1)))
def lcL (en0 : En) (test : En → Sto → Res Bool) (elt : En → Sto → Res W) (D : Nat) : Nat → Nat → Sto → Res W
  | 0, _, _ => .bad
  | F + 1, i, st => match get st i with
    | none => .bad
    | some none => .ok (.ref D) st
    | some (some w) => match as w en0 with
      | none => .bad
      | some en1 => (test en1 st).bind (iteK (fun st1 => (elt en1 st1).bind (pushK D fun st2 => lcL en0 test elt D F (i + 1) st2)) (fun st1 => lcL en0 test elt D F (i + 1) st1))
end
def whlL (test : En → Sto → Res Bool) (body : En → Sto → Res Out) : Nat → En → Sto → Res Out
  | 0, _, _ => .bad
  | F + 1, en, st => (test en st).bind (iteK (fun st1 => (body en st1).bind (loopK (whlL test body F))) (fun st1 => .ok (.nx en) st1))

section
variable (cl : Nat → List W → Sto → Res W)
mutual
def ev : E → En → Sto → Res W
  | .var i, en, st => match en[i]? with
    | some (some w) => .ok w st
    | _ => .bad
  | .con w, _, st => .ok w st
  | .bin o a b, en, st => (ev a en st).bind fun x st1 => (ev b en st1).bind fun y st2 => .of (bin o x y st2)
  | .cmp o a b, en, st => (ev a en st).bind fun x st1 => (ev b en st1).bind fun y st2 => .of (cmpO o x y st2)
  | .chn o p a b c, en, st => (ev a en st).bind fun x st1 => (ev b en st1).bind fun y st2 => chnK (cmp o x y st2) (fun st2 => (ev c en st2).bind fun z st3 => .of (cmpO p y z st3)) st2
  | .neg a, en, st => (ev a en st).bind negK
  | .not a, en, st => (truR (ev a en st)).bind fun b st1 => .ok (.bl (!b)) st1
  | .and a b, en, st => (ev a en st).bind (scK false fun st1 => ev b en st1)
  | .or a b, en, st => (ev a en st).bind (scK true fun st1 => ev b en st1)
  | .ite c a b, en, st => (truR (ev c en st)).bind (iteK (fun st1 => ev a en st1) (fun st1 => ev b en st1))
  | .tup es, en, st => (evs es en st).bind tupK
  | .lst es, en, st => (evs es en st).bind lstK
  | .dsp es, en, st => (evd es en (st ++ [.dct []])).bind (dspK st.length)
  | .call f pm es, en, st => (evs es en st).bind (callK cl f pm)
  | .bi b es, en, st => (evs es en st).bind fun ws st1 => .of (bi b ws st1)
  | .isi ts a, en, st => (ev a en st).bind (isiK ts)
  | .mt m o es, en, st => (ev o en st).bind fun x st1 => isLK (fun st1 => (evs es en st1).bind fun ws st2 => .of (mt m x ws st2)) x st1
  | .ix a b, en, st => (ev a en st).bind fun x st1 => (ev b en st1).bind fun y st2 => .of (subO x y st2)
  | .sl a lo hi, en, st => (ev a en st).bind fun x st1 => (evo lo en st1).bind fun l st2 => (evo hi en st2).bind fun h st3 => .of (slW x l h st3)
  | .rev a, en, st => (ev a en st).bind fun x st1 => .of (revW x st1)
  | .lrg es, en, st => (evs es en st).bind lrgK
  | .lc own tg it cs elt, en, st => (evi it en st).bind fun src st1 =>
      noexc (lcL src.get (asg tg) (wipeE en own) (fun en st => evc cs en st) (fun en st => ev elt en st) st1.length FU 0 (st1 ++ [.lst []]))
def evs : Es → En → Sto → Res (List W)
  | .nil, _, st => .ok [] st
  | .cons a es, en, st => (ev a en st).bind fun x st1 => (evs es en st1).bind fun xs st2 => .ok (x :: xs) st2
def evd : Es → En → Sto → Res (List (L2.Key × W))
  | .nil, _, st => .ok [] st
  | .cons a es, en, st => (ev a en st).bind fun x st1 => match es with
    | .nil => .bad
    | .cons b es => (ev b en st1).bind fun y st2 => keyK y (fun st2 => evd es en st2) x st2
def evo : Es → En → Sto → Res (Option Int)
  | .nil, _, st => .ok none st
  | .cons a _, en, st => (ev a en st).bind intK
def evc : Es → En → Sto → Res Bool
  | .nil, _, st => .ok true st
  | .cons a es, en, st => (truR (ev a en st)).bind (iteK (fun st1 => evc es en st1) (fun st1 => .ok false st1))
def evi : It → En → Sto → Res Src
  | .val e, en, st => (ev e en st).bind (srcK id)
  | .rng es, en, st => (evs es en st).bind rngK
  | .enum e, en, st => (ev e en st).bind srcEK
  | .zip a b, en, st => (ev a en st).bind fun x st1 => (ev b en st1).bind fun y st2 => src2K x y st2
end
def tgsOf : List Nat → Tgs
  | [] => .nil
  | i :: is => .cons (.nm i) (tgsOf is)
def ex : S → En → Sto → Res Out
  | .skip, en, st => .ok (.nx en) st
  | .seq a b, en, st => (ex a en st).bind (seqK fun e st => ex b e st)
  | .set i e, en, st => (ev cl e en st).bind (setK (.nm i) en)
  | .par is es, en, st => (evs cl es en st).bind (setsK (tgsOf is) en)
  | .unp t e, en, st => (ev cl e en st).bind (setK t en)
  | .sto o i e, en, st => (ev cl e en st).bind fun v st1 => (ev cl o en st1).bind fun x st2 => (ev cl i en st2).bind fun y st3 => stoK en v x y st3
  | .aug i o e, en, st => varK en[i]? fun x => (ev cl e en st).bind (augK i o en x)
  | .xpr e, en, st => (ev cl e en st).bind fun _ st1 => .ok (.nx en) st1
  | .ite c a b, en, st => (truR (ev cl c en st)).bind (iteK (fun st1 => ex a en st1) (fun st1 => ex b en st1))
  | .whl c b, en, st => whlL (fun en st => truR (ev cl c en st)) (fun en st => ex b en st) FU en st
  | .for_ t it b, en, st => (evi cl it en st).bind fun src st1 => forL src.get (asg t) (fun en st => ex b en st) FU 0 en st1
  | .ret e, en, st => (ev cl e en st).bind fun x st1 => .ok (.rt x) st1
  | .retN, _, st => .ok (.rt .non) st
  | .brk, en, st => .ok (.bk en) st
  | .cnt, en, st => .ok (.ct en) st
end
structure Fd where
  np : Nat
  nl : Nat
  body : S
def startE (nl : Nat) (ws : List W) : En := ws.map some ++ List.replicate (nl - ws.length) none
def retK (o : Out) (st : Sto) : Res W :=
  match o with
  | .nx _ => .ok .non st
  | .rt w => .ok w st
  | _ => .bad
def run (tab : List Fd) : Nat → Nat → List W → Sto → Res W
  | 0, _, _, _ => .bad
  | n + 1, f, ws, st => match tab[f]? with
    | none => .bad
    | some d => if ws.length = d.np then (ex (run tab n) d.body (startE d.nl ws) st).bind retK else .bad
end Ci
/-! Ci1: what a tree, a store, an environment stand for in the abstract heap; outcomes. -/
namespace Ci
open PySem L2

/-- a tuple that stays: tracked, or the module's own -/
def STup (K : PySem.W.Frag) (H : Hp) (a : Addr) (vs : List V) : Prop := H a = some (.tup vs) ∨ SqT K (fun _ => none) a vs
/-- a list that is only read -/
def SLst (K : PySem.W.Frag) (H : Hp) (a : Addr) (vs : List V) : Prop := (∃ o, H a = some (.frz o (.lst vs))) ∨ SqL K (fun _ => none) a vs
theorem rd_empty {a : Addr} {u : HO} : ¬ Rd (fun _ => none) a u := by
  rintro (h | ⟨o, h⟩)
  · cases h
  · cases h
theorem STup.sq {K : PySem.W.Frag} {H : Hp} {a : Addr} {vs : List V} (h : STup K H a vs) : SqT K H a vs := by
  rcases h with h | (h | h)
  · exact .inl (.inl h)
  · exact absurd h rd_empty
  · exact .inr h
theorem SLst.sq {K : PySem.W.Frag} {H : Hp} {a : Addr} {vs : List V} (h : SLst K H a vs) : SqL K H a vs := by
  rcases h with ⟨o, h⟩ | (h | h)
  · exact .inl (.inr ⟨o, h⟩)
  · exact absurd h rd_empty
  · exact .inr h
/-- what never changes is kept -/
def TK (H H' : Hp) : Prop := (∀ a xs, H a = some (.tup xs) → H' a = some (.tup xs)) ∧ ∀ a o xs, H a = some (.frz o (.lst xs)) → H' a = some (.frz o (.lst xs))
theorem TK.refl (H : Hp) : TK H H := ⟨fun _ _ h => h, fun _ _ _ h => h⟩
theorem TK.trans {H H1 H2 : Hp} (x : TK H H1) (y : TK H1 H2) : TK H H2 := ⟨fun a v h => y.1 a v (x.1 a v h), fun a o v h => y.2 a o v (x.2 a o v h)⟩
theorem TK.new {H : Hp} {p : Addr} {o : HO} (h : H p = none) : TK H (upd H p o) :=
  ⟨fun a xs e => (upd_ne (ne_of_none e h)).trans e, fun a u xs e => (upd_ne (ne_of_none e h)).trans e⟩
theorem TK.mut {H : Hp} {p : Addr} {o : HO} (h : Mut (H p)) : TK H (upd H p o) := by
  refine ⟨fun a xs e => ?_, fun a u xs e => ?_⟩
  · have n : a ≠ p := fun z => by subst z; rw [e] at h; exact h
    exact (upd_ne n).trans e
  · have n : a ≠ p := fun z => by subst z; rw [e] at h; exact h
    exact (upd_ne n).trans e
theorem STup.keep {K : PySem.W.Frag} {H H' : Hp} {a : Addr} {vs : List V} (t : TK H H') (h : STup K H a vs) : STup K H' a vs := h.imp (t.1 a vs) id
theorem SLst.keep {K : PySem.W.Frag} {H H' : Hp} {a : Addr} {vs : List V} (t : TK H H') (h : SLst K H a vs) : SLst K H' a vs := h.imp (fun ⟨o, z⟩ => ⟨o, t.2 a o vs z⟩) id

/-! ### values -/
mutual
inductive RW (K : PySem.W.Frag) (H : Hp) (ι : List Addr) : W → V → Prop where
  | non : RW K H ι .non .non
  | bl (b : Bool) : RW K H ι (.bl b) (.bl b)
  | int (i : Int) : RW K H ι (.int i) (.int i)
  | str (s : Str) : RW K H ι (.str s) (.str s)
  | tup {ws : List W} {vs : List V} {a : Addr} (h : STup K H a vs) (r : RWs K H ι ws vs) : RW K H ι (.tup ws) (.ref a)
  | frl {ws : List W} {vs : List V} {a : Addr} (h : SLst K H a vs) (r : RWs K H ι ws vs) : RW K H ι (.frl ws) (.ref a)
  | ref {n : Nat} {a : Addr} (h : ι[n]? = some a) : RW K H ι (.ref n) (.ref a)
inductive RWs (K : PySem.W.Frag) (H : Hp) (ι : List Addr) : List W → List V → Prop where
  | nil : RWs K H ι [] []
  | cons {w : W} {v : V} {ws : List W} {vs : List V} (h : RW K H ι w v) (t : RWs K H ι ws vs) : RWs K H ι (w :: ws) (v :: vs)
end
def Pre (ι ι' : List Addr) : Prop := ∀ (n : Nat) (a : Addr), ι[n]? = some a → ι'[n]? = some a
theorem Pre.refl (ι : List Addr) : Pre ι ι := fun _ _ h => h
theorem Pre.trans {a b c : List Addr} (x : Pre a b) (y : Pre b c) : Pre a c := fun n z h => y n z (x n z h)
theorem Pre.snoc (ι : List Addr) (p : Addr) : Pre ι (ι ++ [p]) := fun n a h => by
  rw [List.getElem?_append_left (List.getElem?_eq_some_iff.mp h).1]
  exact h
mutual
theorem RW.keep {K : PySem.W.Frag} {H H' : Hp} {ι ι' : List Addr} (t : TK H H') (p : Pre ι ι') : ∀ {w : W} {v : V}, RW K H ι w v → RW K H' ι' w v
  | _, _, .non => .non
  | _, _, .bl b => .bl b
  | _, _, .int i => .int i
  | _, _, .str s => .str s
  | _, _, .tup h r => .tup (h.keep t) (RWs.keep t p r)
  | _, _, .frl h r => .frl (h.keep t) (RWs.keep t p r)
  | _, _, .ref h => .ref (p _ _ h)
theorem RWs.keep {K : PySem.W.Frag} {H H' : Hp} {ι ι' : List Addr} (t : TK H H') (p : Pre ι ι') : ∀ {ws : List W} {vs : List V}, RWs K H ι ws vs → RWs K H' ι' ws vs
  | _, _, .nil => .nil
  | _, _, .cons h r => .cons (RW.keep t p h) (RWs.keep t p r)
end
section
variable {K : PySem.W.Frag} {H : Hp} {ι : List Addr}
theorem RWs.len : ∀ {ws : List W} {vs : List V}, RWs K H ι ws vs → ws.length = vs.length
  | _, _, .nil => rfl
  | _, _, .cons _ t => congrArg (· + 1) t.len
theorem RWs.get : ∀ {ws : List W} {vs : List V} {i : Nat} {w : W}, RWs K H ι ws vs → ws[i]? = some w → ∃ v, vs[i]? = some v ∧ RW K H ι w v
  | _, _, _, _, .nil, e => by simp at e
  | _, _, 0, _, .cons h _, e => by simp at e; subst e; exact ⟨_, rfl, h⟩
  | _, _, i + 1, w, .cons _ t, e => by simpa using RWs.get (i := i) t (by simpa using e)
theorem RWs.getV : ∀ {ws : List W} {vs : List V} {i : Nat} {v : V}, RWs K H ι ws vs → vs[i]? = some v → ∃ w, ws[i]? = some w ∧ RW K H ι w v
  | _, _, _, _, .nil, e => by simp at e
  | _, _, 0, _, .cons h _, e => by simp at e; subst e; exact ⟨_, rfl, h⟩
  | _, _, i + 1, w, .cons _ t, e => by simpa using RWs.getV (i := i) t (by simpa using e)
theorem RWs.app : ∀ {ws zs : List W} {vs us : List V}, RWs K H ι ws vs → RWs K H ι zs us → RWs K H ι (ws ++ zs) (vs ++ us)
  | _, _, _, _, .nil, s => s
  | _, _, _, _, .cons h t, s => .cons h (t.app s)
theorem RWs.drop : ∀ {ws : List W} {vs : List V} (n : Nat), RWs K H ι ws vs → RWs K H ι (ws.drop n) (vs.drop n)
  | _, _, 0, r => r
  | _, _, _ + 1, .nil => .nil
  | _, _, n + 1, .cons _ t => t.drop n
theorem RWs.take : ∀ {ws : List W} {vs : List V} (n : Nat), RWs K H ι ws vs → RWs K H ι (ws.take n) (vs.take n)
  | _, _, 0, _ => .nil
  | _, _, _ + 1, .nil => .nil
  | _, _, n + 1, .cons h t => .cons h (t.take n)
theorem RWs.set {w : W} {v : V} (h : RW K H ι w v) : ∀ {ws : List W} {vs : List V} (i : Nat), RWs K H ι ws vs → RWs K H ι (ws.set i w) (vs.set i v)
  | _, _, _, .nil => .nil
  | _, _, 0, .cons _ t => .cons h t
  | _, _, i + 1, .cons q t => .cons q (t.set h i)
theorem RWs.one {w : W} {v : V} (h : RW K H ι w v) : RWs K H ι [w] [v] := .cons h .nil
theorem RWs.rev {ws : List W} {vs : List V} (h : RWs K H ι ws vs) : RWs K H ι ws.reverse vs.reverse := by
  induction ws generalizing vs with
  | nil => cases h; exact .nil
  | cons w ws ih =>
    cases h with
    | cons a t =>
      rw [List.reverse_cons, List.reverse_cons]
      exact (ih t).app (.one a)
theorem RWs.erase : ∀ {ws : List W} {vs : List V} (i : Nat), RWs K H ι ws vs → RWs K H ι (ws.eraseIdx i) (vs.eraseIdx i)
  | _, _, _, .nil => .nil
  | _, _, 0, .cons _ t => t
  | _, _, i + 1, .cons q t => .cons q (t.erase i)
theorem RWs.rep {ws : List W} {vs : List V} (h : RWs K H ι ws vs) : ∀ k : Nat, RWs K H ι (List.replicate k ws).flatten (List.replicate k vs).flatten
  | 0 => .nil
  | k + 1 => by
    rw [List.replicate_succ, List.replicate_succ, List.flatten_cons, List.flatten_cons]
    exact h.app (h.rep k)
theorem RWs.dropLast {ws : List W} {vs : List V} (h : RWs K H ι ws vs) : RWs K H ι ws.dropLast vs.dropLast := by
  rw [List.dropLast_eq_take, List.dropLast_eq_take, h.len]
  exact h.take _
theorem RWs.ints : ∀ {ws : List W} {vs : List V} {ns : List Int}, RWs K H ι ws vs → intsOf ws = some ns → vs = ns.map V.int
  | _, _, _, .nil, e => by cases e; rfl
  | w :: ws, _, ns, .cons h t, e => by
    cases w with
    | int i =>
      rw [intsOf] at e
      obtain ⟨ms, e1, rfl⟩ := Option.map_eq_some_iff.mp e
      cases h
      rw [RWs.ints t e1]
      rfl
    | _ => exact absurd e (by simp [intsOf])
theorem RWs.bls : ∀ {ws : List W} {vs : List V} {ns : List Bool}, RWs K H ι ws vs → blsOf ws = some ns → vs = ns.map V.bl
  | _, _, _, .nil, e => by cases e; rfl
  | w :: ws, _, ns, .cons h t, e => by
    cases w with
    | bl i =>
      rw [blsOf] at e
      obtain ⟨ms, e1, rfl⟩ := Option.map_eq_some_iff.mp e
      cases h
      rw [RWs.bls t e1]
      rfl
    | _ => exact absurd e (by simp [blsOf])
theorem RWs.of_ints : ∀ (ns : List Int), RWs K H ι (ns.map W.int) (ns.map V.int)
  | [] => .nil
  | n :: ns => .cons (.int n) (RWs.of_ints ns)
end

/-! ### the store -/
inductive RKv (K : PySem.W.Frag) (H : Hp) (ι : List Addr) : List (Key × W) → List (Key × V) → Prop where
  | nil : RKv K H ι [] []
  | cons {k : Key} {w : W} {v : V} {ws : List (Key × W)} {vs : List (Key × V)} (h : RW K H ι w v) (t : RKv K H ι ws vs) : RKv K H ι ((k, w) :: ws) ((k, v) :: vs)
def RO (K : PySem.W.Frag) (H : Hp) (ι : List Addr) (a : Addr) : Ob → Prop
  | .lst ws => ∃ vs, H a = some (.lst vs) ∧ RWs K H ι ws vs
  | .dct kvs => ∃ vs, H a = some (.dK vs) ∧ RKv K H ι kvs vs
structure HRel (K : PySem.W.Frag) (H : Hp) (ι : List Addr) (st : Sto) : Prop where
  len : ι.length = st.length
  inj : ∀ (m n : Nat) (a : Addr), ι[m]? = some a → ι[n]? = some a → m = n
  ob : ∀ (n : Nat) (a : Addr) (o : Ob), ι[n]? = some a → st[n]? = some o → RO K H ι a o
structure Rel (K : PySem.W.Frag) (σ : L2.St) (H : Hp) (ι : List Addr) (en : En) (st : Sto) : Prop where
  hr : HRel K H ι st
  len : σ.length = en.length
  en : ∀ (i : Nat) (w : W), en[i]? = some (some w) → ∃ v, σ[i]? = some (some v) ∧ RW K H ι w v
section
variable {K : PySem.W.Frag} {H H' : Hp} {ι ι' : List Addr} {st st' : Sto} {σ : L2.St} {en : En}
theorem RKv.keep (t : TK H H') (p : Pre ι ι') : ∀ {ws : List (Key × W)} {vs : List (Key × V)}, RKv K H ι ws vs → RKv K H' ι' ws vs
  | _, _, .nil => .nil
  | _, _, .cons h r => .cons (h.keep t p) (r.keep t p)
theorem RKv.len : ∀ {ws : List (Key × W)} {vs : List (Key × V)}, RKv K H ι ws vs → ws.length = vs.length
  | _, _, .nil => rfl
  | _, _, .cons _ r => congrArg (· + 1) r.len
theorem RO.mut {a : Addr} {o : Ob} (h : RO K H ι a o) : Mut (H a) := by
  cases o with
  | lst ws => obtain ⟨vs, e, _⟩ := h; rw [e]; exact True.intro
  | dct kvs => obtain ⟨vs, e, _⟩ := h; rw [e]; exact True.intro
theorem RO.keep {a : Addr} {o : Ob} (t : TK H H') (p : Pre ι ι') (e : H' a = H a) (h : RO K H ι a o) : RO K H' ι' a o := by
  cases o with
  | lst ws => obtain ⟨vs, q, r⟩ := h; exact ⟨vs, e.trans q, r.keep t p⟩
  | dct kvs => obtain ⟨vs, q, r⟩ := h; exact ⟨vs, e.trans q, r.keep t p⟩
theorem Rel.keep (R : Rel K σ H ι en st) (t : TK H H') (p : Pre ι ι') (h : HRel K H' ι' st') : Rel K σ H' ι' en st' :=
  ⟨h, R.len, fun i w e => let ⟨v, q, r⟩ := R.en i w e; ⟨v, q, r.keep t p⟩⟩
theorem HRel.at (h : HRel K H ι st) {n : Nat} {a : Addr} (e : ι[n]? = some a) : ∃ o, st[n]? = some o ∧ RO K H ι a o := by
  have l : n < st.length := by rw [← h.len]; exact (List.getElem?_eq_some_iff.mp e).1
  exact ⟨st[n], List.getElem?_eq_getElem l, h.ob n a _ e (List.getElem?_eq_getElem l)⟩
theorem HRel.adr (h : HRel K H ι st) {n : Nat} {o : Ob} (e : st[n]? = some o) : ∃ a, ι[n]? = some a ∧ RO K H ι a o := by
  have l : n < ι.length := by rw [h.len]; exact (List.getElem?_eq_some_iff.mp e).1
  exact ⟨ι[n], List.getElem?_eq_getElem l, h.ob n _ o (List.getElem?_eq_getElem l) e⟩
theorem HRel.fresh (h : HRel K H ι st) {p : Addr} (hp : H p = none) : ∀ n : Nat, ι[n]? ≠ some p := fun n e => by
  obtain ⟨o, _, r⟩ := h.at e
  have := r.mut
  rw [hp] at this
  exact this
/-- a new object -/
theorem HRel.push (h : HRel K H ι st) {p : Addr} {u : HO} {o : Ob} (hp : H p = none) (r : RO K (upd H p u) (ι ++ [p]) p o) : HRel K (upd H p u) (ι ++ [p]) (st ++ [o]) := by
  have fr := h.fresh hp
  refine ⟨by simp [h.len], fun m n a e1 e2 => ?_, fun n a q e1 e2 => ?_⟩
  · rcases Nat.lt_or_ge m ι.length with hm | hm
    · rw [List.getElem?_append_left hm] at e1
      rcases Nat.lt_or_ge n ι.length with hn | hn
      · rw [List.getElem?_append_left hn] at e2
        exact h.inj m n a e1 e2
      · rw [List.getElem?_append_right hn] at e2
        have : a = p := by
          rcases Nat.eq_zero_or_pos (n - ι.length) with z | z
          · rw [z] at e2; simpa using e2.symm
          · rw [List.getElem?_eq_none (by simp only [List.length_singleton]; omega)] at e2; cases e2
        subst this
        exact absurd e1 (fr m)
    · rw [List.getElem?_append_right hm] at e1
      have hm0 : m = ι.length := by
        rcases Nat.eq_zero_or_pos (m - ι.length) with z | z
        · omega
        · rw [List.getElem?_eq_none (by simp only [List.length_singleton]; omega)] at e1; cases e1
      have ha : a = p := by
        rw [hm0] at e1; simpa using e1.symm
      subst ha
      rcases Nat.lt_or_ge n ι.length with hn | hn
      · rw [List.getElem?_append_left hn] at e2
        exact absurd e2 (fr n)
      · rw [List.getElem?_append_right hn] at e2
        rcases Nat.eq_zero_or_pos (n - ι.length) with z | z
        · omega
        · rw [List.getElem?_eq_none (by simp only [List.length_singleton]; omega)] at e2; cases e2
  · rcases Nat.lt_or_ge n ι.length with hn | hn
    · rw [List.getElem?_append_left hn] at e1
      rw [List.getElem?_append_left (by rw [← h.len]; exact hn)] at e2
      have ne : a ≠ p := fun z => fr n (by rw [e1, z])
      exact (h.ob n a q e1 e2).keep (TK.new hp) (Pre.snoc ι p) (upd_ne ne)
    · have hn0 : n = ι.length := by
        rw [List.getElem?_append_right hn] at e1
        rcases Nat.eq_zero_or_pos (n - ι.length) with z | z
        · omega
        · rw [List.getElem?_eq_none (by simp only [List.length_singleton]; omega)] at e1; cases e1
      subst hn0
      have ha : a = p := by simpa using e1.symm
      subst ha
      rw [h.len] at e2
      have hq : q = o := by simpa using e2.symm
      subst hq
      exact r
/-- an object changed -/
theorem HRel.set (h : HRel K H ι st) {n : Nat} {p : Addr} {u : HO} {o : Ob} (hp : ι[n]? = some p) (r : RO K (upd H p u) ι p o) : HRel K (upd H p u) ι (st.set n o) := by
  have mu : Mut (H p) := let ⟨_, _, z⟩ := h.at hp; z.mut
  refine ⟨by simp [h.len], h.inj, fun m a q e1 e2 => ?_⟩
  by_cases e : m = n
  · subst e
    rw [hp] at e1
    cases e1
    have hl : m < st.length := by rw [← h.len]; exact (List.getElem?_eq_some_iff.mp hp).1
    rw [List.getElem?_set_self hl] at e2
    cases e2
    exact r
  · rw [List.getElem?_set_ne (Ne.symm e)] at e2
    have ne : a ≠ p := fun z => e (h.inj m n a e1 (by rw [hp, z]))
    exact (h.ob m a q e1 e2).keep (TK.mut mu) (Pre.refl ι) (upd_ne ne)
end

/-! ### outcomes -/
section
variable {K : PySem.W.Frag}
/-- what an exception is in the heap -/
def RX (K : PySem.W.Frag) (H : Hp) (ι : List Addr) (x : Exn) (c : Value) (d : Option Addr) : Prop := False
/-- r is reckoned from (H, ι): what comes of it is wanted -/
def Fin {α : Type} (K : PySem.W.Frag) (X : Value → Option Addr → Hp → Prop) (ι : List Addr) (H : Hp) (r : Res α) (k : α → List Addr → Sto → Hp → Prop) : Prop :=
  match r with
  | .ok a st => ∀ ι' H', Pre ι ι' → TK H H' → HRel K H' ι' st → k a ι' st H'
  | .exc x st => ∀ ι' H' c d, Pre ι ι' → TK H H' → HRel K H' ι' st → RX K H' ι' x c d → X c d H'
  | .bad => False
variable {X : Value → Option Addr → Hp → Prop} {ι : List Addr} {H : Hp} {α β : Type}
theorem Fin.shift {r : Res α} {k : α → List Addr → Sto → Hp → Prop} {ι' : List Addr} {H' : Hp} (p : Pre ι ι') (t : TK H H') (h : Fin K X ι H r k) : Fin K X ι' H' r k := by
  cases r with
  | ok a st => exact fun ι2 H2 p2 t2 z => h ι2 H2 (p.trans p2) (t.trans t2) z
  | exc x st => exact fun ι2 H2 c d p2 t2 z => h ι2 H2 c d (p.trans p2) (t.trans t2) z
  | bad => exact h
theorem Fin.split {r : Res α} {f : α → Sto → Res β} {k : β → List Addr → Sto → Hp → Prop} (h : Fin K X ι H (r.bind f) k) :
    Fin K X ι H r (fun a ι' st' H' => Fin K X ι' H' (f a st') k) := by
  cases r with
  | ok a st => exact fun ι' H' p t _ => Fin.shift p t h
  | exc x st => exact h
  | bad => exact h
theorem Fin.mono {r : Res α} {k k' : α → List Addr → Sto → Hp → Prop} (h : Fin K X ι H r k) (hk : ∀ a ι' st' H', Pre ι ι' → TK H H' → HRel K H' ι' st' → k a ι' st' H' → k' a ι' st' H') : Fin K X ι H r k' := by
  cases r with
  | ok a st => exact fun ι' H' p t z => hk a ι' st H' p t z (h ι' H' p t z)
  | exc x st => exact h
  | bad => exact h
theorem Fin.now {a : α} {st : Sto} {k : α → List Addr → Sto → Hp → Prop} (h : Fin K X ι H (.ok a st) k) (z : HRel K H ι st) : k a ι st H := h ι H (Pre.refl ι) (TK.refl H) z

/-- an expression's reading by its reckoning -/
def tW (K : PySem.W.Frag) (X : WX) (f : En → Sto → Res W) : TE := fun σ H Q => ∃ ι en st, Rel K σ H ι en st ∧ Fin K (fun c d H' => X c d σ H') ι H (f en st) fun w ι' _ H' => ∀ v, RW K H' ι' w v → Q v H'
def tWs (K : PySem.W.Frag) (X : WX) (f : En → Sto → Res (List W)) : TA := fun σ H Q => ∃ ι en st, Rel K σ H ι en st ∧ Fin K (fun c d H' => X c d σ H') ι H (f en st) fun w ι' _ H' => ∀ v, RWs K H' ι' w v → Q v H'
def tWb (K : PySem.W.Frag) (X : WX) (f : En → Sto → Res Bool) : TT := fun σ H Q => ∃ ι en st, Rel K σ H ι en st ∧ Fin K (fun c d H' => X c d σ H') ι H (f en st) fun b _ _ H' => Q b H'
/-- only slots of A differ -/
def Agree (A : Nat → Bool) (σ σ' : L2.St) : Prop := σ'.length = σ.length ∧ ∀ i, A i = false → σ'[i]? = σ[i]?
theorem Agree.refl (A : Nat → Bool) (σ : L2.St) : Agree A σ σ := ⟨rfl, fun _ _ => rfl⟩
theorem Agree.trans {A : Nat → Bool} {a b c : L2.St} (x : Agree A a b) (y : Agree A b c) : Agree A a c := ⟨y.1.trans x.1, fun i h => (y.2 i h).trans (x.2 i h)⟩
def outK (K : PySem.W.Frag) (D : Ends) (A : Nat → Bool) (σ : L2.St) : Out → List Addr → Sto → Hp → Prop := fun o ι' st' H' =>
  match o with
  | .nx en' => ∀ σ', Agree A σ σ' → Rel K σ' H' ι' en' st' → D.nx σ' H'
  | .bk en' => ∀ σ', Agree A σ σ' → Rel K σ' H' ι' en' st' → D.bk σ' H'
  | .ct en' => ∀ σ', Agree A σ σ' → Rel K σ' H' ι' en' st' → D.ct σ' H'
  | .rt w => ∀ v, RW K H' ι' w v → D.rt v H'
/-- a statement's -/
def tWS (K : PySem.W.Frag) (X : WX) (A : Nat → Bool) (f : En → Sto → Res Out) : TS := fun D σ H => ∃ ι en st, Rel K σ H ι en st ∧ Fin K (fun c d H' => ∀ σ', Agree A σ σ' → X c d σ' H') ι H (f en st) (outK K D A σ)
end
end Ci
/-! Ci2: operators, comparisons, places by values. -/
namespace Ci
open PySem L2

def FinO (K : PySem.W.Frag) (ι : List Addr) (H : Hp) (r : Option (W × Sto)) (Q : VK) : Prop :=
  match r with
  | some (w, st) => ∀ ι' H' v, Pre ι ι' → TK H H' → HRel K H' ι' st → RW K H' ι' w v → Q v H'
  | none => False
def rB2 (K : PySem.W.Frag) (f : W → W → Sto → Option (W × Sto)) : R2 := fun x y H Q => ∃ ι st a b, HRel K H ι st ∧ RW K H ι a x ∧ RW K H ι b y ∧ FinO K ι H (f a b st) Q
def rB1 (K : PySem.W.Frag) (f : W → Sto → Option (W × Sto)) : V → Hp → VK → Prop := fun x H Q => ∃ ι st a, HRel K H ι st ∧ RW K H ι a x ∧ FinO K ι H (f a st) Q
def rBs (K : PySem.W.Frag) (f : List W → Sto → Option (W × Sto)) : List V → Hp → VK → Prop := fun xs H Q => ∃ ι st as, HRel K H ι st ∧ RWs K H ι as xs ∧ FinO K ι H (f as st) Q
def rBm (K : PySem.W.Frag) (f : W → List W → Sto → Option (W × Sto)) : V → List V → Hp → VK → Prop := fun x xs H Q => ∃ ι st a as, HRel K H ι st ∧ RW K H ι a x ∧ RWs K H ι as xs ∧ FinO K ι H (f a as st) Q
section
variable {K : PySem.W.Frag} {ι : List Addr} {H : Hp} {st : Sto} {Q : VK}
theorem FinO.now {w : W} {v : V} (h : FinO K ι H (some (w, st)) Q) (z : HRel K H ι st) (r : RW K H ι w v) : Q v H := h ι H v (Pre.refl ι) (TK.refl H) z r
theorem FinO.new {ws : List W} {vs : List V} (h : FinO K ι H (Ci.new st (.lst ws)) Q) (z : HRel K H ι st) (r : RWs K H ι ws vs) : ∀ p, H p = none → Q (.ref p) (upd H p (.lst vs)) := fun p hp =>
  h (ι ++ [p]) _ (.ref p) (Pre.snoc ι p) (TK.new hp) (z.push hp ⟨vs, upd_same, r.keep (TK.new hp) (Pre.snoc ι p)⟩) (.ref (by rw [← z.len]; simp))
theorem FinO.tup {ws : List W} {vs : List V} (h : FinO K ι H (some (.tup ws, st)) Q) (z : HRel K H ι st) (r : RWs K H ι ws vs) : ∀ p, H p = none → Q (.ref p) (upd H p (.tup vs)) := fun p hp => by
  refine h ι _ (.ref p) (Pre.refl ι) (TK.new hp) ⟨z.len, z.inj, fun n a o e1 e2 => ?_⟩ (.tup (.inl upd_same) (r.keep (TK.new hp) (Pre.refl ι)))
  have ne : a ≠ p := fun q => z.fresh hp n (by rw [e1, q])
  exact (z.ob n a o e1 e2).keep (TK.new hp) (Pre.refl ι) (upd_ne ne)
theorem FinO.put {w : W} {v : V} {n : Nat} {p : Addr} {ws : List W} {vs : List V} (h : FinO K ι H (some (w, st.set n (.lst ws))) Q) (z : HRel K H ι st) (hp : ι[n]? = some p) (r : RWs K H ι ws vs) (rw' : RW K H ι w v) : Q v (upd H p (.lst vs)) := by
  have mu : Mut (H p) := let ⟨_, _, q⟩ := z.at hp; q.mut
  exact h ι _ v (Pre.refl ι) (TK.mut mu) (z.set hp ⟨vs, upd_same, r.keep (TK.mut mu) (Pre.refl ι)⟩) (rw'.keep (TK.mut mu) (Pre.refl ι))
/-- what stands at a list's, a tuple's place -/
theorem RW.seq {w : W} {v : V} {ws : List W} (z : HRel K H ι st) (r : RW K H ι w v) (e : seqOf st w = some ws) : ∃ a vs, v = .ref a ∧ RWs K H ι ws vs ∧ (SqL K H a vs ∨ SqT K H a vs) := by
  cases w with
  | tup us => cases r with | tup h q => cases e; exact ⟨_, _, rfl, q, .inr h.sq⟩
  | frl us => cases r with | frl h q => cases e; exact ⟨_, _, rfl, q, .inl h.sq⟩
  | ref n =>
    cases r with
    | ref h =>
      obtain ⟨o, eo, ro⟩ := z.at h
      unfold seqOf at e
      simp only [eo] at e
      cases o with
      | lst us => cases e; obtain ⟨vs, q1, q2⟩ := ro; exact ⟨_, vs, rfl, q2, .inl (SqL.of q1)⟩
      | dct _ => cases e
  | _ => cases e
theorem RW.lst {w : W} {v : V} {ws : List W} (z : HRel K H ι st) (r : RW K H ι w v) (e : lstOf st w = some ws) : ∃ a vs, v = .ref a ∧ RWs K H ι ws vs ∧ SqL K H a vs := by
  cases w with
  | frl us => cases r with | frl h q => cases e; exact ⟨_, _, rfl, q, h.sq⟩
  | ref n =>
    cases r with
    | ref h =>
      obtain ⟨o, eo, ro⟩ := z.at h
      unfold lstOf at e
      simp only [eo] at e
      cases o with
      | lst us => cases e; obtain ⟨vs, q1, q2⟩ := ro; exact ⟨_, vs, rfl, q2, SqL.of q1⟩
      | dct _ => cases e
  | _ => cases e
theorem RW.own {n : Nat} {v : V} {o : Ob} (z : HRel K H ι st) (r : RW K H ι (.ref n) v) (e : st[n]? = some o) : ∃ a, v = .ref a ∧ ι[n]? = some a ∧ RO K H ι a o := by
  cases r with
  | ref h => exact ⟨_, rfl, h, z.ob _ _ _ h e⟩
end

section
variable {X : Cx}
theorem or_bin (o : BinO) : OpR X (binaryOp o.py) (rB2 X.K (bin o)) := by
  intro pins s σ H x y v u Q I rx ry h
  obtain ⟨ι, st, a, b, hr, ra, rb, hf⟩ := h
  cases a with
  | int i =>
    cases b with
    | int j =>
      cases ra; cases rb
      have hf' : FinO X.K ι H ((binI o i j).map fun k => (W.int k, st)) Q := hf
      cases ho : binI o i j with
      | none => rw [ho] at hf'; exact hf'.elim
      | some k =>
        rw [ho] at hf'
        have q : Q (.int k) H := FinO.now hf' hr (.int k)
        cases o with
        | add => cases ho; exact op_add pins s σ H _ _ v u Q I rx ry ⟨i, j, rfl, rfl, q⟩
        | sub => cases ho; exact op_sub pins s σ H _ _ v u Q I rx ry ⟨i, j, rfl, rfl, q⟩
        | mul =>
          simp only [binI] at ho
          split at ho
          · rename_i hc
            cases ho
            simp only [Bool.or_eq_true] at hc
            rcases hc with (hc | hc) | hc
            · exact op_mul pins s σ H _ _ v u Q I rx ry ⟨i, j, rfl, rfl, .inl (of_decide_eq_true hc), q⟩
            · exact op_mul pins s σ H _ _ v u Q I rx ry ⟨i, j, rfl, rfl, .inr (of_decide_eq_true hc), q⟩
            · have hc := of_decide_eq_true hc
              exact op_mulW pins s σ H _ _ v u Q I rx ry ⟨i, j, rfl, rfl, hc, q⟩
          · cases ho
        | fdiv =>
          simp only [binI] at ho
          split at ho
          · rename_i hc
            cases ho
            simp only [divOk, Bool.and_eq_true, Bool.or_eq_true, decide_eq_true_eq] at hc
            obtain ⟨h0, hc | hc⟩ := hc
            · exact op_fdiv pins s σ H _ _ v u Q I rx ry ⟨i, j, rfl, rfl, ⟨h0, hc⟩, q⟩
            · exact op_fdivW pins s σ H _ _ v u Q I rx ry ⟨i, j, rfl, rfl, ⟨h0, hc⟩, q⟩
          · cases ho
        | mod =>
          simp only [binI] at ho
          split at ho
          · rename_i hc
            cases ho
            have hc := of_decide_eq_true hc
            exact op_mod pins s σ H _ _ v u Q I rx ry ⟨i, j, rfl, rfl, hc, q⟩
          · cases ho
        | pow =>
          simp only [binI] at ho
          split at ho
          · rename_i hc
            cases ho
            have hc := of_decide_eq_true hc
            exact op_pow pins s σ H _ _ v u Q I rx ry ⟨i, j, rfl, rfl, hc, q⟩
          · cases ho
        | shl =>
          simp only [binI] at ho
          split at ho
          · rename_i hc
            cases ho
            have hc := of_decide_eq_true hc
            exact op_shl pins s σ H _ _ v u Q I rx ry ⟨i, j, rfl, rfl, hc, q⟩
          · cases ho
        | shr =>
          simp only [binI] at ho
          split at ho
          · rename_i hc
            cases ho
            have hc := of_decide_eq_true hc
            exact op_shr pins s σ H _ _ v u Q I rx ry ⟨i, j, rfl, rfl, hc, q⟩
          · cases ho
        | band => cases ho; exact op_and pins s σ H _ _ v u Q I rx ry ⟨i, j, rfl, rfl, q⟩
        | bor => cases ho; exact op_or pins s σ H _ _ v u Q I rx ry ⟨i, j, rfl, rfl, q⟩
        | bxor => cases ho; exact op_xor pins s σ H _ _ v u Q I rx ry ⟨i, j, rfl, rfl, q⟩
    | _ => exact hf.elim
  | str x =>
    cases b with
    | str y =>
      cases ra; cases rb
      cases o with
      | add =>
        have hf' : FinO X.K ι H (if x.length + y.length ≤ sizeLine then some (W.str (x ++ y), st) else none) Q := hf
        split at hf'
        · rename_i hc
          exact op_add_str pins s σ H _ _ v u Q I rx ry ⟨x, y, rfl, rfl, hc, FinO.now hf' hr (.str _)⟩
        · exact hf'.elim
      | _ => exact hf.elim
    | _ => exact hf.elim
  | tup xs =>
    cases b with
    | tup ys =>
      cases o with
      | add =>
        have hf' : FinO X.K ι H (if xs.length + ys.length ≤ sizeLine then some (W.tup (xs ++ ys), st) else none) Q := hf
        split at hf'
        · rename_i hc
          cases ra with
          | @tup _ vs p hp rp =>
            cases rb with
            | @tup _ us q hq rq =>
              have l1 := rp.len
              have l2 := rq.len
              refine op_catA pins s σ H _ _ v u Q I rx ry ⟨p, q, vs, us, rfl, rfl, hp.sq, hq.sq, by omega, fun e => ?_, fun _ e => ?_, fun _ _ => FinO.tup hf' hr (rp.app rq)⟩
              · subst e
                have : xs = [] := List.length_eq_zero_iff.mp (by rw [l1]; rfl)
                subst this
                exact FinO.now hf' hr (.tup hq rq)
              · subst e
                have : ys = [] := List.length_eq_zero_iff.mp (by rw [l2]; rfl)
                subst this
                rw [List.append_nil] at hf'
                exact FinO.now hf' hr (.tup hp rp)
        · exact hf'.elim
      | _ => exact hf.elim
    | _ => exact hf.elim
  | ref m =>
    cases b with
    | ref n =>
      unfold bin at hf
      simp only at hf
      split at hf
      · rename_i xs ys e1 e2
        split at hf
        · rename_i hc
          obtain ⟨p, rfl, hp, vs, h1, r1⟩ := ra.own hr e1
          obtain ⟨q, rfl, hq, us, h2, r2⟩ := rb.own hr e2
          have l1 := r1.len
          have l2 := r2.len
          exact op_cat pins s σ H _ _ v u Q I rx ry ⟨p, q, vs, us, rfl, rfl, h1, h2, by omega, FinO.new hf hr (r1.app r2)⟩
        · exact hf.elim
      · exact hf.elim
    | int k =>
      unfold bin at hf
      simp only at hf
      split at hf
      · rename_i xs e1
        split at hf
        · rename_i hc
          simp only [Bool.and_eq_true, decide_eq_true_eq] at hc
          cases rb
          obtain ⟨p, rfl, hp, vs, h1, r1⟩ := ra.own hr e1
          have l1 := r1.len
          exact op_rep pins s σ H _ _ v u Q I rx ry ⟨p, k, vs, rfl, rfl, h1, by omega, by omega, by rw [← l1]; exact hc.2, FinO.new hf hr (r1.rep k.toNat)⟩
        · exact hf.elim
      · exact hf.elim
    | _ => exact hf.elim
  | _ => exact hf.elim

theorem or_of {f : Value → Value → Sem Value} {r r' : R2} (h : OpR X f r) (i : ∀ x y H Q, r' x y H Q → r x y H Q) : OpR X f r' := fun pins s σ H x y v u Q I rx ry q => h pins s σ H x y v u Q I rx ry (i _ _ _ _ q)
end

/-! ### data -/
section
variable {K : PySem.W.Frag} {ι : List Addr} {H : Hp} {st : Sto}
mutual
theorem RW.dp {ρ : Nat → Option PyData} (hρ : ∀ (n : Nat) (a : Addr) (d : PyData), ι[n]? = some a → ρ n = some d → Dp K H (.ref a) d) : ∀ {w : W} {v : V} {d : PyData}, RW K H ι w v → pd ρ w = some d → Dp K H v d
  | _, _, _, .non, e => by rw [pd] at e; cases e; exact .non
  | _, _, _, .bl b, e => by rw [pd] at e; cases e; exact .bl b
  | _, _, _, .int b, e => by rw [pd] at e; cases e; exact .int b
  | _, _, _, .str b, e => by rw [pd] at e; cases e; exact .str b
  | _, _, _, .tup h r, e => by
    rw [pd] at e
    obtain ⟨ds, e1, rfl⟩ := Option.map_eq_some_iff.mp e
    exact .tup h.sq (RWs.dp hρ r e1)
  | _, _, _, .frl h r, e => by
    rw [pd] at e
    obtain ⟨ds, e1, rfl⟩ := Option.map_eq_some_iff.mp e
    exact .lst h.sq (RWs.dp hρ r e1)
  | _, _, _, .ref h, e => by rw [pd] at e; exact hρ _ _ _ h e
theorem RWs.dp {ρ : Nat → Option PyData} (hρ : ∀ (n : Nat) (a : Addr) (d : PyData), ι[n]? = some a → ρ n = some d → Dp K H (.ref a) d) : ∀ {ws : List W} {vs : List V} {ds : List PyData}, RWs K H ι ws vs → pds ρ ws = some ds → DpAll K H vs ds
  | _, _, _, .nil, e => by rw [pds] at e; cases e; exact .nil
  | _, _, _, .cons h r, e => by
    rw [pds] at e
    split at e
    · rename_i d ds e1 e2
      cases e
      exact .cons (RW.dp hρ h e1) (RWs.dp hρ r e2)
    · cases e
end
theorem rho_dp (z : HRel K H ι st) : ∀ (k n : Nat) (a : Addr) (d : PyData), ι[n]? = some a → rho st k n = some d → Dp K H (.ref a) d
  | 0, _, _, _, _, e => by cases e
  | k + 1, n, a, d, h, e => by
    obtain ⟨o, eo, ro⟩ := z.at h
    rw [rho, eo] at e
    cases o with
    | lst us =>
      obtain ⟨vs, q1, q2⟩ := ro
      obtain ⟨ds, e1, rfl⟩ := Option.map_eq_some_iff.mp e
      exact .lst (SqL.of q1) (RWs.dp (rho_dp z k) q2 e1)
    | dct _ => cases e
theorem toD_dp (z : HRel K H ι st) {w : W} {v : V} {d : PyData} (r : RW K H ι w v) (e : toD st w = some d) : Dp K H v d := RW.dp (rho_dp z 9) r e
end

section
variable {X : Cx}
theorem eqv_flat (st : Sto) {x y : W} {b : Bool} (h : eqD st x y = some b) : (∃ a c, x = .str a ∧ y = .str c ∧ b = (a == c)) ∨ (∃ a c, x = .int a ∧ y = .int c ∧ b = (a == c)) ∨
    ∃ d e, toD st x = some d ∧ toD st y = some e ∧ SeqAt.shaped d = true ∧ SeqAt.shaped e = true ∧ b = PyData.eqv d e := by
  unfold eqD at h
  split at h
  · cases h; exact .inl ⟨_, _, rfl, rfl, rfl⟩
  · cases h; exact .inr (.inl ⟨_, _, rfl, rfl, rfl⟩)
  · split at h
    · rename_i d e h1 h2
      split at h
      · rename_i hs
        cases h
        simp only [shapedB, Bool.and_eq_true] at hs
        exact .inr (.inr ⟨d, e, h1, h2, hs.1, hs.2, rfl⟩)
      · cases h
    · cases h
theorem flat_rel {K : PySem.W.Frag} {H : Hp} {ι : List Addr} {w : W} {v : V} (r : RW K H ι w v) (f : flatW w = true) : flatV v = true := by
  cases r <;> first | rfl | cases f
theorem eqF_rel {K : PySem.W.Frag} {H : Hp} {ι : List Addr} {w z : W} {v u : V} (r : RW K H ι w v) (q : RW K H ι z u) (f : flatW w = true) (g : flatW z = true) : eqV v u = eqF w z := by
  cases r <;> cases q <;> rfl
theorem flats_rel {K : PySem.W.Frag} {H : Hp} {ι : List Addr} {w : W} {v : V} (r : RW K H ι w v) (f : flatW w = true) : ∀ {ws : List W} {vs : List V}, RWs K H ι ws vs → ws.all flatW = true → vs.all flatV = true ∧ inV v vs = ws.any fun y => eqF y w
  | _, _, .nil, _ => ⟨rfl, rfl⟩
  | _, _, .cons h t, e => by
    rw [List.all_cons, Bool.and_eq_true] at e
    obtain ⟨a, b⟩ := flats_rel r f t e.2
    refine ⟨by rw [List.all_cons, flat_rel h e.1, a]; rfl, ?_⟩
    unfold inV at b ⊢
    rw [List.any_cons, List.any_cons, eqF_rel h r e.1 f, b]
end
end Ci
/-! Ci3: comparisons, truth, subscripts, slices, built-ins, methods by values. -/
namespace Ci
open PySem L2

section
variable {K : PySem.W.Frag} {ι : List Addr} {H : Hp} {st : Sto} {Q : VK}
theorem keyOf_rel {w : W} {v : V} {k : Key} (r : RW K H ι w v) (e : keyOf w = some k) : v = kV k := by
  cases r <;> first | (cases e; rfl) | cases e
theorem RKv.get : ∀ {ws : List (Key × W)} {vs : List (Key × V)} {k : Key}, RKv K H ι ws vs → (∀ w, dgetL k ws = some w → ∃ v, valV vs k = some v ∧ RW K H ι w v) ∧ (valV vs k).isSome = (dgetL k ws).isSome
  | _, _, k, .nil => ⟨fun w e => (by cases e), rfl⟩
  | (j, w) :: ws, (_, v) :: vs, k, .cons h t => by
    by_cases e : j = k
    · subst e
      have e1 : dgetL j ((j, w) :: ws) = some w := by rw [dgetL, if_pos rfl]
      have e2 : valV ((j, v) :: vs) j = some v := valV_pos rfl
      refine ⟨fun z ez => ?_, by rw [e1, e2]; rfl⟩
      rw [e1] at ez
      cases ez
      exact ⟨v, e2, h⟩
    · have e1 : dgetL k ((j, w) :: ws) = dgetL k ws := by rw [dgetL, if_neg e]
      have e2 : valV ((j, v) :: vs) k = valV vs k := valV_neg e
      rw [e1, e2]
      exact RKv.get t
theorem FinO.bl {b : Bool} (h : FinO K ι H (some (.bl b, st)) Q) (z : HRel K H ι st) : Q (.bl b) H := h.now z (.bl b)
theorem cmpO_bl {o : CmpO} {x y : W} (h : FinO K ι H (cmpO o x y st) Q) (z : HRel K H ι st) : ∃ b, cmp o x y st = some b ∧ Q (.bl b) H := by
  unfold cmpO at h
  cases e : cmp o x y st with
  | none => rw [e] at h; exact h.elim
  | some b => rw [e] at h; exact ⟨b, rfl, FinO.bl h z⟩
end

section
variable {X : Cx}
theorem or_is (o : CmpO) (ho : o = .isN ∨ o = .notN) : OpR X (compareOp o.py) (rB2 X.K (cmpO o)) := by
  intro pins s σ H x y v u Q I rx ry h
  obtain ⟨ι, st, a, b, hr, ra, rb, hf⟩ := h
  obtain ⟨k, hk, q⟩ := cmpO_bl hf hr
  rcases ho with rfl | rfl
  · cases b with
    | non =>
      cases rb
      have hk' : some (isNon a) = some k := hk
      refine op_isN pins s σ H _ _ v u Q I rx ry ⟨rfl, ?_⟩
      have e : decide (x = .non) = k := by
        rw [← Option.some.inj hk']
        cases ra <;> first | rfl | (apply decide_eq_false; intro z; cases z)
      rw [e]; exact q
    | bl b =>
      cases rb
      cases a with
      | bl c =>
        cases ra
        have hk' : some (decide (c = b)) = some k := hk
        cases hk'
        exact op_isBl pins s σ H _ _ v u Q I rx ry ⟨c, b, rfl, rfl, q⟩
      | _ => cases hk
    | _ => cases hk
  · cases b with
    | non =>
      cases rb
      have hk' : some (!isNon a) = some k := hk
      refine op_notN pins s σ H _ _ v u Q I rx ry ⟨rfl, ?_⟩
      have e : (!decide (x = .non)) = k := by
        rw [← Option.some.inj hk']
        cases ra <;> first | rfl | (rw [decide_eq_false (by intro z; cases z)]; rfl)
      rw [e]; exact q
    | bl b =>
      cases rb
      cases a with
      | bl c =>
        cases ra
        have hk' : some (!decide (c = b)) = some k := hk
        cases hk'
        exact op_notBl pins s σ H _ _ v u Q I rx ry ⟨c, b, rfl, rfl, q⟩
      | _ => cases hk
    | _ => cases hk
theorem or_in (hu : X.A.units + 65 < cLine) (o : CmpO) (ho : o = .isin ∨ o = .notin) : OpR X (compareOp o.py) (rB2 X.K (cmpO o)) := by
  intro pins s σ H x y v u Q I rx ry h
  obtain ⟨ι, st, a, b, hr, ra, rb, hf⟩ := h
  obtain ⟨k, hk, q⟩ := cmpO_bl hf hr
  -- what in tells, by its own answer
  have core : ∀ c : Bool, inW st a b = some c → (wpAny (model X.prog X.w) X.A (compareOp .In v u) (fun r s' => ∃ H', Inv X pins σ H' s' ∧ H' = H ∧ r = .bool c) X.xe s ∧
      wpAny (model X.prog X.w) X.A (compareOp .NotIn v u) (fun r s' => ∃ H', Inv X pins σ H' s' ∧ H' = H ∧ r = .bool (!c)) X.xe s) := by
    intro c hc
    have fin : ∀ d : Bool, (wpAny (model X.prog X.w) X.A (compareOp .In v u) (EP X pins σ fun z H' => z = .bl d ∧ H' = H) X.xe s) → wpAny (model X.prog X.w) X.A (compareOp .In v u) (fun r s' => ∃ H', Inv X pins σ H' s' ∧ H' = H ∧ r = .bool d) X.xe s := fun d hd =>
      thn hd fun r s' ⟨z, H', I', rz, ez, eH⟩ => ⟨H', I', eH, by subst ez; exact rz⟩
    have fin2 : ∀ d : Bool, (wpAny (model X.prog X.w) X.A (compareOp .NotIn v u) (EP X pins σ fun z H' => z = .bl d ∧ H' = H) X.xe s) → wpAny (model X.prog X.w) X.A (compareOp .NotIn v u) (fun r s' => ∃ H', Inv X pins σ H' s' ∧ H' = H ∧ r = .bool d) X.xe s := fun d hd =>
      thn hd fun r s' ⟨z, H', I', rz, ez, eH⟩ => ⟨H', I', eH, by subst ez; exact rz⟩
    have deep : ∀ ws vs p, u = .ref p → RWs X.K H ι ws vs → SqL X.K H p vs → inD st a ws = some c → (wpAny (model X.prog X.w) X.A (compareOp .In v u) (fun r s' => ∃ H', Inv X pins σ H' s' ∧ H' = H ∧ r = .bool c) X.xe s ∧
      wpAny (model X.prog X.w) X.A (compareOp .NotIn v u) (fun r s' => ∃ H', Inv X pins σ H' s' ∧ H' = H ∧ r = .bool (!c)) X.xe s) := by
      intro ws vs p eu r hs hd
      subst eu
      unfold inD at hd
      split at hd
      · rename_i d ds e1 e2
        split at hd
        · rename_i hsh
          simp only [shapedB, Bool.and_eq_true] at hsh
          cases hd
          have h1 := toD_dp hr ra e1
          have h2 : Dp X.K H (.ref p) (.list ds) := .lst hs (RWs.dp (rho_dp hr 8) r e2)
          exact ⟨fin _ (op_inD hu pins s σ H x (.ref p) v _ _ I rx rfl ⟨d, ds, h1, h2, hsh.1, hsh.2, rfl, rfl⟩), fin2 _ (op_notInD hu pins s σ H x (.ref p) v _ _ I rx rfl ⟨d, ds, h1, h2, hsh.1, hsh.2, rfl, rfl⟩)⟩
        · cases hd
      · cases hd
    cases b with
    | str t =>
      cases a with
      | str z =>
        cases ra; cases rb
        cases hc
        exact ⟨fin _ (op_in_str pins s σ H _ _ v u _ I rx ry ⟨z, t, rfl, rfl, rfl, rfl⟩), fin2 _ (L2.op_notIn_str pins s σ H _ _ v u _ I rx ry ⟨z, t, rfl, rfl, rfl, rfl⟩)⟩
      | _ => cases hc
    | tup ws =>
      cases rb with
      | @tup _ vs p hp rp =>
        have hc' : (if flatW a && ws.all flatW then some (ws.any fun y => eqF y a) else none) = some c := hc
        split at hc'
        · rename_i hfl
          rw [Bool.and_eq_true] at hfl
          cases hc'
          obtain ⟨f1, f2⟩ := flats_rel ra hfl.1 rp hfl.2
          exact ⟨fin _ (op_in_seq pins s σ H _ _ v u _ I rx ry ⟨p, vs, rfl, .inr hp.sq, flat_rel ra hfl.1, f1, by rw [← f2]; exact ⟨rfl, rfl⟩⟩),
            fin2 _ (op_notIn_seq pins s σ H _ _ v u _ I rx ry ⟨p, vs, rfl, .inr hp.sq, flat_rel ra hfl.1, f1, by rw [← f2]; exact ⟨rfl, rfl⟩⟩)⟩
        · cases hc'
    | frl ws =>
      cases rb with
      | @frl _ vs p hp rp =>
        cases ry
        exact deep ws vs p rfl rp hp.sq hc
    | ref n =>
      unfold inW at hc
      simp only at hc
      split at hc
      · rename_i ws e1
        obtain ⟨p, rfl, hp, vs, h1, r1⟩ := rb.own hr e1
        cases ry
        exact deep ws vs p rfl r1 (SqL.of h1) hc
      · rename_i kvs e1
        obtain ⟨p, rfl, hp, vs, h1, r1⟩ := rb.own hr e1
        cases ry
        obtain ⟨ky, eky, ec⟩ := Option.map_eq_some_iff.mp hc
        have ex := keyOf_rel ra eky
        subst ex
        have g : DGet H p (kV ky) (valV vs ky) := DGet.k h1
        have is : (valV vs ky).isSome = c := by rw [← ec]; exact (RKv.get r1).2
        refine ⟨d_in (by omega) I g rx fun s' I' => ⟨H, I', rfl, by rw [is]⟩, d_notIn (by omega) I g rx fun s' I' => ⟨H, I', rfl, by rw [is]⟩⟩
      · cases hc
    | _ => cases hc
  rcases ho with rfl | rfl
  · refine thn (core k hk).1 fun r s' ⟨H', I', e1, e2⟩ => ?_
    subst e1 e2
    exact ⟨.bl k, _, I', rfl, q⟩
  · have hk' : (inW st a b).map (!·) = some k := hk
    obtain ⟨c, h1, h2⟩ := Option.map_eq_some_iff.mp hk'
    refine thn (core c h1).2 fun r s' ⟨H', I', e1, e2⟩ => ?_
    subst e1 e2
    exact ⟨.bl k, _, I', by rw [← h2]; rfl, q⟩
theorem ordD_is {f : PyData → PyData → Bool} {st : Sto} {x y : W} {k : Bool} (h : ordD f st x y = some k) :
    ∃ d e, toD st x = some d ∧ toD st y = some e ∧ PySem.W.alike d e = true ∧ d ≠ .none ∧ min d.depth e.depth ≤ 60 ∧ k = f d e := by
  unfold ordD at h
  split at h
  · rename_i d e h1 h2
    split at h
    · rename_i hc
      rw [Bool.and_eq_true, Bool.and_eq_true] at hc
      cases h
      refine ⟨d, e, h1, h2, hc.1.1, ?_, of_decide_eq_true hc.2, rfl⟩
      intro z
      subst z
      exact absurd hc.1.2 (by decide)
    · cases h
  · cases h
theorem or_cmp (hu : X.A.units + 65 < cLine) (o : CmpO) : OpR X (compareOp o.py) (rB2 X.K (cmpO o)) := by
  cases o with
  | isin => exact or_in hu _ (.inl rfl)
  | notin => exact or_in hu _ (.inr rfl)
  | isN => exact or_is _ (.inl rfl)
  | notN => exact or_is _ (.inr rfl)
  | eq =>
    intro pins s σ H x y v u Q I rx ry h
    obtain ⟨ι, st, a, b, hr, ra, rb, hf⟩ := h
    obtain ⟨k, hk, q⟩ := cmpO_bl hf hr
    rcases eqv_flat st hk with ⟨i, j, rfl, rfl, rfl⟩ | ⟨i, j, rfl, rfl, rfl⟩ | ⟨d, e, h1, h2, h3, h4, rfl⟩
    · cases ra; cases rb; exact L2.op_eq pins s σ H _ _ v u Q I rx ry ⟨rfl, by rw [dec_str]; exact q⟩
    · cases ra; cases rb; exact L2.op_eq pins s σ H _ _ v u Q I rx ry ⟨rfl, by rw [dec_int]; exact q⟩
    exact op_eqD (by omega) pins s σ H _ _ v u Q I rx ry ⟨d, e, toD_dp hr ra h1, toD_dp hr rb h2, h3, h4, q⟩
  | ne =>
    intro pins s σ H x y v u Q I rx ry h
    obtain ⟨ι, st, a, b, hr, ra, rb, hf⟩ := h
    obtain ⟨k, hk, q⟩ := cmpO_bl hf hr
    have hk' : (eqD st a b).map (!·) = some k := hk
    obtain ⟨c, hc, rfl⟩ := Option.map_eq_some_iff.mp hk'
    rcases eqv_flat st hc with ⟨i, j, rfl, rfl, rfl⟩ | ⟨i, j, rfl, rfl, rfl⟩ | ⟨d, e, h1, h2, h3, h4, rfl⟩
    · cases ra; cases rb; exact L2.op_ne pins s σ H _ _ v u Q I rx ry ⟨rfl, by rw [dec_str]; exact q⟩
    · cases ra; cases rb; exact L2.op_ne pins s σ H _ _ v u Q I rx ry ⟨rfl, by rw [dec_int]; exact q⟩
    exact op_neD (by omega) pins s σ H _ _ v u Q I rx ry ⟨d, e, toD_dp hr ra h1, toD_dp hr rb h2, h3, h4, q⟩
  | lt =>
    intro pins s σ H x y v u Q I rx ry h
    obtain ⟨ι, st, a, b, hr, ra, rb, hf⟩ := h
    obtain ⟨k, hk, q⟩ := cmpO_bl hf hr
    have gen : ordD PySem.W.dataLt st a b = some k → wpAny (model X.prog X.w) X.A (compareOp .Lt v u) (EP X pins σ Q) X.xe s := fun hk => by
      obtain ⟨d, e, h1, h2, h3, h4, h5, rfl⟩ := ordD_is hk
      obtain ⟨as, r1⟩ := Dp.reads I d x v (toD_dp hr ra h1) rx
      obtain ⟨bs, r2⟩ := Dp.reads I e y u (toD_dp hr rb h2) ry
      exact PySem.W.lt_data r1 r2 h3 h4 (by omega) ⟨.bl _, H, I, rfl, q⟩
    cases a with
    | int i =>
      cases b with
      | int j => cases ra; cases rb; cases hk; exact op_lt pins s σ H _ _ v u Q I rx ry ⟨i, j, rfl, rfl, q⟩
      | _ => exact gen hk
    | str i =>
      cases b with
      | str j => cases ra; cases rb; cases hk; exact op_lt_str pins s σ H _ _ v u Q I rx ry ⟨i, j, rfl, rfl, q⟩
      | _ => exact gen hk
    | _ => exact gen hk
  | le =>
    intro pins s σ H x y v u Q I rx ry h
    obtain ⟨ι, st, a, b, hr, ra, rb, hf⟩ := h
    obtain ⟨k, hk, q⟩ := cmpO_bl hf hr
    have gen : ordD (fun d e => !PySem.W.dataLt e d) st a b = some k → wpAny (model X.prog X.w) X.A (compareOp .LtE v u) (EP X pins σ Q) X.xe s := fun hk => by
      obtain ⟨d, e, h1, h2, h3, h4, h5, rfl⟩ := ordD_is hk
      obtain ⟨as, r1⟩ := Dp.reads I d x v (toD_dp hr ra h1) rx
      obtain ⟨bs, r2⟩ := Dp.reads I e y u (toD_dp hr rb h2) ry
      exact PySem.W.le_data r1 r2 h3 h4 (by omega) ⟨.bl _, H, I, rfl, q⟩
    cases a with
    | int i =>
      cases b with
      | int j => cases ra; cases rb; cases hk; exact op_le pins s σ H _ _ v u Q I rx ry ⟨i, j, rfl, rfl, q⟩
      | _ => exact gen hk
    | _ => exact gen hk
  | gt =>
    intro pins s σ H x y v u Q I rx ry h
    obtain ⟨ι, st, a, b, hr, ra, rb, hf⟩ := h
    obtain ⟨k, hk, q⟩ := cmpO_bl hf hr
    have gen : ordD (fun d e => PySem.W.dataLt e d) st a b = some k → wpAny (model X.prog X.w) X.A (compareOp .Gt v u) (EP X pins σ Q) X.xe s := fun hk => by
      obtain ⟨d, e, h1, h2, h3, h4, h5, rfl⟩ := ordD_is hk
      obtain ⟨as, r1⟩ := Dp.reads I d x v (toD_dp hr ra h1) rx
      obtain ⟨bs, r2⟩ := Dp.reads I e y u (toD_dp hr rb h2) ry
      exact PySem.W.gt_data r1 r2 h3 h4 (by omega) ⟨.bl _, H, I, rfl, q⟩
    cases a with
    | int i =>
      cases b with
      | int j => cases ra; cases rb; cases hk; exact op_gt pins s σ H _ _ v u Q I rx ry ⟨i, j, rfl, rfl, q⟩
      | _ => exact gen hk
    | _ => exact gen hk
  | ge =>
    intro pins s σ H x y v u Q I rx ry h
    obtain ⟨ι, st, a, b, hr, ra, rb, hf⟩ := h
    obtain ⟨k, hk, q⟩ := cmpO_bl hf hr
    have gen : ordD (fun d e => !PySem.W.dataLt d e) st a b = some k → wpAny (model X.prog X.w) X.A (compareOp .GtE v u) (EP X pins σ Q) X.xe s := fun hk => by
      obtain ⟨d, e, h1, h2, h3, h4, h5, rfl⟩ := ordD_is hk
      obtain ⟨as, r1⟩ := Dp.reads I d x v (toD_dp hr ra h1) rx
      obtain ⟨bs, r2⟩ := Dp.reads I e y u (toD_dp hr rb h2) ry
      exact PySem.W.ge_data r1 r2 h3 h4 (by omega) ⟨.bl _, H, I, rfl, q⟩
    cases a with
    | int i =>
      cases b with
      | int j => cases ra; cases rb; cases hk; exact op_ge pins s σ H _ _ v u Q I rx ry ⟨i, j, rfl, rfl, q⟩
      | _ => exact gen hk
    | _ => exact gen hk
end
end Ci
/-! Ci4: truth, subscripts, slices, built-ins, methods by values. -/
namespace Ci
open PySem L2 PyProof.Rows

section
variable {K : PySem.W.Frag} {ι : List Addr} {H : Hp} {st : Sto} {Q : VK}
theorem RWs.empty {ws : List W} {vs : List V} (r : RWs K H ι ws vs) : ws.isEmpty = vs.isEmpty := by cases r <;> rfl
theorem tru_rel {w : W} {v : V} {b : Bool} (z : HRel K H ι st) (r : RW K H ι w v) (e : tru st w = some b) : TruV K v H b := by
  cases r with
  | non => cases e; rfl
  | bl b => cases e; rfl
  | int i => cases e; rfl
  | str x =>
    unfold tru at e
    simp only at e
    split at e
    · rename_i hl
      cases e
      exact ⟨hl, rfl⟩
    · cases e
  | tup h r => cases e; exact .inr (.inl ⟨_, h.sq, by rw [r.empty]⟩)
  | frl h r => cases e; exact .inl ⟨_, h.sq, by rw [r.empty]⟩
  | ref h =>
    obtain ⟨o, eo, ro⟩ := z.at h
    unfold tru at e
    simp only [eo] at e
    cases o with
    | lst us => cases e; obtain ⟨vs, q1, q2⟩ := ro; exact .inl ⟨vs, SqL.of q1, by rw [q2.empty]⟩
    | dct us =>
      cases e
      obtain ⟨vs, q1, q2⟩ := ro
      exact .inr (.inr ⟨vs, q1, by cases q2 <;> rfl⟩)
theorem RWs.atI {ws : List W} {vs : List V} {i : Int} {w : W} (r : RWs K H ι ws vs) (e : atW ws i = some w) : ∃ v, L2.atI vs i = some v ∧ RW K H ι w v := by
  unfold atW L2.atI at e
  unfold L2.atI
  rw [← r.len]
  cases h : ixN ws.length i with
  | none => rw [h] at e; cases e
  | some j =>
    rw [h] at e
    exact r.get e
theorem cut_rel {ws : List W} {vs : List V} (r : RWs K H ι ws vs) (lo hi : Option Int) : RWs K H ι (cutW ws lo hi) (cutV vs lo hi) := by
  unfold cutW cutV
  rw [r.len]
  exact (r.drop _).take _
end

section
variable {X : Cx}
theorem ixr_sub (hu : X.A.units + 65 < cLine) : IxR X (rB2 X.K subO) := by
  intro value slice pins s σ H x y v u Q I rx ry h hs
  obtain ⟨ι, st, a, b, hr, ra, rb, hf⟩ := h
  unfold subO at hf
  cases e : sub st a b with
  | none => simp only [e] at hf; exact hf.elim
  | some w =>
    simp only [e] at hf
    have q : ∀ z, RW X.K H ι w z → Q z H := fun z rz => FinO.now hf hr rz
    unfold sub at e
    split at e
    · rename_i kvs ed
      obtain ⟨k, ek, eg⟩ := Option.bind_eq_some_iff.mp e
      have ey := keyOf_rel rb ek
      subst ey
      cases a with
      | ref n =>
        unfold dctOf at ed
        simp only at ed
        split at ed
        · rename_i kvs' e1
          cases ed
          obtain ⟨p, rfl, hp, vs, h1, r1⟩ := ra.own hr e1
          cases rx
          obtain ⟨z, ez, rz⟩ := (RKv.get r1).1 w eg
          have g : DGet H p (kV k) (some z) := by rw [← ez]; exact DGet.k h1
          exact tail_any (dict_typeIs I g) PySem.F.slot_dict_getitem.lookup (d_getItem (by omega) I g ry fun w' s' I' rw' => ⟨z, H, I', rw', q z rz⟩) hs
        · cases ed
      | _ => cases ed
    · rename_i ed
      unfold ixW at e
      cases b with
      | int i =>
        cases rb
        simp only at e
        cases a with
        | tup ws =>
          cases ra with
          | tup hp rp =>
            obtain ⟨z, ez, rz⟩ := rp.atI e
            exact ix_tup value slice pins s σ H _ _ v u Q I rx ry ⟨_, _, i, z, rfl, rfl, hp.sq, ez, q z rz⟩ hs
        | frl ws =>
          cases ra with
          | frl hp rp =>
            obtain ⟨z, ez, rz⟩ := rp.atI e
            exact ix_list value slice pins s σ H _ _ v u Q I rx ry ⟨_, _, i, z, rfl, rfl, hp.sq, ez, q z rz⟩ hs
        | str x =>
          cases ra
          simp only at e
          split at e
          · rename_i hl
            obtain ⟨c, ec, rfl⟩ := Option.map_eq_some_iff.mp e
            exact ix_str value slice pins s σ H _ _ v u Q I rx ry ⟨x, i, c, rfl, rfl, hl, ec, q _ (.str _)⟩ hs
          · cases e
        | ref n =>
          simp only at e
          split at e
          · rename_i ws e1
            obtain ⟨p, rfl, hp, vs, h1, r1⟩ := ra.own hr e1
            obtain ⟨z, ez, rz⟩ := r1.atI e
            exact ix_list value slice pins s σ H _ _ v u Q I rx ry ⟨_, _, i, z, rfl, rfl, SqL.of h1, ez, q z rz⟩ hs
          · cases e
        | _ => cases e
      | _ => cases e
def rSlW (K : PySem.W.Frag) : V → Option Int → Option Int → Hp → VK → Prop := fun x lo hi H Q => ∃ ι st a, HRel K H ι st ∧ RW K H ι a x ∧ FinO K ι H (slW a lo hi st) Q
theorem slr_cut : SlR X (rSlW X.K) := by
  intro pins s σ H x v vl vu lo hi sl Q I rx hs pl pu h
  obtain ⟨ι, st, a, hr, ra, hf⟩ := h
  cases a with
  | tup ws =>
    cases ra with
    | @tup _ vs p hp rp =>
      refine sl_tupA pins s σ H _ v vl vu lo hi sl Q I rx hs pl pu ⟨p, vs, rfl, hp.sq, fun e => ?_, fun _ => FinO.tup hf hr (cut_rel rp lo hi)⟩
      have e2 : cutW ws lo hi = ws := by
        unfold cutW
        rw [← rp.len] at e
        rw [e.1, e.2, List.drop_zero, Nat.sub_zero, List.take_length]
      have hf' : FinO X.K ι H (some (W.tup (cutW ws lo hi), st)) Q := hf
      rw [e2] at hf'
      exact FinO.now hf' hr (.tup hp rp)
  | frl ws =>
    cases ra with
    | @frl _ vs p hp rp => exact sl_list pins s σ H _ v vl vu lo hi sl Q I rx hs pl pu ⟨p, vs, rfl, hp.sq, FinO.new hf hr (cut_rel rp lo hi)⟩
  | str x =>
    cases ra
    unfold slW at hf
    simp only at hf
    split at hf
    · rename_i hl
      exact sl_str pins s σ H _ v vl vu lo hi sl Q I rx hs pl pu ⟨x, rfl, hl, FinO.now hf hr (.str _)⟩
    · exact hf.elim
  | ref n =>
    unfold slW at hf
    simp only at hf
    split at hf
    · rename_i ws e1
      obtain ⟨p, rfl, hp, vs, h1, r1⟩ := ra.own hr e1
      exact sl_list pins s σ H _ v vl vu lo hi sl Q I rx hs pl pu ⟨p, vs, rfl, SqL.of h1, FinO.new hf hr (cut_rel r1 lo hi)⟩
    · exact hf.elim
  | _ => exact hf.elim

/-! ### built-in functions -/
def Bi.val : Bi → Value
  | .len => .builtin "len" | .abs => .builtin "abs" | .int => .type "int" | .str => .type "str" | .repr => .builtin "repr"
  | .list => .type "list" | .tuple => .type "tuple" | .max2 => .builtin "max" | .min2 => .builtin "min" | .sum => .builtin "sum" | .any => .builtin "any" | .all => .builtin "all"
theorem repr_flat {pins : List (Addr × Obj)} {s : Shared} {σ : L2.St} {H : Hp} {x : V} {u : Value} {d : PyData} {Q : VK} (I : Inv X pins σ H s) (r : RelV x u) (hd : Dp X.K H x d) (ho : reprOk d = true) (hu : X.A.units + 65 < cLine) (hg : X.A.guards = some [])
    (q : Q (.str d.shown) H) : wpAny (model X.prog X.w) X.A (call (.builtin "repr") [u]) (EP X pins σ Q) X.xe s := by
  have big : ∀ (a : Addr) (e : reprOk d = (d.showable && !d.hasDict && decide (d.depth ≤ 60) && decide (d.shown.length ≤ sizeLine))), u = .ref a → wpAny (model X.prog X.w) X.A (call (.builtin "repr") [u]) (EP X pins σ Q) X.xe s := by
    intro a e eu
    rw [e] at ho
    simp only [Bool.and_eq_true, Bool.not_eq_true', decide_eq_true_eq] at ho
    obtain ⟨⟨⟨h1, h2⟩, h3⟩, h4⟩ := ho
    obtain ⟨as, rd⟩ := Dp.reads I d x u hd r
    subst eu
    exact repr_of_reads' (h₀ := s.heap) rd h1 (PyData.noDict_hsm h2) hg (by omega) (fun _ _ z => z) (fun h' t tk k => ⟨.str d.shown, H, I.kept k, ⟨t, rfl⟩, q⟩) h4
  cases d with
  | none =>
    cases hd
    obtain rfl : u = Value.none := r
    exact P.repr_of_none ⟨.str "None", H, I.tok _, ⟨_, rfl⟩, q⟩
  | bool b =>
    cases hd
    obtain rfl : u = Value.bool b := r
    exact P.repr_of_bool ⟨.str (if b then "True" else "False"), H, I.tok _, ⟨_, rfl⟩, q⟩
  | int i =>
    cases hd
    obtain ⟨t, rfl⟩ : ∃ t, u = Value.int i t := r
    exact P.repr_of_int (of_decide_eq_true ho) ⟨.str (toString i), H, I.tok _, ⟨_, rfl⟩, q⟩
  | str z =>
    cases hd
    obtain ⟨t, rfl⟩ : ∃ t, u = Value.str z t := r
    exact P.repr_of_str ⟨.str (reprText z), H, I.tok _, ⟨_, rfl⟩, q⟩ (of_decide_eq_true ho)
  | list ds =>
    cases hd with
    | lst h1 h2 => exact big _ rfl r
  | tuple ds =>
    cases hd with
    | tup h1 h2 => exact big _ rfl r
  | dict _ => cases ho
theorem cr_bi (hu : X.A.units + 65 < cLine) (hg : X.A.guards = some []) (hc : X.calm = true) (b : Bi) : CallR X b.val (rBs X.K (bi b)) := by
  intro pins s σ H xs us Q I r h
  obtain ⟨ι, st, as, hr, ra, hf⟩ := h
  cases b with
  | len =>
    match as, ra with
    | [w], .cons (v := v) rw' .nil =>
      unfold bi at hf
      simp only at hf
      split at hf
      · rename_i x
        cases rw'
        split at hf
        · rename_i hl
          exact call_len pins s σ H _ us Q I r ⟨.str x, x.length, rfl, ⟨hl, rfl⟩, FinO.now hf hr (.int _)⟩
        · exact hf.elim
      · split at hf
        · rename_i kvs ed
          cases w with
          | ref n =>
            unfold dctOf at ed
            simp only at ed
            split at ed
            · rename_i kvs' e1
              cases ed
              obtain ⟨p, rfl, hp, vs, h1, r1⟩ := rw'.own hr e1
              obtain ⟨u, rfl, ru⟩ := vals1 r
              cases ru
              refine d_len I (.inl h1) fun t s' I' => ⟨.int vs.length, H, I', ⟨t, rfl⟩, ?_⟩
              rw [← r1.len]
              exact FinO.now hf hr (.int _)
            · cases ed
          | _ => cases ed
        · cases e : seqOf st w with
          | none => rw [e] at hf; exact hf.elim
          | some ws =>
            rw [e] at hf
            obtain ⟨a, vs, rfl, q1, q2⟩ := rw'.seq hr e
            have hl := q1.len
            refine call_len_seq pins s σ H _ us Q I r ⟨a, vs, rfl, q2, ?_⟩
            rw [← hl]
            exact FinO.now hf hr (.int _)
    | [], _ => exact hf.elim
    | _ :: _ :: _, _ => exact hf.elim
  | abs =>
    match as, ra with
    | [.int i], .cons (.int _) .nil => exact call_abs pins s σ H _ us Q I r ⟨i, rfl, FinO.now hf hr (.int _)⟩
    | [], _ => exact hf.elim
    | [.non], _ => exact hf.elim
    | [.bl _], _ => exact hf.elim
    | [.str _], _ => exact hf.elim
    | [.tup _], _ => exact hf.elim
    | [.frl _], _ => exact hf.elim
    | [.ref _], _ => exact hf.elim
    | a :: _ :: _, _ => cases a <;> exact hf.elim
  | int =>
    match as, ra with
    | [.int i], .cons (.int _) .nil => exact call_int1 pins s σ H _ us Q I r (.inl ⟨i, rfl, FinO.now hf hr (.int _)⟩)
    | [.bl i], .cons (.bl _) .nil => exact call_int1 pins s σ H _ us Q I r (.inr ⟨i, rfl, FinO.now hf hr (.int _)⟩)
    | [], _ => exact hf.elim
    | [.non], _ => exact hf.elim
    | [.str _], _ => exact hf.elim
    | [.tup _], _ => exact hf.elim
    | [.frl _], _ => exact hf.elim
    | [.ref _], _ => exact hf.elim
    | a :: _ :: _, _ => cases a <;> exact hf.elim
  | str =>
    match as, ra with
    | [.int i], .cons (.int _) .nil =>
      unfold bi at hf
      simp only at hf
      split at hf
      · rename_i ho
        exact call_str_int pins s σ H _ us Q I r ⟨i, rfl, of_decide_eq_true ho, FinO.now hf hr (.str _)⟩
      · exact hf.elim
    | [], _ => exact hf.elim
    | [.non], _ => exact hf.elim
    | [.bl _], _ => exact hf.elim
    | [.str _], _ => exact hf.elim
    | [.tup _], _ => exact hf.elim
    | [.frl _], _ => exact hf.elim
    | [.ref _], _ => exact hf.elim
    | a :: _ :: _, _ => cases a <;> exact hf.elim
  | repr =>
    match as, ra with
    | [w], .cons (v := v) rw' .nil =>
      unfold bi at hf
      simp only at hf
      split at hf
      · rename_i d ed
        split at hf
        · rename_i ho
          obtain ⟨u, rfl, ru⟩ := vals1 r
          exact repr_flat I ru (toD_dp hr rw' ed) ho hu hg (FinO.now hf hr (.str _))
        · exact hf.elim
      · exact hf.elim
    | [], _ => exact hf.elim
    | _ :: _ :: _, _ => exact hf.elim
  | list =>
    match as, ra with
    | [w], .cons (v := v) rw' .nil =>
      unfold bi at hf
      simp only at hf
      cases e : seqOf st w with
      | none => rw [e] at hf; exact hf.elim
      | some ws =>
        rw [e] at hf
        obtain ⟨a, vs, rfl, q1, q2⟩ := rw'.seq hr e
        exact call_list_of pins s σ H _ us Q I r ⟨a, vs, rfl, q2, FinO.new hf hr q1⟩
    | [], _ => exact hf.elim
    | _ :: _ :: _, _ => exact hf.elim
  | tuple =>
    match as, ra with
    | [w], .cons (v := v) rw' .nil =>
      unfold bi at hf
      simp only at hf
      cases e : seqOf st w with
      | none => rw [e] at hf; exact hf.elim
      | some ws =>
        rw [e] at hf
        cases w with
        | tup us' =>
          cases e
          cases rw' with
          | tup h1 r1 => exact call_tuple_of pins s σ H _ us Q I r ⟨_, _, rfl, .inr ⟨h1.sq, FinO.now hf hr (.tup h1 r1)⟩⟩
        | frl us' =>
          cases e
          cases rw' with
          | frl h1 r1 => exact call_tuple_of pins s σ H _ us Q I r ⟨_, _, rfl, .inl ⟨h1.sq, FinO.tup hf hr r1⟩⟩
        | ref n =>
          unfold seqOf at e
          simp only at e
          split at e
          · rename_i ws' e1
            cases e
            obtain ⟨p, rfl, hp, vs, h1, r1⟩ := rw'.own hr e1
            exact call_tuple_of pins s σ H _ us Q I r ⟨_, _, rfl, .inl ⟨SqL.of h1, FinO.tup hf hr r1⟩⟩
          · cases e
        | _ => cases e
    | [], _ => exact hf.elim
    | _ :: _ :: _, _ => exact hf.elim
  | max2 =>
    match as, ra with
    | [.int i, .int j], .cons (.int _) (.cons (.int _) .nil) => exact call_max2 hc pins s σ H _ us Q I r ⟨i, j, rfl, FinO.now hf hr (.int _)⟩
    | [], _ => exact hf.elim
    | [a], _ => cases a <;> exact hf.elim
    | a :: b :: _ :: _, _ => cases a <;> first | exact hf.elim | (cases b <;> exact hf.elim)
    | [.non, _], _ => exact hf.elim
    | [.bl _, _], _ => exact hf.elim
    | [.str _, _], _ => exact hf.elim
    | [.tup _, _], _ => exact hf.elim
    | [.frl _, _], _ => exact hf.elim
    | [.ref _, _], _ => exact hf.elim
    | [.int _, .non], _ => exact hf.elim
    | [.int _, .bl _], _ => exact hf.elim
    | [.int _, .str _], _ => exact hf.elim
    | [.int _, .tup _], _ => exact hf.elim
    | [.int _, .frl _], _ => exact hf.elim
    | [.int _, .ref _], _ => exact hf.elim
  | min2 =>
    match as, ra with
    | [.int i, .int j], .cons (.int _) (.cons (.int _) .nil) => exact call_min2 hc pins s σ H _ us Q I r ⟨i, j, rfl, FinO.now hf hr (.int _)⟩
    | [], _ => exact hf.elim
    | [a], _ => cases a <;> exact hf.elim
    | a :: b :: _ :: _, _ => cases a <;> first | exact hf.elim | (cases b <;> exact hf.elim)
    | [.non, _], _ => exact hf.elim
    | [.bl _, _], _ => exact hf.elim
    | [.str _, _], _ => exact hf.elim
    | [.tup _, _], _ => exact hf.elim
    | [.frl _, _], _ => exact hf.elim
    | [.ref _, _], _ => exact hf.elim
    | [.int _, .non], _ => exact hf.elim
    | [.int _, .bl _], _ => exact hf.elim
    | [.int _, .str _], _ => exact hf.elim
    | [.int _, .tup _], _ => exact hf.elim
    | [.int _, .frl _], _ => exact hf.elim
    | [.int _, .ref _], _ => exact hf.elim
  | sum =>
    match as, ra with
    | [w], .cons (v := v) rw' .nil =>
      unfold bi at hf
      simp only at hf
      cases e : lstOf st w with
      | none => rw [e] at hf; exact hf.elim
      | some ws =>
        simp only [e, Option.bind_some] at hf
        cases e2 : intsOf ws with
        | none => rw [e2] at hf; exact hf.elim
        | some ns =>
          rw [e2] at hf
          obtain ⟨a, vs, rfl, q1, q2⟩ := rw'.lst hr e
          exact L2.cr_sum hc pins s σ H _ us Q I r ⟨a, ns, rfl, by rw [← q1.ints e2]; exact q2, FinO.now hf hr (.int _)⟩
    | [], _ => exact hf.elim
    | _ :: _ :: _, _ => exact hf.elim
  | any =>
    match as, ra with
    | [w], .cons (v := v) rw' .nil =>
      unfold bi at hf
      simp only at hf
      cases e : lstOf st w with
      | none => rw [e] at hf; exact hf.elim
      | some ws =>
        simp only [e, Option.bind_some] at hf
        cases e2 : blsOf ws with
        | none => rw [e2] at hf; exact hf.elim
        | some ns =>
          rw [e2] at hf
          obtain ⟨a, vs, rfl, q1, q2⟩ := rw'.lst hr e
          exact L2.cr_any hc pins s σ H _ us Q I r ⟨a, ns, rfl, by rw [← q1.bls e2]; exact q2, FinO.now hf hr (.bl _)⟩
    | [], _ => exact hf.elim
    | _ :: _ :: _, _ => exact hf.elim
  | all =>
    match as, ra with
    | [w], .cons (v := v) rw' .nil =>
      unfold bi at hf
      simp only at hf
      cases e : lstOf st w with
      | none => rw [e] at hf; exact hf.elim
      | some ws =>
        simp only [e, Option.bind_some] at hf
        cases e2 : blsOf ws with
        | none => rw [e2] at hf; exact hf.elim
        | some ns =>
          rw [e2] at hf
          obtain ⟨a, vs, rfl, q1, q2⟩ := rw'.lst hr e
          exact L2.cr_all hc pins s σ H _ us Q I r ⟨a, ns, rfl, by rw [← q1.bls e2]; exact q2, FinO.now hf hr (.bl _)⟩
    | [], _ => exact hf.elim
    | _ :: _ :: _, _ => exact hf.elim

/-! ### methods of lists -/
def Mt.id : Mt → String
  | .append => "list.append" | .pop => "list.pop" | .popAt => "list.pop" | .extend => "list.extend" | .index => "list.index" | .count => "list.count" | .reverse => "list.reverse"
theorem mtr_mt (m : Mt) : MtR X m.id (rBm X.K (mt m)) := by
  intro pins s σ H x xs v us Q I rx rs h
  obtain ⟨ι, st, a, as, hr, ra, rsA, hf⟩ := h
  cases a with
  | ref n =>
    unfold mt at hf
    simp only at hf
    split at hf
    · rename_i ws e1
      obtain ⟨p, rfl, hp, vs, h1, r1⟩ := ra.own hr e1
      have hl := r1.len
      split at hf
      · -- append
        cases rsA with
        | cons ry t =>
          cases t
          split at hf
          · rename_i hz
            refine mt_append pins s σ H _ _ v us Q I rx rs ⟨p, vs, _, rfl, rfl, h1, by omega, FinO.put hf hr hp (r1.app (.one ry)) .non⟩
          · exact hf.elim
      · -- pop
        cases rsA
        cases eg : ws[ws.length - 1]? with
        | none => rw [eg] at hf; exact hf.elim
        | some w =>
          rw [eg] at hf
          obtain ⟨z, ez, rz⟩ := r1.get eg
          rw [hl] at ez
          exact mt_pop pins s σ H _ _ v us Q I rx rs ⟨p, vs, z, rfl, rfl, h1, ez, FinO.put hf hr hp r1.dropLast rz⟩
      · -- pop(i)
        cases rsA with
        | cons ry t =>
          cases t
          cases ry
          split at hf
          · rename_i hb
            have hb := of_decide_eq_true hb
            split at hf
            · rename_i k ek
              cases eg : ws[k]? with
              | none => rw [eg] at hf; exact hf.elim
              | some w =>
                rw [eg] at hf
                obtain ⟨z, ez, rz⟩ := r1.get eg
                rw [hl] at ek
                exact mt_popAt pins s σ H _ _ v us Q I rx rs ⟨p, vs, _, k, z, rfl, rfl, h1, hb.1, hb.2, ek, ez, FinO.put hf hr hp (r1.erase k) rz⟩
            · exact hf.elim
          · exact hf.elim
      · cases rsA
        exact mt_reverse pins s σ H _ _ v us Q I rx rs ⟨p, vs, rfl, rfl, h1, FinO.put hf hr hp r1.rev .non⟩
      · cases rsA with
        | cons ry t =>
          cases t
          split at hf
          · rename_i zs e2
            obtain ⟨q, rfl, hq, us2, h2, r2⟩ := ry.own hr e2
            have hl2 := r2.len
            split at hf
            · rename_i hz
              exact mt_extend pins s σ H _ _ v us Q I rx rs ⟨p, q, vs, us2, rfl, rfl, h1, h2, by omega, FinO.put hf hr hp (r1.app r2) .non⟩
            · exact hf.elim
          · exact hf.elim
      · exact hf.elim
    · exact hf.elim
  | _ => exact hf.elim
end
end Ci
/-! Ci5: the rules of expressions. -/
namespace Ci
open PySem L2 PyProof.Rows

theorem pe_imp {X : Cx} {e : Expr} {t t' : TE} (h : PE X e t) (i : ∀ σ H Q, t' σ H Q → t σ H Q) : PE X e t' := ⟨fun pins s σ H Q I q => h.run pins s σ H Q I (i _ _ _ q)⟩
theorem pt_imp {X : Cx} {e : Expr} {t t' : TT} (h : PT X e t) (i : ∀ σ H Q, t' σ H Q → t σ H Q) : PT X e t' := ⟨fun pins s σ H Q I q => h.run pins s σ H Q I (i _ _ _ q)⟩
theorem pw_imp {X : Cx} {e : Expr} {t t' : TT} (h : PW X e t) (i : ∀ σ H Q, t' σ H Q → t σ H Q) : PW X e t' := ⟨fun wh pins s σ H Q I q => h.run wh pins s σ H Q I (i _ _ _ q)⟩
theorem pa_imp {X : Cx} {e : List Expr} {t t' : TA} (h : PA X e t) (i : ∀ σ H Q, t' σ H Q → t σ H Q) : PA X e t' := ⟨fun pos pins s σ H Q I q => h.run pos pins s σ H Q I (i _ _ _ q)⟩
theorem ps_imp {X : Cx} {e : Stmt} {t t' : TS} (h : PS X e t) (i : ∀ D σ H, t' D σ H → t D σ H) : PS X e t' := ⟨fun pins s σ H D I q => h.run pins s σ H D I (i _ _ _ q)⟩
theorem pss_imp {X : Cx} {e : List Stmt} {t t' : TS} (h : PSs X e t) (i : ∀ D σ H, t' D σ H → t D σ H) : PSs X e t' := ⟨fun pins s σ H D I q => h.run pins s σ H D I (i _ _ _ q)⟩
theorem pg_imp {X : Cx} {e : Expr} {t t' : TG} (h : PG X e t) (i : ∀ v σ H Q, t' v σ H Q → t v σ H Q) : PG X e t' := ⟨fun pins s σ H v u Q I r q => h.run pins s σ H v u Q I r (i _ _ _ _ q)⟩

abbrev Cl := Nat → List W → Sto → Res W
/-- where one stands: the wish, what calls tell -/
structure Cz where
  X : Cx
  x : WX
  cl : Cl
/-- what holds of it -/
structure Cz.Ok (Z : Cz) : Prop where
  calm : Z.X.calm = true
  nd : Z.X.N.Nodup
  tk : Takes Z.X Z.x
  hu : Z.X.A.units + 65 < cLine
  gd : Z.X.A.guards = some []
abbrev tE (Z : Cz) (c : E) : TE := tW Z.X.K Z.x fun en st => ev Z.cl c en st
abbrev tEs (Z : Cz) (c : Es) : TA := tWs Z.X.K Z.x fun en st => evs Z.cl c en st
abbrev tT (Z : Cz) (c : E) : TT := tWb Z.X.K Z.x fun en st => truR (ev Z.cl c en st)
abbrev SE (Z : Cz) (e : Expr) (c : E) : Prop := PE Z.X e (tE Z c)
abbrev SA (Z : Cz) (e : List Expr) (c : Es) : Prop := PA Z.X e (tEs Z c)
abbrev ST (Z : Cz) (e : Expr) (c : E) : Prop := PT Z.X e (tT Z c)

section
variable {K : PySem.W.Frag} {x : WX} {σ : L2.St} {H : Hp}
/-- one part, then what comes of it -/
theorem bindE {β : Type} {f : En → Sto → Res W} {g : W → En → Sto → Res β} {k : β → List Addr → Sto → Hp → Prop} {R : VK}
    (h : ∃ ι en st, Rel K σ H ι en st ∧ Fin K (fun c d H' => x c d σ H') ι H ((f en st).bind fun w st' => g w en st') k)
    (n : ∀ w v ι en st H, Rel K σ H ι en st → RW K H ι w v → Fin K (fun c d H' => x c d σ H') ι H (g w en st) k → R v H) : tW K x f σ H R := by
  obtain ⟨ι, en, st, r, hf⟩ := h
  refine ⟨ι, en, st, r, (Fin.split hf).mono fun w ι' st' H' p t z q v rv => ?_⟩
  exact n w v ι' en st' H' (r.keep t p z) rv q
theorem bindEs {β : Type} {f : En → Sto → Res (List W)} {g : List W → En → Sto → Res β} {k : β → List Addr → Sto → Hp → Prop} {R : List V → Hp → Prop}
    (h : ∃ ι en st, Rel K σ H ι en st ∧ Fin K (fun c d H' => x c d σ H') ι H ((f en st).bind fun w st' => g w en st') k)
    (n : ∀ w v ι en st H, Rel K σ H ι en st → RWs K H ι w v → Fin K (fun c d H' => x c d σ H') ι H (g w en st) k → R v H) : tWs K x f σ H R := by
  obtain ⟨ι, en, st, r, hf⟩ := h
  refine ⟨ι, en, st, r, (Fin.split hf).mono fun w ι' st' H' p t z q v rv => ?_⟩
  exact n w v ι' en st' H' (r.keep t p z) rv q
theorem bindT {β : Type} {f : En → Sto → Res Bool} {g : Bool → En → Sto → Res β} {k : β → List Addr → Sto → Hp → Prop} {R : Bool → Hp → Prop}
    (h : ∃ ι en st, Rel K σ H ι en st ∧ Fin K (fun c d H' => x c d σ H') ι H ((f en st).bind fun w st' => g w en st') k)
    (n : ∀ b ι en st H, Rel K σ H ι en st → Fin K (fun c d H' => x c d σ H') ι H (g b en st) k → R b H) : tWb K x f σ H R := by
  obtain ⟨ι, en, st, r, hf⟩ := h
  refine ⟨ι, en, st, r, (Fin.split hf).mono fun w ι' st' H' p t z q => ?_⟩
  exact n w ι' en st' H' (r.keep t p z) q
/-- two parts -/
theorem bindE2 {β : Type} {f1 f2 : En → Sto → Res W} {g : W → W → En → Sto → Res β} {k : β → List Addr → Sto → Hp → Prop} {R : V → V → Hp → Prop}
    (h : ∃ ι en st, Rel K σ H ι en st ∧ Fin K (fun c d H' => x c d σ H') ι H ((f1 en st).bind fun a st' => (f2 en st').bind fun b st'' => g a b en st'') k)
    (n : ∀ w1 w2 v1 v2 ι en st H, Rel K σ H ι en st → RW K H ι w1 v1 → RW K H ι w2 v2 → Fin K (fun c d H' => x c d σ H') ι H (g w1 w2 en st) k → R v1 v2 H) :
    tW K x f1 σ H fun v1 H1 => tW K x f2 σ H1 fun v2 H2 => R v1 v2 H2 := by
  obtain ⟨ι, en, st, r, hf⟩ := h
  refine ⟨ι, en, st, r, (Fin.split hf).mono fun w ι' st' H' p t z q v rv => ?_⟩
  refine ⟨ι', en, st', r.keep t p z, (Fin.split q).mono fun w2 ι2 st2 H2 p2 t2 z2 q2 v2 rv2 => ?_⟩
  exact n w w2 v v2 ι2 en st2 H2 ((r.keep t p z).keep t2 p2 z2) (rv.keep t2 p2) rv2 q2
theorem fin_of {x : Value → Option Addr → Hp → Prop} {ι : List Addr} {r : Option (W × Sto)} {Q : VK} (h : Fin K x ι H (Res.of r) fun w ι' _ H' => ∀ v, RW K H' ι' w v → Q v H') : FinO K ι H r Q := by
  cases r with
  | none => exact h
  | some p => exact fun ι' H' v a b c d => h ι' H' a b c v d
end

section
variable {Z : Cz} {pos : Pos}
theorem w_var (i : Nat) {x : Str} (hN : Z.X.N[i]? = some x := by rfl) (hv : Vis Z.X.env.scope x := by first | exact Or.inl rfl | exact Or.inr (Or.inl rfl) | exact Or.inr (Or.inr rfl)) (hd : (x == ("__debug__" : Str)) = false := by decide)
    (hcd : (x == ("__classdict__" : Str)) = false := by decide) : SE Z (.Name x pos) (.var i) := by
  refine pe_imp (pe_var hN hv hd hcd) fun σ H Q h => ?_
  obtain ⟨ι, en, st, r, hf⟩ := h
  have hf : Fin Z.X.K (fun c d H' => Z.x c d σ H') ι H (match en[i]? with | some (some w) => .ok w st | _ => .bad) _ := hf
  split at hf
  · rename_i w e
    obtain ⟨v, e1, rv⟩ := r.en i w e
    exact ⟨v, e1, hf.now r.hr v rv⟩
  · exact hf.elim
theorem w_int {i j} : SE Z (.Constant (.int i) j pos) (.con (.int i)) := pe_imp pe_int fun σ H Q ⟨ι, en, st, r, hf⟩ => hf.now r.hr _ (.int i)
theorem w_bl {b j} : SE Z (.Constant (.bool b) j pos) (.con (.bl b)) := pe_imp pe_bl fun σ H Q ⟨ι, en, st, r, hf⟩ => hf.now r.hr _ (.bl b)
theorem w_non {j} : SE Z (.Constant .none j pos) (.con .non) := pe_imp pe_non fun σ H Q ⟨ι, en, st, r, hf⟩ => hf.now r.hr _ .non
theorem w_str {x j} : SE Z (.Constant (.str x) j pos) (.con (.str x)) := pe_imp pe_str fun σ H Q ⟨ι, en, st, r, hf⟩ => hf.now r.hr _ (.str x)
/-- a module's constant -/
theorem w_glb {x : Str} {w : W} {v : V} {u : Value} (hg : Gl Z.X x) (hm : Z.X.mg x = some u) (r : RelV v u) (rw' : ∀ H ι, RW Z.X.K H ι w v) (hd : (x == ("__debug__" : Str)) = false := by decide) : SE Z (.Name x pos) (.con w) :=
  pe_imp (pe_glob hg hm r hd) fun σ H Q ⟨ι, en, st, r, hf⟩ => hf.now r.hr v (rw' H ι)
theorem w_bin (o : BinO) {a b : Expr} {ca cb : E} (ha : SE Z a ca) (hb : SE Z b cb) : SE Z (.BinOp a o.py b pos) (.bin o ca cb) := by
  refine pe_imp (pe_op (or_bin o) ha hb) fun σ H Q h => ?_
  refine bindE2 h fun w1 w2 v1 v2 ι en st H1 r r1 r2 q => ?_
  exact ⟨ι, st, w1, w2, r.hr, r1, r2, fin_of q⟩
theorem w_cmp (o : CmpO) {a b : Expr} {ca cb : E} (ok : Z.Ok) (ha : SE Z a ca) (hb : SE Z b cb) (hm : behindInMarks o.py b = false := by rfl) : SE Z (.Compare a [o.py] [b] pos) (.cmp o ca cb) := by
  refine pe_imp (pe_cmpR (or_cmp ok.hu o) ha hb hm) fun σ H Q h => ?_
  refine bindE2 h fun w1 w2 v1 v2 ι en st H1 r r1 r2 q => ?_
  exact ⟨ι, st, w1, w2, r.hr, r1, r2, fin_of q⟩
/-- a test by its truth -/
theorem truK {K : PySem.W.Frag} {x : Value → Option Addr → Hp → Prop} {ι : List Addr} {H : Hp} {r : Res W} {k : Bool → List Addr → Sto → Hp → Prop} (h : Fin K x ι H (truR r) k) :
    Fin K x ι H r fun w ι' st' H' => ∃ b, tru st' w = some b ∧ k b ι' st' H' := by
  refine (Fin.split h).mono fun w ι' st' H' p t z q => ?_
  unfold truK0 at q
  split at q
  · rename_i b e
    exact ⟨b, e, q.now z⟩
  · exact q.elim
theorem t_cmp (o : CmpO) {a b : Expr} {ca cb : E} (ok : Z.Ok) (ha : SE Z a ca) (hb : SE Z b cb) (hm : behindInMarks o.py b = false := by rfl) : ST Z (.Compare a [o.py] [b] pos) (.cmp o ca cb) := by
  refine pt_imp (pt_cmpR (or_cmp ok.hu o) ha hb hm) fun σ H Q h => ?_
  obtain ⟨ι, en, st, r, hf⟩ := h
  have hf : Fin Z.X.K (fun c d H' => Z.x c d σ H') ι H ((ev Z.cl ca en st).bind fun x st1 => (ev Z.cl cb en st1).bind fun y st2 => Res.of (cmpO o x y st2)) _ := truK hf
  refine bindE2 (K := Z.X.K) (x := Z.x) (g := fun a b _ st => Res.of (cmpO o a b st)) ⟨ι, en, st, r, hf⟩ fun w1 w2 v1 v2 ι en st H1 r r1 r2 q => ?_
  refine ⟨ι, st, w1, w2, r.hr, r1, r2, ?_⟩
  unfold cmpO at q ⊢
  cases e : cmp o w1 w2 st with
  | none => rw [e] at q; exact q.elim
  | some b =>
    rw [e] at q
    intro ι' H' v p t z rv
    cases rv
    obtain ⟨c, e2, q2⟩ := q ι' H' p t z
    cases e2
    exact ⟨b, rfl, q2⟩
theorem t_tru {a : Expr} {ca : E} (ha : SE Z a ca) (he : ∀ whole, isTrue a Z.X.env whole = (do let v ← whole; standAt a.pos; holding [v] (truthy v)) := by intro _; rfl) : ST Z a ca := by
  refine pt_imp (pt_truth ha he) fun σ H Q h => ?_
  obtain ⟨ι, en, st, r, hf⟩ := h
  refine ⟨ι, en, st, r, (truK hf).mono fun w ι' st' H' p t z q v rv => ?_⟩
  obtain ⟨b, e, q⟩ := q
  exact ⟨b, tru_rel z rv e, q⟩
theorem w_chn (o p : CmpO) {a b c : Expr} {ca cb cc : E} (ok : Z.Ok) (ha : SE Z a ca) (hb : SE Z b cb) (hc : SE Z c cc) (hm : lastMarks [o.py, p.py] [b, c] = false := by rfl) :
    SE Z (.Compare a [o.py, p.py] [b, c] pos) (.chn o p ca cb cc) := by
  refine pe_imp (pe_chain (or_cmp ok.hu o) (or_cmp ok.hu p) ha hb hc hm) fun σ H Q h => ?_
  refine bindE2 (g := fun x y en st2 => chnK (cmp o x y st2) (fun st2 => (ev Z.cl cc en st2).bind fun z st3 => Res.of (cmpO p y z st3)) st2) h fun w1 w2 v1 v2 ι en st H1 r r1 r2 q => ?_
  refine ⟨ι, st, w1, w2, r.hr, r1, r2, ?_⟩
  unfold chnK at q
  unfold cmpO
  cases e : cmp o w1 w2 st with
  | none => simp only [e] at q; exact q.elim
  | some k =>
    intro ι' H' v p' t z rv
    cases rv
    refine ⟨k, rfl, ?_⟩
    cases k with
    | false =>
      simp only [e] at q
      exact q ι' H' p' t z _ (.bl false)
    | true =>
      simp only [e] at q
      refine ⟨ι', en, st, r.keep t p' z, (Fin.split (Fin.shift p' t q)).mono fun w3 ι3 st3 H3 p3 t3 z3 q3 v3 r3 => ?_⟩
      exact ⟨ι3, st3, w2, w3, z3, r2.keep (t.trans t3) (p'.trans p3), r3, fin_of q3⟩
theorem w_neg {a : Expr} {ca : E} (ha : SE Z a ca) : SE Z (.UnaryOp .USub a pos) (.neg ca) := by
  refine pe_imp (pe_un un_neg ha) fun σ H Q h => ?_
  refine bindE (g := fun x _ st1 => negK x st1) h fun w v ι en st H1 r r1 q => ?_
  unfold negK at q
  split at q
  · cases r1
    exact ⟨_, rfl, q.now r.hr _ (.int _)⟩
  · exact q.elim
theorem w_not {a : Expr} {ca : E} (ha : SE Z a ca) : SE Z (.UnaryOp .Not a pos) (.not ca) := by
  refine pe_imp (pe_notT ha) fun σ H Q h => ?_
  obtain ⟨ι, en, st, r, hf⟩ := h
  refine ⟨ι, en, st, r, (truK (Fin.split hf)).mono fun w ι' st' H' p t z q v rv => ?_⟩
  obtain ⟨b, e, q⟩ := q
  exact ⟨b, tru_rel z rv e, q.now z _ (.bl _)⟩
theorem t_not {a : Expr} {ca : E} (ha : ST Z a ca) : ST Z (.UnaryOp .Not a pos) (.not ca) := by
  refine pt_imp (pt_not ha) fun σ H Q h => ?_
  obtain ⟨ι, en, st, r, hf⟩ := h
  refine ⟨ι, en, st, r, (Fin.split (truK hf)).mono fun b ι' st' H' p t z q => ?_⟩
  obtain ⟨c, e, q⟩ := q.now z
  cases e
  exact q
/-! ### and, or -/
theorem w_one {op} {a : Expr} {ca : E} (ha : SE Z a ca) : SE Z (.BoolOp op [a] pos) ca := pe_one ha
theorem w_and {a b : Expr} {rest : List Expr} {ca cb : E} (ha : SE Z a ca) (hb : SE Z (.BoolOp .And (b :: rest) pos) cb) : SE Z (.BoolOp .And (a :: b :: rest) pos) (.and ca cb) := by
  refine pe_imp (pe_andT ha hb) fun σ H Q h => ?_
  refine bindE (g := fun x en st1 => scK false (fun st1 => ev Z.cl cb en st1) x st1) h fun w v ι en st H1 r r1 q => ?_
  unfold scK at q
  split at q
  · rename_i b e
    refine ⟨b, tru_rel r.hr r1 e, ?_⟩
    cases b with
    | false => exact q.now r.hr v r1
    | true => exact ⟨ι, en, st, r, q⟩
  · exact q.elim
theorem w_or {a b : Expr} {rest : List Expr} {ca cb : E} (ha : SE Z a ca) (hb : SE Z (.BoolOp .Or (b :: rest) pos) cb) : SE Z (.BoolOp .Or (a :: b :: rest) pos) (.or ca cb) := by
  refine pe_imp (pe_orT ha hb) fun σ H Q h => ?_
  refine bindE (g := fun x en st1 => scK true (fun st1 => ev Z.cl cb en st1) x st1) h fun w v ι en st H1 r r1 q => ?_
  unfold scK at q
  split at q
  · rename_i b e
    refine ⟨b, tru_rel r.hr r1 e, ?_⟩
    cases b with
    | true => exact q.now r.hr v r1
    | false => exact ⟨ι, en, st, r, q⟩
  · exact q.elim
abbrev SW (Z : Cz) (e : Expr) (c : E) : Prop := PW Z.X e (tT Z c)
theorem SW.t {e : Expr} {c : E} (h : SW Z e c) : ST Z e c := PW.pt h
theorem t_and1 {a : Expr} {ca : E} (ha : ST Z a ca) : SW Z (.BoolOp .And [a] pos) ca := pw_and1 ha
theorem t_or1 {a : Expr} {ca : E} (ha : ST Z a ca) : SW Z (.BoolOp .Or [a] pos) ca := pw_or1 ha
/-- both parts of a short circuit, as tests -/
theorem sc_fin {K : PySem.W.Frag} {x : Value → Option Addr → Hp → Prop} {ι : List Addr} {H : Hp} {stop : Bool} {r : Res W} {f : Sto → Res W} {k : Bool → List Addr → Sto → Hp → Prop} (h : Fin K x ι H (truR (r.bind (scK stop f))) k) :
    Fin K x ι H (truR r) fun b ι' st' H' => if b = stop then k b ι' st' H' else Fin K x ι' H' (truR (f st')) k := by
  cases r with
  | bad => exact h.elim
  | exc y st => exact h
  | ok w st =>
    have h1 : Fin K x ι H ((scK stop f w st).bind truK0) k := h
    show Fin K x ι H (truK0 w st) _
    unfold scK at h1
    unfold truK0
    cases e : tru st w with
    | none => rw [e] at h1; exact h1.elim
    | some b =>
      simp only [e] at h1
      intro ι' H' p t z
      show if b = stop then _ else _
      split at h1
      · rename_i hb
        rw [if_pos hb]
        have h2 : Fin K x ι H (truK0 w st) k := h1
        unfold truK0 at h2
        simp only [e] at h2
        exact h2 ι' H' p t z
      · rename_i hb
        rw [if_neg hb]
        exact Fin.shift p t h1
theorem t_and {a b : Expr} {rest : List Expr} {ca cb : E} (ha : ST Z a ca) (hb : SW Z (.BoolOp .And (b :: rest) pos) cb) : SW Z (.BoolOp .And (a :: b :: rest) pos) (.and ca cb) := by
  refine pw_imp (pw_and ha hb) fun σ H Q h => ?_
  obtain ⟨ι, en, st, r, hf⟩ := h
  have hf : Fin Z.X.K (fun c d H' => Z.x c d σ H') ι H (truR ((ev Z.cl ca en st).bind (scK false fun st1 => ev Z.cl cb en st1))) _ := hf
  refine ⟨ι, en, st, r, (sc_fin hf).mono fun b ι' st' H' p t z q => ?_⟩
  cases b with
  | false => exact q
  | true => exact ⟨ι', en, st', r.keep t p z, q⟩
theorem t_or {a b : Expr} {rest : List Expr} {ca cb : E} (ha : ST Z a ca) (hb : SW Z (.BoolOp .Or (b :: rest) pos) cb) : SW Z (.BoolOp .Or (a :: b :: rest) pos) (.or ca cb) := by
  refine pw_imp (pw_or ha hb) fun σ H Q h => ?_
  obtain ⟨ι, en, st, r, hf⟩ := h
  have hf : Fin Z.X.K (fun c d H' => Z.x c d σ H') ι H (truR ((ev Z.cl ca en st).bind (scK true fun st1 => ev Z.cl cb en st1))) _ := hf
  refine ⟨ι, en, st, r, (sc_fin hf).mono fun b ι' st' H' p t z q => ?_⟩
  cases b with
  | true => exact q
  | false => exact ⟨ι', en, st', r.keep t p z, q⟩
theorem w_ite {c a b : Expr} {cc ca cb : E} (hc : ST Z c cc) (ha : SE Z a ca) (hb : SE Z b cb) : SE Z (.IfExp c a b pos) (.ite cc ca cb) := by
  refine pe_imp (pe_ifExp hc ha hb) fun σ H Q h => ?_
  refine bindT (g := fun k en st1 => iteK (fun st1 => ev Z.cl ca en st1) (fun st1 => ev Z.cl cb en st1) k st1) h fun k ι en st H1 r q => ?_
  cases k with
  | true => exact ⟨ι, en, st, r, q⟩
  | false => exact ⟨ι, en, st, r, q⟩

/-! ### argument lists, displays -/
theorem w_nil : SA Z [] .nil := pa_imp pa_nil fun σ H Q ⟨ι, en, st, r, hf⟩ => hf.now r.hr [] .nil
theorem w_cons {e : Expr} {es : List Expr} {c : E} {cs : Es} (ha : SE Z e c) (hr : SA Z es cs) (hs : starEach (e :: es) Z.X.env = (false, eval e Z.X.env) :: starEach es Z.X.env := by rfl) : SA Z (e :: es) (.cons c cs) := by
  refine pa_imp (pa_cons ha hr hs) fun σ H Q h => ?_
  refine bindE (g := fun x en st1 => (evs Z.cl cs en st1).bind fun xs st2 => .ok (x :: xs) st2) h fun w v ι en st H1 r r1 q => ?_
  refine ⟨ι, en, st, r, (Fin.split q).mono fun ws ι' st' H' p t z q' vs rs => ?_⟩
  exact q'.now z _ (.cons (r1.keep t p) rs)
theorem w_tup {es : List Expr} {cs : Es} {k} (h : SA Z es cs) : SE Z (.Tuple es k pos) (.tup cs) := by
  refine pe_imp (pe_tup h) fun σ H Q h => ?_
  refine bindEs (g := fun ws _ st => tupK ws st) h fun ws vs ι en st H1 r rs q => ?_
  unfold tupK at q
  split at q
  · rename_i hl
    refine ⟨by rw [← rs.len]; exact hl, ?_⟩
    exact FinO.tup (ws := ws) (fun ι' H' v a b c d => q ι' H' a b c v d) r.hr rs
  · exact q.elim
theorem w_lst {es : List Expr} {cs : Es} (h : SA Z es cs) : SE Z (.List es pos) (.lst cs) := by
  refine pe_imp (pe_lst h) fun σ H Q h => ?_
  refine bindEs (g := fun ws _ st => lstK ws st) h fun ws vs ι en st H1 r rs q => ?_
  unfold lstK at q
  split at q
  · rename_i hl
    refine ⟨by rw [← rs.len]; exact hl, ?_⟩
    exact FinO.new (ws := ws) (fun ι' H' v a b c d => q ι' H' a b c v d) r.hr rs
  · exact q.elim
/-! ### built-in functions -/
theorem Bi.val_cases (b : Bi) : (∃ id, b.val = .builtin id) ∨ ∃ T, b.val = .type T := by cases b <;> first | exact .inl ⟨_, rfl⟩ | exact .inr ⟨_, rfl⟩
theorem w_bi (b : Bi) {x : Str} {p : Pos} {e : Expr} {es : List Expr} {cs : Es} (ok : Z.Ok) (hg : Gl Z.X x) (hm : Z.X.mg x = none) (hv : bootBuiltins x = some b.val) (ha : SA Z (e :: es) cs) (hn : x ≠ "__name__" := by decide) (hdb : (x == ("__debug__" : Str)) = false := by decide)
    (he : starEach (e :: es) Z.X.env = (false, eval e Z.X.env) :: starEach es Z.X.env := by rfl) (hpl : (backTo pos (starEach es Z.X.env)).any (·.1) = false := by rfl) : SE Z (.Call (.Name x p) (e :: es) [] pos) (.bi b cs) := by
  have fin : ∀ σ H Q, tE Z (.bi b cs) σ H Q → tCB (rBs Z.X.K (bi b)) (tEs Z cs) σ H Q := fun σ H Q h => by
    refine bindEs (g := fun ws _ st => Res.of (bi b ws st)) h fun ws vs ι en st H1 r rs q => ?_
    exact ⟨ι, st, ws, r.hr, rs, fin_of q⟩
  rcases b.val_cases with ⟨id, e1⟩ | ⟨T, e1⟩
  · exact pe_imp (pe_callB (id := id) (by rw [← e1]; exact cr_bi ok.hu ok.gd ok.calm b) hg hm (by rw [← e1]; exact hv) ha hn hdb he hpl) fin
  · exact pe_imp (pe_callTy (T := T) (by rw [← e1]; exact cr_bi ok.hu ok.gd ok.calm b) hg hm (by rw [← e1]; exact hv) ha hn hdb he hpl) fin
/-! ### subscripts, slices -/
theorem w_ix {a b : Expr} {ca cb : E} (ok : Z.Ok) (ha : SE Z a ca) (hb : SE Z b cb) (hs : PlainIx b := by intro _ _; rfl) : SE Z (.Subscript a b pos) (.ix ca cb) := by
  refine pe_imp (pe_ix (ixr_sub ok.hu) ha hb hs) fun σ H Q h => ?_
  refine bindE2 h fun w1 w2 v1 v2 ι en st H1 r r1 r2 q => ?_
  exact ⟨ι, st, w1, w2, r.hr, r1, r2, fin_of q⟩
/-- a slice's end -/
def tWo (K : PySem.W.Frag) (x : WX) (f : En → Sto → Res (Option Int)) : TO := fun σ H Q => ∃ ι en st, Rel K σ H ι en st ∧ Fin K (fun c d H' => x c d σ H') ι H (f en st) fun o _ _ H' => Q o H'
abbrev SO (Z : Cz) (e : Option Expr) (c : Es) : Prop := PO Z.X e (tWo Z.X.K Z.x fun en st => evo Z.cl c en st)
theorem po_imp {X : Cx} {e : Option Expr} {t t' : TO} (h : PO X e t) (i : ∀ σ H Q, t' σ H Q → t σ H Q) : PO X e t' := ⟨fun pins s σ H Q I q => h.run pins s σ H Q I (i _ _ _ q)⟩
theorem w_o0 : SO Z none .nil := po_imp po_none fun σ H Q ⟨ι, en, st, r, hf⟩ => hf.now r.hr
theorem w_o1 {e : Expr} {c : E} (h : SE Z e c) : SO Z (some e) (.cons c .nil) := by
  refine po_imp (po_some h) fun σ H Q h => ?_
  obtain ⟨ι, en, st, r, hf⟩ := h
  refine bindE (g := fun x _ st => intK x st) ⟨ι, en, st, r, hf⟩ fun w v ι en st H1 r r1 q => ?_
  unfold intK at q
  split at q
  · cases r1
    exact ⟨_, rfl, q.now r.hr⟩
  · exact q.elim
theorem w_sl {a : Expr} {lo hi : Option Expr} {ca : E} {cl ch : Es} {p2 : Pos} (ha : SE Z a ca) (hl : SO Z lo cl) (hh : SO Z hi ch) : SE Z (.Subscript a (.Slice lo hi none p2) pos) (.sl ca cl ch) := by
  refine pe_imp (pe_slice slr_cut ha hl hh) fun σ H Q h => ?_
  refine bindE (g := fun x en st1 => (evo Z.cl cl en st1).bind fun l st2 => (evo Z.cl ch en st2).bind fun h st3 => Res.of (slW x l h st3)) h fun w v ι en st H1 r r1 q => ?_
  refine ⟨ι, en, st, r, (Fin.split q).mono fun l ι1 st1 H1 p1 t1 z1 q1 => ?_⟩
  refine ⟨ι1, en, st1, r.keep t1 p1 z1, (Fin.split q1).mono fun h ι2 st2 H2 p2 t2 z2 q2 => ?_⟩
  exact ⟨ι2, st2, w, z2, (r1.keep t1 p1).keep t2 p2, fin_of q2⟩
theorem w_rev {a : Expr} {ca : E} {k : Nat} {p1 p2 p3 : Pos} (ha : SE Z a ca) : SE Z (.Subscript a (.Slice none none (some (.UnaryOp .USub (.Constant (.int 1) k p1) p2)) p3) pos) (.rev ca) := by
  refine pe_imp (pe_revL ha) fun σ H Q h => ?_
  refine bindE (g := fun x _ st1 => Res.of (revW x st1)) h fun w v ι en st H1 r r1 q => ?_
  have q := fin_of q
  unfold revW at q
  cases e : lstOf st w with
  | none => rw [e] at q; exact q.elim
  | some ws =>
    rw [e] at q
    obtain ⟨p, vs, rfl, h1, h2⟩ := r1.lst r.hr e
    exact ⟨p, vs, rfl, h2, FinO.new q r.hr h1.rev⟩
/-! ### methods of lists -/
theorem w_mt (m : Mt) {o e : Expr} {es : List Expr} {name : Str} {apos cpos : Pos} {co : E} {cs : Es} (slot : Slot "list" name m.id) (hty : typeOf (.builtin m.id) = pure (.type "method_descriptor")) (ho : SE Z o co) (ha : SA Z (e :: es) cs)
    (hbase : attributeBase o name Z.X.env (eval o Z.X.env) = eval o Z.X.env := by rfl)
    (hfew : ((backTo cpos (starEach (e :: es) Z.X.env)).all (fun x => !x.1) && (backToKw cpos (keywordEach [] Z.X.env)).all (fun x => x.1.isSome)
      && decide ((e :: es).length + ([] : List Keyword).length + (if ([] : List Keyword).isEmpty then 0 else 1) < 30)) = true := by rfl)
    (hline : (apos.endLine == cpos.line) = true := by rfl) (hs : starEach (e :: es) Z.X.env = (false, eval e Z.X.env) :: starEach es Z.X.env := by rfl) (hplain : (backTo cpos (starEach es Z.X.env)).any (·.1) = false := by rfl) :
    SE Z (.Call (.Attribute o name apos) (e :: es) [] cpos) (.mt m co cs) := by
  refine pe_imp (pe_bm PySem.F.plainAttrs_list slot hty (mtr_mt m) ho ha hbase hfew hline hs hplain) fun σ H Q h => ?_
  refine bindE (g := fun x en st1 => isLK (fun st1 => (evs Z.cl cs en st1).bind fun ws st2 => Res.of (mt m x ws st2)) x st1) h fun w v ι en st H1 r r1 q => ?_
  unfold isLK at q
  split at q
  · rename_i ws e1
    obtain ⟨a, vs, rfl, _, q2⟩ := r1.lst r.hr e1
    refine ⟨.inl ⟨rfl, vs, q2⟩, ι, en, st, r, (Fin.split q).mono fun us ι' st' H' p t z q' vs rs => ?_⟩
    exact ⟨ι', st', w, us, z, r1.keep t p, rs, fin_of q'⟩
  · exact q.elim
theorem w_mt0 (m : Mt) {o : Expr} {name : Str} {apos cpos : Pos} {co : E} (slot : Slot "list" name m.id) (hty : typeOf (.builtin m.id) = pure (.type "method_descriptor")) (ho : SE Z o co)
    (hbase : attributeBase o name Z.X.env (eval o Z.X.env) = eval o Z.X.env := by rfl) (hline : (apos.endLine == cpos.line) = true := by rfl) :
    SE Z (.Call (.Attribute o name apos) [] [] cpos) (.mt m co .nil) := by
  refine pe_imp (pe_bm0 PySem.F.plainAttrs_list slot hty (mtr_mt m) ho hbase hline) fun σ H Q h => ?_
  refine bindE (g := fun x en st1 => isLK (fun st1 => (evs Z.cl .nil en st1).bind fun ws st2 => Res.of (mt m x ws st2)) x st1) h fun w v ι en st H1 r r1 q => ?_
  unfold isLK at q
  split at q
  · rename_i ws e1
    obtain ⟨a, vs, rfl, _, q2⟩ := r1.lst r.hr e1
    have q : Fin Z.X.K (fun c d H' => Z.x c d σ H') ι H1 (Res.of (mt m w [] st)) _ := q
    exact ⟨.inl ⟨rfl, vs, q2⟩, ι, st, w, [], r.hr, r1, .nil, fin_of q⟩
  · exact q.elim

/-! ### isinstance -/
theorem ty_rel {K : PySem.W.Frag} {H : Hp} {ι : List Addr} {st : Sto} {w : W} {v : V} {t : String} (z : HRel K H ι st) (r : RW K H ι w v) (e : tyOf st w = some t) :
    TyOf K H v (.type t) ∨ (t = "list" ∧ ∃ a vs, v = .ref a ∧ SLst K H a vs) ∨ (t = "tuple" ∧ ∃ a vs, v = .ref a ∧ STup K H a vs) := by
  cases r with
  | non => cases e; exact .inl .non
  | bl b => cases e; exact .inl (.bl b)
  | int i => cases e; exact .inl (.int i)
  | str x => cases e; exact .inl (.str x)
  | tup h r => cases e; exact .inr (.inr ⟨rfl, _, _, rfl, h⟩)
  | frl h r => cases e; exact .inr (.inl ⟨rfl, _, _, rfl, h⟩)
  | ref h =>
    obtain ⟨o, eo, ro⟩ := z.at h
    unfold tyOf at e
    simp only [eo] at e
    cases o with
    | lst us => cases e; obtain ⟨vs, q1, q2⟩ := ro; exact .inl (.lst q1)
    | dct us => cases e; obtain ⟨vs, q1, q2⟩ := ro; exact .inl (.dK q1)
/-- isinstance(x, c), the answer for each kind -/
def KitT (K : PySem.W.Frag) (c : Value) (u : String) : Prop := ∀ t ∈ ["NoneType", "bool", "int", "str", "tuple", "list", "dict"], PySem.W.kitOne K (.type t) c = some (isTy t u)
theorem isi_ok {pins : List (Addr × Obj)} {s : Shared} {σ : L2.St} {H : Hp} {K : PySem.W.Frag} {ι : List Addr} {st : Sto} {w : W} {v : V} {u c : Value} {t cu : String} {Q : Value → Shared → Prop} {A : Around} {E : Value → Shared → Prop}
    (I : Inv Z.X pins σ H s) (z : HRel Z.X.K H ι st) (r : RW Z.X.K H ι w v) (e : tyOf st w = some t) (rv : RelV v u) (hk : PySem.W.kitOne Z.X.K (.type t) c = some (isTy t cu)) (h : ∀ tk, Q (.bool (isTy t cu)) { s with toks := tk }) :
    wpAny (model Z.X.prog Z.X.w) A (call (.builtin "isinstance") [u, c]) Q E s := by
  rcases ty_rel z r e with h1 | ⟨rfl, a, vs, rfl, h1⟩ | ⟨rfl, a, vs, rfl, h1⟩
  · exact isinst_ok I rv h1 hk h
  · cases (show u = Value.ref a from rv)
    obtain ⟨its, _, ⟨o, n, e1, c1, d1, _⟩, _⟩ := I.list h1.sq
    exact PySem.W.kia_one PySem.W.kitx_list I.kIn ⟨o, e1, c1⟩ hk (fun z => nomatch z) h
  · cases (show u = Value.ref a from rv)
    obtain ⟨its, _, ⟨o, e1, c1, _⟩, _⟩ := I.tuple h1.sq
    exact PySem.W.kia_one PySem.W.kitx_tuple I.kIn ⟨o, e1, c1⟩ hk (fun z => nomatch z) h
end
end Ci
/-! Ci6: targets, what is walked, comprehensions. -/
namespace Ci
open PySem L2 PyProof.Rows

/-! ### targets -/
/-- a target's reading: only its slots change -/
def gW (K : PySem.W.Frag) (t : Tg) : TG := fun v σ H Q => ∃ ι en st w en1, Rel K σ H ι en st ∧ RW K H ι w v ∧ asg t w en = some en1 ∧ ∀ σ1, Rel K σ1 H ι en1 st → (∀ i, i ∉ t.slots → σ1[i]? = σ[i]?) → Q σ1 H
def gWs (K : PySem.W.Frag) (t : Tgs) : TGs := fun vs σ H Q => ∃ ι en st ws en1, Rel K σ H ι en st ∧ RWs K H ι ws vs ∧ asgs t ws en = some en1 ∧ ∀ σ1, Rel K σ1 H ι en1 st → (∀ i, i ∉ t.slots → σ1[i]? = σ[i]?) → Q σ1 H
theorem pgs_imp {X : Cx} {e : List Expr} {t t' : TGs} (h : PGs X e t) (i : ∀ v σ H Q, t' v σ H Q → t v σ H Q) : PGs X e t' := ⟨fun pins s σ H v u Q I r q => h.run pins s σ H v u Q I r (i _ _ _ _ q)⟩
section
variable {X : Cx} {pos : Pos}
theorem Rel.set {K : PySem.W.Frag} {σ : L2.St} {H : Hp} {ι : List Addr} {en : En} {st : Sto} {i : Nat} {w : W} {v : V} (r : Rel K σ H ι en st) (h : RW K H ι w v) : Rel K (σ.set i (some v)) H ι (en.set i (some w)) st := by
  refine ⟨r.hr, by simp [r.len], fun j z e => ?_⟩
  by_cases hj : j = i
  · subst hj
    have hl : j < en.length := by
      have := (List.getElem?_eq_some_iff.mp e).1
      simpa using this
    rw [List.getElem?_set_self hl] at e
    cases e
    exact ⟨v, List.getElem?_set_self (by rw [r.len]; exact hl), h⟩
  · rw [List.getElem?_set_ne (Ne.symm hj)] at e
    rw [List.getElem?_set_ne (Ne.symm hj)]
    exact r.en j z e
theorem g_nm (i : Nat) {x : Str} (nd : X.N.Nodup) (hi : X.N[i]? = some x := by rfl) (hx : Loc X.env.scope x := by first | exact Or.inl rfl | exact Or.inr rfl) (hf : X.fn x = true ∨ X.env.scope.names.lookup x = some .local := by first | exact .inl rfl | exact .inr rfl | assumption) : PG X (.Name x pos) (gW X.K (.nm i)) := by
  refine pg_imp (pg_name nd hi hx hf) fun v σ H Q h => ?_
  obtain ⟨ι, en, st, w, en1, r, rv, e, k⟩ := h
  have e : (if i < en.length then some (en.set i (some w)) else none) = some en1 := e
  split at e
  · cases e
    refine k _ (r.set rv) fun j hj => ?_
    have : j ≠ i := fun z => hj (by subst z; exact List.mem_cons_self)
    exact List.getElem?_set_ne (Ne.symm this)
  · cases e
theorem gs_nil : PGs X [] (gWs X.K .nil) := by
  refine pgs_imp pgs_nil fun vs σ H Q h => ?_
  obtain ⟨ι, en, st, ws, en1, r, rv, e, k⟩ := h
  cases ws with
  | nil =>
    cases rv
    cases e
    exact ⟨rfl, k σ r fun _ _ => rfl⟩
  | cons _ _ => cases e
mutual
theorem asg_len : ∀ {t : Tg} {w : W} {en en1 : En}, asg t w en = some en1 → en1.length = en.length
  | .nm i, w, en, en1, e => by
    have e : (if i < en.length then some (en.set i (some w)) else none) = some en1 := e
    split at e
    · cases e; exact List.length_set
    · cases e
  | .tp ts, w, en, en1, e => by
    cases w with
    | tup ws => exact asgs_lenE (ts := ts) (ws := ws) e
    | _ => cases e
theorem asgs_lenE : ∀ {ts : Tgs} {ws : List W} {en en1 : En}, asgs ts ws en = some en1 → en1.length = en.length
  | .nil, [], _, _, e => by cases e; rfl
  | .nil, _ :: _, _, _, e => by cases e
  | .cons t ts, [], _, _, e => by cases e
  | .cons t ts, w :: ws, en, en1, e => by
    have e : (match asg t w en with | some en1 => asgs ts ws en1 | none => none) = some en1 := e
    split at e
    · rename_i en2 e2
      exact (asgs_lenE e).trans (asg_len e2)
    · cases e
end
theorem gs_cons {e : Expr} {es : List Expr} {t : Tg} {ts : Tgs} (h1 : PG X e (gW X.K t)) (h2 : PGs X es (gWs X.K ts))
    (hs : (assignEach (e :: es) X.env).map (·.2) = assign e X.env :: (assignEach es X.env).map (·.2) := by rfl) : PGs X (e :: es) (gWs X.K (.cons t ts)) := by
  refine pgs_imp (pgs_cons h1 h2 hs) fun vs σ H Q h => ?_
  obtain ⟨ι, en, st, ws, en1, r, rv, e, k⟩ := h
  cases ws with
  | nil => cases e
  | cons w ws =>
    cases rv with
    | @cons _ v _ vr hv ht =>
      have e : (match asg t w en with | some en1 => asgs ts ws en1 | none => none) = some en1 := e
      split at e
      · rename_i en2 e2
        refine ⟨v, vr, rfl, ι, en, st, w, en2, r, hv, e2, fun σ1 r1 s1 => ?_⟩
        refine ⟨ι, en2, st, ws, en1, r1, ht, e, fun σ2 r2 s2 => k σ2 r2 fun i hi => ?_⟩
        have hi : i ∉ t.slots ++ ts.slots := hi
        rw [List.mem_append] at hi
        exact (s2 i fun z => hi (.inr z)).trans (s1 i fun z => hi (.inl z))
      · cases e
theorem g_tp {es : List Expr} {k : Nat} {ts : Tgs} {n : Nat} (hc : X.calm = true) (h : PGs X es (gWs X.K ts)) (hl : ∀ ws en en1, asgs ts ws en = some en1 → ws.length = n)
    (hn : (assignEach es X.env).length = n := by rfl) (hst : (assignEach es X.env).findIdx? (·.1) = none := by rfl) : PG X (.Tuple es k pos) (gW X.K (.tp ts)) := by
  refine pg_imp (pg_tup hc h hn hst) fun v σ H Q hq => ?_
  obtain ⟨ι, en, st, w, en1, r, rv, e, kk⟩ := hq
  cases w with
  | tup ws =>
    cases rv with
    | @tup _ vs a ht rs =>
      have e : asgs ts ws en = some en1 := e
      exact ⟨a, vs, rfl, ht.sq, by rw [← rs.len]; exact hl _ _ _ e, ι, en, st, ws, en1, r, rs, e, kk⟩
  | _ => cases e
end
def Tgs.n : Tgs → Nat
  | .nil => 0
  | .cons _ ts => ts.n + 1
theorem asgs_len : ∀ {ts : Tgs} {ws : List W} {en en1 : En}, asgs ts ws en = some en1 → ws.length = ts.n
  | .nil, [], _, _, _ => rfl
  | .nil, _ :: _, _, _, e => by cases e
  | .cons t ts, [], _, _, e => by cases e
  | .cons t ts, w :: ws, en, en1, e => by
    have e : (match asg t w en with | some en1 => asgs ts ws en1 | none => none) = some en1 := e
    split at e
    · exact congrArg (· + 1) (asgs_len e)
    · cases e

/-! ### what is walked -/
/-- J walks what src tells, whatever comes later -/
def SrcOk (K : PySem.W.Frag) (H : Hp) (ι : List Addr) (src : Src) (J : L2.It) : Prop :=
  ∀ (ι' : List Addr) (H' : Hp) (st' : Sto) (i : Nat), Pre ι ι' → TK H H' → HRel K H' ι' st' → match src.get st' i with
    | none => True
    | some none => J.stop i H'
    | some (some w) => J.go i H' ∧ ∀ x H'', J.yld i H' x H'' → TK H' H'' ∧ HRel K H'' ι' st' ∧ RW K H'' ι' w x
def iW (K : PySem.W.Frag) (x : WX) (f : En → Sto → Res Src) : TI := fun σ H R => ∃ ι en st, Rel K σ H ι en st ∧ Fin K (fun c d H' => x c d σ H') ι H (f en st) fun src ι' _ H' => ∀ J, SrcOk K H' ι' src J → R J H'
abbrev SI (Z : Cz) (tg e : Expr) (c : It) : Prop := PI Z.X tg e (iW Z.X.K Z.x fun en st => evi Z.cl c en st)
theorem pi_imp {X : Cx} {tg e : Expr} {t t' : TI} (h : PI X tg e t) (i : ∀ σ H Q, t' σ H Q → t σ H Q) : PI X tg e t' := ⟨fun pins s σ H R I q => h.run pins s σ H R I (i _ _ _ q)⟩
section
variable {K : PySem.W.Frag} {H : Hp} {ι : List Addr}
theorem src_tup {ws : List W} {vs : List V} {a : Addr} (h : STup K H a vs) (r : RWs K H ι ws vs) : SrcOk K H ι (.fix ws) (Itt K a) := by
  intro ι' H' st' i p t z
  have hs := (h.keep t).sq
  cases e : ws[i]? with
  | none =>
    show (match some ws[i]? with | none => True | some none => _ | some (some w) => _)
    rw [e]
    refine ⟨vs, hs, ?_⟩
    rw [← r.len]
    exact List.getElem?_eq_none_iff.mp e
  | some w =>
    show (match some ws[i]? with | none => True | some none => _ | some (some w) => _)
    rw [e]
    obtain ⟨v, ev, rv⟩ := r.get e
    refine ⟨⟨vs, v, hs, ev⟩, fun x H'' y => ?_⟩
    obtain ⟨rfl, y⟩ := y
    have := y vs hs
    rw [ev] at this
    cases this
    exact ⟨TK.refl _, z, rv.keep t p⟩
theorem src_frl {ws : List W} {vs : List V} {a : Addr} (h : SLst K H a vs) (r : RWs K H ι ws vs) : SrcOk K H ι (.fix ws) (Itl K a) := by
  intro ι' H' st' i p t z
  have hs := (h.keep t).sq
  cases e : ws[i]? with
  | none =>
    show (match some ws[i]? with | none => True | some none => _ | some (some w) => _)
    rw [e]
    refine ⟨vs, hs, ?_⟩
    rw [← r.len]
    exact List.getElem?_eq_none_iff.mp e
  | some w =>
    show (match some ws[i]? with | none => True | some none => _ | some (some w) => _)
    rw [e]
    obtain ⟨v, ev, rv⟩ := r.get e
    refine ⟨⟨vs, v, hs, ev⟩, fun x H'' y => ?_⟩
    obtain ⟨rfl, y⟩ := y
    have := y vs hs
    rw [ev] at this
    cases this
    exact ⟨TK.refl _, z, rv.keep t p⟩
theorem src_live {n : Nat} {a : Addr} (h : ι[n]? = some a) : SrcOk K H ι (.live n) (Itl K a) := by
  intro ι' H' st' i p t z
  obtain ⟨o, eo, ro⟩ := z.at (p n a h)
  show (match (match st'[n]? with | some (.lst ws) => some ws[i]? | _ => none) with | none => True | some none => _ | some (some w) => _)
  rw [eo]
  cases o with
  | dct _ => exact True.intro
  | lst ws =>
    obtain ⟨vs, q1, r⟩ := ro
    have hs : SqL K H' a vs := SqL.of q1
    have uniq : ∀ xs, SqL K H' a xs → True := fun _ _ => True.intro
    cases e : ws[i]? with
    | none =>
      show (match some ws[i]? with | none => True | some none => _ | some (some w) => _)
      rw [e]
      refine ⟨vs, hs, ?_⟩
      rw [← r.len]
      exact List.getElem?_eq_none_iff.mp e
    | some w =>
      show (match some ws[i]? with | none => True | some none => _ | some (some w) => _)
      rw [e]
      obtain ⟨v, ev, rv⟩ := r.get e
      refine ⟨⟨vs, v, hs, ev⟩, fun x H'' y => ?_⟩
      obtain ⟨rfl, y⟩ := y
      have := y vs hs
      rw [ev] at this
      cases this
      exact ⟨TK.refl _, z, rv⟩
theorem src_str {x : Str} : SrcOk K H ι (.fix (x.cps.toList.map fun c => .str ⟨#[c]⟩)) (Its x) := by
  intro ι' H' st' i p t z
  show (match some (x.cps.toList.map fun c => W.str ⟨#[c]⟩)[i]? with | none => True | some none => _ | some (some w) => _)
  rw [List.getElem?_map, Array.getElem?_toList]
  cases e : x.cps[i]? with
  | none => exact Array.getElem?_eq_none_iff.mp e
  | some c =>
    refine ⟨(Array.getElem?_eq_some_iff.mp e).1, fun v H'' y => ?_⟩
    obtain ⟨rfl, d, ed, rfl⟩ := y
    rw [e] at ed
    cases ed
    exact ⟨TK.refl _, z, .str _⟩
theorem src_rng {a b : Int} : SrcOk K H ι (.fix (rngW a b)) (Itr a (b - a).toNat) := by
  intro ι' H' st' i p t z
  show (match some (rngW a b)[i]? with | none => True | some none => _ | some (some w) => _)
  unfold rngW
  rw [List.getElem?_map]
  by_cases h : i < (b - a).toNat
  · rw [List.getElem?_range h]
    refine ⟨h, fun v H'' y => ?_⟩
    obtain ⟨rfl, rfl⟩ := y
    exact ⟨TK.refl _, z, .int _⟩
  · rw [List.getElem?_eq_none (by simpa using h)]
    exact Nat.le_of_not_lt h
/-- a list that is walked -/
theorem src_lst {st : Sto} {w : W} {v : V} {s : Src} (z : HRel K H ι st) (r : RW K H ι w v) (e : srcOf st w = some s) :
    (∃ a vs, v = .ref a ∧ SqL K H a vs ∧ SrcOk K H ι s (Itl K a)) ∨ (∃ a vs, v = .ref a ∧ STup K H a vs ∧ SrcOk K H ι s (Itt K a)) ∨ ∃ x, v = .str x ∧ SrcOk K H ι s (Its x) := by
  cases r with
  | tup h r => cases e; exact .inr (.inl ⟨_, _, rfl, h, src_tup h r⟩)
  | frl h r => cases e; exact .inl ⟨_, _, rfl, h.sq, src_frl h r⟩
  | str x => cases e; exact .inr (.inr ⟨x, rfl, src_str⟩)
  | @ref n a h =>
    obtain ⟨o, eo, ro⟩ := z.at h
    unfold srcOf at e
    simp only [eo] at e
    cases o with
    | lst us => cases e; obtain ⟨vs, q1, q2⟩ := ro; exact .inl ⟨_, vs, rfl, SqL.of q1, src_live h⟩
    | dct us => cases e
  | _ => cases e
end

section
variable {Z : Cz} {tg : Expr} {pos : Pos}
/-- x in a list, a tuple, a text -/
theorem i_val {e : Expr} {c : E} (h : SE Z e c) : SI Z tg e (.val c) := by
  refine ⟨fun pins s σ H R I hi => ?_⟩
  obtain ⟨ι, en, st, r, hf⟩ := hi
  have hq : tE Z c σ H fun v H1 => (∃ a vs J, v = .ref a ∧ SqL Z.X.K H1 a vs ∧ J = Itl Z.X.K a ∧ R J H1) ∨ (∃ a vs J, v = .ref a ∧ SqT Z.X.K H1 a vs ∧ J = Itt Z.X.K a ∧ R J H1) ∨ ∃ x, v = .str x ∧ R (Its x) H1 := by
    refine bindE (g := fun x _ st => srcK id x st) ⟨ι, en, st, r, hf⟩ fun w v ι en st H1 r r1 q => ?_
    unfold srcK at q
    split at q
    · rename_i s e1
      have k := q.now r.hr
      rcases src_lst r.hr r1 e1 with ⟨a, vs, rfl, h1, h2⟩ | ⟨a, vs, rfl, h1, h2⟩ | ⟨x, rfl, h2⟩
      · exact .inl ⟨a, vs, _, rfl, h1, rfl, k _ h2⟩
      · exact .inr (.inl ⟨a, vs, _, rfl, h1.sq, rfl, k _ h2⟩)
      · exact .inr (.inr ⟨x, rfl, k _ h2⟩)
    · exact q.elim
  refine thn (h.run pins s σ H _ I hq) fun v s1 ⟨x, H1, I1, r1, q1⟩ => ?_
  -- each by the layer's own rule at a value that is known
  have known : PE Z.X e (fun σ' H' Q' => False) := ⟨fun _ _ _ _ _ _ z => z.elim⟩
  rcases q1 with ⟨a, vs, J, rfl, hs, rfl, q⟩ | ⟨a, vs, J, rfl, hs, rfl, q⟩ | ⟨x, rfl, q⟩
  · cases r1
    obtain ⟨its, rv, p, hz⟩ := I1.list hs
    refine wpAny_pyIter_list p.isList ?_
    refine ⟨s1.heap.objs.size, [s1.heap.objs.size], _, _, H1, rfl, I1.kept (t' := s1.toks) fun b o e => Heap.get?_push_of_some _ e, turn_list a _, ⟨_, Heap.get?_push_size _ rfl, rfl, rfl⟩, fun b hb => ?_, q⟩
    obtain rfl : b = s1.heap.objs.size := by simpa using hb
    exact I1.fpOk (Nat.le_refl _) (I1.hok.fresh (Nat.le_refl _))
  · cases r1
    obtain ⟨its, rv, p, hz⟩ := I1.tuple hs
    refine wpAny_pyIter_tuple (show s1.heap.IsTuple a its.toArray from p) ?_
    refine ⟨s1.heap.objs.size, [s1.heap.objs.size], _, _, H1, rfl, I1.kept (t' := s1.toks) fun b o e => Heap.get?_push_of_some _ e, turn_tuple a _, ⟨_, Heap.get?_push_size _ rfl, rfl, rfl⟩, fun b hb => ?_, q⟩
    obtain rfl : b = s1.heap.objs.size := by simpa using hb
    exact I1.fpOk (Nat.le_refl _) (I1.hok.fresh (Nat.le_refl _))
  · obtain ⟨t, rfl⟩ := r1
    have it : ∀ (ty : String) (hty : ty = "str_ascii_iterator" ∨ ty = "str_iterator"), wpAny (model Z.X.prog Z.X.w) Z.X.A (pure (.ref s1.heap.objs.size)) (PIE Z.X pins σ tg R) Z.X.xe { s1 with heap := s1.heap.push { cls := .type ty, data := .fields #[.str x t, .int 0 0] } } → True := fun _ _ _ => True.intro
    cases ha : x.cps.all (· < 128)
    · exact wpAny_pyIter_wide ha (pi_one (tk := s1.toks) I1 _ (turn_str _ x t "str_iterator" (.inr rfl)) ⟨_, Heap.get?_push_size _ rfl, rfl, rfl⟩ q)
    · exact wpAny_pyIter_ascii ha (pi_one (tk := s1.toks) I1 _ (turn_str _ x t "str_ascii_iterator" (.inl rfl)) ⟨_, Heap.get?_push_size _ rfl, rfl, rfl⟩ q)
theorem Res.assoc {α β γ : Type} (r : Res α) (f : α → Sto → Res β) (g : β → Sto → Res γ) : (r.bind f).bind g = r.bind fun a st => (f a st).bind g := by cases r <;> rfl
/-- range(b), range(a, b) -/
theorem i_rng1 {a : Expr} {c : E} {p : Pos} (hg : Gl Z.X "range") (hm : Z.X.mg "range" = none) (h : SE Z a c) (hs : starEach [a] Z.X.env = [(false, eval a Z.X.env)] := by rfl) : SI Z tg (.Call (.Name "range" p) [a] [] pos) (.rng (.cons c .nil)) := by
  refine pi_imp (pi_range1 hg hm (pa_cons h pa_nil (by rw [hs]; rfl)) hs) fun σ H R hi => ?_
  obtain ⟨ι, en, st, r, hf⟩ := hi
  have hf : Fin Z.X.K (fun c d H' => Z.x c d σ H') ι H (((ev Z.cl c en st).bind fun x st1 => (Res.ok [x] st1)).bind rngK) _ := hf
  rw [Res.assoc] at hf
  refine bindE (g := fun x _ st => rngK [x] st) ⟨ι, en, st, r, hf⟩ fun w v ι en st H1 r r1 q => ?_
  unfold rngK at q
  cases w with
  | int b =>
    cases r1
    unfold rngOf at q
    simp only at q
    split at q
    · rename_i a b' e
      split at e
      · rename_i hb
        cases e
        have hb := of_decide_eq_true hb
        refine ⟨_, rfl, hb.2.2.1, hb.2.2.2, ?_⟩
        have k := q.now r.hr _ src_rng
        simpa using k
      · cases e
    · exact q.elim
  | _ => exact q.elim
theorem i_rng2 {a b : Expr} {ca cb : E} {p : Pos} (hg : Gl Z.X "range") (hm : Z.X.mg "range" = none) (ha : SE Z a ca) (hb : SE Z b cb) (hs : starEach [a, b] Z.X.env = [(false, eval a Z.X.env), (false, eval b Z.X.env)] := by rfl) (hs2 : starEach [b] Z.X.env = [(false, eval b Z.X.env)] := by rfl) :
    SI Z tg (.Call (.Name "range" p) [a, b] [] pos) (.rng (.cons ca (.cons cb .nil))) := by
  refine pi_imp (pi_range2 hg hm (pa_cons ha (pa_cons hb pa_nil (by rw [hs2]; rfl)) (by rw [hs, hs2])) hs hs2) fun σ H R hi => ?_
  obtain ⟨ι, en, st, r, hf⟩ := hi
  have hf : Fin Z.X.K (fun c d H' => Z.x c d σ H') ι H (((ev Z.cl ca en st).bind fun x st1 => ((ev Z.cl cb en st1).bind fun y st2 => Res.ok [y] st2).bind fun xs st2 => Res.ok (x :: xs) st2).bind rngK) _ := hf
  rw [Res.assoc] at hf
  refine bindE (g := fun x en st1 => (((ev Z.cl cb en st1).bind fun y st2 => Res.ok [y] st2).bind fun xs st2 => Res.ok (x :: xs) st2).bind rngK) ⟨ι, en, st, r, hf⟩ fun w v ι en st H1 r r1 q => ?_
  rw [Res.assoc, Res.assoc] at q
  refine ⟨ι, en, st, r, (Fin.split q).mono fun w2 ι2 st2 H2 p2 t2 z2 q v2 r2 => ?_⟩
  have q : Fin Z.X.K (fun c d H' => Z.x c d σ H') ι2 H2 (rngK [w, w2] st2) _ := q
  unfold rngK at q
  cases w with
  | int i =>
    cases w2 with
    | int j =>
      cases r1
      cases r2
      unfold rngOf at q
      simp only at q
      split at q
      · rename_i a b' e
        split at e
        · rename_i hb
          cases e
          have hb := of_decide_eq_true hb
          exact ⟨_, _, rfl, hb, q.now z2 _ src_rng⟩
        · cases e
      · exact q.elim
    | _ => exact q.elim
  | _ => cases w2 <;> exact q.elim

/-! ### comprehensions -/
/-- the block of a comprehension -/
def Cz.blk (Z : Cz) (s : Shared) (H : Hp) (scope : Scope) (C : Addr) (cl : List (Str × Addr)) (fp : List Addr) : Cz := ⟨Z.X.blk s H scope (compEnvC scope cl C Z.X.env) fp, fun _ _ _ _ => False, Z.cl⟩
theorem Cz.Ok.blk (ok : Z.Ok) (s : Shared) (H : Hp) (scope : Scope) (C : Addr) (cl : List (Str × Addr)) (fp : List Addr) : (Z.blk s H scope C cl fp).Ok :=
  ⟨ok.calm, ok.nd, fun u s' ⟨_, _, _, _, _, _, _, _, _, _, _, _, _, _, _, _, w⟩ => w.elim, ok.hu, ok.gd⟩
abbrev SCs (Z : Cz) (ifs : List Expr) (c : Es) : Prop := PTs Z.X ifs (tWb Z.X.K Z.x fun en st => evc Z.cl c en st)
theorem pts_imp {X : Cx} {ifs : List Expr} {t t' : TT} (h : PTs X ifs t) (i : ∀ σ H Q, t' σ H Q → t σ H Q) : PTs X ifs t' := ⟨fun pins s σ H Q I q => h.run pins s σ H Q I (i _ _ _ q)⟩
theorem c_nil : SCs Z [] .nil := pts_imp pts_nil fun σ H Q ⟨ι, en, st, r, hf⟩ => hf.now r.hr
theorem c_one {e : Expr} {c : E} (h : ST Z e c) : SCs Z [e] (.cons c .nil) := by
  refine pts_imp (pts_one h) fun σ H Q hq => ?_
  refine bindT (g := fun b _ st => iteK (fun st1 => Res.ok true st1) (fun st1 => Res.ok false st1) b st) hq fun b ι en st H1 r q => ?_
  cases b with
  | true => exact q.now r.hr
  | false => exact q.now r.hr
theorem noexc_bind {α β : Type} (r : Res α) (f : α → Sto → Res β) : noexc (r.bind f) = (noexc r).bind fun a st => noexc (f a st) := by cases r <;> rfl
theorem fin_noexc {K : PySem.W.Frag} {x y : Value → Option Addr → Hp → Prop} {ι : List Addr} {H : Hp} {α : Type} {r : Res α} {k : α → List Addr → Sto → Hp → Prop} (h : Fin K x ι H (noexc r) k) : Fin K y ι H r k := by
  cases r with
  | ok a st => exact h
  | exc _ _ => exact h.elim
  | bad => exact h
theorem fin_nx {K : PySem.W.Frag} {x y : Value → Option Addr → Hp → Prop} {ι : List Addr} {H : Hp} {α β : Type} {r : Res α} {f : α → Sto → Res β} {k : β → List Addr → Sto → Hp → Prop} (h : Fin K x ι H (noexc (r.bind f)) k) :
    Fin K y ι H r fun a ι' st' H' => Fin K x ι' H' (noexc (f a st')) k := by
  rw [noexc_bind] at h
  exact fin_noexc (x := x) (Fin.split h)
theorem wipe_rel {K : PySem.W.Frag} {σ : L2.St} {H : Hp} {ι : List Addr} {en : En} {st : Sto} (r : Rel K σ H ι en st) : ∀ vs : List Nat, Rel K (wipe σ vs) H ι (wipeE en vs) st
  | [] => r
  | v :: vs => by
    have q := wipe_rel r vs
    refine ⟨q.hr, by show ((wipe σ vs).set v none).length = ((wipeE en vs).set v none).length; rw [List.length_set, List.length_set, q.len], fun i w e => ?_⟩
    have e : ((wipeE en vs).set v none)[i]? = some (some w) := e
    show ∃ u, ((wipe σ vs).set v none)[i]? = some (some u) ∧ _
    by_cases h : i = v
    · subst h
      by_cases hl : i < (wipeE en vs).length
      · rw [List.getElem?_set_self hl] at e; cases e
      · rw [List.getElem?_eq_none (by simpa using hl)] at e; cases e
    · rw [List.getElem?_set_ne (Ne.symm h)] at e
      rw [List.getElem?_set_ne (Ne.symm h)]
      exact q.en i w e
theorem wipe_same {σ τ : L2.St} (hl : τ.length = σ.length) : ∀ {vs : List Nat}, (∀ i, i ∉ vs → τ[i]? = σ[i]?) → wipe τ vs = wipe σ vs := fun {vs} h => by
  refine List.ext_getElem? fun i => ?_
  by_cases hi : i ∈ vs
  · have aux : ∀ (σ : L2.St) (vs : List Nat), i ∈ vs → (wipe σ vs)[i]? = if i < σ.length then some none else none := fun σ vs => by
      induction vs with
      | nil => intro z; cases z
      | cons v vs ih =>
        intro hm
        show ((wipe σ vs).set v none)[i]? = _
        by_cases e : i = v
        · subst e
          by_cases q : i < σ.length
          · rw [List.getElem?_set_self (by rw [wipe_length]; exact q), if_pos q]
          · rw [List.getElem?_eq_none (by simp [wipe_length]; omega), if_neg q]
        · rw [List.getElem?_set_ne (Ne.symm e)]
          rcases List.mem_cons.mp hm with z | z
          · exact absurd z e
          · exact ih z
    rw [aux _ _ hi, aux _ _ hi, hl]
  · rw [wipe_out hi, wipe_out hi]
    exact h i hi
theorem lc_tr {t : Tg} {ci : It} {cs : Es} {ce : E} {vs : List Nat} (hsl : ∀ i ∈ t.slots, i ∈ vs) (σ : L2.St) (H : Hp) (Q : VK) (h : tE Z (.lc vs t ci cs ce) σ H Q) :
    tLc (iW Z.X.K Z.x fun en st => evi Z.cl ci en st) (gW Z.X.K t) (tWb Z.X.K (fun _ _ _ _ => False) fun en st => evc Z.cl cs en st) (tW Z.X.K (fun _ _ _ _ => False) fun en st => ev Z.cl ce en st) vs σ H Q := by
  obtain ⟨ι, en, st, r, hf⟩ := h
  refine ⟨ι, en, st, r, (Fin.split hf).mono fun src ι1 st1 H1 p1 t1 z1 q1 J hJ => ?_⟩
  intro D hD
  -- the turns
  let lp : Nat → Nat → Sto → Res W := lcL src.get (asg t) (wipeE en (vs)) (fun en st => evc Z.cl cs en st) (fun en st => ev Z.cl ce en st) st1.length
  have tk0 : TK H1 (upd H1 D (.lst [])) := TK.new hD
  have z2 : HRel Z.X.K (upd H1 D (.lst [])) (ι1 ++ [D]) (st1 ++ [.lst []]) := z1.push hD ⟨[], upd_same, .nil⟩
  refine ⟨fun i m H' => ∃ ι' st', Pre (ι1 ++ [D]) ι' ∧ TK (upd H1 D (.lst [])) H' ∧ HRel Z.X.K H' ι' st' ∧ Fin Z.X.K (fun c d H' => Z.x c d σ H') ι' H' (noexc (lp m i st')) (fun w ι' _ H' => ∀ v, RW Z.X.K H' ι' w v → Q v H'), ⟨FU, ι1 ++ [D], st1 ++ [.lst []], Pre.refl _, TK.refl _, z2, Fin.shift (Pre.snoc ι1 D) tk0 q1⟩, ?_⟩
  rintro i m H' ⟨ι', st', p, tk, z, q⟩
  cases m with
  | zero => exact q.elim
  | succ m =>
    have pJ : Pre ι1 ι' := (Pre.snoc ι1 D).trans p
    have hj := hJ ι' H' st' i pJ (tk0.trans tk) z
    have q : Fin Z.X.K (fun c d H' => Z.x c d σ H') ι' H' (noexc (match src.get st' i with
      | none => .bad
      | some none => .ok (.ref st1.length) st'
      | some (some w) => match asg t w (wipeE en (vs)) with
        | none => .bad
        | some en1 => (evc Z.cl cs en1 st').bind (iteK (fun st1' => (ev Z.cl ce en1 st1').bind (pushK st1.length fun st2 => lp m (i + 1) st2)) (fun st1' => lp m (i + 1) st1')))) _ := q
    have hDa : ι'[st1.length]? = some D := by
      refine p _ _ ?_
      rw [← z1.len]
      simp
    cases eg : src.get st' i with
    | none => rw [eg] at q; exact q.elim
    | some o =>
      rw [eg] at q hj
      cases o with
      | none => exact .inl ⟨hj, q.now z _ (.ref hDa)⟩
      | some w =>
        refine .inr ⟨hj.1, fun H'' => ∃ ι'' st'', Pre (ι1 ++ [D]) ι'' ∧ TK (upd H1 D (.lst [])) H'' ∧ HRel Z.X.K H'' ι'' st'' ∧ Fin Z.X.K (fun c d H' => Z.x c d σ H') ι'' H'' (noexc (lp m (i + 1) st'')) (fun w ι' _ H' => ∀ v, RW Z.X.K H' ι' w v → Q v H'), fun H'' hN => ⟨m, Nat.lt_succ_self m, hN⟩, fun x H2 y => ?_⟩
        obtain ⟨tk2, zz2, rx⟩ := hj.2 x H2 y
        simp only at q
        cases ea : asg t w (wipeE en (vs)) with
        | none => rw [ea] at q; exact q.elim
        | some en1 =>
          rw [ea] at q
          have rr : Rel Z.X.K σ H2 ι' en st' := r.keep (t1.trans (tk0.trans (tk.trans tk2))) (p1.trans pJ) zz2
          refine ⟨ι', wipeE en (vs), st', w, en1, wipe_rel rr _, rx, ea, fun σ2 r2 s2 => ⟨?_, ?_⟩⟩
          · have hl : σ2.length = (wipe σ (vs)).length := by
              rw [r2.len, (wipe_rel rr (vs)).len]
              have : ∀ {t : Tg} {w : W} {en en1 : En}, asg t w en = some en1 → en1.length = en.length := asg_len
              exact this ea
            have e1 := wipe_same hl (vs := vs) fun j hj' => s2 j fun zj => hj' (hsl j zj)
            rw [e1]
            exact wipe_same (wipe_length _ _) fun j hj' => wipe_out hj'
          · refine ⟨ι', en1, st', r2, (fin_nx (Fin.shift (Pre.refl ι') tk2 q)).mono fun b ι3 st3 H3 p3 t3 z3 q3 => ?_⟩
            cases b with
            | false => exact ⟨ι3, st3, p.trans p3, tk.trans (tk2.trans t3), z3, q3⟩
            | true =>
              rw [if_pos rfl]
              have q3 : Fin Z.X.K (fun c d H' => Z.x c d σ H') ι3 H3 (noexc ((ev Z.cl ce en1 st3).bind (pushK st1.length fun st2 => lp m (i + 1) st2))) _ := q3
              refine ⟨ι3, en1, st3, r2.keep t3 p3 z3, (fin_nx q3).mono fun yw ι4 st4 H4 p4 t4 z4 q4 yv ry => ?_⟩
              unfold pushK at q4
              split at q4
              · rename_i acc e4
                split at q4
                · rename_i hl4
                  have hD4 : ι4[st1.length]? = some D := p4 _ _ (p3 _ _ hDa)
                  obtain ⟨vs4, hH4, rs4⟩ := z4.ob _ _ _ hD4 e4
                  have mu : Mut (H4 D) := by rw [hH4]; exact True.intro
                  refine ⟨vs4, hH4, by rw [← rs4.len]; exact hl4, ι4, _, p.trans (p3.trans p4), ?_, z4.set hD4 (u := .lst (vs4 ++ [yv])) (o := .lst (acc ++ [yw])) ⟨_, upd_same, (rs4.app (.one ry)).keep (TK.mut mu) (Pre.refl _)⟩, Fin.shift (Pre.refl _) (TK.mut mu) q4⟩
                  exact tk.trans (tk2.trans (t3.trans (t4.trans (TK.mut mu))))
                · exact q4.elim
              · exact q4.elim
theorem w_lc {elt tgE iter : Expr} {ifs : List Expr} {scope : Scope} {own : List (Str × Nat)} {t : Tg} {ci : It} {cs : Es} {ce : E} (ok : Z.Ok) (hi : SI Z tgE iter ci) (bk : BlkOk Z.X.N Z.X.env.scope scope own)
    (hg : ∀ (s : Shared) (H : Hp) (C : Addr) (cl : List (Str × Addr)) (fp : List Addr), PG (Z.blk s H scope C cl fp).X tgE (gW Z.X.K t)) (ht : ∀ (s : Shared) (H : Hp) (C : Addr) (cl : List (Str × Addr)) (fp : List Addr), SCs (Z.blk s H scope C cl fp) ifs cs)
    (he : ∀ (s : Shared) (H : Hp) (C : Addr) (cl : List (Str × Addr)) (fp : List Addr), SE (Z.blk s H scope C cl fp) elt ce) (hsl : ∀ i ∈ t.slots, i ∈ own.map (·.2)) (hs : ∀ x, foldedSetIterable iter Z.X.env x = pure x := by intro _; rfl) :
    SE Z (.ListComp elt [⟨tgE, iter, ifs, 0⟩] scope pos) (.lc (own.map (·.2)) t ci cs ce) :=
  pe_imp (pe_lc (wi := iW Z.X.K Z.x fun en st => evi Z.cl ci en st) (g := gW Z.X.K t) (tt := tWb Z.X.K (fun _ _ _ _ => False) fun en st => evc Z.cl cs en st) (te := tW Z.X.K (fun _ _ _ _ => False) fun en st => ev Z.cl ce en st) ok.calm ok.nd hi bk hg ht he hs) fun σ H Q h => lc_tr hsl σ H Q h
end
end Ci
/-! Ci7: statements. -/
namespace Ci
open PySem L2 PyProof.Rows

/-- a statement, a block: only the slots of A are set -/
abbrev SS (Z : Cz) (A : Nat → Bool) (s : Stmt) (c : S) : Prop := PS Z.X s (tWS Z.X.K Z.x A fun en st => ex Z.cl c en st)
abbrev SB (Z : Cz) (A : Nat → Bool) (s : List Stmt) (c : S) : Prop := PSs Z.X s (tWS Z.X.K Z.x A fun en st => ex Z.cl c en st)
section
variable {K : PySem.W.Frag} {x : WX} {A : Nat → Bool} {σ : L2.St} {H : Hp}
theorem own_wish {ι : List Addr} {α : Type} {r : Res α} {k : α → List Addr → Sto → Hp → Prop} (h : Fin K (fun c d H' => ∀ σ', Agree A σ σ' → x c d σ' H') ι H r k) : Fin K (fun c d H' => x c d σ H') ι H r k := by
  cases r with
  | ok a st => exact h
  | exc y st => exact fun ι' H' c d p t z r => h ι' H' c d p t z r σ (Agree.refl A σ)
  | bad => exact h
theorem later_wish {σ' : L2.St} {ι : List Addr} {α : Type} {r : Res α} {k : α → List Addr → Sto → Hp → Prop} (a : Agree A σ σ') (h : Fin K (fun c d H' => ∀ σ', Agree A σ σ' → x c d σ' H') ι H r k) : Fin K (fun c d H' => ∀ τ, Agree A σ' τ → x c d τ H') ι H r k := by
  cases r with
  | ok a st => exact h
  | exc y st => exact fun ι' H' c d p t z r τ b => h ι' H' c d p t z r τ (a.trans b)
  | bad => exact h
theorem outK_later {σ' : L2.St} {D : Ends} {o : Out} {ι : List Addr} {st : Sto} {H : Hp} (a : Agree A σ σ') (h : outK K D A σ o ι st H) : outK K D A σ' o ι st H := by
  cases o with
  | nx en => exact fun τ b r => h τ (a.trans b) r
  | bk en => exact fun τ b r => h τ (a.trans b) r
  | ct en => exact fun τ b r => h τ (a.trans b) r
  | rt w => exact h
/-- an expression, then what comes of it -/
theorem bindS {f : En → Sto → Res W} {g : W → En → Sto → Res Out} {D : Ends} {R : VK}
    (h : ∃ ι en st, Rel K σ H ι en st ∧ Fin K (fun c d H' => ∀ σ', Agree A σ σ' → x c d σ' H') ι H ((f en st).bind fun w st' => g w en st') (outK K D A σ))
    (n : ∀ w v ι en st H, Rel K σ H ι en st → RW K H ι w v → Fin K (fun c d H' => ∀ σ', Agree A σ σ' → x c d σ' H') ι H (g w en st) (outK K D A σ) → R v H) : tW K x f σ H R := by
  obtain ⟨ι, en, st, r, hf⟩ := h
  refine ⟨ι, en, st, r, (own_wish (Fin.split hf)).mono fun w ι' st' H' p t z q v rv => ?_⟩
  exact n w v ι' en st' H' (r.keep t p z) rv q
end
section
variable {Z : Cz} {A : Nat → Bool} {pos : Pos}
theorem s_nil : SB Z A [] .skip := pss_imp pss_nil fun D σ H ⟨ι, en, st, r, hf⟩ => hf.now r.hr σ (Agree.refl A σ) r
theorem s_cons {s : Stmt} {rest : List Stmt} {a b : S} (h1 : SS Z A s a) (h2 : SB Z A rest b) : SB Z A (s :: rest) (.seq a b) := by
  refine pss_imp (pss_cons h1 h2) fun D σ H h => ?_
  obtain ⟨ι, en, st, r, hf⟩ := h
  refine ⟨ι, en, st, r, (Fin.split hf).mono fun o ι' st' H' p t z q => ?_⟩
  cases o with
  | nx en1 => exact fun σ' ag r' => ⟨ι', en1, st', r', (later_wish ag q).mono fun o2 ι2 st2 H2 p2 t2 z2 q2 => outK_later ag q2⟩
  | bk en1 => exact q.now z
  | ct en1 => exact q.now z
  | rt w => exact q.now z
theorem s_one {s : Stmt} {a : S} (h1 : SS Z A s a) : SB Z A [s] a := pss_one h1
theorem s_pass : SS Z A (.Pass pos) .skip := ps_imp ps_pass fun D σ H ⟨ι, en, st, r, hf⟩ => hf.now r.hr σ (Agree.refl A σ) r
theorem s_brk : SS Z A (.Break pos) .brk := ps_imp ps_break fun D σ H ⟨ι, en, st, r, hf⟩ => hf.now r.hr σ (Agree.refl A σ) r
theorem s_cnt : SS Z A (.Continue pos) .cnt := ps_imp ps_continue fun D σ H ⟨ι, en, st, r, hf⟩ => hf.now r.hr σ (Agree.refl A σ) r
theorem s_ret {e : Expr} {c : E} (h : SE Z e c) : SS Z A (.Return (some e) pos) (.ret c) := by
  refine ps_imp (ps_ret h) fun D σ H h => ?_
  refine bindS (g := fun w _ st => .ok (.rt w) st) h fun w v ι en st H1 r r1 q => ?_
  exact q.now r.hr v r1
theorem s_retN : SS Z A (.Return none pos) .retN := ps_imp ps_retN fun D σ H ⟨ι, en, st, r, hf⟩ => hf.now r.hr _ .non
theorem s_expr {e : Expr} {c : E} (h : SE Z e c) (hs : swapsWith e none pos.line Z.X.env = pure false := by rfl) : SS Z A (.Expr e pos) (.xpr c) := by
  refine ps_imp (ps_expr h hs) fun D σ H h => ?_
  refine bindS (g := fun w en st => .ok (.nx en) st) h fun w v ι en st H1 r r1 q => ?_
  exact q.now r.hr σ (Agree.refl A σ) r
theorem agree_set {i : Nat} {v : Option V} (hA : A i = true) (σ : L2.St) : Agree A σ (σ.set i v) := ⟨by simp, fun j hj => by
  have : j ≠ i := fun z => by subst z; rw [hA] at hj; cases hj
  exact List.getElem?_set_ne (Ne.symm this)⟩
theorem s_set (i : Nat) {x : Str} {e : Expr} {c : E} {p : Pos} (nd : Z.X.N.Nodup) (h : SE Z e c) (hA : A i = true := by rfl) (hi : Z.X.N[i]? = some x := by rfl) (hx : Loc Z.X.env.scope x := by first | exact Or.inl rfl | exact Or.inr rfl) (hs : swapsWith e (some (.Name x p)) pos.line Z.X.env = pure false := by rfl)
    (hf : Z.X.fn x = true ∨ Z.X.env.scope.names.lookup x = some .local := by first | exact .inl rfl | exact .inr rfl | assumption) : SS Z A (.Assign [.Name x p] e pos) (.set i c) := by
  refine ps_imp (ps_set nd hi hx h hs hf) fun D σ H h => ?_
  refine bindS (g := fun w en st => setK (.nm i) en w st) h fun w v ι en st H1 r r1 q => ?_
  unfold setK asg at q
  split at q
  · rename_i en1 e1
    split at e1
    · cases e1
      exact q.now r.hr _ (agree_set hA σ) (r.set r1)
    · cases e1
  · exact q.elim
theorem s_ite {c : Expr} {a b : List Stmt} {cc : E} {ca cb : S} (hc : ST Z c cc) (ha : SB Z A a ca) (hb : SB Z A b cb) : SS Z A (.If c a b pos) (.ite cc ca cb) := by
  refine ps_imp (ps_if hc ha hb) fun D σ H h => ?_
  obtain ⟨ι, en, st, r, hf⟩ := h
  refine ⟨ι, en, st, r, (own_wish (Fin.split hf)).mono fun k ι' st' H' p t z q => ?_⟩
  cases k with
  | true => exact ⟨ι', en, st', r.keep t p z, q⟩
  | false => exact ⟨ι', en, st', r.keep t p z, q⟩
/-! ### targets of several names -/
theorem agree_slots {t : Tg} {σ σ1 : L2.St} (hA : ∀ i ∈ t.slots, A i = true) (hl : σ1.length = σ.length) (h : ∀ i, i ∉ t.slots → σ1[i]? = σ[i]?) : Agree A σ σ1 := ⟨hl, fun i hi => h i fun z => by rw [hA i z] at hi; cases hi⟩
theorem s_unp {tg e : Expr} {t : Tg} {c : E} (h : SE Z e c) (hg : PG Z.X tg (gW Z.X.K t)) (hA : ∀ i ∈ t.slots, A i = true) (hs : swapsWithSole [tg] e pos.line Z.X.env = pure false := by rfl) (hw : swappedStores [tg] e Z.X.env = pure none := by rfl)
    (h1 : (assignEach [tg] Z.X.env).map (·.2) = [assign tg Z.X.env] := by rfl) : SS Z A (.Assign [tg] e pos) (.unp t c) := by
  refine ps_imp (ps_asg h hg hs hw h1) fun D σ H h => ?_
  refine bindS (g := fun w en st => setK t en w st) h fun w v ι en st H1 r r1 q => ?_
  unfold setK at q
  split at q
  · rename_i en1 e1
    refine ⟨ι, en, st, w, en1, r, r1, e1, fun σ1 rr fr => q.now r.hr σ1 (agree_slots hA ?_ fr) rr⟩
    rw [rr.len, r.len]
    exact asg_len e1
  · exact q.elim
theorem par_rel {K : PySem.W.Frag} {σ : L2.St} {H : Hp} {ι : List Addr} {en en1 : En} {st : Sto} {is : List Nat} : ∀ {ws : List W} {vs : List V}, Rel K σ H ι en st → RWs K H ι ws vs → asgs (tgsOf is) ws en = some en1 →
    ∃ σ1, Rel K σ1 H ι en1 st ∧ vs.length = is.length ∧ σ1 = (is.zip vs).foldl (fun τ p => τ.set p.1 (some p.2)) σ ∧ (∀ i, i ∉ is → σ1[i]? = σ[i]?) := by
  induction is generalizing σ en with
  | nil =>
    intro ws vs r rs e
    cases ws with
    | nil => cases rs; cases e; exact ⟨σ, r, rfl, rfl, fun _ _ => rfl⟩
    | cons _ _ => cases e
  | cons i is ih =>
    intro ws vs r rs e
    cases ws with
    | nil => cases e
    | cons w ws =>
      cases rs with
      | @cons _ v _ vr h t =>
        have e : (match asg (.nm i) w en with | some en1 => asgs (tgsOf is) ws en1 | none => none) = some en1 := e
        split at e
        · rename_i en2 e2
          have e2 : (if i < en.length then some (en.set i (some w)) else none) = some en2 := e2
          split at e2
          · cases e2
            obtain ⟨σ1, q1, q2, q3, q4⟩ := ih (r.set h) t e
            refine ⟨σ1, q1, congrArg (· + 1) q2, q3, fun j hj => ?_⟩
            rw [q4 j fun z => hj (List.mem_cons_of_mem _ z)]
            have : j ≠ i := fun z => hj (by subst z; exact List.mem_cons_self)
            exact List.getElem?_set_ne (Ne.symm this)
          · cases e2
        · cases e
/-- a, b = e1, e2 -/
theorem s_par2 (i j : Nat) {x y : Str} {a b : Expr} {cs : Es} {px py pt : Pos} {kt k2 pt2} (ok : Z.Ok) (ha : SA Z [a, b] cs) (hw : swappedStores [.Tuple [.Name x px, .Name y py] kt pt] (.Tuple [a, b] k2 pt2) Z.X.env = pure (some [x, y])) (hA : A i = true := by rfl) (hB : A j = true := by rfl)
    (hi : Z.X.N[i]? = some x := by rfl) (hj : Z.X.N[j]? = some y := by rfl) (hij : i ≠ j := by decide) (hx : Z.X.env.scope.names.lookup x = some .local := by rfl) (hy : Z.X.env.scope.names.lookup y = some .local := by rfl)
    (hs : swapsWithSole [.Tuple [.Name x px, .Name y py] kt pt] (.Tuple [a, b] k2 pt2) pos.line Z.X.env = pure false := by rfl) :
    SS Z A (.Assign [.Tuple [.Name x px, .Name y py] kt pt] (.Tuple [a, b] k2 pt2) pos) (.par [i, j] cs) := by
  refine ps_imp (ps_par ok.calm ok.nd hi hj hij hx hy ha hw hs) fun D σ H h => ?_
  obtain ⟨ι, en, st, r, hf⟩ := h
  refine ⟨ι, en, st, r, (own_wish (Fin.split hf)).mono fun ws ι' st' H' p t z q vs rs => ?_⟩
  unfold setsK at q
  split at q
  · rename_i en1 e1
    obtain ⟨σ1, q1, q2, q3, q4⟩ := par_rel (r.keep t p z) rs e1
    match vs, q2 with
    | [v1, v2], _ =>
      refine ⟨v1, v2, rfl, ?_⟩
      subst q3
      exact q.now z _ ⟨by simp, fun k hk => q4 k fun zk => by
        rcases List.mem_cons.mp zk with rfl | zk
        · rw [hA] at hk; cases hk
        · rcases List.mem_cons.mp zk with rfl | zk
          · rw [hB] at hk; cases hk
          · cases zk⟩ q1
  · exact q.elim
theorem s_par3 (i j l : Nat) {x y w : Str} {a b c : Expr} {cs : Es} {px py pz pt : Pos} {kt k2 pt2} (ok : Z.Ok) (ha : SA Z [a, b, c] cs) (hw : swappedStores [.Tuple [.Name x px, .Name y py, .Name w pz] kt pt] (.Tuple [a, b, c] k2 pt2) Z.X.env = pure (some [x, y, w])) (hA : A i = true := by rfl) (hB : A j = true := by rfl) (hC : A l = true := by rfl)
    (hi : Z.X.N[i]? = some x := by rfl) (hj : Z.X.N[j]? = some y := by rfl) (hl : Z.X.N[l]? = some w := by rfl) (hij : i ≠ j := by decide) (hil : i ≠ l := by decide) (hjl : j ≠ l := by decide) (hx : Z.X.env.scope.names.lookup x = some .local := by rfl) (hy : Z.X.env.scope.names.lookup y = some .local := by rfl) (hz : Z.X.env.scope.names.lookup w = some .local := by rfl)
    (hs : swapsWithSole [.Tuple [.Name x px, .Name y py, .Name w pz] kt pt] (.Tuple [a, b, c] k2 pt2) pos.line Z.X.env = pure false := by rfl) :
    SS Z A (.Assign [.Tuple [.Name x px, .Name y py, .Name w pz] kt pt] (.Tuple [a, b, c] k2 pt2) pos) (.par [i, j, l] cs) := by
  refine ps_imp (ps_par3 ok.calm ok.nd hi hj hl hij hil hjl hx hy hz ha hw hs) fun D σ H h => ?_
  obtain ⟨ι, en, st, r, hf⟩ := h
  refine ⟨ι, en, st, r, (own_wish (Fin.split hf)).mono fun ws ι' st' H' p t z q vs rs => ?_⟩
  unfold setsK at q
  split at q
  · rename_i en1 e1
    obtain ⟨σ1, q1, q2, q3, q4⟩ := par_rel (r.keep t p z) rs e1
    match vs, q2 with
    | [v1, v2, v3], _ =>
      refine ⟨v1, v2, v3, rfl, ?_⟩
      subst q3
      exact q.now z _ ⟨by simp, fun k hk => q4 k fun zk => by
        rcases List.mem_cons.mp zk with rfl | zk
        · rw [hA] at hk; cases hk
        · rcases List.mem_cons.mp zk with rfl | zk
          · rw [hB] at hk; cases hk
          · rcases List.mem_cons.mp zk with rfl | zk
            · rw [hC] at hk; cases hk
            · cases zk⟩ q1
  · exact q.elim
/-! ### loops -/
theorem s_whl {c : Expr} {body : List Stmt} {cc : E} {cb : S} (hp : PassesOwn (model Z.X.prog Z.X.w) Z.X.A Z.X.env Z.X.xe) (hc : ST Z c cc) (hb : SB Z A body cb) : SS Z A (.While c body [] pos) (.whl cc cb) := by
  refine ps_imp (ps_while hp hc hb) fun D σ H h => ?_
  obtain ⟨ι, en, st, r, hf⟩ := h
  let lp : Nat → En → Sto → Res Out := whlL (fun en st => truR (ev Z.cl cc en st)) (fun en st => ex Z.cl cb en st)
  have hf : Fin Z.X.K (fun c d H' => ∀ σ', Agree A σ σ' → Z.x c d σ' H') ι H (lp FU en st) (outK Z.X.K D A σ) := hf
  refine ⟨fun m σ' H' => ∃ ι' en' st', Agree A σ σ' ∧ Rel Z.X.K σ' H' ι' en' st' ∧ Fin Z.X.K (fun c d H' => ∀ τ, Agree A σ' τ → Z.x c d τ H') ι' H' (lp m en' st') (outK Z.X.K D A σ'), ⟨FU, ι, en, st, Agree.refl A σ, r, hf⟩, ?_⟩
  rintro m σ' H' ⟨ι', en', st', ag, r', q⟩
  cases m with
  | zero => exact q.elim
  | succ m =>
    have q : Fin Z.X.K (fun c d H' => ∀ τ, Agree A σ' τ → Z.x c d τ H') ι' H' ((truR (ev Z.cl cc en' st')).bind (iteK (fun st1 => (ex Z.cl cb en' st1).bind (loopK (lp m))) (fun st1 => .ok (.nx en') st1))) (outK Z.X.K D A σ') := q
    refine ⟨ι', en', st', r', (own_wish (Fin.split q)).mono fun b ι2 st2 H2 p2 t2 z2 q2 => ?_⟩
    cases b with
    | false => exact q2.now z2 σ' (Agree.refl A σ') (r'.keep t2 p2 z2)
    | true =>
      rw [if_pos rfl]
      refine ⟨fun τ G => ∃ ι' en' st', Agree A σ τ ∧ Rel Z.X.K τ G ι' en' st' ∧ Fin Z.X.K (fun c d H' => ∀ u, Agree A τ u → Z.x c d u H') ι' G (lp m en' st') (outK Z.X.K D A τ), fun τ G h => ⟨m, Nat.lt_succ_self m, h⟩, ?_⟩
      refine ⟨ι2, en', st2, r'.keep t2 p2 z2, (Fin.split q2).mono fun o ι3 st3 H3 p3 t3 z3 q3 => ?_⟩
      have go : ∀ en3, Fin Z.X.K (fun c d H' => ∀ τ, Agree A σ' τ → Z.x c d τ H') ι3 H3 (lp m en3 st3) (outK Z.X.K D A σ') → ∀ τ, Agree A σ' τ → Rel Z.X.K τ H3 ι3 en3 st3 →
          ∃ ι' en' st', Agree A σ τ ∧ Rel Z.X.K τ H3 ι' en' st' ∧ Fin Z.X.K (fun c d H' => ∀ u, Agree A τ u → Z.x c d u H') ι' H3 (lp m en' st') (outK Z.X.K D A τ) := fun en3 q τ a rr =>
        ⟨ι3, en3, st3, ag.trans a, rr, (later_wish a q).mono fun o2 ι4 st4 H4 p4 t4 z4 q4 => outK_later a q4⟩
      cases o with
      | nx en3 => exact fun τ a rr => go en3 q3 τ a rr
      | ct en3 => exact fun τ a rr => go en3 q3 τ a rr
      | bk en3 => exact fun τ a rr => q3.now z3 τ a rr
      | rt w => exact q3.now z3
theorem s_for {tgE iter : Expr} {body : List Stmt} {t : Tg} {ci : It} {cb : S} (ok : Z.Ok) (hp : PassesOwn (model Z.X.prog Z.X.w) Z.X.A Z.X.env Z.X.xe) (hi : SI Z tgE iter ci) (hg : PG Z.X tgE (gW Z.X.K t)) (hA : ∀ i ∈ t.slots, A i = true) (hb : SB Z A body cb)
    (hs : ∀ x, foldedSetIterable iter Z.X.env x = pure x := by intro _; rfl) : SS Z A (.For tgE iter body [] pos) (.for_ t ci cb) := by
  refine ps_imp (ps_for hp ok.calm hi hg hb hs) fun D σ H h => ?_
  obtain ⟨ι, en, st, r, hf⟩ := h
  refine ⟨ι, en, st, r, (own_wish (Fin.split hf)).mono fun src ι1 st1 H1 p1 t1 z1 q1 J hJ => ?_⟩
  let lp : Nat → Nat → En → Sto → Res Out := forL src.get (asg t) (fun en st => ex Z.cl cb en st)
  have q1 : Fin Z.X.K (fun c d H' => ∀ σ', Agree A σ σ' → Z.x c d σ' H') ι1 H1 (lp FU 0 en st1) (outK Z.X.K D A σ) := q1
  refine ⟨fun i m σ' H' => ∃ ι' en' st', Pre ι1 ι' ∧ TK H1 H' ∧ Agree A σ σ' ∧ Rel Z.X.K σ' H' ι' en' st' ∧ Fin Z.X.K (fun c d H' => ∀ τ, Agree A σ' τ → Z.x c d τ H') ι' H' (lp m i en' st') (outK Z.X.K D A σ'),
    ⟨FU, ι1, en, st1, Pre.refl _, TK.refl _, Agree.refl A σ, r.keep t1 p1 z1, q1⟩, ?_⟩
  rintro i m σ' H' ⟨ι', en', st', p, tk, ag, r', q⟩
  cases m with
  | zero => exact q.elim
  | succ m =>
    have hj := hJ ι' H' st' i p tk r'.hr
    have q : Fin Z.X.K (fun c d H' => ∀ τ, Agree A σ' τ → Z.x c d τ H') ι' H' (match src.get st' i with
      | none => .bad
      | some none => .ok (.nx en') st'
      | some (some w) => match asg t w en' with
        | none => .bad
        | some en1 => (ex Z.cl cb en1 st').bind (loopK (lp m (i + 1)))) (outK Z.X.K D A σ') := q
    cases eg : src.get st' i with
    | none => rw [eg] at q; exact q.elim
    | some o =>
      rw [eg] at q hj
      cases o with
      | none => exact .inl ⟨hj, q.now r'.hr σ' (Agree.refl A σ') r'⟩
      | some w =>
        refine .inr ⟨hj.1, fun τ G => ∃ ι' en' st', Pre ι1 ι' ∧ TK H1 G ∧ Agree A σ τ ∧ Rel Z.X.K τ G ι' en' st' ∧ Fin Z.X.K (fun c d H' => ∀ u, Agree A τ u → Z.x c d u H') ι' G (lp m (i + 1) en' st') (outK Z.X.K D A τ), fun τ G h => ⟨m, Nat.lt_succ_self m, h⟩, fun x H2 y => ?_⟩
        obtain ⟨tk2, zz2, rx⟩ := hj.2 x H2 y
        simp only at q
        cases ea : asg t w en' with
        | none => rw [ea] at q; exact q.elim
        | some en1 =>
          rw [ea] at q
          have r2 : Rel Z.X.K σ' H2 ι' en' st' := r'.keep tk2 (Pre.refl _) zz2
          refine ⟨ι', en', st', w, en1, r2, rx, ea, fun σ2 rr fr => ?_⟩
          have ag2 : Agree A σ' σ2 := agree_slots hA (by rw [rr.len, r2.len]; exact asg_len ea) fr
          refine ⟨ι', en1, st', rr, (later_wish ag2 (Fin.split (Fin.shift (Pre.refl _) tk2 q))).mono fun o ι3 st3 H3 p3 t3 z3 q3 => ?_⟩
          have go : ∀ en3, Fin Z.X.K (fun c d H' => ∀ τ, Agree A σ' τ → Z.x c d τ H') ι3 H3 (lp m (i + 1) en3 st3) (outK Z.X.K D A σ') → ∀ τ, Agree A σ2 τ → Rel Z.X.K τ H3 ι3 en3 st3 →
              ∃ ι' en' st', Pre ι1 ι' ∧ TK H1 H3 ∧ Agree A σ τ ∧ Rel Z.X.K τ H3 ι' en' st' ∧ Fin Z.X.K (fun c d H' => ∀ u, Agree A τ u → Z.x c d u H') ι' H3 (lp m (i + 1) en' st') (outK Z.X.K D A τ) := fun en3 q τ a rr =>
            ⟨ι3, en3, st3, p.trans p3, tk.trans (tk2.trans t3), ag.trans (ag2.trans a), rr, (later_wish (ag2.trans a) q).mono fun o2 ι4 st4 H4 p4 t4 z4 q4 => outK_later (ag2.trans a) q4⟩
          cases o with
          | nx en3 => exact fun τ a rr => go en3 q3 τ a rr
          | ct en3 => exact fun τ a rr => go en3 q3 τ a rr
          | bk en3 => exact fun τ a rr => q3.now z3 τ (ag2.trans a) rr
          | rt w => exact q3.now z3
end
end Ci
/-! Ci8: defs, their calls, the law's end. -/
namespace Ci
open PySem L2 PyProof.Rows

def Es.n : Es → Nat
  | .nil => 0
  | .cons _ cs => cs.n + 1
/-- a def's promise where nothing is being shown (the guards are told) -/
structure FnG (P : Program) (w : World) (K : PySem.W.Frag) (mg : Str → Option Value) (base : Heap) (k : Nat) (f : Addr) (fd : FuncData) (ps : List Str) (sp : Sp) : Prop where
  len : ∀ vs H Q E, sp vs H Q E → vs.length = ps.length
  run : ∀ (A : Around) (outer : List Env) (s : Shared) (H : Hp) (args : Args) (us : List Value) (vs : List V) (Q : VK) (E : XK), Room k A → A.guards = some [] → Env0 P w K mg base A outer s H → BindsTo s fd args (ps.zip us) → Vals vs us → sp vs H Q E →
    codeAny (model P w) A (.call (.ref f) args) (CR (L2.CX P w) outer P w H s Q E) s
/-- .. by its reckoning -/
def spR (K : PySem.W.Frag) (r : List W → Sto → Res W) (n : Nat) : Sp := fun vs H Q E => vs.length = n ∧ ∃ ι st ws, HRel K H ι st ∧ RWs K H ι ws vs ∧ Fin K E ι H (r ws st) fun w ι' _ H' => ∀ v, RW K H' ι' w v → Q v H'

section
variable {Z : Cz} {x : Str} {p pos : Pos} {e : Expr} {es : List Expr} {cs : Es}
/-- what is known of a def that is called -/
structure Callee (Z : Cz) (x : Str) (i : Nat) (ps : List Str) (a : Arguments) (b : List Stmt) (sc : Scope) : Prop where
  ex : ∃ (f : Addr) (fd : FuncData) (k : Nat), Z.X.mg x = some (.ref f) ∧ FunD Z.X.K x x a b sc [] [] f fd ∧ Room k Z.X.A ∧ FnG Z.X.prog Z.X.w Z.X.K Z.X.mg Z.X.base k f fd ps (spR Z.X.K (Z.cl i) ps.length)
theorem run_g {pins : List (Addr × Obj)} {σ : L2.St} {H : Hp} {s : Shared} {Q : VK} {args : Args} {us : List Value} {vs : List V} {k : Nat} {f : Addr} {fd : FuncData} {ps : List Str} {sp : Sp} (ok : Z.Ok) (F : FnG Z.X.prog Z.X.w Z.X.K Z.X.mg Z.X.base k f fd ps sp) (hr : Room k Z.X.A)
    (I : Inv Z.X pins σ H s) (hb : us.length = ps.length → BindsTo s fd args (ps.zip us)) (r : Vals vs us) (h : sp vs H Q fun c d H' => Z.x c d σ H') : codeAny (model Z.X.prog Z.X.w) Z.X.A (.call (.ref f) args) (fun r s' => match r with
      | .ok (.ret u) => EP Z.X pins σ Q u s'
      | .ok _ => False
      | .error e => Z.X.xe e s') s := by
  refine codeAny_mono (F.run Z.X.A Z.X.stack s H args us vs Q _ hr ok.gd I.env0 (hb (by rw [← r.length]; exact F.len _ _ _ _ h)) r h) fun res s' hq => ?_
  cases res with
  | error er => exact ok.tk _ _ (XE.of_call I (fun _ _ _ q => q) hq)
  | ok fl =>
    cases fl with
    | ret u => exact I.after hq
    | next => exact hq.elim
    | brk => exact hq.elim
    | cont => exact hq.elim
theorem call_fin {K : PySem.W.Frag} {σ : L2.St} {H : Hp} {xw : WX} {ι : List Addr} {st : Sto} {ws : List W} {vs : List V} {Q : VK} {cl : Cl} {i n : Nat} (z : HRel K H ι st) (rs : RWs K H ι ws vs) (hl : vs.length = n)
    (q : Fin K (fun c d H' => xw c d σ H') ι H (cl i ws st) fun w ι' _ H' => ∀ v, RW K H' ι' w v → Q v H') : spR K (cl i) n vs H Q fun c d H' => xw c d σ H' := ⟨hl, ι, st, ws, z, rs, q⟩
theorem evs_len {cl : Cl} : ∀ {cs : Es} {en : En} {st st' : Sto} {ws : List W}, evs cl cs en st = .ok ws st' → ws.length = cs.n
  | .nil, _, _, _, _, e => by cases e; rfl
  | .cons c cs, en, st, st', ws, e => by
    have e : ((ev cl c en st).bind fun x st1 => (evs cl cs en st1).bind fun xs st2 => .ok (x :: xs) st2) = .ok ws st' := e
    cases e1 : ev cl c en st with
    | bad => rw [e1] at e; cases e
    | exc _ _ => rw [e1] at e; cases e
    | ok x st1 =>
      rw [e1] at e
      have e : ((evs cl cs en st1).bind fun xs st2 => .ok (x :: xs) st2) = .ok ws st' := e
      cases e2 : evs cl cs en st1 with
      | bad => rw [e2] at e; cases e
      | exc _ _ => rw [e2] at e; cases e
      | ok xs st2 =>
        rw [e2] at e
        cases e
        exact congrArg (· + 1) (evs_len e2)
theorem Fin.len {cl : Cl} {K : PySem.W.Frag} {x : Value → Option Addr → Hp → Prop} {ι : List Addr} {H : Hp} {cs : Es} {en : En} {st : Sto} {k : List W → List Addr → Sto → Hp → Prop} (h : Fin K x ι H (evs cl cs en st) k) :
    Fin K x ι H (evs cl cs en st) fun ws ι' st' H' => ws.length = cs.n ∧ k ws ι' st' H' := by
  cases e : evs cl cs en st with
  | ok ws st' =>
    rw [e] at h
    exact fun ι' H' p t z => ⟨evs_len e, h ι' H' p t z⟩
  | exc y st' => rw [e] at h; exact h
  | bad => rw [e] at h; exact h
/-- f(e, ..) -/
theorem w_call (i : Nat) {ps : List Str} {a : Arguments} {b : List Stmt} {sc : Scope} (ok : Z.Ok) (c : Callee Z x i ps a b sc) (hg : Gl Z.X x) (ha : SA Z (e :: es) cs)
    (hb : ∀ (kV doc pm : Value) (an : Option Addr) (cdv ct : Value) (us : List Value), us.length = ps.length → bindArgs (PySem.W.fnOf x x a b sc .none kV doc pm an cdv ct) ⟨us, []⟩ = pure (ps.zip us)) (hn : cs.n = ps.length := by rfl)
    (hdb : (x == ("__debug__" : Str)) = false := by decide) (he : starEach (e :: es) Z.X.env = (false, eval e Z.X.env) :: starEach es Z.X.env := by rfl) (hpl : (backTo pos (starEach es Z.X.env)).any (·.1) = false := by rfl) :
    SE Z (.Call (.Name x p) (e :: es) [] pos) (.call i none cs) := by
  obtain ⟨f, fd, k, hm, F, hr, G⟩ := c.ex
  refine ⟨fun pins s σ H Q I h => ?_⟩
  obtain ⟨ι, en, st, r, hf⟩ := h
  have hf : Fin Z.X.K (fun c d H' => Z.x c d σ H') ι H ((evs Z.cl cs en st).bind (callK Z.cl i none)) (fun w ι' _ H' => ∀ v, RW Z.X.K H' ι' w v → Q v H') := hf
  have ta : tEs Z cs σ H fun vs H1 => spR Z.X.K (Z.cl i) ps.length vs H1 Q fun c d H' => Z.x c d σ H' := by
    refine ⟨ι, en, st, r, (Fin.len (Fin.split hf)).mono fun ws ι' st' H' p t z q vs rs => ?_⟩
    exact call_fin z rs (by rw [← rs.len, q.1, hn]) q.2
  refine wpAny_Call_Name_kw (ld_glob I hg hm ?_ hdb)
  refine PySem.W.callWith_K (h₀ := Z.X.base) I.ok.mod.kin F.kp (thn (ha.run pos pins s σ H _ I ta) fun us s1 ⟨vs, H1, I1, rv, q⟩ => ⟨I1.kIn, ?_⟩) he hpl
  refine wpAny_call (codeAny_mono (run_g ok G hr I1 (fun hl => F.bindsA hb s1 us hl) rv q) fun res s' hq => ?_)
  cases res with
  | error er => exact hq
  | ok fl => cases fl <;> exact hq
theorem permW_get {K : PySem.W.Frag} {H : Hp} {ι : List Addr} : ∀ {l : List Nat} {ws zs : List W} {vs : List V}, RWs K H ι ws vs → l.mapM (fun i => ws[i]?) = some zs → ∃ us, l.mapM (fun i => vs[i]?) = some us ∧ RWs K H ι zs us
  | [], ws, zs, vs, r, e => by cases e; exact ⟨[], rfl, .nil⟩
  | i :: l, ws, zs, vs, r, e => by
    rw [List.mapM_cons] at e
    obtain ⟨z, e1, e⟩ := Option.bind_eq_some_iff.mp e
    obtain ⟨zs', e2, e⟩ := Option.bind_eq_some_iff.mp e
    cases e
    obtain ⟨v, ev, rv⟩ := r.get e1
    obtain ⟨us, eu, ru⟩ := permW_get r e2
    exact ⟨v :: us, by rw [List.mapM_cons, ev, eu]; rfl, .cons rv ru⟩
theorem vals_perm : ∀ {l : List Nat} {vs zs : List V} {us : List Value}, Vals vs us → l.mapM (fun i => vs[i]?) = some zs → ∃ ws, l.mapM (fun i => us[i]?) = some ws ∧ Vals zs ws
  | [], vs, zs, us, r, e => by cases e; exact ⟨[], rfl, .nil⟩
  | i :: l, vs, zs, us, r, e => by
    rw [List.mapM_cons] at e
    obtain ⟨z, e1, e⟩ := Option.bind_eq_some_iff.mp e
    obtain ⟨zs', e2, e⟩ := Option.bind_eq_some_iff.mp e
    cases e
    obtain ⟨v, ev, rv⟩ := r.get e1
    obtain ⟨us, eu, ru⟩ := vals_perm r e2
    exact ⟨v :: us, by rw [List.mapM_cons, ev, eu]; rfl, .cons rv ru⟩
/-- the keywords' values -/
abbrev SK (Z : Cz) (kws : List Keyword) (c : Es) : Prop := PK Z.X kws (tEs Z c)
theorem pk_imp {X : Cx} {kws : List Keyword} {t t' : TA} (h : PK X kws t) (i : ∀ σ H Q, t' σ H Q → t σ H Q) : PK X kws t' := ⟨fun pos pins s σ H Q I q => h.run pos pins s σ H Q I (i _ _ _ q)⟩
theorem k_nil : SK Z [] .nil := pk_imp pk_nil fun σ H Q ⟨ι, en, st, r, hf⟩ => hf.now r.hr [] .nil
theorem k_cons {nm : Option Str} {e : Expr} {kpos : Pos} {kws : List Keyword} {c : E} {cs : Es} (ha : SE Z e c) (hr : SK Z kws cs) : SK Z (⟨nm, e, kpos⟩ :: kws) (.cons c cs) := by
  refine pk_imp (pk_cons ha hr) fun σ H Q h => ?_
  refine bindE (g := fun x en st1 => (evs Z.cl cs en st1).bind fun xs st2 => .ok (x :: xs) st2) h fun w v ι en st H1 r r1 q => ?_
  refine ⟨ι, en, st, r, (Fin.split q).mono fun ws ι' st' H' p t z q' vs rs => ?_⟩
  exact q'.now z _ (.cons (r1.keep t p) rs)
end

section
variable {P : Program} {w : World} {K : PySem.W.Frag} {mg : Str → Option Value} {base : Heap}
/-- where a def's body runs -/
abbrev bodyZ (P : Program) (w : World) (K : PySem.W.Frag) (mg : Str → Option Value) (base : Heap) (N : List Str) (qual : Str) (sc : Scope) (f : Addr) (cdv : Value) (A : Around) (outer : List Env) (s : Shared) (H : Hp) (E : XK) (cl : Cl) : Cz :=
  ⟨cxOf (L2.CX P w) P w K mg base N qual sc f cdv A outer s H E, fun c d _ H' => E c d H', cl⟩
theorem bodyZ_ok {N : List Str} {qual : Str} {sc : Scope} {f : Addr} {cdv : Value} {A : Around} {outer : List Env} {s : Shared} {H : Hp} {E : XK} {cl : Cl} {k : Nat} (nd : N.Nodup) (hr : Room k (A.deeper (envOfC qual sc s.heap.objs.size f cdv))) (hg : A.guards = some []) :
    (bodyZ P w K mg base N qual sc f cdv A outer s H E cl).Ok :=
  ⟨rfl, nd, takes_of rfl rfl rfl rfl, by have := hr.un; show (A.deeper (envOfC qual sc s.heap.objs.size f cdv)).units + 65 < cLine; omega, hg⟩
theorem bodyZ_pass {N : List Str} {qual : Str} {sc : Scope} {f : Addr} {cdv : Value} {A : Around} {outer : List Env} {s : Shared} {H : Hp} {E : XK} {cl : Cl} :
    PassesOwn (model P w) (bodyZ P w K mg base N qual sc f cdv A outer s H E cl).X.A (bodyZ P w K mg base N qual sc f cdv A outer s H E cl).X.env (bodyZ P w K mg base N qual sc f cdv A outer s H E cl).X.xe := passes_of rfl
theorem start_rel {N : List Str} {H : Hp} {ι : List Addr} {st : Sto} {ws : List W} {vs : List V} (z : HRel K H ι st) (rs : RWs K H ι ws vs) : Rel K (L2.start N vs) H ι (startE N.length ws) st := by
  have hl := rs.len
  refine ⟨z, by unfold L2.start startE; simp [hl], fun i u e => ?_⟩
  unfold startE at e
  unfold L2.start
  rcases Nat.lt_or_ge i ws.length with h | h
  · rw [List.getElem?_append_left (by simpa using h), List.getElem?_map] at e
    rw [List.getElem?_append_left (by simpa [← hl] using h), List.getElem?_map]
    cases e1 : ws[i]? with
    | none => rw [e1] at e; cases e
    | some w =>
      rw [e1] at e
      cases e
      obtain ⟨v, ev, rv⟩ := rs.get e1
      rw [ev]
      exact ⟨v, rfl, rv⟩
  · rw [List.getElem?_append_right (by simpa using h)] at e
    have := List.mem_of_getElem? e
    have := List.eq_of_mem_replicate this
    cases this
/-- a def keeps what its reckoning tells -/
theorem fn_run {tab : List Fd} {n i : Nat} {d : Fd} {x : Str} {a : Arguments} {b : List Stmt} {sc : Scope} {f : Addr} {fd : FuncData} {N ps : List Str} (F : FunD K x x a b sc [] [] f fd) (hd : tab[i]? = some d) (S : FnScope N ps sc) (hN : N.length = d.nl) (hp : ps.length = d.np)
    (body : ∀ (cdv : Value) (A : Around) (outer : List Env) (s : Shared) (H : Hp) (E : XK), Room n (A.deeper (envOfC x sc s.heap.objs.size f cdv)) → A.guards = some [] → SB (bodyZ P w K mg base N x sc f cdv A outer s H E (run tab n)) (fun _ => true) b d.body) :
    FnG P w K mg base (n + 1) f fd ps (spR K (run tab (n + 1) i) ps.length) := by
  obtain ⟨oc, od, dV, kV, doc, pm, an, cdv, ct, osl, rfl, lk, hcd, _, _⟩ := F.ex
  have len : ∀ vs H Q E, spR K (run tab (n + 1) i) ps.length vs H Q E → vs.length = ps.length := fun vs H Q E h => h.1
  refine ⟨len, fun A outer s H args us vs Q E hr hg e0 hb r hsp => ?_⟩
  have hl := len _ _ _ _ hsp
  have KX : K.In s.heap := e0.mod.kin.keeps fun b o e => (e0.bs b o e).1
  have lim : s.heap.NoLimit := e0.mod.nolimit.keeps fun b o e => (e0.bs b o e).1
  have hkind : ∀ y ∈ ps.zip us, sc.names.lookup y.1 = some .local ∨ (sc.names.lookup y.1 = some .cell ∧ ((cellsFrom (s.heap.objs.size + 1) sc.names []).lookup y.1).isSome = true) := fun ⟨m, v⟩ hy => by
    rcases S.par m (List.of_mem_zip hy).1 with q | q
    · exact .inl q
    · exact .inr ⟨q, PySem.W.cellsFrom_some _ _ _ (.inl q)⟩
  refine codeAny_call_function hr.depth (KX _ _ lk) rfl S.co S.gen rfl (PySem.W.codeRec_of KX hcd) (hb _ _ _ _ ?_)
  refine wpAny_newFunctionEnv_cells S.kind hkind fun env he s1 x1 => ?_
  subst he
  refine ⟨lim.keeps x1.toInCall.keep, codeAny_func ?_⟩
  have I := inv_start (CX := L2.CX P w) (P := P) (w := w) (K := K) (mg := mg) (base := base) (cd := cdv) (f := f) (qual := x) (E := E) (vs := vs) S hr.hd e0 hl r x1
  obtain ⟨_, ι, st, ws, z, rs, hf⟩ := hsp
  have hf : Fin K E ι H (match tab[i]? with
    | none => .bad
    | some d => if ws.length = d.np then (ex (run tab n) d.body (startE d.nl ws) st).bind retK else .bad) (fun w ι' _ H' => ∀ v, RW K H' ι' w v → Q v H') := hf
  rw [hd] at hf
  have hl2 : ws.length = d.np := by rw [rs.len, hl, hp]
  have hf : Fin K E ι H (if ws.length = d.np then (ex (run tab n) d.body (startE d.nl ws) st).bind retK else .bad) (fun w ι' _ H' => ∀ v, RW K H' ι' w v → Q v H') := hf
  rw [if_pos hl2, ← hN] at hf
  have q : tWS K (fun c d _ H' => E c d H') (fun _ => true) (fun en st => ex (run tab n) d.body en st) { nx := fun _ H' => Q .non H', rt := Q } (L2.start N vs) H := by
    refine ⟨ι, startE N.length ws, st, start_rel z rs, ?_⟩
    have h2 : Fin K (fun c d H' => ∀ σ', Agree (fun _ => true) (L2.start N vs) σ' → E c d H') ι H (ex (run tab n) d.body (startE N.length ws) st) (fun o ι' st' H' => Fin K E ι' H' (retK o st') (fun w ι' _ H' => ∀ v, RW K H' ι' w v → Q v H')) := by
      have h3 := Fin.split hf
      cases e : ex (run tab n) d.body (startE N.length ws) st with
      | ok o st1 => rw [e] at h3; exact h3
      | exc y st1 => rw [e] at h3; exact fun ι' H' c d p t z r _ _ => h3 ι' H' c d p t z r
      | bad => rw [e] at h3; exact h3
    refine h2.mono fun o ι' st' H' p t zz q => ?_
    cases o with
    | nx en1 => exact fun σ' _ _ => q.now zz _ .non
    | rt u => exact fun v rv => q.now zz v rv
    | bk en1 => exact q.elim
    | ct en1 => exact q.elim
  refine wpAny_mono ((body cdv A outer s H E (hr.deeper _) hg).run [] s1 (L2.start N vs) H _ I q) (fun fl s' hs => ?_) fun e s' hs => hs
  have fin : ∀ {σ' : L2.St} {H' : Hp} {v : V} {u : Value}, Inv (cxOf (L2.CX P w) P w K mg base N x sc f cdv A outer s H E) [] σ' H' s' → RelV v u → Q v H' → CE outer P w H s Q u s' :=
    fun {σ' H' v u} J rv q => ⟨v, H', J.os, J.bare, J.base, J.hok, rv, q⟩
  cases fl with
  | ret u =>
    obtain ⟨v, σ', H', J, rv, q⟩ := hs
    exact fin J rv q
  | next =>
    obtain ⟨σ', H', J, q⟩ := hs
    exact fin (v := V.non) (u := Value.none) J rfl q
  | brk =>
    obtain ⟨_, _, _, q⟩ := hs
    exact q.elim
  | cont =>
    obtain ⟨_, _, _, q⟩ := hs
    exact q.elim
/-- level 0: nothing is reckoned -/
theorem fn_zero {tab : List Fd} {i : Nat} {f : Addr} {fd : FuncData} {ps : List Str} : FnG P w K mg base 0 f fd ps (spR K (run tab 0 i) ps.length) :=
  ⟨fun vs H Q E h => h.1, fun A outer s H args us vs Q E hr hg e0 hb r ⟨_, ι, st, ws, z, rs, hf⟩ => hf.elim⟩
end
end Ci
/-! Ci9: the module's constants; the law's end. -/
namespace Ci
open PySem L2 PyProof.Rows

/-! ### constants of the module -/
mutual
def relW (K : PySem.W.Frag) : W → Value → Bool
  | .non, u => match u with | .none => true | _ => false
  | .bl b, u => match u with | .bool c => b == c | _ => false
  | .int i, u => match u with | .int j _ => decide (i = j) | _ => false
  | .str s, u => match u with | .str t _ => decide (s = t) | _ => false
  | .tup ws, u => match u with
    | .ref a => match K.lookup a with
      | some ⟨.type c, _, .seq its _, _⟩ => decide (c = "tuple") && (decide (its.size ≤ sizeLine) && relWs K ws its.toList)
      | _ => false
    | _ => false
  | _, _ => false
def relWs (K : PySem.W.Frag) : List W → List Value → Bool
  | [], us => us.isEmpty
  | w :: ws, us => match us with
    | [] => false
    | u :: us => relW K w u && relWs K ws us
end
mutual
theorem relW_ok {K : PySem.W.Frag} : ∀ {w : W} {u : Value}, relW K w u = true → ∃ v, RelV v u ∧ ∀ H ι, RW K H ι w v
  | .non, u, h => by
    unfold relW at h
    split at h
    · exact ⟨.non, rfl, fun _ _ => .non⟩
    · cases h
  | .bl b, u, h => by
    unfold relW at h
    split at h
    · obtain rfl := beq_iff_eq.mp h
      exact ⟨.bl b, rfl, fun _ _ => .bl b⟩
    · cases h
  | .int i, u, h => by
    unfold relW at h
    split at h
    · rename_i j t
      obtain rfl := of_decide_eq_true h
      exact ⟨.int i, ⟨t, rfl⟩, fun _ _ => .int i⟩
    · cases h
  | .str i, u, h => by
    unfold relW at h
    split at h
    · rename_i j t
      obtain rfl := of_decide_eq_true h
      exact ⟨.str i, ⟨t, rfl⟩, fun _ _ => .str i⟩
    · cases h
  | .tup ws, u, h => by
    unfold relW at h
    split at h
    · rename_i a
      split at h
      · rename_i c d its n sl e
        simp only [Bool.and_eq_true, decide_eq_true_eq] at h
        obtain ⟨h1, h2, h3⟩ := h
        obtain ⟨vs, rv, rs⟩ := relWs_ok h3
        refine ⟨.ref a, rfl, fun H ι => .tup (vs := vs) (.inr (.inr ⟨_, its, n, e, congrArg Value.type h1, rfl, h2, rv⟩)) (rs H ι)⟩
      · cases h
    · cases h
  | .frl ws, u, h => by unfold relW at h; cases h
  | .ref n, u, h => by unfold relW at h; cases h
theorem relWs_ok {K : PySem.W.Frag} : ∀ {ws : List W} {us : List Value}, relWs K ws us = true → ∃ vs, Vals vs us ∧ ∀ H ι, RWs K H ι ws vs
  | [], us, h => by
    unfold relWs at h
    cases us with
    | nil => exact ⟨[], .nil, fun _ _ => .nil⟩
    | cons _ _ => cases h
  | w :: ws, us, h => by
    unfold relWs at h
    split at h
    · cases h
    · rename_i u us
      rw [Bool.and_eq_true] at h
      obtain ⟨v, r1, r2⟩ := relW_ok h.1
      obtain ⟨vs, q1, q2⟩ := relWs_ok h.2
      exact ⟨v :: vs, .cons r1 q1, fun H ι => .cons (r2 H ι) (q2 H ι)⟩
end
def conB (K : PySem.W.Frag) (c : Str × W) : Bool := match PySem.W.nsIn K mainGlobals c.1 with
  | some (some u) => relW K c.2 u
  | _ => false
/-- what is said of a program behind its top -/
abbrev AlC : Type := He.AlD × Bool
def obsC (n : Nat) (fa : List He.Fa) (fn : List He.DefD) (cs : List (Str × W)) (g : Addr → Option Obj) : AlC := (He.obsDG n fa fn g, cs.all fun c => conB (He.frG g (He.asD g n)) c)
def SaysC (fa : List He.Fa) (fn : List He.DefD) (cs : List (Str × W)) (K : PySem.W.Frag) : Prop := He.SaysD fa fn K ∧ (cs.all fun c => conB K c) = true
def hookC (n : Nat) (fa : List He.Fa) (fn : List He.DefD) (cs : List (Str × W)) : PySem.W.Hook where
  α := AlC
  obs := fun s => obsC n fa fn cs s.heap.get?
  val := fun _ => (He.valD fn, true)
  says := fun _ h => ∃ K : PySem.W.Frag, K.In h ∧ SaysC fa fn cs K
  of := fun _ s e => ⟨_, He.frG_in, congrArg (fun z : AlC => z.1) e, congrArg (fun z : AlC => z.2) e⟩
  keeps := fun _ _ _ ⟨K, hK, c⟩ k => ⟨K, PySem.W.Frag.In.keeps hK k, c⟩
theorem obsC_eq {n : Nat} {fa : List He.Fa} {fn : List He.DefD} {cs : List (Str × W)} {g : Addr → Option Obj} {s : Shared} (h : ∀ a, g a = s.heap.get? a) : obsC n fa fn cs g = (hookC n fa fn cs).obs s := by
  have e : g = s.heap.get? := funext h
  rw [e]
  rfl
/-- a constant's place in the module -/
theorem con_ok {fa : List He.Fa} {fn : List He.DefD} {cs : List (Str × W)} {K : PySem.W.Frag} {h : Heap} {mg : Str → Option Value} (c : SaysC fa fn cs K) (X : K.In h) (G : h.Ns mainGlobals mg) (i : Nat) {p : Str × W} (hi : cs[i]? = some p := by rfl) :
    ∃ v u, mg p.1 = some u ∧ RelV v u ∧ ∀ H ι, RW K H ι p.2 v := by
  have b := List.all_eq_true.mp c.2 p (List.mem_of_getElem? hi)
  unfold conB at b
  split at b
  · rename_i u e
    obtain ⟨v, r1, r2⟩ := relW_ok b
    exact ⟨v, u, PySem.W.mg_of X G e, r1, r2⟩
  · cases b

/-! ### the law's end -/
theorem lawG {P : Program} {w : World} {K : PySem.W.Frag} {mg mb : Str → Option Value} {k : Nat} {fa a : Addr} {fd : FuncData} {x : Str} {r : List W → Sto → Res W} {s₁ : Shared} {vs : List Value} {ns : List Int}
    (KX : K.In s₁.heap) (hns : s₁.heap.Ns mainGlobals mg) (hb : s₁.heap.Ns builtinsNs mb) (hbb : ∀ x : Str, x ≠ "__name__" → mb x = bootBuiltins x) (hlim : s₁.heap.NoLimit) (hg : s₁.gens = #[])
    (ha : s₁.heap.get? a = some { cls := .type "list", data := .seq vs.toArray }) (hi : IntsAre vs ns) (hl : ns.length ≤ sizeLine) (hr : Room k callerA)
    (F : ∀ base : Heap, K.In base → base.Ns mainGlobals mg → FnG P w K mg base k fa fd [x] (spR K r 1)) (hbind : ∀ (s : Shared) (u : Value), BindsTo s fd ⟨[u], []⟩ [(x, u)])
    (hlaw : ∃ st, r [.frl (ns.map .int)] [] = .ok (.bl true) st) :
    codeAny (model P w) callerA (.call (.ref fa) ⟨[.ref a], []⟩) (fun r s' => r = .ok (.ret (.bool true)) ∧ OldK s₁.heap s'.heap ∧ s'.os = s₁.os ∧ AllBare s'.gens) s₁ := by
  have rv := L2.vals_ints hi
  have lenV := hi.length
  obtain ⟨stE, eE⟩ := hlaw
  have core : ∀ H : Hp, Only H → SLst K H a (ns.map V.int) → HOk P w H s₁.heap → (∀ b, H b ≠ none → b = a) → (H a ≠ none → K.lookup a = none) →
      codeAny (model P w) callerA (.call (.ref fa) ⟨[.ref a], []⟩) (fun r s' => r = .ok (.ret (.bool true)) ∧ OldK s₁.heap s'.heap ∧ s'.os = s₁.os ∧ AllBare s'.gens) s₁ := by
    intro H hO hS hok hA hK
    have noA : ∀ {b : Addr} {o : Obj} {es : Array DictEntry} {ep : Nat}, s₁.heap.get? b = some o → o.data = .dict es ep → H b = none := fun {b o es ep} e d => by
      cases q : H b with
      | none => rfl
      | some u =>
        have e' : b = a := hA b (by rw [q]; simp)
        subst e'
        rw [ha] at e; cases e
        cases (show Data.seq vs.toArray _ = Data.dict es ep from d)
    have nsK : ∀ {b : Addr} {m : Str → Option Value}, s₁.heap.Ns b m → (hidT s₁.heap H).Ns b m := fun {b m} ⟨o, es, ep, e, d, r⟩ => ⟨o, es, ep, hidT_get e (noA e d), d, r⟩
    have hKb : K.In (hidT s₁.heap H) := fun b o e => hidT_get (KX b o e) (by
      cases q : H b with
      | none => rfl
      | some u =>
        have e' : b = a := hA b (by rw [q]; simp)
        subst e'
        rw [hK (by rw [q]; simp)] at e; cases e)
    have hM : Mod K mg (hidT s₁.heap H) := ⟨hKb, nsK hns, ⟨mb, nsK hb, hbb⟩, let ⟨mc, h1, h2⟩ := hlim; ⟨mc, nsK h1, h2⟩⟩
    have e0 : Env0 P w K mg (hidT s₁.heap H) callerA [] s₁ H := ⟨rfl, hM, fun b o e => of_hidT e, Nat.le_of_eq (hidT_size _ _), trivial, fun b hb => absurd (show b ∈ ([] : List Addr) from hb) (by simp), hok, .of_eq hg⟩
    have hsp : spR K r 1 [.ref a] H (fun v _ => v = .bl true) fun _ _ _ => False := by
      refine ⟨rfl, [], [], [.frl (ns.map .int)], ⟨rfl, fun m n b e => by simp at e, fun n b o e => by simp at e⟩, .cons (.frl hS (RWs.of_ints ns)) .nil, ?_⟩
      rw [eE]
      intro ι' H' _ _ _ v rvv
      cases rvv
      rfl
    refine codeAny_mono ((F _ hKb (nsK hns)).run callerA [] s₁ H ⟨[.ref a], []⟩ [.ref a] [.ref a] _ _ hr rfl e0 (hbind s₁ (.ref a)) (.cons rfl .nil) hsp) fun res s' h => ?_
    cases res with
    | error e => obtain ⟨_, _, _, _, _, _, _, _, _, _, _, _, z⟩ := h; exact z.elim
    | ok fl =>
      cases fl with
      | next => exact h.elim
      | brk => exact h.elim
      | cont => exact h.elim
      | ret u =>
        obtain ⟨v, H', os, bare, un, hok', r', q⟩ := h
        have q' : v = .bl true := q
        subst q'
        obtain rfl : u = Value.bool true := r'
        refine ⟨rfl, OldK.of_keep fun b o e => ?_, os, bare⟩
        cases q : H b with
        | none => exact un.keep b o e q (by intro z; exact absurd (show b ∈ ([] : List Addr) from z) (by simp)) (by simp)
        | some u =>
          rcases hO b with z | ⟨ob, xs, z⟩
          · rw [q] at z; cases z
          · obtain ⟨e1, _⟩ := hok b _ z
            obtain ⟨e2, _⟩ := hok' b _ (un.frzs b ob _ z)
            rw [e] at e1; cases e1
            exact e2
  cases hk : K.lookup a with
  | some o =>
    have e := KX a o hk
    rw [ha] at e
    cases e
    exact core (fun _ => none) (fun _ => .inl rfl) (.inr (.inr ⟨_, vs.toArray, _, hk, rfl, rfl, rfl, by rw [List.size_toArray, lenV]; exact hl, by simpa using rv⟩)) (fun b u z => by cases (show (none : Option HO) = some u from z)) (fun b z => absurd rfl z) fun z => absurd rfl z
  | none =>
    refine core (fun b => if b = a then some (.frz { cls := .type "list", data := .seq vs.toArray } (.lst (ns.map V.int))) else none) (fun b => ?_) (.inl ⟨{ cls := .type "list", data := .seq vs.toArray }, if_pos rfl⟩) (fun b u z => ?_) (fun b z => ?_) fun _ => hk
    · by_cases hb : b = a
      · exact .inr ⟨_, _, if_pos hb⟩
      · exact .inl (if_neg hb)
    · by_cases hb : b = a
      · have z' := (if_pos hb).symm.trans z
        cases z'
        subst hb
        exact ⟨ha, by rw [List.length_map]; exact hl, vs, _, rv, ha⟩
      · have z' := (if_neg hb).symm.trans z
        cases z'
    · by_cases hb : b = a
      · exact hb
      · exact absurd (if_neg hb) z
theorem walkG {l : PySem.W.OpenLaw} {n k : Nat} {q : Program} {loose : List Str} {XP : (Str → Option Value) → Heap → Prop} {YP : World → Heap → Prop} {d : DefRec} {x : Str} {r : List W → Sto → Res W}
    (hn : l.most = some n) (hn2 : n ≤ sizeLine) (hdf : d.params.defaults = []) (hr : Room k callerA)
    (F : ∀ (w : World) (mg : Str → Option Value) (fa : Addr) (h : Heap), YP w h → h.Ns mainGlobals mg → mg d.name = some (.ref fa) →
      ∃ (K : PySem.W.Frag) (fd : FuncData), K.In h ∧ (∀ (s : Shared) (u : Value), BindsTo s fd ⟨[u], []⟩ [(x, u)]) ∧
        ∀ base : Heap, K.In base → base.Ns mainGlobals mg → FnG l.prog w K mg base k fa fd [x] (spR K r 1))
    (hlaw : ∀ ns : List Int, ns.length ≤ n → ∃ st, r [.frl (ns.map .int)] [] = .ok (.bl true) st) :
    PySem.W.WalkO q loose XP YP l.row.toRowW d [] (fun f vs => PySem.call f vs) := by
  refine Att.attach_call hn hdf fun w s₀ s₁ mg mb fa o pm cd doc a vs ns G Y ho hd hcd hmg hobj hints hlen hg => ?_
  obtain ⟨K, fd, KX, hb, hF⟩ := F w mg fa _ Y G.T.g hmg
  exact lawG KX G.T.g G.T.b G.T.builtins G.T.nolimit hg hobj hints (Nat.le_trans hlen hn2) hr hF hb (hlaw ns hlen)
end Ci
/-! Ci10: further rules: stores, keywords, isinstance, displays, enumerate, zip. -/
namespace Ci
open PySem L2 PyProof.Rows

def Es.app : Es → Es → Es
  | .nil, b => b
  | .cons c cs, b => .cons c (cs.app b)
theorem evs_app {cl : Cl} {en : En} {b : Es} : ∀ {a : Es} {st : Sto}, evs cl (a.app b) en st = (evs cl a en st).bind fun xs st1 => (evs cl b en st1).bind fun ys st2 => .ok (xs ++ ys) st2
  | .nil, st => by
    show evs cl b en st = (evs cl b en st).bind fun ys st2 => .ok ([] ++ ys) st2
    cases evs cl b en st <;> rfl
  | .cons c cs, st => by
    show ((ev cl c en st).bind fun x st1 => (evs cl (cs.app b) en st1).bind fun xs st2 => .ok (x :: xs) st2) = (((ev cl c en st).bind fun x st1 => (evs cl cs en st1).bind fun xs st2 => .ok (x :: xs) st2)).bind fun xs st1 => (evs cl b en st1).bind fun ys st2 => .ok (xs ++ ys) st2
    rw [Res.assoc]
    congr 1
    funext x st1
    rw [evs_app, Res.assoc, Res.assoc]
    congr 1
    funext xs st2
    show (((evs cl b en st2).bind fun ys st2 => .ok (xs ++ ys) st2)).bind (fun xs st2 => .ok (x :: xs) st2) = (evs cl b en st2).bind fun ys st2 => .ok (x :: xs ++ ys) st2
    rw [Res.assoc]
    rfl
section
variable {Z : Cz} {x : Str} {p pos : Pos} {e : Expr} {es : List Expr} {cs ck : Es} {kws : List Keyword}
/-- what a call with keywords binds -/
def KwOk (x : Str) (ps ks : List Str) (pm : List Nat) (n m : Nat) (a : Arguments) (b : List Stmt) (sc : Scope) : Prop :=
  ∀ (kV doc pm' : Value) (an : Option Addr) (cdv ct : Value) (us ws : List Value), us.length = n → ws.length = m → ∃ zs, pm.mapM (fun i => (us ++ ws)[i]?) = some zs ∧ zs.length = ps.length ∧ bindArgs (PySem.W.fnOf x x a b sc .none kV doc pm' an cdv ct) ⟨us, ks.zip ws⟩ = pure (ps.zip zs)
theorem kw_fin {σ : L2.St} {H : Hp} {ι : List Addr} {st : Sto} {ws zs : List W} {vs us : List V} {Q : VK} {i : Nat} {ps : List Str} {pm : List Nat} (z : HRel Z.X.K H ι st) (r1 : RWs Z.X.K H ι ws vs) (r2 : RWs Z.X.K H ι zs us)
    (q : Fin Z.X.K (fun c d H' => Z.x c d σ H') ι H (callK Z.cl i (some pm) (ws ++ zs) st) fun w ι' _ H' => ∀ v, RW Z.X.K H' ι' w v → Q v H') (hp : pm.length = ps.length) :
    ∃ tv, pm.mapM (fun i => (vs ++ us)[i]?) = some tv ∧ spR Z.X.K (Z.cl i) ps.length tv H Q fun c d H' => Z.x c d σ H' := by
  unfold callK permW at q
  simp only at q
  split at q
  · rename_i ts e
    obtain ⟨tv, e1, r3⟩ := permW_get (r1.app r2) e
    have len : ∀ {α : Type} {f : Nat → Option α} {l : List Nat} {r : List α}, l.mapM f = some r → r.length = l.length := by
      intro α f l
      induction l with
      | nil => intro r h; cases h; rfl
      | cons a l ih =>
        intro r h
        rw [List.mapM_cons] at h
        obtain ⟨z, _, h⟩ := Option.bind_eq_some_iff.mp h
        obtain ⟨zs, h2, h⟩ := Option.bind_eq_some_iff.mp h
        cases h
        exact congrArg (· + 1) (ih h2)
    exact ⟨tv, e1, call_fin z r3 (by rw [len e1, hp]) q⟩
  · exact q.elim
theorem w_callK (i : Nat) {ps ks : List Str} {pm : List Nat} {a : Arguments} {b : List Stmt} {sc : Scope} (ok : Z.Ok) (c : Callee Z x i ps a b sc) (hg : Gl Z.X x) (ha : SA Z (e :: es) cs) (hk : SK Z kws ck) (hb : KwOk x ps ks pm cs.n ck.n a b sc) (hp : pm.length = ps.length := by rfl)
    (hall : (backToKw pos (keywordEach kws Z.X.env)).all (·.1.isSome) = true := by rfl) (hks : (backToKw pos (keywordEach kws Z.X.env)).filterMap (·.1) = ks := by rfl)
    (hdb : (x == ("__debug__" : Str)) = false := by decide) (he : starEach (e :: es) Z.X.env = (false, eval e Z.X.env) :: starEach es Z.X.env := by rfl)
    (hpl : ((backTo pos (starEach (e :: es) Z.X.env)).any (·.1) || (backToKw pos (keywordEach kws Z.X.env)).any (·.1.isNone)) = false := by rfl) :
    SE Z (.Call (.Name x p) (e :: es) kws pos) (.call i (some pm) (cs.app ck)) := by
  obtain ⟨f, fd, k, hm, F, hr, G⟩ := c.ex
  refine ⟨fun pins s σ H Q I h => ?_⟩
  obtain ⟨ι, en, st, r, hf⟩ := h
  have hf : Fin Z.X.K (fun c d H' => Z.x c d σ H') ι H ((evs Z.cl (cs.app ck) en st).bind (callK Z.cl i (some pm))) (fun w ι' _ H' => ∀ v, RW Z.X.K H' ι' w v → Q v H') := hf
  rw [evs_app, Res.assoc] at hf
  have ta : tEs Z cs σ H fun vs H1 => vs.length = cs.n ∧ tEs Z ck σ H1 fun us H2 => us.length = ck.n ∧ ∃ tv, pm.mapM (fun i => (vs ++ us)[i]?) = some tv ∧ spR Z.X.K (Z.cl i) ps.length tv H2 Q fun c d H' => Z.x c d σ H' := by
    refine ⟨ι, en, st, r, (Fin.len (Fin.split hf)).mono fun ws ι' st' H' p t z q vs rs => ⟨by rw [← rs.len, q.1], ?_⟩⟩
    have q2 := q.2
    rw [Res.assoc] at q2
    refine ⟨ι', en, st', r.keep t p z, (Fin.len (Fin.split q2)).mono fun zs ι2 st2 H2 p2 t2 z2 q3 us rs2 => ⟨by rw [← rs2.len, q3.1], ?_⟩⟩
    exact kw_fin z2 (rs.keep t2 p2) rs2 q3.2 hp
  refine wpAny_Call_Name_kw (ld_glob I hg hm ?_ hdb)
  refine PySem.W.callWith_KW (h₀ := Z.X.base) I.ok.mod.kin F.kp hall (thn (ha.run pos pins s σ H _ I ta) fun us s1 ⟨vs, H1, I1, rv, l1, q⟩ => ?_) hpl he
  refine thn (hk.run pos pins s1 σ H1 _ I1 q) fun ws s2 ⟨zv, H2, I2, rz, l2, tv, e2, q2⟩ => ⟨I2.kIn, ?_⟩
  rw [hks]
  obtain ⟨ts, e3, rt⟩ := vals_perm (rv.append rz) e2
  refine wpAny_call (codeAny_mono (run_g (args := ⟨us, ks.zip ws⟩) ok G hr I2 (fun hl => ?_) rt q2) fun res s' hq => ?_)
  · obtain ⟨oc, od, dV, kV, doc, pm', an, cdv, ct, osl, rfl, lk, hcd, hD, hK⟩ := F.ex
    rcases hD with ⟨_, rfl⟩ | ⟨ne, _⟩
    · obtain ⟨zs, h1, h2, h3⟩ := hb kV doc pm' an cdv ct us ws (by rw [← rv.length, l1]) (by rw [← rz.length, l2])
      rw [h1] at e3
      cases e3
      exact .of_eq h3
    · exact absurd rfl ne
  · cases res with
    | error er => exact hq
    | ok fl => cases fl <;> exact hq
theorem w_callK0 (i : Nat) {ps ks : List Str} {pm : List Nat} {a : Arguments} {b : List Stmt} {sc : Scope} (ok : Z.Ok) (c : Callee Z x i ps a b sc) (hg : Gl Z.X x) (hk : SK Z kws ck) (hb : KwOk x ps ks pm 0 ck.n a b sc) (hp : pm.length = ps.length := by rfl)
    (hall : (backToKw pos (keywordEach kws Z.X.env)).all (·.1.isSome) = true := by rfl) (hks : (backToKw pos (keywordEach kws Z.X.env)).filterMap (·.1) = ks := by rfl)
    (hdb : (x == ("__debug__" : Str)) = false := by decide)
    (hpl : ((backTo pos (starEach [] Z.X.env)).any (·.1) || (backToKw pos (keywordEach kws Z.X.env)).any (·.1.isNone)) = false := by rfl) :
    SE Z (.Call (.Name x p) [] kws pos) (.call i (some pm) ck) := by
  obtain ⟨f, fd, k, hm, F, hr, G⟩ := c.ex
  refine ⟨fun pins s σ H Q I h => ?_⟩
  obtain ⟨ι, en, st, r, hf⟩ := h
  have hf : Fin Z.X.K (fun c d H' => Z.x c d σ H') ι H ((evs Z.cl ck en st).bind (callK Z.cl i (some pm))) (fun w ι' _ H' => ∀ v, RW Z.X.K H' ι' w v → Q v H') := hf
  have ta : tEs Z ck σ H fun us H2 => us.length = ck.n ∧ ∃ tv, pm.mapM (fun i => ([] ++ us)[i]?) = some tv ∧ spR Z.X.K (Z.cl i) ps.length tv H2 Q fun c d H' => Z.x c d σ H' := by
    refine ⟨ι, en, st, r, (Fin.len (Fin.split hf)).mono fun zs ι2 st2 H2 p2 t2 z2 q3 us rs2 => ⟨by rw [← rs2.len, q3.1], ?_⟩⟩
    exact kw_fin (ws := []) z2 .nil rs2 q3.2 hp
  refine wpAny_Call_Name_kw (ld_glob I hg hm ?_ hdb)
  refine PySem.W.callWith_KW0 (h₀ := Z.X.base) I.ok.mod.kin F.kp hall (thn (hk.run pos pins s σ H _ I ta) fun ws s2 ⟨zv, H2, I2, rz, l2, tv, e2, q2⟩ => ⟨I2.kIn, ?_⟩) hpl
  rw [hks]
  obtain ⟨ts, e3, rt⟩ := vals_perm (us := [] ++ ws) rz e2
  refine wpAny_call (codeAny_mono (run_g (args := ⟨[], ks.zip ws⟩) ok G hr I2 (fun hl => ?_) rt q2) fun res s' hq => ?_)
  · obtain ⟨oc, od, dV, kV, doc, pm', an, cdv, ct, osl, rfl, lk, hcd, hD, hK⟩ := F.ex
    rcases hD with ⟨_, rfl⟩ | ⟨ne, _⟩
    · obtain ⟨zs, h1, h2, h3⟩ := hb kV doc pm' an cdv ct [] ws rfl (by rw [← rz.length, l2])
      rw [h1] at e3
      cases e3
      exact .of_eq h3
    · exact absurd rfl ne
  · cases res with
    | error er => exact hq
    | ok fl => cases fl <;> exact hq

/-! ### o[i] = e -/
theorem putL_rel {K : PySem.W.Frag} {H : Hp} {ι : List Addr} {k : Key} {w : W} {v : V} (h : RW K H ι w v) {ws : List (Key × W)} {vs : List (Key × V)} (r : RKv K H ι ws vs) : RKv K H ι (dputL k w ws) (putK vs k v) := by
  have any : (ws.any fun q => decide (q.1 = k)) = vs.any fun q => decide (q.1 = k) := by
    induction r with
    | nil => rfl
    | cons _ _ ih => rw [List.any_cons, List.any_cons, ih]
  have m : ∀ {ws : List (Key × W)} {vs : List (Key × V)}, RKv K H ι ws vs → RKv K H ι (ws.map fun q => if q.1 = k then (q.1, w) else q) (vs.map fun kv => if kv.1 = k then (kv.1, v) else kv) := by
    intro ws vs r
    induction r with
    | nil => exact .nil
    | @cons j z u ws vs a t ih =>
      rw [List.map_cons, List.map_cons]
      by_cases e : j = k
      · simp only [e, if_true]
        exact .cons h ih
      · simp only [e, if_false]
        exact .cons a ih
  have ap : ∀ {ws : List (Key × W)} {vs : List (Key × V)}, RKv K H ι ws vs → RKv K H ι (ws ++ [(k, w)]) (vs ++ [(k, v)]) := by
    intro ws vs r
    induction r with
    | nil => exact .cons h .nil
    | cons a t ih => exact .cons a ih
  unfold dputL putK
  rw [any]
  split
  · exact m r
  · exact ap r
def rSetW (K : PySem.W.Frag) : V → V → V → Hp → (Hp → Prop) → Prop := fun o i v H Q => ∃ ι st x y w st', HRel K H ι st ∧ RW K H ι x o ∧ RW K H ι y i ∧ RW K H ι w v ∧ setI x y w st = some st' ∧ ∀ H', TK H H' → HRel K H' ι st' → Q H'
theorem pset_w (hu : Z.X.A.units + 65 < cLine) : PSet Z.X (rSetW Z.X.K) := by
  intro pins s σ H o i v ov iv u Q I ro ri rv h
  obtain ⟨ι, st, x, y, w, st', z, rx, ry, rw', e, k⟩ := h
  cases x with
  | ref n =>
    unfold setI at e
    simp only at e
    split at e
    · rename_i ws e1
      obtain ⟨pa, rfl, hp, vs, h1, r1⟩ := rx.own z e1
      cases y with
      | int j =>
        cases ry
        simp only at e
        obtain ⟨m, e2, rfl⟩ := Option.map_eq_some_iff.mp e
        have mu : Mut (H pa) := by rw [h1]; exact True.intro
        exact set_list pins s σ H _ _ v ov iv u Q I ro ri rv ⟨pa, vs, j, m, rfl, rfl, h1, by rw [← r1.len]; exact e2, k _ (TK.mut mu) (z.set hp ⟨_, upd_same, (r1.set rw' m).keep (TK.mut mu) (Pre.refl _)⟩)⟩
      | _ => cases e
    · rename_i kvs e1
      obtain ⟨pa, rfl, hp, vs, h1, r1⟩ := rx.own z e1
      obtain ⟨ky, ek, e⟩ := Option.bind_eq_some_iff.mp e
      split at e
      · rename_i hl
        cases e
        have ei := keyOf_rel ry ek
        subst ei
        cases ro
        have mu : Mut (H pa) := by rw [h1]; exact True.intro
        refine d_setItem (H' := upd H pa (.dK (putK vs ky v))) (by omega) I (DPut.k h1 (by rw [← r1.len]; exact hl)) ri rv fun s' I' => ⟨_, I', ?_⟩
        exact k _ (TK.mut mu) (z.set hp ⟨_, upd_same, (putL_rel rw' r1).keep (TK.mut mu) (Pre.refl _)⟩)
      · cases e
    · cases e
  | _ => cases e
theorem s_sto {A : Nat → Bool} {o i e : Expr} {co ci ce : E} {tpos : Pos} (ok : Z.Ok) (ho : SE Z o co) (hi : SE Z i ci) (he : SE Z e ce)
    (ha : ∀ v, assign (.Subscript o i tpos) Z.X.env v = (do
      let ov ← holding [v] (eval o Z.X.env)
      let iv ← holding [v, ov] (eval i Z.X.env)
      standAt tpos
      holding [v, ov, iv] (setItem ov iv v)
      release [v, ov, iv] []) := by intro _; rfl)
    (hs : swapsWithSole [.Subscript o i tpos] e pos.line Z.X.env = pure false := by rfl) (hw : swappedStores [.Subscript o i tpos] e Z.X.env = pure none := by rfl)
    (h1 : (assignEach [.Subscript o i tpos] Z.X.env).map (·.2) = [assign (.Subscript o i tpos) Z.X.env] := by rfl) : SS Z A (.Assign [.Subscript o i tpos] e pos) (.sto co ci ce) := by
  refine ps_imp (ps_asg he (pg_sub ho hi (pset_w ok.hu) ha) hs hw h1) fun D σ H h => ?_
  refine bindS (g := fun v en st1 => (ev Z.cl co en st1).bind fun x st2 => (ev Z.cl ci en st2).bind fun y st3 => stoK en v x y st3) h fun w v ι en st H1 r r1 q => ?_
  refine ⟨ι, en, st, r, (own_wish (Fin.split q)).mono fun x ι2 st2 H2 p2 t2 z2 q2 xv rx => ?_⟩
  refine ⟨ι2, en, st2, r.keep t2 p2 z2, (own_wish (Fin.split q2)).mono fun y ι3 st3 H3 p3 t3 z3 q3 yv ry => ?_⟩
  unfold stoK at q3
  split at q3
  · rename_i st4 e4
    exact ⟨ι3, st3, x, y, w, st4, z3, rx.keep t3 p3, ry, (r1.keep t2 p2).keep t3 p3, e4, fun H' tk z' => q3 ι3 H' (Pre.refl _) tk z' σ (Agree.refl A σ) (((r.keep t2 p2 z2).keep t3 p3 z3).keep tk (Pre.refl _) z')⟩
  · exact q3.elim
/-! ### x += e -/
theorem s_aug {A : Nat → Bool} (i : Nat) {y : Str} {e : Expr} {c : E} {p' : Pos} (nd : Z.X.N.Nodup) (h : SE Z e c) (hA : A i = true := by rfl) (hi : Z.X.N[i]? = some y := by rfl) (hx : Loc Z.X.env.scope y := by first | exact Or.inl rfl | exact Or.inr rfl)
    (hf : Z.X.fn y = true ∨ Z.X.env.scope.names.lookup y = some .local := by first | exact .inl rfl | exact .inr rfl | assumption) : SS Z A (.AugAssign (.Name y p') .Add e pos) (.aug i .add c) := by
  refine ps_imp (ps_aug nd hi hx h (op := .Add) (ti := rI0 fun i j => .int (i + j)) (fun pins s σ H x y v u Q I r1 r2 q => iop_add pins s σ H x y v u Q I r1 r2 q) hf) fun D σ H h => ?_
  obtain ⟨ι, en, st, r, hf⟩ := h
  have hf : Fin Z.X.K (fun c d H' => ∀ σ', Agree A σ σ' → Z.x c d σ' H') ι H (varK en[i]? fun x => (ev Z.cl c en st).bind (augK i .add en x)) (outK Z.X.K D A σ) := hf
  unfold varK at hf
  split at hf
  · rename_i w e1
    obtain ⟨v, ev1, rv⟩ := r.en i w e1
    refine ⟨v, ev1, ?_⟩
    refine bindS (g := fun b en st => augK i .add en w b st) ⟨ι, en, st, r, hf⟩ fun wb vb ι2 en2 st2 H2 r2 rb q => ?_
    unfold augK at q
    cases w with
    | int a =>
      cases wb with
      | int b =>
        cases rv
        cases rb
        exact ⟨a, b, rfl, rfl, q.now r2.hr _ (agree_set hA σ) (r2.set (.int _))⟩
      | _ => exact q.elim
    | _ => cases wb <;> exact q.elim
  · exact hf.elim

/-! ### isinstance(x, T) -/
def rIsi (K : PySem.W.Frag) (ts : List String) : List V → Hp → VK → Prop := fun xs H Q => ∃ ι st w v T, xs = [v, .ty T] ∧ ts = [T] ∧ HRel K H ι st ∧ RW K H ι w v ∧ ∃ t, tyOf st w = some t ∧ Q (.bl (isTy t T)) H
theorem cr_isi {T : String} (hk : ∀ t ∈ ["NoneType", "bool", "int", "str", "tuple", "list", "dict"], PySem.W.kitOne Z.X.K (.type t) (.type T) = some (isTy t T)) : CallR Z.X (.builtin "isinstance") (rIsi Z.X.K [T]) := by
  intro pins s σ H xs us Q I r h
  obtain ⟨ι, st, w, v, T', rfl, e, z, rw', t, et, q⟩ := h
  cases e
  cases r with
  | cons r1 r2 =>
    cases r2 with
    | cons r3 r4 =>
      cases r4
      cases r3
      have mem : t ∈ ["NoneType", "bool", "int", "str", "tuple", "list", "dict"] := by
        cases w <;> first | (cases et; decide) | (unfold tyOf at et; simp only at et; split at et <;> first | (cases et; decide) | cases et)
      exact isi_ok (K := Z.X.K) I z rw' et r1 (hk t mem) fun tk => ⟨.bl _, H, I.tok _, rfl, q⟩
theorem w_isi {T : String} {a : Expr} {ca : E} {p p2 : Pos} {y : Str} (h : SE Z a ca) (hg : Gl Z.X "isinstance") (hm : Z.X.mg "isinstance" = none) (hg2 : Gl Z.X y) (hm2 : Z.X.mg y = none) (hv2 : bootBuiltins y = some (.type T))
    (hk : ∀ t ∈ ["NoneType", "bool", "int", "str", "tuple", "list", "dict"], PySem.W.kitOne Z.X.K (.type t) (.type T) = some (isTy t T)) (hn : y ≠ "__name__" := by decide) (hd : (y == ("__debug__" : Str)) = false := by decide)
    (he : starEach [a, .Name y p2] Z.X.env = (false, eval a Z.X.env) :: starEach [.Name y p2] Z.X.env := by rfl) (he2 : starEach [.Name y p2] Z.X.env = (false, eval (.Name y p2) Z.X.env) :: starEach [] Z.X.env := by rfl) (hpl : (backTo pos (starEach [.Name y p2] Z.X.env)).any (·.1) = false := by rfl) :
    SE Z (.Call (.Name "isinstance" p) [a, .Name y p2] [] pos) (.isi [T] ca) := by
  refine pe_imp (pe_callB (cr_isi hk) hg hm (by decide +kernel) (pa_cons h (pa_cons (pe_bltn (v := .ty T) hg2 hm2 hv2 rfl hn hd) pa_nil he2) he) (by decide) (by decide) he hpl) fun σ H Q h => ?_
  refine bindE (g := fun x _ st => isiK [T] x st) h fun w v ι en st H1 r r1 q => ?_
  unfold isiK at q
  split at q
  · rename_i t e
    refine ⟨ι, st, w, v, T, rfl, rfl, r.hr, r1, t, e, ?_⟩
    have := q.now r.hr _ (.bl _)
    simpa using this
  · exact q.elim
/-! ### list(range(..)) -/
theorem w_lrg1 {a : Expr} {ca : E} {p p2 lp : Pos} (ok : Z.Ok) (h : SE Z a ca) (hg : Gl Z.X "list") (hm : Z.X.mg "list" = none) (hg2 : Gl Z.X "range") (hm2 : Z.X.mg "range" = none) (na : starEach [a] Z.X.env = (false, eval a Z.X.env) :: starEach [] Z.X.env := by rfl)
    (nb : starEach [.Call (.Name "range" p2) [a] [] lp] Z.X.env = (false, eval (.Call (.Name "range" p2) [a] [] lp) Z.X.env) :: starEach [] Z.X.env := by rfl) : SE Z (.Call (.Name "list" p) [.Call (.Name "range" p2) [a] [] lp] [] pos) (.lrg (.cons ca .nil)) := by
  refine pe_imp (pe_listRg ok.calm hg hm (prg_1 hg2 hm2 h na) nb) fun σ H Q h => ?_
  obtain ⟨ι, en, st, r, hf⟩ := h
  have hf : Fin Z.X.K (fun c d H' => Z.x c d σ H') ι H (((ev Z.cl ca en st).bind fun x st1 => (Res.ok [x] st1)).bind lrgK) _ := hf
  rw [Res.assoc] at hf
  refine bindE (g := fun x _ st => lrgK [x] st) ⟨ι, en, st, r, hf⟩ fun w v ι en st H1 r r1 q => ?_
  unfold lrgK at q
  cases w with
  | int b =>
    cases r1
    unfold rngOf at q
    simp only at q
    split at q
    · rename_i a' b' e
      split at e
      · rename_i hb
        cases e
        have hb := of_decide_eq_true hb
        split at q
        · rename_i hl
          refine ⟨b, rfl, ⟨hb.1, hb.2.1, hb.2.2.1, hb.2.2.2, hl⟩, ?_⟩
          have rs : RWs Z.X.K H1 ι (rngW 0 b) (rgV 0 b) := by
            unfold rngW rgV
            generalize List.range (b - 0).toNat = l
            induction l with
            | nil => exact .nil
            | cons i l ih => exact .cons (.int _) ih
          exact FinO.new (ws := rngW 0 b) (fun ι' H' v a b c d => q ι' H' a b c v d) r.hr rs
        · exact q.elim
      · cases e
    · exact q.elim
  | _ => exact q.elim
theorem rg_rel {K : PySem.W.Frag} {H : Hp} {ι : List Addr} (a b : Int) : RWs K H ι (rngW a b) (rgV a b) := by
  unfold rngW rgV
  generalize List.range (b - a).toNat = l
  induction l with
  | nil => exact .nil
  | cons i l ih => exact .cons (.int _) ih
theorem w_lrg2 {a b : Expr} {ca cb : E} {p p2 lp : Pos} (ok : Z.Ok) (h : SE Z a ca) (h' : SE Z b cb) (hg : Gl Z.X "list") (hm : Z.X.mg "list" = none) (hg2 : Gl Z.X "range") (hm2 : Z.X.mg "range" = none) (na : starEach [a, b] Z.X.env = (false, eval a Z.X.env) :: starEach [b] Z.X.env := by rfl) (na2 : starEach [b] Z.X.env = (false, eval b Z.X.env) :: starEach [] Z.X.env := by rfl)
    (nb : starEach [.Call (.Name "range" p2) [a, b] [] lp] Z.X.env = (false, eval (.Call (.Name "range" p2) [a, b] [] lp) Z.X.env) :: starEach [] Z.X.env := by rfl) (hp : ((backTo lp (starEach [b] Z.X.env)).any fun x => x.1) = false := by rfl) : SE Z (.Call (.Name "list" p) [.Call (.Name "range" p2) [a, b] [] lp] [] pos) (.lrg (.cons ca (.cons cb .nil))) := by
  refine pe_imp (pe_listRg ok.calm hg hm (prg_2 hg2 hm2 h h' na na2 hp) nb) fun σ H Q h => ?_
  obtain ⟨ι, en, st, r, hf⟩ := h
  have hf : Fin Z.X.K (fun c d H' => Z.x c d σ H') ι H (((ev Z.cl ca en st).bind fun x st1 => ((ev Z.cl cb en st1).bind fun y st2 => Res.ok [y] st2).bind fun xs st2 => Res.ok (x :: xs) st2).bind lrgK) _ := hf
  rw [Res.assoc] at hf
  refine bindE (g := fun x en st1 => (((ev Z.cl cb en st1).bind fun y st2 => Res.ok [y] st2).bind fun xs st2 => Res.ok (x :: xs) st2).bind lrgK) ⟨ι, en, st, r, hf⟩ fun w v ι en st H1 r r1 q => ?_
  rw [Res.assoc, Res.assoc] at q
  refine ⟨ι, en, st, r, (Fin.split q).mono fun w2 ι2 st2 H2 p2 t2 z2 q v2 r2 => ?_⟩
  have q : Fin Z.X.K (fun c d H' => Z.x c d σ H') ι2 H2 (lrgK [w, w2] st2) _ := q
  unfold lrgK at q
  cases w with
  | int i =>
    cases w2 with
    | int j =>
      cases r1
      cases r2
      unfold rngOf at q
      simp only at q
      split at q
      · rename_i a' b' e
        split at e
        · rename_i hb
          cases e
          have hb := of_decide_eq_true hb
          split at q
          · rename_i hl
            exact ⟨_, _, rfl, rfl, ⟨hb.1, hb.2.1, hb.2.2.1, hb.2.2.2, hl⟩, FinO.new (ws := rngW i j) (fun ι' H' v a b c d => q ι' H' a b c v d) z2 (rg_rel _ _)⟩
          · exact q.elim
        · cases e
      · exact q.elim
    | _ => exact q.elim
  | _ => cases w2 <;> exact q.elim

/-! ### enumerate, zip -/
/-- a list that is walked, alone -/
theorem get_lst {K : PySem.W.Frag} {H : Hp} {ι : List Addr} {st : Sto} {w : W} {v : V} {s : Src} (z : HRel K H ι st) (r : RW K H ι w v) (e : srcOf st w = some s) (el : (lstOf st w).isSome = true) :
    ∃ a vs, v = .ref a ∧ SqL K H a vs ∧ ∀ (ι' : List Addr) (H' : Hp) (st' : Sto) (i : Nat), Pre ι ι' → TK H H' → HRel K H' ι' st' → match s.get st' i with
      | none => True
      | some none => ∃ xs, SqL K H' a xs ∧ xs.length ≤ i
      | some (some w) => ∃ xs x, SqL K H' a xs ∧ xs[i]? = some x ∧ RW K H' ι' w x := by
  have core : ∀ {a : Addr} {s : Src}, SrcOk K H ι s (Itl K a) → ∀ (ι' : List Addr) (H' : Hp) (st' : Sto) (i : Nat), Pre ι ι' → TK H H' → HRel K H' ι' st' → match s.get st' i with
      | none => True
      | some none => ∃ xs, SqL K H' a xs ∧ xs.length ≤ i
      | some (some w) => ∃ xs x, SqL K H' a xs ∧ xs[i]? = some x ∧ True := by
    intro a s h ι' H' st' i p t z'
    have q := h ι' H' st' i p t z'
    cases eg : s.get st' i with
    | none => exact True.intro
    | some o =>
      rw [eg] at q
      cases o with
      | none => exact q
      | some w => obtain ⟨⟨xs, x, h1, h2⟩, _⟩ := q; exact ⟨xs, x, h1, h2, True.intro⟩
  cases r with
  | frl h r =>
    cases e
    refine ⟨_, _, rfl, h.sq, fun ι' H' st' i p t z' => ?_⟩
    rename_i ws vs a
    show (match some ws[i]? with | none => True | some none => _ | some (some w) => _)
    cases eg : ws[i]? with
    | none => exact ⟨vs, (h.keep t).sq, by rw [← r.len]; exact List.getElem?_eq_none_iff.mp eg⟩
    | some w =>
      obtain ⟨v, ev, rv⟩ := r.get eg
      exact ⟨vs, v, (h.keep t).sq, ev, rv.keep t p⟩
  | @ref n a h =>
    obtain ⟨o, eo, ro⟩ := z.at h
    unfold srcOf at e
    simp only [eo] at e
    cases o with
    | dct _ => cases e
    | lst us =>
      cases e
      obtain ⟨vs, q1, q2⟩ := ro
      refine ⟨a, vs, rfl, SqL.of q1, fun ι' H' st' i p t z' => ?_⟩
      obtain ⟨o', eo', ro'⟩ := z'.at (p n a h)
      show (match (match st'[n]? with | some (.lst ws) => some ws[i]? | _ => none) with | none => True | some none => _ | some (some w) => _)
      rw [eo']
      cases o' with
      | dct _ => exact True.intro
      | lst ws =>
        obtain ⟨vs', h1, h2⟩ := ro'
        show (match some ws[i]? with | none => True | some none => _ | some (some w) => _)
        cases eg : ws[i]? with
        | none => exact ⟨vs', SqL.of h1, by rw [← h2.len]; exact List.getElem?_eq_none_iff.mp eg⟩
        | some w =>
          obtain ⟨v, ev, rv⟩ := h2.get eg
          exact ⟨vs', v, SqL.of h1, ev, rv⟩
  | _ => cases el
theorem pair_new {K : PySem.W.Frag} {H : Hp} {ι : List Addr} {st : Sto} {T : Addr} {x y : V} {w u : W} (z : HRel K H ι st) (hT : H T = none) (rx : RW K H ι w x) (ry : RW K H ι u y) :
    TK H (upd H T (.tup [x, y])) ∧ HRel K (upd H T (.tup [x, y])) ι st ∧ RW K (upd H T (.tup [x, y])) ι (.tup [w, u]) (.ref T) := by
  have tk : TK H (upd H T (.tup [x, y])) := TK.new hT
  refine ⟨tk, ⟨z.len, z.inj, fun n a o e1 e2 => (z.ob n a o e1 e2).keep tk (Pre.refl ι) (upd_ne fun q => z.fresh hT n (by rw [e1, q]))⟩, .tup (.inl upd_same) (.cons (rx.keep tk (Pre.refl ι)) (.cons (ry.keep tk (Pre.refl ι)) .nil))⟩
theorem i_enum {tgs : List Expr} {kk : Nat} {tpos : Pos} {c : E} (h : SE Z e c) (hg : Gl Z.X "enumerate") (hm : Z.X.mg "enumerate" = none) (hs : starEach [e] Z.X.env = [(false, eval e Z.X.env)] := by rfl) :
    SI Z (.Tuple tgs kk tpos) (.Call (.Name "enumerate" p) [e] [] pos) (.enum c) := by
  refine pi_imp (pi_enum hg hm (pa_cons h pa_nil (by rw [hs]; rfl)) hs) fun σ H R hi => ?_
  obtain ⟨ι, en, st, r, hf⟩ := hi
  refine bindE (g := fun x _ st => srcEK x st) ⟨ι, en, st, r, hf⟩ fun w v ι en st H1 r r1 q => ?_
  unfold srcEK at q
  split at q
  · rename_i s e1
    split at q
    · rename_i el
      obtain ⟨a, vs, rfl, h1, k⟩ := get_lst r.hr r1 e1 el
      refine ⟨a, vs, rfl, h1, q.now r.hr _ fun ι' H' st' i p t z' => ?_⟩
      have kk := k ι' H' st' i p t z'
      show (match (match s.get st' i with
        | some (some w) => some (some (W.tup [.int (i : Nat), w]))
        | some none => some none
        | none => none) with | none => True | some none => _ | some (some w) => _)
      cases eg : s.get st' i with
      | none => exact True.intro
      | some o =>
        rw [eg] at kk
        cases o with
        | none => exact kk
        | some w' =>
          obtain ⟨xs, x, k1, k2, k3⟩ := kk
          refine ⟨⟨xs, x, k1, k2⟩, fun v' H'' y => ?_⟩
          obtain ⟨T, x', rfl, hT, rfl, y4⟩ := y
          have := y4 xs k1
          rw [k2] at this
          cases this
          exact pair_new z' hT (.int _) k3
    · exact q.elim
  · exact q.elim
theorem i_zip {e2 : Expr} {tgs : List Expr} {kk : Nat} {tpos : Pos} {c c2 : E} (h : SE Z e c) (h2 : SE Z e2 c2) (hg : Gl Z.X "zip") (hm : Z.X.mg "zip" = none)
    (hs : starEach [e, e2] Z.X.env = (false, eval e Z.X.env) :: starEach [e2] Z.X.env := by rfl) (hs2 : starEach [e2] Z.X.env = (false, eval e2 Z.X.env) :: starEach [] Z.X.env := by rfl) (hpl : (backTo pos (starEach [e2] Z.X.env)).any (·.1) = false := by rfl) :
    SI Z (.Tuple tgs kk tpos) (.Call (.Name "zip" p) [e, e2] [] pos) (.zip c c2) := by
  refine pi_imp (pi_zip hg hm (pa_cons h (pa_cons h2 pa_nil hs2) hs) hs hpl) fun σ H R hi => ?_
  obtain ⟨ι, en, st, r, hf⟩ := hi
  refine bindE (g := fun x en st1 => (ev Z.cl c2 en st1).bind fun y st2 => src2K x y st2) ⟨ι, en, st, r, hf⟩ fun w v ι en st H1 r r1 q => ?_
  refine ⟨ι, en, st, r, (Fin.split q).mono fun w2 ι2 st2 H2 p2 t2 z2 q v2 r2 => ?_⟩
  have r1 := r1.keep t2 p2
  unfold src2K at q
  split at q
  · rename_i s t e1 e2
    split at q
    · rename_i el
      rw [Bool.and_eq_true] at el
      obtain ⟨a, vs, rfl, h1, k⟩ := get_lst z2 r1 e1 el.1
      obtain ⟨b, us, rfl, h3, k'⟩ := get_lst z2 r2 e2 el.2
      refine ⟨a, b, vs, us, rfl, h1, h3, q.now z2 _ fun ι' H' st' i p tt z' => ?_⟩
      have kk := k ι' H' st' i p tt z'
      have kk' := k' ι' H' st' i p tt z'
      show (match (match s.get st' i, t.get st' i with
        | some (some x), some (some y) => some (some (W.tup [x, y]))
        | some _, some _ => some none
        | _, _ => none) with | none => True | some none => _ | some (some w) => _)
      cases eg : s.get st' i with
      | none => exact True.intro
      | some o =>
        rw [eg] at kk
        cases eg2 : t.get st' i with
        | none => cases o <;> exact True.intro
        | some o2 =>
          rw [eg2] at kk'
          cases o with
          | none =>
            obtain ⟨xs, k1, k2⟩ := kk
            cases o2 with
            | none => obtain ⟨ys, q1, _⟩ := kk'; exact ⟨xs, ys, k1, q1, .inl k2⟩
            | some _ => obtain ⟨ys, _, q1, _⟩ := kk'; exact ⟨xs, ys, k1, q1, .inl k2⟩
          | some w' =>
            obtain ⟨xs, x, k1, k2, k3⟩ := kk
            cases o2 with
            | none =>
              obtain ⟨ys, q1, q2⟩ := kk'
              exact ⟨xs, ys, k1, q1, .inr q2⟩
            | some u' =>
              obtain ⟨ys, y, q1, q2, q3⟩ := kk'
              refine ⟨⟨xs, ys, x, y, k1, q1, k2, q2⟩, fun v' H'' yy => ?_⟩
              obtain ⟨T, x', y', rfl, hT, rfl, y4, y5⟩ := yy
              have e4 := y4 xs k1
              rw [k2] at e4
              cases e4
              have e5 := y5 ys q1
              rw [q2] at e5
              cases e5
              exact pair_new z' hT k3 q3
    · exact q.elim
  · exact q.elim
end
end Ci
/-! Ci11: dict displays, x = [..] on one line. -/
namespace Ci
open PySem L2 PyProof.Rows

section
variable {Z : Cz} {A : Nat → Bool} {pos : Pos}
/-- x = [.. for ..], all on one line -/
theorem s_setLc (i : Nat) {y : Str} {py : Pos} {elt tgE iter : Expr} {ifs : List Expr} {scope : Scope} {own : List (Str × Nat)} {lpos spos : Pos} {t : Tg} {ci : It} {cs : Es} {ce : E} (ok : Z.Ok)
    (hi : SI Z tgE iter ci) (bk : BlkOk Z.X.N Z.X.env.scope scope own)
    (hg : ∀ (s : Shared) (H : Hp) (C : Addr) (cl : List (Str × Addr)) (fp : List Addr), PG (Z.blk s H scope C cl fp).X tgE (gW Z.X.K t)) (ht : ∀ (s : Shared) (H : Hp) (C : Addr) (cl : List (Str × Addr)) (fp : List Addr), SCs (Z.blk s H scope C cl fp) ifs cs)
    (he : ∀ (s : Shared) (H : Hp) (C : Addr) (cl : List (Str × Addr)) (fp : List Addr), SE (Z.blk s H scope C cl fp) elt ce) (hsl : ∀ i ∈ t.slots, i ∈ own.map (·.2))
    (hsw : swapsWith (.ListComp elt [⟨tgE, iter, ifs, 0⟩] scope lpos) (some (.Name y py)) spos.line Z.X.env = pure true)
    (hyl : Z.X.env.scope.names.lookup y = some .local := by rfl) (hA : A i = true := by rfl) (hN : Z.X.N[i]? = some y := by rfl)
    (hs : ∀ x, foldedSetIterable iter Z.X.env x = pure x := by intro _; rfl) : SS Z A (.Assign [.Name y py] (.ListComp elt [⟨tgE, iter, ifs, 0⟩] scope lpos) spos) (.set i (.lc (own.map (·.2)) t ci cs ce)) := by
  refine ps_imp (ps_setLc (wi := iW Z.X.K Z.x fun en st => evi Z.cl ci en st) (g := gW Z.X.K t) (tt := tWb Z.X.K (fun _ _ _ _ => False) fun en st => evc Z.cl cs en st) (te := tW Z.X.K (fun _ _ _ _ => False) fun en st => ev Z.cl ce en st) ok.calm ok.nd hN hyl hsw hi bk hg ht he hs) fun D σ H h => ?_
  have q : tE Z (.lc (own.map (·.2)) t ci cs ce) σ H (fun v H1 => gName i v σ H1 D.nx) := by
    refine bindS (A := A) (g := fun w en st => setK (.nm i) en w st) h fun w v ι en st H1 r r1 q => ?_
    unfold setK asg at q
    split at q
    · rename_i en1 e1
      split at e1
      · cases e1
        exact q.now r.hr _ (agree_set hA σ) (r.set r1)
      · cases e1
    · exact q.elim
  exact lc_tr hsl σ H _ q

/-! ### {a: b, ..} -/
def trsOf (Z : Cz) : Es → List (TE × TE)
  | .cons a (.cons b r) => (tE Z a, tE Z b) :: trsOf Z r
  | _ => []
def Even2 : Es → Prop
  | .nil => True
  | .cons _ (.cons _ r) => Even2 r
  | .cons _ .nil => False
structure SD (Z : Cz) (pos : Pos) (ks : List (Option Expr)) (vs : List Expr) (es : Es) : Prop where
  ps : PPs Z.X pos ks vs (trsOf Z es)
  ev : Even2 es
theorem d_nil : SD Z pos [] [] .nil := ⟨pps_nil, True.intro⟩
theorem d_cons {k v : Expr} {ks : List (Option Expr)} {vs : List Expr} {a b : E} {r : Es} (ha : SE Z k a) (hb : SE Z v b) (h : SD Z pos ks vs r) : SD Z pos (some k :: ks) (v :: vs) (.cons a (.cons b r)) :=
  ⟨pps_cons ha hb h.ps, h.ev⟩
theorem tPairs_mono {σ : L2.St} : ∀ {trs : List (TE × TE)} {H : Hp} {Q R : List (V × V) → Hp → Prop}, tPairs trs σ H Q → (∀ ps H2, Q ps H2 → R ps H2) → (∀ t ∈ trs, (∀ H Q R, t.1 σ H Q → (∀ v G, Q v G → R v G) → t.1 σ H R) ∧ (∀ H Q R, t.2 σ H Q → (∀ v G, Q v G → R v G) → t.2 σ H R)) → tPairs trs σ H R
  | [], _, _, _, h, i, _ => i _ _ h
  | (tk, tv) :: r, H, Q, R, h, i, m => (m _ List.mem_cons_self).1 H _ _ h fun x H1 q1 => (m _ List.mem_cons_self).2 H1 _ _ q1 fun y H2 q2 =>
      tPairs_mono (trs := r) q2 (fun ps H3 q => i _ _ q) fun t ht => m t (List.mem_cons_of_mem _ ht)
theorem trs_mono {σ : L2.St} : ∀ {es : Es}, ∀ t ∈ trsOf Z es, (∀ H Q R, t.1 σ H Q → (∀ v G, Q v G → R v G) → t.1 σ H R) ∧ (∀ H Q R, t.2 σ H Q → (∀ v G, Q v G → R v G) → t.2 σ H R)
  | .nil, t, h => by cases h
  | .cons _ .nil, t, h => by cases h
  | .cons a (.cons b r), t, h => by
    rcases List.mem_cons.mp h with rfl | h
    · exact ⟨fun H Q R ⟨ι, en, st, r, hf⟩ i => ⟨ι, en, st, r, hf.mono fun w ι' st' H' _ _ _ q v rv => i v H' (q v rv)⟩, fun H Q R ⟨ι, en, st, r, hf⟩ i => ⟨ι, en, st, r, hf.mono fun w ι' st' H' _ _ _ q v rv => i v H' (q v rv)⟩⟩
    · exact trs_mono (es := r) t h
theorem pairs_fin {σ : L2.St} {en : En} : ∀ {es : Es} {H : Hp} {ι : List Addr} {st : Sto} {k : List (Key × W) → List Addr → Sto → Hp → Prop}, Even2 es → Rel Z.X.K σ H ι en st →
    Fin Z.X.K (fun c d H' => Z.x c d σ H') ι H (evd Z.cl es en st) k →
    tPairs (trsOf Z es) σ H fun ps H2 => ∃ ι2 st2 ws vs, Pre ι ι2 ∧ TK H H2 ∧ HRel Z.X.K H2 ι2 st2 ∧ RKv Z.X.K H2 ι2 ws vs ∧ ps = vs.map (fun kv => (kV kv.1, kv.2)) ∧ k ws ι2 st2 H2
  | .nil, H, ι, st, k, _, r, h => ⟨ι, st, [], [], Pre.refl _, TK.refl _, r.hr, .nil, rfl, h.now r.hr⟩
  | .cons _ .nil, _, _, _, _, e, _, _ => e.elim
  | .cons a (.cons b r), H, ι, st, k, e, rr, h => by
    have h : Fin Z.X.K (fun c d H' => Z.x c d σ H') ι H ((ev Z.cl a en st).bind fun x st1 => (ev Z.cl b en st1).bind fun y st2 => keyK y (fun st2 => evd Z.cl r en st2) x st2) k := h
    refine ⟨ι, en, st, rr, (Fin.split h).mono fun x ι1 st1 H1 p1 t1 z1 q1 xv rx => ?_⟩
    refine ⟨ι1, en, st1, rr.keep t1 p1 z1, (Fin.split q1).mono fun y ι2 st2 H2 p2 t2 z2 q2 yv ry => ?_⟩
    unfold keyK at q2
    split at q2
    · rename_i j ej
      have r2 : Rel Z.X.K σ H2 ι2 en st2 := (rr.keep t1 p1 z1).keep t2 p2 z2
      have q3 := pairs_fin (es := r) e r2 (Fin.split q2)
      refine tPairs_mono q3 ?_ trs_mono
      rintro ps H3 ⟨ι3, st3, ws, vs, p3, t3, z3, rk, rfl, q⟩
      have ex : xv = kV j := keyOf_rel (rx.keep t2 p2) ej
      subst ex
      exact ⟨ι3, st3, (j, y) :: ws, (j, yv) :: vs, (p1.trans p2).trans p3, (t1.trans t2).trans t3, z3, .cons (ry.keep t3 p3) rk, rfl, q.now z3⟩
    · exact q2.elim
theorem merge_rel {K : PySem.W.Frag} {H : Hp} {ι : List Addr} : ∀ (ws : List (Key × W)) (vs : List (Key × V)) (as : List (Key × W)) (bs : List (Key × V)), RKv K H ι ws vs → RKv K H ι as bs → RKv K H ι (ws.foldl (fun acc p => dputL p.1 p.2 acc) as) (mergeK bs vs)
  | [], _, _, _, r, h => by cases r; exact h
  | (k, w) :: ws, _, as, bs, r, h => by
    cases r with
    | cons r t =>
      have q := merge_rel ws _ _ _ t (putL_rel (k := k) r h)
      exact q
/-- a dict display of at most fifteen pairs -/
theorem w_dsp {ks : List (Option Expr)} {vs : List Expr} {es : Es} (h : SD Z pos ks vs es) (hall : ks.all (·.isSome) = true := by rfl) (hl : ks.length = vs.length := by rfl) (h0 : ks ≠ [] := by intro h; cases h)
    (h15 : ks.length ≤ 15 := by decide) : SE Z (.Dict ks vs pos) (.dsp es) := by
  refine pe_imp (pe_disp h.ps hall hl h0 h15) fun σ H Q h' => ?_
  obtain ⟨ι, en, st, r, hf⟩ := h'
  intro p hp
  have hf : Fin Z.X.K (fun c d H' => Z.x c d σ H') ι H ((evd Z.cl es en (st ++ [.dct []])).bind (dspK st.length)) _ := hf
  have z0 : HRel Z.X.K (upd H p (.dK [])) (ι ++ [p]) (st ++ [.dct []]) := r.hr.push hp ⟨[], upd_same, .nil⟩
  have q := pairs_fin h.ev (r.keep (TK.new hp) (Pre.snoc ι p) z0) (Fin.split (Fin.shift (Pre.snoc ι p) (TK.new hp) hf))
  refine tPairs_mono q ?_ trs_mono
  rintro ps H2 ⟨ι2, st2, ws, vs, p2, t2, z2, rk, rfl, q⟩
  have hpa : ι2[st.length]? = some p := p2 _ _ (by rw [← r.hr.len]; simp)
  unfold dspK at q
  split at q
  · rename_i e2
    split at q
    · rename_i h15
      obtain ⟨bs, hb, rb⟩ := z2.ob _ _ _ hpa e2
      cases rb
      have mu : Mut (H2 p) := by rw [hb]; exact True.intro
      refine ⟨hb, vs, rfl, by rw [← rk.len]; exact h15, ?_⟩
      have z3 := z2.set hpa (u := .dK (mergeK [] vs)) (o := .dct (mergeW ws)) ⟨_, upd_same, (merge_rel _ _ _ _ rk .nil).keep (TK.mut mu) (Pre.refl _)⟩
      exact q ι2 _ (Pre.refl _) (TK.mut mu) z3 _ (.ref hpa)
    · exact q.elim
  · exact q.elim
/-- {} -/
theorem w_dsp0 : SE Z (.Dict [] [] pos) (.dsp .nil) := by
  refine pe_imp pe_dnewK fun σ H Q h' => ?_
  obtain ⟨ι, en, st, r, hf⟩ := h'
  intro p hp
  have z0 : HRel Z.X.K (upd H p (.dK [])) (ι ++ [p]) (st ++ [.dct []]) := r.hr.push hp ⟨[], upd_same, .nil⟩
  have hf : Fin Z.X.K (fun c d H' => Z.x c d σ H') ι H (dspK st.length [] (st ++ [.dct []])) _ := hf
  unfold dspK at hf
  have e : (st ++ [Ob.dct []])[st.length]? = some (.dct []) := by simp
  rw [e] at hf
  have hf : Fin Z.X.K (fun c d H' => Z.x c d σ H') ι H (Res.ok (W.ref st.length) ((st ++ [Ob.dct []]).set st.length (.dct []))) _ := hf
  have e2 : (st ++ [Ob.dct []]).set st.length (.dct []) = st ++ [Ob.dct []] := by
    rw [List.set_append_right _ _ (Nat.le_refl _)]; simp
  rw [e2] at hf
  exact hf (ι ++ [p]) _ (Pre.snoc ι p) (TK.new hp) z0 (V.ref p) (RW.ref (by rw [← r.hr.len]; simp))
end
end Ci
/-! Ci12: small forms for the printed texts. -/
namespace Ci
open PySem L2 PyProof.Rows

section
variable {Z : Cz} {pos : Pos}
/-- a constant of the module is known -/
def ConP (K : PySem.W.Frag) (mg : Str → Option Value) (x : Str) (w : W) : Prop := ∃ v u, mg x = some u ∧ RelV v u ∧ ∀ H ι, RW K H ι w v
theorem w_con {x : Str} {w : W} (c : ConP Z.X.K Z.X.mg x w) (hg : Gl Z.X x) (hd : (x == ("__debug__" : Str)) = false := by decide) : SE Z (.Name x pos) (.con w) := by
  obtain ⟨v, u, hm, r, rw'⟩ := c
  exact w_glb hg hm r rw' hd
theorem Callee.blk {x : Str} {i : Nat} {ps : List Str} {a : Arguments} {b : List Stmt} {sc : Scope} (c : Callee Z x i ps a b sc) (s : Shared) (H : Hp) (scope : Scope) (C : Addr) (cl : List (Str × Addr)) (fp : List Addr) : Callee (Z.blk s H scope C cl fp) x i ps a b sc := ⟨c.ex⟩
theorem hsl_by {t : Tg} {l : List Nat} (h : (t.slots.all fun i => l.contains i) = true) : ∀ i ∈ t.slots, i ∈ l := fun i hi => by
  have := List.all_eq_true.mp h i hi
  exact List.contains_iff_mem.mp this
/-- a def of level n, by its name -/
def DefP (P : Program) (w : World) (K : PySem.W.Frag) (mg : Str → Option Value) (base : Heap) (tab : List Fd) (n i : Nat) (x : Str) (ps : List Str) (a : Arguments) (b : List Stmt) (sc : Scope) : Prop :=
  ∃ (f : Addr) (fd : FuncData), mg x = some (.ref f) ∧ FunD K x x a b sc [] [] f fd ∧ FnG P w K mg base n f fd ps (spR K (run tab n i) ps.length)
theorem DefP.callee {P : Program} {w : World} {K : PySem.W.Frag} {mg : Str → Option Value} {base : Heap} {tab : List Fd} {n i : Nat} {x : Str} {ps : List Str} {a : Arguments} {b : List Stmt} {sc : Scope}
    (h : DefP P w K mg base tab n i x ps a b sc) {N : List Str} {qual : Str} {sc' : Scope} {f' : Addr} {cdv : Value} {A : Around} {outer : List Env} {s : Shared} {H : Hp} {E : XK}
    (hr : Room n (A.deeper (envOfC qual sc' s.heap.objs.size f' cdv))) : Callee (bodyZ P w K mg base N qual sc' f' cdv A outer s H E (run tab n)) x i ps a b sc := by
  obtain ⟨f, fd, hm, F, G⟩ := h
  exact ⟨⟨f, fd, n, hm, F, hr, G⟩⟩
/-- what is wanted of a def's body -/
def BodyP (P : Program) (w : World) (K : PySem.W.Frag) (mg : Str → Option Value) (base : Heap) (tab : List Fd) (n : Nat) (N : List Str) (x : Str) (b : List Stmt) (sc : Scope) (c : S) : Prop :=
  ∀ (f : Addr) (cdv : Value) (A : Around) (outer : List Env) (s : Shared) (H : Hp) (E : XK), Room n (A.deeper (envOfC x sc s.heap.objs.size f cdv)) → A.guards = some [] → SB (bodyZ P w K mg base N x sc f cdv A outer s H E (run tab n)) (fun _ => true) b c
theorem DefP.succ {P : Program} {w : World} {K : PySem.W.Frag} {mg : Str → Option Value} {base : Heap} {tab : List Fd} {n i : Nat} {x : Str} {ps N : List Str} {a : Arguments} {b : List Stmt} {sc : Scope} {d : Fd}
    (h : DefP P w K mg base tab n i x ps a b sc) (hd : tab[i]? = some d) (S : FnScope N ps sc) (hN : N.length = d.nl) (hp : ps.length = d.np) (B : BodyP P w K mg base tab n N x b sc d.body) : DefP P w K mg base tab (n + 1) i x ps a b sc := by
  obtain ⟨f, fd, hm, F, _⟩ := h
  exact ⟨f, fd, hm, F, fn_run F hd S hN hp (B f)⟩
theorem DefP.zero {P : Program} {w : World} {K : PySem.W.Frag} {mg : Str → Option Value} {base : Heap} {tab : List Fd} {i : Nat} {x : Str} {ps : List Str} {a : Arguments} {b : List Stmt} {sc : Scope} {f : Addr} {fd : FuncData} (hm : mg x = some (.ref f)) (F : FunD K x x a b sc [] [] f fd) : DefP P w K mg base tab 0 i x ps a b sc :=
  ⟨f, fd, hm, F, fn_zero⟩
theorem kit_int {K : PySem.W.Frag} : ∀ t ∈ ["NoneType", "bool", "int", "str", "tuple", "list", "dict"], PySem.W.kitOne K (.type t) (.type "int") = some (isTy t "int") := fun t ht => kit_ty ((by decide +kernel : ∀ t ∈ ["NoneType", "bool", "int", "str", "tuple", "list", "dict"], kitB t "int" = some (isTy t "int")) t ht)
theorem kit_str {K : PySem.W.Frag} : ∀ t ∈ ["NoneType", "bool", "int", "str", "tuple", "list", "dict"], PySem.W.kitOne K (.type t) (.type "str") = some (isTy t "str") := fun t ht => kit_ty ((by decide +kernel : ∀ t ∈ ["NoneType", "bool", "int", "str", "tuple", "list", "dict"], kitB t "str" = some (isTy t "str")) t ht)
theorem kit_list {K : PySem.W.Frag} : ∀ t ∈ ["NoneType", "bool", "int", "str", "tuple", "list", "dict"], PySem.W.kitOne K (.type t) (.type "list") = some (isTy t "list") := fun t ht => kit_ty ((by decide +kernel : ∀ t ∈ ["NoneType", "bool", "int", "str", "tuple", "list", "dict"], kitB t "list" = some (isTy t "list")) t ht)
theorem kit_tuple {K : PySem.W.Frag} : ∀ t ∈ ["NoneType", "bool", "int", "str", "tuple", "list", "dict"], PySem.W.kitOne K (.type t) (.type "tuple") = some (isTy t "tuple") := fun t ht => kit_ty ((by decide +kernel : ∀ t ∈ ["NoneType", "bool", "int", "str", "tuple", "list", "dict"], kitB t "tuple" = some (isTy t "tuple")) t ht)
theorem kit_dict {K : PySem.W.Frag} : ∀ t ∈ ["NoneType", "bool", "int", "str", "tuple", "list", "dict"], PySem.W.kitOne K (.type t) (.type "dict") = some (isTy t "dict") := fun t ht => kit_ty ((by decide +kernel : ∀ t ∈ ["NoneType", "bool", "int", "str", "tuple", "list", "dict"], kitB t "dict" = some (isTy t "dict")) t ht)
theorem kit_bool {K : PySem.W.Frag} : ∀ t ∈ ["NoneType", "bool", "int", "str", "tuple", "list", "dict"], PySem.W.kitOne K (.type t) (.type "bool") = some (isTy t "bool") := fun t ht => kit_ty ((by decide +kernel : ∀ t ∈ ["NoneType", "bool", "int", "str", "tuple", "list", "dict"], kitB t "bool" = some (isTy t "bool")) t ht)
theorem funD_same {K : PySem.W.Frag} {x q x' q' : Str} {a a' : Arguments} {b b' : List Stmt} {sc sc' : Scope} {f : Addr} {fd fd' : FuncData} (F : FunD K x q a b sc [] [] f fd) (F' : FunD K x' q' a' b' sc' [] [] f fd') : fd = fd' := by
  obtain ⟨oc, od, dV, kV, doc, pm, an, cdv, ct, osl, e1, lk, hcd, _, _⟩ := F.ex
  obtain ⟨oc', od', dV', kV', doc', pm', an', cdv', ct', osl', e1', lk', hcd', _, _⟩ := F'.ex
  have := lk.symm.trans lk'
  injection this with this
  injection this with _ _ h _
  injection h
end
end Ci
/-! Cj0: what comes of a reckoning, in plain Lean. -/
namespace Ci
open PySem

def Wp {α : Type} (r : Res α) (Q : α → Sto → Prop) : Prop := ∃ a st, r = .ok a st ∧ Q a st
section
variable {α β : Type} {r : Res α} {Q R : α → Sto → Prop} {a : α} {st : Sto}
theorem wp_ok : Wp (.ok a st) Q = Q a st := propext ⟨fun ⟨_, _, e, h⟩ => (by cases e; exact h), fun h => ⟨_, _, rfl, h⟩⟩
theorem wp_bind {k : α → Sto → Res β} {Q : β → Sto → Prop} : Wp (r.bind k) Q = Wp r fun a st => Wp (k a st) Q := by
  refine propext ⟨fun ⟨b, st, e, h⟩ => ?_, fun ⟨a, st, e, b, st2, e2, h⟩ => ?_⟩
  · cases r with
    | ok a st1 => exact ⟨a, st1, rfl, b, st, e, h⟩
    | exc _ _ => cases e
    | bad => cases e
  · subst e
    exact ⟨b, st2, e2, h⟩
theorem wp_bad : Wp (.bad : Res α) Q = False := propext ⟨fun ⟨_, _, e, _⟩ => (by cases e), False.elim⟩
theorem Wp.mono (h : Wp r Q) (i : ∀ a st, Q a st → R a st) : Wp r R := let ⟨a, st, e, q⟩ := h; ⟨a, st, e, i a st q⟩
theorem wp_noexc : Wp (noexc r) Q = Wp r Q := by
  cases r with
  | exc x st => exact propext ⟨fun ⟨_, _, e, _⟩ => (by cases e), fun ⟨_, _, e, _⟩ => (by cases e)⟩
  | _ => rfl
end
/-- behind a statement the rest goes on -/
def Sk (cl : Nat → List W → Sto → Res W) (b : S) (Q : Out → Sto → Prop) (o : Out) (st : Sto) : Prop :=
  match o with
  | .nx e => Wp (ex cl b e st) Q
  | o => Q o st
section
variable {cl : Nat → List W → Sto → Res W} {en : En} {st : Sto} {Q : Out → Sto → Prop}
theorem wp_seq {a b : S} : Wp (ex cl (.seq a b) en st) Q = Wp (ex cl a en st) (Sk cl b Q) := by
  rw [ex, wp_bind]
  congr 1
  funext o st1
  cases o with
  | nx e => rfl
  | _ => exact wp_ok
theorem sk_nx {b : S} {e : En} : Sk cl b Q (.nx e) st = Wp (ex cl b e st) Q := rfl
theorem sk_rt {b : S} {v : W} : Sk cl b Q (.rt v) st = Q (.rt v) st := rfl
theorem sk_bk {b : S} {e : En} : Sk cl b Q (.bk e) st = Q (.bk e) st := rfl
theorem sk_ct {b : S} {e : En} : Sk cl b Q (.ct e) st = Q (.ct e) st := rfl
theorem sk_mono {b : S} {R : Out → Sto → Prop} {o : Out} (h : Sk cl b Q o st) (i : ∀ o st, Q o st → R o st) : Sk cl b R o st := by
  cases o with
  | nx e => exact Wp.mono h i
  | _ => exact i _ _ h
/-- a loop's ends -/
def Lk (I : En → Sto → Prop) (Q : Out → Sto → Prop) (o : Out) (st : Sto) : Prop :=
  match o with
  | .nx e => I e st
  | .ct e => I e st
  | .bk e => Q (.nx e) st
  | .rt v => Q (.rt v) st
theorem lk_nx {I : En → Sto → Prop} {e : En} : Lk I Q (.nx e) st = I e st := rfl
theorem lk_ct {I : En → Sto → Prop} {e : En} : Lk I Q (.ct e) st = I e st := rfl
theorem lk_bk {I : En → Sto → Prop} {e : En} : Lk I Q (.bk e) st = Q (.nx e) st := rfl
theorem lk_rt {I : En → Sto → Prop} {v : W} : Lk I Q (.rt v) st = Q (.rt v) st := rfl
end
section
variable {get : Sto → Nat → Option (Option W)} {as : W → En → Option En} {body : En → Sto → Res Out} {Q : Out → Sto → Prop}
theorem wp_forL (ws : List W) (I : Nat → En → Sto → Prop) (hg : ∀ k en st, I k en st → get st k = some ws[k]?)
    (step : ∀ k w en st, ws[k]? = some w → I k en st → ∃ en1, as w en = some en1 ∧ Wp (body en1 st) (Lk (I (k + 1)) Q)) (fin : ∀ en st, I ws.length en st → Q (.nx en) st) :
    ∀ (F k : Nat) (en : En) (st : Sto), k ≤ ws.length → ws.length < k + F → I k en st → Wp (forL get as body F k en st) Q
  | 0, k, en, st, h1, h2, _ => by omega
  | F + 1, k, en, st, h1, h2, i => by
    rw [forL, hg k en st i]
    rcases Nat.lt_or_ge k ws.length with h | h
    · rw [List.getElem?_eq_getElem h]
      obtain ⟨en1, e1, q⟩ := step k _ en st (List.getElem?_eq_getElem h) i
      simp only [e1, wp_bind]
      refine q.mono fun o st1 q => ?_
      cases o with
      | nx e => exact wp_forL ws I hg step fin F (k + 1) e st1 h (by omega) q
      | ct e => exact wp_forL ws I hg step fin F (k + 1) e st1 h (by omega) q
      | bk e => exact ⟨_, _, rfl, q⟩
      | rt v => exact ⟨_, _, rfl, q⟩
    · rw [List.getElem?_eq_none h]
      have : k = ws.length := Nat.le_antisymm h1 h
      subst this
      exact ⟨_, _, rfl, fin en st i⟩
theorem wp_lcL {en0 : En} {test : En → Sto → Res Bool} {elt : En → Sto → Res W} {D : Nat} {Q : W → Sto → Prop} (ws : List W) (I : Nat → Sto → Prop) (hg : ∀ k st, I k st → get st k = some ws[k]?)
    (step : ∀ k w st, ws[k]? = some w → I k st → ∃ en1, as w en0 = some en1 ∧ Wp (test en1 st) fun b st1 => match b with
      | true => Wp (elt en1 st1) fun y st2 => ∃ acc, st2[D]? = some (.lst acc) ∧ acc.length < sizeLine ∧ I (k + 1) (st2.set D (.lst (acc ++ [y])))
      | false => I (k + 1) st1) (fin : ∀ st, I ws.length st → Q (.ref D) st) :
    ∀ (F k : Nat) (st : Sto), k ≤ ws.length → ws.length < k + F → I k st → Wp (lcL get as en0 test elt D F k st) Q
  | 0, k, st, h1, h2, _ => by omega
  | F + 1, k, st, h1, h2, i => by
    rw [lcL, hg k st i]
    rcases Nat.lt_or_ge k ws.length with h | h
    · rw [List.getElem?_eq_getElem h]
      obtain ⟨en1, e1, q⟩ := step k _ st (List.getElem?_eq_getElem h) i
      simp only [e1, wp_bind]
      refine q.mono fun b st1 q => ?_
      cases b with
      | true =>
        simp only [iteK, wp_bind]
        refine Wp.mono q fun y st2 q => ?_
        obtain ⟨acc, ea, hl, q⟩ := q
        simp only [pushK, ea, if_pos hl]
        exact wp_lcL ws I hg step fin F (k + 1) _ h (by omega) q
      | false => exact wp_lcL ws I hg step fin F (k + 1) _ h (by omega) q
    · rw [List.getElem?_eq_none h]
      have : k = ws.length := Nat.le_antisymm h1 h
      subst this
      exact ⟨_, _, rfl, fin st i⟩
theorem wp_whlL {test : En → Sto → Res Bool} (I : Nat → En → Sto → Prop)
    (step : ∀ k en st, I k en st → Wp (test en st) fun b st1 => match b with
      | true => 0 < k ∧ Wp (body en st1) (Lk (fun e st => ∃ j, j < k ∧ I j e st) Q)
      | false => Q (.nx en) st1) :
    ∀ (F k : Nat) (en : En) (st : Sto), k < F → I k en st → Wp (whlL test body F en st) Q
  | 0, k, en, st, h1, _ => by omega
  | F + 1, k, en, st, h1, i => by
    rw [whlL, wp_bind]
    refine (step k en st i).mono fun b st1 q => ?_
    cases b with
    | false => exact ⟨_, _, rfl, q⟩
    | true =>
      simp only [iteK, wp_bind]
      refine q.2.mono fun o st2 q2 => ?_
      cases o with
      | nx e => obtain ⟨j, hj, q2⟩ := q2; exact wp_whlL I step F j e st2 (by omega) q2
      | ct e => obtain ⟨j, hj, q2⟩ := q2; exact wp_whlL I step F j e st2 (by omega) q2
      | bk e => exact ⟨_, _, rfl, q2⟩
      | rt v => exact ⟨_, _, rfl, q2⟩
end
/-- a def by its core -/
theorem wp_run {tab : List Fd} {n i : Nat} {d : Fd} {ws : List W} {st : Sto} {Q : W → Sto → Prop} (h : tab[i]? = some d) (hl : ws.length = d.np) (q : Wp (ex (run tab n) d.body (startE d.nl ws) st) fun o st' => Wp (retK o st') Q) : Wp (run tab (n + 1) i ws st) Q := by
  rw [run, h]
  simp only [hl, if_true, wp_bind]
  exact q

/-! ### stores that keep all but two objects -/
def Keep (d c : Nat) (st st' : Sto) : Prop := ∀ n o, n ≠ d → n ≠ c → st[n]? = some o → st'[n]? = some o
theorem Keep.refl {d c : Nat} {st : Sto} : Keep d c st st := fun _ _ _ _ h => h
theorem Keep.trans {d c : Nat} {a b e : Sto} (x : Keep d c a b) (y : Keep d c b e) : Keep d c a e := fun n o h1 h2 h => y n o h1 h2 (x n o h1 h2 h)
theorem Keep.new {d c : Nat} {st : Sto} {o : Ob} : Keep d c st (st ++ [o]) := fun n u _ _ h => by
  rw [List.getElem?_append_left (List.getElem?_eq_some_iff.mp h).1]; exact h
theorem Keep.set {d c : Nat} {st : Sto} {m : Nat} {o : Ob} (hm : m = d ∨ m = c) : Keep d c st (st.set m o) := fun n u h1 h2 h => by
  have : m ≠ n := fun e => by
    rcases hm with z | z
    · exact h1 (e ▸ z)
    · exact h2 (e ▸ z)
  rw [List.getElem?_set_ne this]; exact h
/-- a list that no draw touches -/
def Own (d c : Nat) (st : Sto) (n : Nat) (ws : List W) : Prop := st[n]? = some (.lst ws) ∧ n ≠ d ∧ n ≠ c
theorem Own.keep {d c n : Nat} {st st' : Sto} {ws : List W} (h : Own d c st n ws) (k : Keep d c st st') : Own d c st' n ws := ⟨k _ _ h.2.1 h.2.2 h.1, h.2⟩
/-- a source of draws -/
structure Deal (st : Sto) (d c : Nat) : Prop where
  ne : d ≠ c
  at_ : ∃ b : Int, st[d]? = some (.lst [.ref c, .int b])
  cel : ∃ ns : List Int, st[c]? = some (.lst (ns.map .int)) ∧ ns.length ≤ 63
theorem Deal.fresh {st : Sto} {d c : Nat} (h : Deal st d c) : st.length ≠ d ∧ st.length ≠ c := by
  obtain ⟨_, ⟨b, h1⟩, ns, h2, _⟩ := h
  have := (List.getElem?_eq_some_iff.mp h1).1
  have := (List.getElem?_eq_some_iff.mp h2).1
  omega
theorem getNew {st : Sto} {n : Nat} {o u : Ob} (h : st[n]? = some o) : (st ++ [u])[n]? = some o := by
  rw [List.getElem?_append_left (List.getElem?_eq_some_iff.mp h).1]; exact h
theorem getLast {st : Sto} {u : Ob} : (st ++ [u])[st.length]? = some u := by simp
theorem Deal.new {st : Sto} {d c : Nat} {o : Ob} (h : Deal st d c) : Deal (st ++ [o]) d c :=
  ⟨h.ne, h.at_.imp fun b e => getNew e, h.cel.imp fun ns e => ⟨getNew e.1, e.2⟩⟩
theorem Deal.own {st : Sto} {d c : Nat} {ws : List W} (h : Deal st d c) : Own d c (st ++ [.lst ws]) st.length ws := ⟨getLast, h.fresh⟩
end Ci
/-! Cj1: single statements; numbers, lists of numbers. -/
namespace Ci
open PySem

def Ik (cl : Nat → List W → Sto → Res W) (a b : S) (en : En) (Q : Out → Sto → Prop) (k : Bool) (st : Sto) : Prop :=
  match k with
  | true => Wp (ex cl a en st) Q
  | false => Wp (ex cl b en st) Q
section
variable {cl : Nat → List W → Sto → Res W} {en : En} {st : Sto} {Q : Out → Sto → Prop} {a b : S} {e c : E} {es : Es}
theorem ik_true : Ik cl a b en Q true st = Wp (ex cl a en st) Q := rfl
theorem ik_false : Ik cl a b en Q false st = Wp (ex cl b en st) Q := rfl
theorem wp_skip : Wp (ex cl .skip en st) Q = Q (.nx en) st := by rw [ex, wp_ok]
theorem wp_brk : Wp (ex cl .brk en st) Q = Q (.bk en) st := by rw [ex, wp_ok]
theorem wp_cnt : Wp (ex cl .cnt en st) Q = Q (.ct en) st := by rw [ex, wp_ok]
theorem wp_retN : Wp (ex cl .retN en st) Q = Q (.rt .non) st := by rw [ex, wp_ok]
theorem wp_ret : Wp (ex cl (.ret e) en st) Q = Wp (ev cl e en st) fun w st1 => Q (.rt w) st1 := by rw [ex, wp_bind]; simp only [wp_ok]
theorem wp_set {i : Nat} : Wp (ex cl (.set i e) en st) Q = Wp (ev cl e en st) fun w st1 => Wp (setK (.nm i) en w st1) Q := by rw [ex, wp_bind]
theorem wp_par {is : List Nat} : Wp (ex cl (.par is es) en st) Q = Wp (evs cl es en st) fun ws st1 => Wp (setsK (tgsOf is) en ws st1) Q := by rw [ex, wp_bind]
theorem wp_unp {t : Tg} : Wp (ex cl (.unp t e) en st) Q = Wp (ev cl e en st) fun w st1 => Wp (setK t en w st1) Q := by rw [ex, wp_bind]
theorem wp_sto {o i : E} : Wp (ex cl (.sto o i e) en st) Q = Wp (ev cl e en st) fun v st1 => Wp (ev cl o en st1) fun x st2 => Wp (ev cl i en st2) fun y st3 => Wp (stoK en v x y st3) Q := by rw [ex]; simp only [wp_bind]
theorem wp_aug {i : Nat} {o : BinO} : Wp (ex cl (.aug i o e) en st) Q = Wp (varK en[i]? fun x => (ev cl e en st).bind (augK i o en x)) Q := by rw [ex]
theorem wp_xpr : Wp (ex cl (.xpr e) en st) Q = Wp (ev cl e en st) fun _ st1 => Q (.nx en) st1 := by rw [ex, wp_bind]; simp only [wp_ok]
theorem wp_ite : Wp (ex cl (.ite c a b) en st) Q = Wp (truR (ev cl c en st)) (Ik cl a b en Q) := by
  rw [ex, wp_bind]
  congr 1
  funext k st1
  cases k <;> rfl
theorem wp_whl : Wp (ex cl (.whl c b) en st) Q = Wp (whlL (fun en st => truR (ev cl c en st)) (fun en st => ex cl b en st) FU en st) Q := by rw [ex]
theorem wp_for {t : Tg} {it : It} : Wp (ex cl (.for_ t it b) en st) Q = Wp (evi cl it en st) fun src st1 => Wp (forL src.get (asg t) (fun en st => ex cl b en st) FU 0 en st1) Q := by rw [ex, wp_bind]
theorem wp_tru {r : Res W} {Q : Bool → Sto → Prop} : Wp (truR r) Q = Wp r fun w st => Wp (truK0 w st) Q := by unfold truR; rw [wp_bind]
end
/-! ### single parts, by what they get -/
section
variable {α : Type} {st : Sto} {Q : W → Sto → Prop} {QL : α → Sto → Prop} {p q : Sto → Res α}
theorem wp_of {a : W} : Wp (Res.of (some (a, st))) Q = Q a st := wp_ok
theorem retK_rt {w : W} : retK (.rt w) st = .ok w st := rfl
theorem retK_nx {e : En} : retK (.nx e) st = .ok .non st := rfl
theorem of_some {a : W} : Res.of (some (a, st)) = .ok a st := rfl
theorem tru_bl {b : Bool} : tru st (.bl b) = some b := rfl
theorem tru_int {i : Int} : tru st (.int i) = some (i != 0) := rfl
theorem tru_non : tru st .non = some false := rfl
theorem tru_tup {ws : List W} : tru st (.tup ws) = some (!ws.isEmpty) := rfl
theorem tru_frl {ws : List W} : tru st (.frl ws) = some (!ws.isEmpty) := rfl
theorem tru_lst {n : Nat} {ws : List W} (h : st[n]? = some (.lst ws)) : tru st (.ref n) = some (!ws.isEmpty) := by simp only [tru, h]
theorem tru_dct {n : Nat} {ws : List (L2.Key × W)} (h : st[n]? = some (.dct ws)) : tru st (.ref n) = some (!ws.isEmpty) := by simp only [tru, h]
theorem truK0_bl {b : Bool} : truK0 (.bl b) st = .ok b st := rfl
theorem truK0_int {i : Int} : truK0 (.int i) st = .ok (i != 0) st := rfl
theorem truK0_tup {ws : List W} : truK0 (.tup ws) st = .ok (!ws.isEmpty) st := rfl
theorem truK0_frl {ws : List W} : truK0 (.frl ws) st = .ok (!ws.isEmpty) st := rfl
theorem truK0_non : truK0 .non st = .ok false st := rfl
theorem truK0_lst {n : Nat} {ws : List W} (h : st[n]? = some (.lst ws)) : truK0 (.ref n) st = .ok (!ws.isEmpty) st := by simp only [truK0, tru_lst h]
theorem scK_bl {stop b : Bool} {k : Sto → Res W} : scK stop k (.bl b) st = if b = stop then .ok (.bl b) st else k st := rfl
theorem iteK_true : iteK p q true st = p st := rfl
theorem iteK_false : iteK p q false st = q st := rfl
theorem cmp_eq {x y : W} : cmp .eq x y st = eqD st x y := rfl
theorem cmp_ne {x y : W} : cmp .ne x y st = (eqD st x y).map (!·) := rfl
theorem cmp_lt {i j : Int} : cmp .lt (.int i) (.int j) st = some (decide (i < j)) := rfl
theorem cmp_le {i j : Int} : cmp .le (.int i) (.int j) st = some (decide (i ≤ j)) := rfl
theorem cmp_gt {i j : Int} : cmp .gt (.int i) (.int j) st = some (decide (j < i)) := rfl
theorem cmp_ge {i j : Int} : cmp .ge (.int i) (.int j) st = some (decide (j ≤ i)) := rfl
theorem cmp_in {x y : W} : cmp .isin x y st = inW st x y := rfl
theorem cmp_notin {x y : W} : cmp .notin x y st = (inW st x y).map (!·) := rfl
theorem cmp_isN {x : W} : cmp .isN x .non st = some (isNon x) := rfl
theorem cmp_notN {x : W} : cmp .notN x .non st = some (!isNon x) := rfl
theorem eqD_int {i j : Int} : eqD st (.int i) (.int j) = some (i == j) := rfl
theorem eqD_str {i j : Str} : eqD st (.str i) (.str j) = some (i == j) := rfl
theorem inW_tup {x : W} {ws : List W} : inW st x (.tup ws) = if flatW x && ws.all flatW then some (ws.any fun y => eqF y x) else none := rfl
theorem bin_int {o : BinO} {i j : Int} : bin o (.int i) (.int j) st = (binI o i j).map fun k => (.int k, st) := rfl
theorem binI_add {i j : Int} : binI .add i j = some (i + j) := rfl
theorem binI_sub {i j : Int} : binI .sub i j = some (i - j) := rfl
theorem binI_mod {i j : Int} : binI .mod i j = if decide (0 < j) then some (i % j) else none := rfl
theorem binI_fdiv {i j : Int} : binI .fdiv i j = if divOk j then some (i / j) else none := rfl
theorem binI_mul {i j : Int} : binI .mul i j = if small64 i || small64 j || bigOk i j then some (i * j) else none := rfl
theorem binI_pow {i j : Int} : binI .pow i j = if powOk i j then some (i ^ j.toNat) else none := rfl
theorem binI_shl {i j : Int} : binI .shl i j = if powOk i j then some (i * 2 ^ j.toNat) else none := rfl
theorem binI_shr {i j : Int} : binI .shr i j = if decide (0 ≤ j) then some (i / 2 ^ j.toNat) else none := rfl
theorem binI_mod_pos {i j : Int} (h : 0 < j) : binI .mod i j = some (i % j) := by rw [binI_mod, if_pos (decide_eq_true h)]
theorem negK_int {i : Int} : negK (.int i) st = .ok (.int (-i)) st := rfl
theorem lstK_ok {ws : List W} (h : ws.length ≤ 1000) : lstK ws st = newR st (.lst ws) := if_pos (Nat.le_trans h (by decide))
theorem tupK_ok {ws : List W} (h : ws.length ≤ 1000) : tupK ws st = .ok (.tup ws) st := if_pos (Nat.le_trans h (by decide))
theorem wp_callK {cl : Nat → List W → Sto → Res W} {f : Nat} {ws : List W} : Wp (callK cl f none ws st) Q = Wp (cl f ws st) Q := rfl
theorem bi_int {i : Int} : bi .int [.int i] st = some (.int i, st) := rfl
theorem bi_abs {i : Int} : bi .abs [.int i] st = some (.int (if i < 0 then -i else i), st) := rfl
theorem bi_repr {w : W} {d : PyData} (h : toD st w = some d) (h2 : reprOk d = true) : bi .repr [w] st = some (.str d.shown, st) := by
  show (match toD st w with | some d => if reprOk d then some (W.str d.shown, st) else none | none => none) = _
  rw [h]
  exact if_pos h2
theorem bi_len_lst {n : Nat} {ws : List W} (h : st[n]? = some (.lst ws)) : bi .len [.ref n] st = some (.int ws.length, st) := by
  show (match dctOf st (.ref n) with | some kvs => some (W.int kvs.length, st) | none => (seqOf st (.ref n)).map fun xs : List W => (W.int xs.length, st)) = _
  simp only [dctOf, seqOf, h]
  rfl
theorem bi_len_tup {ws : List W} : bi .len [.tup ws] st = some (.int ws.length, st) := rfl
theorem bi_len_frl {ws : List W} : bi .len [.frl ws] st = some (.int ws.length, st) := rfl
theorem isLK_lst {n : Nat} {ws : List W} {k : Sto → Res W} (h : st[n]? = some (.lst ws)) : isLK k (.ref n) st = k st := by simp only [isLK, lstOf, h]
theorem mt_append {n : Nat} {ws : List W} {y : W} (h : st[n]? = some (.lst ws)) (hl : ws.length < sizeLine) : mt .append (.ref n) [y] st = some (.non, st.set n (.lst (ws ++ [y]))) := by
  simp only [mt, h]; exact if_pos hl
theorem mt_pop {n : Nat} {ws : List W} {y : W} (h : st[n]? = some (.lst (ws ++ [y]))) : mt .pop (.ref n) [] st = some (y, st.set n (.lst ws)) := by
  simp only [mt, h, List.dropLast_concat]
  simp
theorem setK_nm {i : Nat} {en : En} {w : W} {Q : Out → Sto → Prop} (h : i < en.length) : Wp (setK (.nm i) en w st) Q = Q (.nx (en.set i (some w))) st := by
  unfold setK
  rw [asg, if_pos h]
  exact wp_ok
theorem keyK_str {y : W} {k : Sto → Res (List (L2.Key × W))} {s : Str} : keyK y k (.str s) st = (k st).bind fun r st3 => .ok ((.inr s, y) :: r) st3 := rfl
theorem keyK_int {y : W} {k : Sto → Res (List (L2.Key × W))} {s : Int} : keyK y k (.int s) st = (k st).bind fun r st3 => .ok ((.inl s, y) :: r) st3 := rfl
theorem dspK_ok {n : Nat} {kvs : List (L2.Key × W)} (h : st[n]? = some (.dct [])) (hl : kvs.length ≤ 15) : dspK n kvs st = .ok (.ref n) (st.set n (.dct (mergeW kvs))) := by
  simp only [dspK, h]
  exact if_pos hl
theorem set_last {o u : Ob} : (st ++ [o]).set st.length u = st ++ [u] := by
  rw [List.set_append_right _ _ (Nat.le_refl _)]; simp
theorem setK_tp {ts : Tgs} {en : En} {ws : List W} : setK (.tp ts) en (.tup ws) st = match asgs ts ws en with | some en1 => .ok (.nx en1) st | none => .bad := rfl
theorem wp_evs_cons {cl : Nat → List W → Sto → Res W} {a : E} {es : Es} {en : En} {Q : List W → Sto → Prop} : Wp (evs cl (.cons a es) en st) Q = Wp (ev cl a en st) fun x st1 => Wp (evs cl es en st1) fun xs st2 => Q (x :: xs) st2 := by
  rw [evs]; simp only [wp_bind, wp_ok]
theorem wp_ite2 {b : Bool} {p q : Sto → Res α} {QL : α → Sto → Prop} : Wp (iteK p q b st) QL = if b then Wp (p st) QL else Wp (q st) QL := by cases b <;> rfl
theorem bin_cat {m k : Nat} {a b : List W} (h1 : st[m]? = some (.lst a)) (h2 : st[k]? = some (.lst b)) (hl : a.length + b.length ≤ 16777216) : bin .add (.ref m) (.ref k) st = some (.ref st.length, st ++ [.lst (a ++ b)]) := by
  simp only [bin, h1, h2]
  exact if_pos hl
theorem rep_one {α : Type} (x : α) : ∀ k : Nat, (List.replicate k [x]).flatten = List.replicate k x
  | 0 => rfl
  | k + 1 => by rw [List.replicate_succ, List.flatten_cons, rep_one x k]; rfl
theorem bin_rep {m k : Nat} {x : W} (h1 : st[m]? = some (.lst [x])) (hk : k ≤ 1000000) : bin .mul (.ref m) (.int (k : Int)) st = some (.ref st.length, st ++ [.lst (List.replicate k x)]) := by
  simp only [bin, h1]
  rw [if_pos, Int.toNat_natCast, rep_one]
  · rfl
  · rw [Bool.and_eq_true]
    refine ⟨decide_eq_true ⟨by omega, by omega⟩, decide_eq_true ?_⟩
    rw [Int.toNat_natCast]
    show 1 * k ≤ 16777216
    omega
theorem cut_from {ws : List W} {k : Nat} (h : k ≤ ws.length) : cutW ws (some (k : Int)) none = ws.drop k := by
  unfold cutW
  rw [HT.sIx_nat, show HT.sIx ws.length ws.length none = ws.length from rfl, Nat.min_eq_left h, List.take_of_length_le (by rw [List.length_drop]; omega)]
theorem slW_lst {m : Nat} {ws : List W} {lo hi : Option Int} (h : st[m]? = some (.lst ws)) : slW (.ref m) lo hi st = some (.ref st.length, st ++ [.lst (cutW ws lo hi)]) := by
  simp only [slW, h]
  rfl
end
/-! ### numbers -/
theorem pds_ints (ρ : Nat → Option PyData) : ∀ ns : List Int, pds ρ (ns.map .int) = some (ns.map .int)
  | [] => rfl
  | n :: ns => by rw [List.map_cons, pds, pds_ints ρ ns]; rfl
theorem toD_int {st : Sto} {i : Int} : toD st (.int i) = some (.int i) := rfl
theorem toD_bl {st : Sto} {i : Bool} : toD st (.bl i) = some (.bool i) := rfl
theorem toD_non {st : Sto} : toD st .non = some .none := rfl
theorem toD_str {st : Sto} {s : Str} : toD st (.str s) = some (.str s) := rfl
theorem toD_ints {st : Sto} {n : Nat} {ns : List Int} (h : st[n]? = some (.lst (ns.map .int))) : toD st (.ref n) = some (.list (ns.map .int)) := by
  show rho st 9 n = _
  rw [rho, h]
  simp only [pds_ints]
  rfl
theorem canLay_ints : ∀ ns : List Int, PyData.canLayAll0 (ns.map PyData.int) = true
  | [] => by simp only [List.map_nil, PyData.canLayAll0]
  | n :: ns => by
    simp only [List.map_cons, PyData.canLayAll0, PyData.canLay0, canLay_ints ns, Bool.and_self]
theorem depthAll_ints : ∀ ns : List Int, PyData.depthAll (ns.map PyData.int) = 0
  | [] => by simp only [List.map_nil, PyData.depthAll]
  | n :: ns => by
    simp only [List.map_cons, PyData.depthAll, PyData.depth, depthAll_ints ns, Nat.max_self]
theorem shaped_ints (ns : List Int) : shapedB (.list (ns.map .int)) = true := by
  simp only [shapedB, SeqAt.shaped, PyData.canLay0, PyData.depth, canLay_ints, depthAll_ints]
  decide
theorem shaped_tupints (ns : List Int) : shapedB (.tuple (ns.map .int)) = true := by
  simp only [shapedB, SeqAt.shaped, PyData.canLay0, PyData.depth, canLay_ints, depthAll_ints]
  decide
theorem shaped_nil : shapedB (.list []) = true := by
  simp only [shapedB, SeqAt.shaped, PyData.canLay0, PyData.canLayAll0, PyData.depth, PyData.depthAll]
  decide
theorem eqvAll_ints : ∀ ns ms : List Int, PyData.eqvAll (ns.map .int) (ms.map .int) = decide (ns = ms)
  | [], [] => by simp [PyData.eqvAll]
  | [], _ :: _ => by simp [PyData.eqvAll]
  | _ :: _, [] => by simp [PyData.eqvAll]
  | n :: ns, m :: ms => by
    simp only [List.map_cons, PyData.eqvAll, PyData.eqv, eqvAll_ints ns ms]
    by_cases h : n = m <;> by_cases h2 : ns = ms <;> simp [h, h2]
theorem eqD_ints {st : Sto} {a b : Nat} {ns ms : List Int} (h1 : st[a]? = some (.lst (ns.map .int))) (h2 : st[b]? = some (.lst (ms.map .int))) : eqD st (.ref a) (.ref b) = some (decide (ns = ms)) := by
  show (match toD st (.ref a), toD st (.ref b) with
    | some d, some e => if shapedB d && shapedB e then some (PyData.eqv d e) else none
    | _, _ => none) = _
  rw [toD_ints h1, toD_ints h2]
  simp only [shaped_ints, Bool.and_self, if_true, PyData.eqv, eqvAll_ints]
theorem eqD_nil {st : Sto} {a b : Nat} {ns : List Int} (h1 : st[a]? = some (.lst (ns.map .int))) (h2 : st[b]? = some (.lst [])) : eqD st (.ref a) (.ref b) = some ns.isEmpty := by
  rw [eqD_ints (ms := []) h1 h2]
  cases ns <;> rfl
end Ci
/-! Cj2: the laws' source of draws. -/
namespace Ci
open PySem

def anyT : E := (.and (.cmp .ne (.ix (.var 0) (.con (.int 0))) (.lst .nil)) (.cmp .eq (.ix (.ix (.var 0) (.con (.int 0))) (.neg (.con (.int 1)))) (.con (.int 0))))
def anyB : S := (.xpr (.mt .pop (.ix (.var 0) (.con (.int 0))) .nil))
def anyR : S :=
  (.seq (.ite (.cmp .ne (.ix (.var 0) (.con (.int 0))) (.lst .nil)) (.seq (.set 2 (.bi .int (.cons (.mt .pop (.ix (.var 0) (.con (.int 0))) .nil) .nil)))
  (.seq (.xpr (.mt .append (.ix (.var 0) (.con (.int 0))) (.cons (.bin .fdiv (.var 2) (.var 1)) .nil)))
  (.ret (.bin .mod (.var 2) (.var 1))))) .skip)
  (.seq (.sto (.var 0) (.con (.int 1)) (.bin .mod (.bi .int (.cons (.bin .add (.bin .mul (.ix (.var 0) (.con (.int 1))) (.con (.int 40693))) (.con (.int 71))) .nil)) (.con (.int 2147483647))))
  (.ret (.bin .mod (.bi .int (.cons (.bin .fdiv (.ix (.var 0) (.con (.int 1))) (.con (.int 64))) .nil)) (.var 1)))))
def cAny : S := (.seq (.whl anyT anyB) anyR)
theorem atW_nat (ws : List W) (k : Nat) : atW ws (k : Int) = ws[k]? := by
  unfold atW L2.atI L2.ixN
  rw [if_pos (by omega)]
  by_cases h : k < ws.length
  · rw [if_pos (by omega), Option.bind_some]
    rfl
  · rw [if_neg (by omega), List.getElem?_eq_none (by omega)]
    rfl
theorem atW_0 (ws : List W) : atW ws 0 = ws[0]? := atW_nat ws 0
theorem atW_1 (ws : List W) : atW ws 1 = ws[1]? := atW_nat ws 1
theorem atW_2 (ws : List W) : atW ws 2 = ws[2]? := atW_nat ws 2
theorem atW_last (ws : List W) : atW ws (-1) = ws[ws.length - 1]? := by
  unfold atW L2.atI L2.ixN
  rw [if_neg (by omega)]
  by_cases h : 0 < ws.length
  · rw [if_pos (by omega), Option.bind_some]
    congr 1
    omega
  · rw [if_neg (by omega), List.getElem?_eq_none (by omega)]
    rfl
theorem sub_lst {st : Sto} {n : Nat} {ws : List W} {i : Int} (h : st[n]? = some (.lst ws)) : sub st (.ref n) (.int i) = atW ws i := by
  simp only [sub, dctOf, h, ixW]
theorem sub_tup {st : Sto} {ws : List W} {i : Int} : sub st (.tup ws) (.int i) = atW ws i := rfl
theorem sub_frl {st : Sto} {ws : List W} {i : Int} : sub st (.frl ws) (.int i) = atW ws i := rfl
section
variable {cl : Nat → List W → Sto → Res W} {d c : Nat} {st : Sto}
/-- a source of draws with so many great numbers -/
structure DealN (st : Sto) (d c : Nat) (b : Int) (ns : List Int) : Prop where
  ne : d ≠ c
  at_ : st[d]? = some (.lst [.ref c, .int b])
  cel : st[c]? = some (.lst (ns.map .int))
  few : ns.length ≤ 63
theorem Deal.n (h : Deal st d c) : ∃ b ns, DealN st d c b ns := let ⟨n, ⟨b, h1⟩, ns, h2, h3⟩ := h; ⟨b, ns, n, h1, h2, h3⟩
theorem DealN.deal {b : Int} {ns : List Int} (h : DealN st d c b ns) : Deal st d c := ⟨h.ne, ⟨b, h.at_⟩, ns, h.cel, h.few⟩
theorem DealN.new {b : Int} {ns : List Int} {o : Ob} (h : DealN st d c b ns) : DealN (st ++ [o]) d c b ns := ⟨h.ne, getNew h.at_, getNew h.cel, h.few⟩
theorem DealN.put {b : Int} {ns ms : List Int} (h : DealN st d c b ns) (hm : ms.length ≤ 63) : DealN (st.set c (.lst (ms.map .int))) d c b ms :=
  ⟨h.ne, by rw [List.getElem?_set_ne h.ne.symm]; exact h.at_, by rw [List.getElem?_set_self (List.getElem?_eq_some_iff.mp h.cel).1], hm⟩
theorem DealN.turn {b b' : Int} {ns : List Int} (h : DealN st d c b ns) : DealN (st.set d (.lst [.ref c, .int b'])) d c b' ns :=
  ⟨h.ne, by rw [List.getElem?_set_self (List.getElem?_eq_some_iff.mp h.at_).1], by rw [List.getElem?_set_ne h.ne]; exact h.cel, h.few⟩
theorem any_test {x : Int} {y : Option W} {b : Int} {ns : List Int} (D : DealN st d c b ns) (Q : Bool → Sto → Prop) (h : ∀ k, (k = true → ns ≠ []) → Q k (st ++ [.lst []])) :
    Wp (truR (ev cl anyT [some (.ref d), some (.int x), y] st)) Q := by
  unfold anyT
  rcases List.eq_nil_or_concat ns with e | ⟨ms, y, e⟩
  · subst e
    try simp -implicitDefEqProofs only [wp_ok, wp_bind, wp_noexc, wp_seq, wp_skip, wp_brk, wp_cnt, wp_retN, wp_ret, wp_set, wp_par, wp_unp, wp_sto, wp_xpr, wp_ite, wp_for, wp_whl, wp_tru, sk_nx, sk_rt, sk_bk, sk_ct, lk_nx, lk_ct, lk_bk, lk_rt, ik_true, ik_false, ev, evs, evo, evi, evc, evd, keyK_str, keyK_int, retK_rt, retK_nx, iteK_true, iteK_false, truK0_bl, truK0_int, truK0_tup, truK0_frl, truK0_non, scK_bl, wp_callK, cmpO, cmp_eq, cmp_ne, cmp_lt, cmp_le, cmp_gt, cmp_ge, cmp_isN, cmp_notN, eqD_int, eqD_str, bin_int, binI_add, binI_sub, of_some, negK_int, setK_nm, setK_tp, setsK, asg, asgs, tgsOf, intK, rngK, srcK, subO, startE, newR, new, bi_int, bi_abs, bi_len_tup, bi_len_frl,  Option.map_some, Option.map_none, Option.bind_some, List.map_cons, List.map_nil, List.length_cons, List.length_nil, List.length_append, List.length_map, List.length_set, List.cons_append, List.nil_append, List.getElem?_cons_zero, List.getElem?_cons_succ, List.set_cons_zero, List.set_cons_succ, if_true, if_false, Bool.false_eq_true, Bool.true_eq_false, Bool.not_true, Bool.not_false, decide_true, decide_false, Nat.reduceEqDiff, Nat.zero_lt_succ, List.replicate_succ, List.replicate_zero, Nat.reduceSub, Nat.reduceAdd, Nat.reduceLT, Nat.reduceLeDiff, Nat.zero_le, id, lstK_ok, tupK_ok, sub_lst D.at_, sub_lst D.new.at_, atW_0, eqD_nil D.new.cel getLast, List.isEmpty_nil, Bool.not_true]
    exact h false (fun z => by cases z)
  · have hc := D.new (o := .lst []).cel
    rw [e, List.concat_eq_append, List.map_append, List.map_cons, List.map_nil] at hc
    have he : ns.isEmpty = false := by rw [e]; simp
    have hl : ∀ u : List W, (u ++ [W.int y])[(u ++ [W.int y]).length - 1]? = some (.int y) := fun u => by simp
    try simp -implicitDefEqProofs only [wp_ok, wp_bind, wp_noexc, wp_seq, wp_skip, wp_brk, wp_cnt, wp_retN, wp_ret, wp_set, wp_par, wp_unp, wp_sto, wp_xpr, wp_ite, wp_for, wp_whl, wp_tru, sk_nx, sk_rt, sk_bk, sk_ct, lk_nx, lk_ct, lk_bk, lk_rt, ik_true, ik_false, ev, evs, evo, evi, evc, evd, keyK_str, keyK_int, retK_rt, retK_nx, iteK_true, iteK_false, truK0_bl, truK0_int, truK0_tup, truK0_frl, truK0_non, scK_bl, wp_callK, cmpO, cmp_eq, cmp_ne, cmp_lt, cmp_le, cmp_gt, cmp_ge, cmp_isN, cmp_notN, eqD_int, eqD_str, bin_int, binI_add, binI_sub, of_some, negK_int, setK_nm, setK_tp, setsK, asg, asgs, tgsOf, intK, rngK, srcK, subO, startE, newR, new, bi_int, bi_abs, bi_len_tup, bi_len_frl,  Option.map_some, Option.map_none, Option.bind_some, List.map_cons, List.map_nil, List.length_cons, List.length_nil, List.length_append, List.length_map, List.length_set, List.cons_append, List.nil_append, List.getElem?_cons_zero, List.getElem?_cons_succ, List.set_cons_zero, List.set_cons_succ, if_true, if_false, Bool.false_eq_true, Bool.true_eq_false, Bool.not_true, Bool.not_false, decide_true, decide_false, Nat.reduceEqDiff, Nat.zero_lt_succ, List.replicate_succ, List.replicate_zero, Nat.reduceSub, Nat.reduceAdd, Nat.reduceLT, Nat.reduceLeDiff, Nat.zero_le, id, lstK_ok, tupK_ok, sub_lst D.at_, sub_lst D.new.at_, atW_0, eqD_nil D.new.cel getLast, he, Bool.not_false]
    try rw [if_neg (by decide)]
    try simp -implicitDefEqProofs only [wp_ok, wp_bind, wp_noexc, wp_seq, wp_skip, wp_brk, wp_cnt, wp_retN, wp_ret, wp_set, wp_par, wp_unp, wp_sto, wp_xpr, wp_ite, wp_for, wp_whl, wp_tru, sk_nx, sk_rt, sk_bk, sk_ct, lk_nx, lk_ct, lk_bk, lk_rt, ik_true, ik_false, ev, evs, evo, evi, evc, evd, keyK_str, keyK_int, retK_rt, retK_nx, iteK_true, iteK_false, truK0_bl, truK0_int, truK0_tup, truK0_frl, truK0_non, scK_bl, wp_callK, cmpO, cmp_eq, cmp_ne, cmp_lt, cmp_le, cmp_gt, cmp_ge, cmp_isN, cmp_notN, eqD_int, eqD_str, bin_int, binI_add, binI_sub, of_some, negK_int, setK_nm, setK_tp, setsK, asg, asgs, tgsOf, intK, rngK, srcK, subO, startE, newR, new, bi_int, bi_abs, bi_len_tup, bi_len_frl,  Option.map_some, Option.map_none, Option.bind_some, List.map_cons, List.map_nil, List.length_cons, List.length_nil, List.length_append, List.length_map, List.length_set, List.cons_append, List.nil_append, List.getElem?_cons_zero, List.getElem?_cons_succ, List.set_cons_zero, List.set_cons_succ, if_true, if_false, Bool.false_eq_true, Bool.true_eq_false, Bool.not_true, Bool.not_false, decide_true, decide_false, Nat.reduceEqDiff, Nat.zero_lt_succ, List.replicate_succ, List.replicate_zero, Nat.reduceSub, Nat.reduceAdd, Nat.reduceLT, Nat.reduceLeDiff, Nat.zero_le, id, lstK_ok, tupK_ok, sub_lst D.at_, sub_lst D.new.at_, atW_0, sub_lst hc]
    rw [show (-1 : Int) = -1 from rfl, atW_last, hl]
    try simp -implicitDefEqProofs only [wp_ok, wp_bind, wp_noexc, wp_seq, wp_skip, wp_brk, wp_cnt, wp_retN, wp_ret, wp_set, wp_par, wp_unp, wp_sto, wp_xpr, wp_ite, wp_for, wp_whl, wp_tru, sk_nx, sk_rt, sk_bk, sk_ct, lk_nx, lk_ct, lk_bk, lk_rt, ik_true, ik_false, ev, evs, evo, evi, evc, evd, keyK_str, keyK_int, retK_rt, retK_nx, iteK_true, iteK_false, truK0_bl, truK0_int, truK0_tup, truK0_frl, truK0_non, scK_bl, wp_callK, cmpO, cmp_eq, cmp_ne, cmp_lt, cmp_le, cmp_gt, cmp_ge, cmp_isN, cmp_notN, eqD_int, eqD_str, bin_int, binI_add, binI_sub, of_some, negK_int, setK_nm, setK_tp, setsK, asg, asgs, tgsOf, intK, rngK, srcK, subO, startE, newR, new, bi_int, bi_abs, bi_len_tup, bi_len_frl,  Option.map_some, Option.map_none, Option.bind_some, List.map_cons, List.map_nil, List.length_cons, List.length_nil, List.length_append, List.length_map, List.length_set, List.cons_append, List.nil_append, List.getElem?_cons_zero, List.getElem?_cons_succ, List.set_cons_zero, List.set_cons_succ, if_true, if_false, Bool.false_eq_true, Bool.true_eq_false, Bool.not_true, Bool.not_false, decide_true, decide_false, Nat.reduceEqDiff, Nat.zero_lt_succ, List.replicate_succ, List.replicate_zero, Nat.reduceSub, Nat.reduceAdd, Nat.reduceLT, Nat.reduceLeDiff, Nat.zero_le, id, lstK_ok, tupK_ok]
    exact h _ fun _ => by rw [e]; simp
def DrawQ (st : Sto) (d c : Nat) (m : Int) (w : W) (st' : Sto) : Prop := ∃ r : Int, w = .int r ∧ 0 ≤ r ∧ r < m ∧ Deal st' d c ∧ Keep d c st st'
theorem any_rest {m : Int} {b : Int} {ns : List Int} (D : DealN st d c b ns) (hm : 0 < m) (hd : divOk m = true) :
    Wp (ex cl anyR [some (.ref d), some (.int m), none] st) fun o st' => Wp (retK o st') (DrawQ st d c m) := by
  unfold anyR
  have k1 : Keep d c st (st ++ [Ob.lst []]) := Keep.new
  have D1 := D.new (o := Ob.lst [])
  rcases List.eq_nil_or_concat ns with e | ⟨ms, y, e⟩
  · subst e
    have D2 := D1.turn (b' := (b * 40693 + 71) % 2147483647)
    have hs : setI (W.ref d) (W.int 1) (W.int ((b * 40693 + 71) % 2147483647)) (st ++ [Ob.lst []]) = some ((st ++ [Ob.lst []]).set d (Ob.lst [W.ref c, W.int ((b * 40693 + 71) % 2147483647)])) := by
      simp only [setI, D1.at_]
      rfl
    have hmul : binI .mul b 40693 = some (b * 40693) := by rw [binI_mul, if_pos (by simp [small64])]
    have hf : ∀ x : Int, binI .fdiv x 64 = some (x / 64) := fun x => by rw [binI_fdiv, if_pos (by decide)]
    have hmo : ∀ x : Int, binI .mod x 2147483647 = some (x % 2147483647) := fun x => binI_mod_pos (by decide)
    try simp -implicitDefEqProofs only [wp_ok, wp_bind, wp_noexc, wp_seq, wp_skip, wp_brk, wp_cnt, wp_retN, wp_ret, wp_set, wp_par, wp_unp, wp_sto, wp_xpr, wp_ite, wp_for, wp_whl, wp_tru, sk_nx, sk_rt, sk_bk, sk_ct, lk_nx, lk_ct, lk_bk, lk_rt, ik_true, ik_false, ev, evs, evo, evi, evc, evd, keyK_str, keyK_int, retK_rt, retK_nx, iteK_true, iteK_false, truK0_bl, truK0_int, truK0_tup, truK0_frl, truK0_non, scK_bl, wp_callK, cmpO, cmp_eq, cmp_ne, cmp_lt, cmp_le, cmp_gt, cmp_ge, cmp_isN, cmp_notN, eqD_int, eqD_str, bin_int, binI_add, binI_sub, of_some, negK_int, setK_nm, setK_tp, setsK, asg, asgs, tgsOf, intK, rngK, srcK, subO, startE, newR, new, bi_int, bi_abs, bi_len_tup, bi_len_frl,  Option.map_some, Option.map_none, Option.bind_some, List.map_cons, List.map_nil, List.length_cons, List.length_nil, List.length_append, List.length_map, List.length_set, List.cons_append, List.nil_append, List.getElem?_cons_zero, List.getElem?_cons_succ, List.set_cons_zero, List.set_cons_succ, if_true, if_false, Bool.false_eq_true, Bool.true_eq_false, Bool.not_true, Bool.not_false, decide_true, decide_false, Nat.reduceEqDiff, Nat.zero_lt_succ, List.replicate_succ, List.replicate_zero, Nat.reduceSub, Nat.reduceAdd, Nat.reduceLT, Nat.reduceLeDiff, Nat.zero_le, id, lstK_ok, tupK_ok, sub_lst D.at_, sub_lst D1.at_, sub_lst D2.at_, atW_0, atW_1, eqD_nil D1.cel getLast, List.isEmpty_nil, Bool.not_true, hmul, hf, hmo, binI_mod_pos hm, hs, stoK]
    exact ⟨_, rfl, Int.emod_nonneg _ (by omega), Int.emod_lt_of_pos _ hm, D2.deal, k1.trans (Keep.set (.inl rfl))⟩
  · have he : ns.isEmpty = false := by rw [e]; simp
    have hc := D1.cel
    have e' : ns.map W.int = ms.map W.int ++ [W.int y] := by rw [e]; simp
    rw [e'] at hc
    have hfew : (ms ++ [y / m]).length ≤ 63 := by have := D.few; rw [e] at this; simpa using this
    have D3 := D1.put (ms := ms) (by simp at hfew; omega)
    have D4 := D3.put (ms := ms ++ [y / m]) hfew
    have hl : (ms.map W.int).length < sizeLine := by rw [List.length_map]; simp at hfew; unfold sizeLine; omega
    have hf : binI .fdiv y m = some (y / m) := by rw [binI_fdiv, if_pos hd]
    have hp := mt_pop hc
    have ha := mt_append (y := W.int (y / m)) D3.cel hl
    try simp -implicitDefEqProofs only [wp_ok, wp_bind, wp_noexc, wp_seq, wp_skip, wp_brk, wp_cnt, wp_retN, wp_ret, wp_set, wp_par, wp_unp, wp_sto, wp_xpr, wp_ite, wp_for, wp_whl, wp_tru, sk_nx, sk_rt, sk_bk, sk_ct, lk_nx, lk_ct, lk_bk, lk_rt, ik_true, ik_false, ev, evs, evo, evi, evc, evd, keyK_str, keyK_int, retK_rt, retK_nx, iteK_true, iteK_false, truK0_bl, truK0_int, truK0_tup, truK0_frl, truK0_non, scK_bl, wp_callK, cmpO, cmp_eq, cmp_ne, cmp_lt, cmp_le, cmp_gt, cmp_ge, cmp_isN, cmp_notN, eqD_int, eqD_str, bin_int, binI_add, binI_sub, of_some, negK_int, setK_nm, setK_tp, setsK, asg, asgs, tgsOf, intK, rngK, srcK, subO, startE, newR, new, bi_int, bi_abs, bi_len_tup, bi_len_frl,  Option.map_some, Option.map_none, Option.bind_some, List.map_cons, List.map_nil, List.length_cons, List.length_nil, List.length_append, List.length_map, List.length_set, List.cons_append, List.nil_append, List.getElem?_cons_zero, List.getElem?_cons_succ, List.set_cons_zero, List.set_cons_succ, if_true, if_false, Bool.false_eq_true, Bool.true_eq_false, Bool.not_true, Bool.not_false, decide_true, decide_false, Nat.reduceEqDiff, Nat.zero_lt_succ, List.replicate_succ, List.replicate_zero, Nat.reduceSub, Nat.reduceAdd, Nat.reduceLT, Nat.reduceLeDiff, Nat.zero_le, id, lstK_ok, tupK_ok, sub_lst D.at_, sub_lst D1.at_, atW_0, eqD_nil D1.cel getLast, he, Bool.not_false, isLK_lst D1.cel, hp, sub_lst D3.at_, isLK_lst D3.cel, hf, ha, binI_mod_pos hm]
    rw [List.map_append, List.map_cons, List.map_nil] at D4
    exact ⟨_, rfl, Int.emod_nonneg _ (by omega), Int.emod_lt_of_pos _ hm, D4.deal, (k1.trans (Keep.set (.inr rfl))).trans (Keep.set (.inr rfl))⟩
/-- a draw: a number from 0 to b - 1, the source goes on -/
theorem any_ok {tab : List Fd} {n i : Nat} {m : Int} (ht : tab[i]? = some ⟨2, 3, cAny⟩) (D : Deal st d c) (hm : 0 < m) (hd : divOk m = true) :
    Wp (run tab (n + 1) i [.ref d, .int m] st) (DrawQ st d c m) := by
  refine wp_run ht rfl ?_
  obtain ⟨b, ns, D⟩ := D.n
  unfold cAny
  simp only [startE, List.map_cons, List.map_nil, List.length_cons, List.length_nil, Nat.reduceAdd, Nat.reduceSub, List.replicate_succ, List.replicate_zero, List.cons_append, List.nil_append, wp_seq, wp_whl]
  refine wp_whlL (fun k en st' => en = [some (.ref d), some (.int m), none] ∧ ∃ ns, DealN st' d c b ns ∧ Keep d c st st' ∧ k = ns.length) ?_ FU ns.length _ _ (Nat.lt_of_le_of_lt D.few (by decide)) ⟨rfl, ns, D, Keep.refl, rfl⟩
  rintro k en st' ⟨rfl, ns, D, kp, rfl⟩
  refine any_test D _ fun k hk => ?_
  cases k with
  | false =>
    refine Wp.mono (any_rest D.new hm hd) fun o st2 q => q.mono ?_
    rintro w st3 ⟨r, h1, h2, h3, h4, h5⟩
    exact ⟨r, h1, h2, h3, h4, (kp.trans Keep.new).trans h5⟩
  | true =>
    have hn := hk rfl
    have D1 := D.new (o := Ob.lst [])
    rcases List.eq_nil_or_concat ns with e | ⟨ms, y, e⟩
    · exact absurd e hn
    · have hc := D1.cel
      have e' : ns.map W.int = ms.map W.int ++ [W.int y] := by rw [e]; simp
      rw [e'] at hc
      have hfew : ms.length + 1 ≤ 63 := by have := D.few; rw [e] at this; simpa using this
      have D3 := D1.put (ms := ms) (by omega)
      have hp := mt_pop hc
      refine ⟨by rw [e]; simp, ?_⟩
      unfold anyB
      try simp -implicitDefEqProofs only [wp_ok, wp_bind, wp_noexc, wp_seq, wp_skip, wp_brk, wp_cnt, wp_retN, wp_ret, wp_set, wp_par, wp_unp, wp_sto, wp_xpr, wp_ite, wp_for, wp_whl, wp_tru, sk_nx, sk_rt, sk_bk, sk_ct, lk_nx, lk_ct, lk_bk, lk_rt, ik_true, ik_false, ev, evs, evo, evi, evc, evd, keyK_str, keyK_int, retK_rt, retK_nx, iteK_true, iteK_false, truK0_bl, truK0_int, truK0_tup, truK0_frl, truK0_non, scK_bl, wp_callK, cmpO, cmp_eq, cmp_ne, cmp_lt, cmp_le, cmp_gt, cmp_ge, cmp_isN, cmp_notN, eqD_int, eqD_str, bin_int, binI_add, binI_sub, of_some, negK_int, setK_nm, setK_tp, setsK, asg, asgs, tgsOf, intK, rngK, srcK, subO, startE, newR, new, bi_int, bi_abs, bi_len_tup, bi_len_frl,  Option.map_some, Option.map_none, Option.bind_some, List.map_cons, List.map_nil, List.length_cons, List.length_nil, List.length_append, List.length_map, List.length_set, List.cons_append, List.nil_append, List.getElem?_cons_zero, List.getElem?_cons_succ, List.set_cons_zero, List.set_cons_succ, if_true, if_false, Bool.false_eq_true, Bool.true_eq_false, Bool.not_true, Bool.not_false, decide_true, decide_false, Nat.reduceEqDiff, Nat.zero_lt_succ, List.replicate_succ, List.replicate_zero, Nat.reduceSub, Nat.reduceAdd, Nat.reduceLT, Nat.reduceLeDiff, Nat.zero_le, id, lstK_ok, tupK_ok, sub_lst D1.at_, atW_0, isLK_lst D1.cel, hp]
      exact ⟨ms.length, by rw [e]; simp, by trivial, ms, D3, (kp.trans Keep.new).trans (Keep.set (.inr rfl)), rfl⟩
end
end Ci
/-! Cj3: one of some things; the source drawn from the script. -/
namespace Ci
open PySem

def cOf (f : Nat) : S := (.ret (.ix (.var 1) (.call f none (.cons (.var 0) (.cons (.bi .len (.cons (.var 1) .nil)) .nil)))))
def cMixed (f : Nat) : S :=
  (.seq (.par [2, 3] (.cons (.bi .list (.cons (.var 1) .nil)) (.cons (.lst .nil) .nil)))
  (.seq (.whl (.cmp .ne (.var 2) (.lst .nil)) (.xpr (.mt .append (.var 3) (.cons (.mt .popAt (.var 2) (.cons (.call f none (.cons (.var 0) (.cons (.bi .len (.cons (.var 2) .nil)) .nil))) .nil)) .nil))))
  (.ret (.var 3))))
theorem divOk_len {n : Nat} (h0 : 0 < n) (h : n < 1073741824) : divOk (n : Int) = true := by
  unfold divOk
  rw [decide_eq_true (by omega : 0 < (n : Int)), decide_eq_true (by omega : (n : Int) < 1073741824)]
  rfl
section
variable {tab : List Fd} {n i f : Nat} {st : Sto} {d c : Nat}
def OfQ (st : Sto) (d c : Nat) (ws : List W) (w : W) (st' : Sto) : Prop := w ∈ ws ∧ Deal st' d c ∧ Keep d c st st'
theorem of_ok {a : Nat} {ws : List W} (hf : tab[f]? = some ⟨2, 3, cAny⟩) (ht : tab[i]? = some ⟨2, 2, cOf f⟩) (D : Deal st d c) (O : Own d c st a ws) (h0 : 0 < ws.length) (h1 : ws.length < 1073741824) :
    Wp (run tab (n + 2) i [.ref d, .ref a] st) (OfQ st d c ws) := by
  refine wp_run ht rfl ?_
  unfold cOf
  try simp -implicitDefEqProofs only [wp_ok, wp_bind, wp_noexc, wp_seq, wp_skip, wp_brk, wp_cnt, wp_retN, wp_ret, wp_set, wp_par, wp_unp, wp_sto, wp_xpr, wp_ite, wp_for, wp_whl, wp_tru, sk_nx, sk_rt, sk_bk, sk_ct, lk_nx, lk_ct, lk_bk, lk_rt, ik_true, ik_false, ev, evs, evo, evi, evc, evd, keyK_str, keyK_int, retK_rt, retK_nx, iteK_true, iteK_false, truK0_bl, truK0_int, truK0_tup, truK0_frl, truK0_non, scK_bl, wp_callK, cmpO, cmp_eq, cmp_ne, cmp_lt, cmp_le, cmp_gt, cmp_ge, cmp_isN, cmp_notN, eqD_int, eqD_str, bin_int, binI_add, binI_sub, of_some, negK_int, setK_nm, setK_tp, setsK, asg, asgs, tgsOf, intK, rngK, srcK, subO, startE, newR, new, bi_int, bi_abs, bi_len_tup, bi_len_frl,  Option.map_some, Option.map_none, Option.bind_some, List.map_cons, List.map_nil, List.length_cons, List.length_nil, List.length_append, List.length_map, List.length_set, List.cons_append, List.nil_append, List.getElem?_cons_zero, List.getElem?_cons_succ, List.set_cons_zero, List.set_cons_succ, if_true, if_false, Bool.false_eq_true, Bool.true_eq_false, Bool.not_true, Bool.not_false, decide_true, decide_false, Nat.reduceEqDiff, Nat.zero_lt_succ, List.replicate_succ, List.replicate_zero, Nat.reduceSub, Nat.reduceAdd, Nat.reduceLT, Nat.reduceLeDiff, Nat.zero_le, id, lstK_ok, tupK_ok, bi_len_lst O.1]
  refine Wp.mono (any_ok hf D (by omega) (divOk_len h0 h1)) ?_
  rintro w st1 ⟨r, rfl, r0, r1, D1, k⟩
  obtain ⟨m, rfl⟩ := Int.eq_ofNat_of_zero_le r0
  have hm : m < ws.length := by omega
  have e : sub st1 (.ref a) (.int (m : Int)) = some ws[m] := by rw [sub_lst (O.keep k).1, atW_nat, List.getElem?_eq_getElem hm]
  try simp -implicitDefEqProofs only [wp_ok, wp_bind, wp_noexc, wp_seq, wp_skip, wp_brk, wp_cnt, wp_retN, wp_ret, wp_set, wp_par, wp_unp, wp_sto, wp_xpr, wp_ite, wp_for, wp_whl, wp_tru, sk_nx, sk_rt, sk_bk, sk_ct, lk_nx, lk_ct, lk_bk, lk_rt, ik_true, ik_false, ev, evs, evo, evi, evc, evd, keyK_str, keyK_int, retK_rt, retK_nx, iteK_true, iteK_false, truK0_bl, truK0_int, truK0_tup, truK0_frl, truK0_non, scK_bl, wp_callK, cmpO, cmp_eq, cmp_ne, cmp_lt, cmp_le, cmp_gt, cmp_ge, cmp_isN, cmp_notN, eqD_int, eqD_str, bin_int, binI_add, binI_sub, of_some, negK_int, setK_nm, setK_tp, setsK, asg, asgs, tgsOf, intK, rngK, srcK, subO, startE, newR, new, bi_int, bi_abs, bi_len_tup, bi_len_frl,  Option.map_some, Option.map_none, Option.bind_some, List.map_cons, List.map_nil, List.length_cons, List.length_nil, List.length_append, List.length_map, List.length_set, List.cons_append, List.nil_append, List.getElem?_cons_zero, List.getElem?_cons_succ, List.set_cons_zero, List.set_cons_succ, if_true, if_false, Bool.false_eq_true, Bool.true_eq_false, Bool.not_true, Bool.not_false, decide_true, decide_false, Nat.reduceEqDiff, Nat.zero_lt_succ, List.replicate_succ, List.replicate_zero, Nat.reduceSub, Nat.reduceAdd, Nat.reduceLT, Nat.reduceLeDiff, Nat.zero_le, id, lstK_ok, tupK_ok, e]
  exact ⟨List.getElem_mem hm, D1, k⟩
theorem of_tup {ws : List W} (hf : tab[f]? = some ⟨2, 3, cAny⟩) (ht : tab[i]? = some ⟨2, 2, cOf f⟩) (D : Deal st d c) (h0 : 0 < ws.length) (h1 : ws.length < 1073741824) :
    Wp (run tab (n + 2) i [.ref d, .tup ws] st) (OfQ st d c ws) := by
  refine wp_run ht rfl ?_
  unfold cOf
  try simp -implicitDefEqProofs only [wp_ok, wp_bind, wp_noexc, wp_seq, wp_skip, wp_brk, wp_cnt, wp_retN, wp_ret, wp_set, wp_par, wp_unp, wp_sto, wp_xpr, wp_ite, wp_for, wp_whl, wp_tru, sk_nx, sk_rt, sk_bk, sk_ct, lk_nx, lk_ct, lk_bk, lk_rt, ik_true, ik_false, ev, evs, evo, evi, evc, evd, keyK_str, keyK_int, retK_rt, retK_nx, iteK_true, iteK_false, truK0_bl, truK0_int, truK0_tup, truK0_frl, truK0_non, scK_bl, wp_callK, cmpO, cmp_eq, cmp_ne, cmp_lt, cmp_le, cmp_gt, cmp_ge, cmp_isN, cmp_notN, eqD_int, eqD_str, bin_int, binI_add, binI_sub, of_some, negK_int, setK_nm, setK_tp, setsK, asg, asgs, tgsOf, intK, rngK, srcK, subO, startE, newR, new, bi_int, bi_abs, bi_len_tup, bi_len_frl,  Option.map_some, Option.map_none, Option.bind_some, List.map_cons, List.map_nil, List.length_cons, List.length_nil, List.length_append, List.length_map, List.length_set, List.cons_append, List.nil_append, List.getElem?_cons_zero, List.getElem?_cons_succ, List.set_cons_zero, List.set_cons_succ, if_true, if_false, Bool.false_eq_true, Bool.true_eq_false, Bool.not_true, Bool.not_false, decide_true, decide_false, Nat.reduceEqDiff, Nat.zero_lt_succ, List.replicate_succ, List.replicate_zero, Nat.reduceSub, Nat.reduceAdd, Nat.reduceLT, Nat.reduceLeDiff, Nat.zero_le, id, lstK_ok, tupK_ok]
  refine Wp.mono (any_ok hf D (by omega) (divOk_len h0 h1)) ?_
  rintro w st1 ⟨r, rfl, r0, r1, D1, k⟩
  obtain ⟨m, rfl⟩ := Int.eq_ofNat_of_zero_le r0
  have hm : m < ws.length := by omega
  have e : sub st1 (.tup ws) (.int (m : Int)) = some ws[m] := by rw [sub_tup, atW_nat, List.getElem?_eq_getElem hm]
  try simp -implicitDefEqProofs only [wp_ok, wp_bind, wp_noexc, wp_seq, wp_skip, wp_brk, wp_cnt, wp_retN, wp_ret, wp_set, wp_par, wp_unp, wp_sto, wp_xpr, wp_ite, wp_for, wp_whl, wp_tru, sk_nx, sk_rt, sk_bk, sk_ct, lk_nx, lk_ct, lk_bk, lk_rt, ik_true, ik_false, ev, evs, evo, evi, evc, evd, keyK_str, keyK_int, retK_rt, retK_nx, iteK_true, iteK_false, truK0_bl, truK0_int, truK0_tup, truK0_frl, truK0_non, scK_bl, wp_callK, cmpO, cmp_eq, cmp_ne, cmp_lt, cmp_le, cmp_gt, cmp_ge, cmp_isN, cmp_notN, eqD_int, eqD_str, bin_int, binI_add, binI_sub, of_some, negK_int, setK_nm, setK_tp, setsK, asg, asgs, tgsOf, intK, rngK, srcK, subO, startE, newR, new, bi_int, bi_abs, bi_len_tup, bi_len_frl,  Option.map_some, Option.map_none, Option.bind_some, List.map_cons, List.map_nil, List.length_cons, List.length_nil, List.length_append, List.length_map, List.length_set, List.cons_append, List.nil_append, List.getElem?_cons_zero, List.getElem?_cons_succ, List.set_cons_zero, List.set_cons_succ, if_true, if_false, Bool.false_eq_true, Bool.true_eq_false, Bool.not_true, Bool.not_false, decide_true, decide_false, Nat.reduceEqDiff, Nat.zero_lt_succ, List.replicate_succ, List.replicate_zero, Nat.reduceSub, Nat.reduceAdd, Nat.reduceLT, Nat.reduceLeDiff, Nat.zero_le, id, lstK_ok, tupK_ok, e]
  exact ⟨List.getElem_mem hm, D1, k⟩
end

def cDraw : S :=
  (.seq (.set 2 (.lc [4] (.nm 4) (.val (.sl (.var 0) .nil (.cons (.con (.int 48)) .nil))) .nil (.bi .abs (.cons (.bi .int (.cons (.var 4) .nil)) .nil))))
  (.seq (.set 3 (.bin .add (.con (.int 7919)) (.bin .mul (.con (.int 104729)) (.var 1))))
  (.seq (.for_ (.nm 4) (.val (.var 2)) (.set 3 (.bin .mod (.bi .int (.cons (.bin .add (.bin .add (.bin .mul (.var 3) (.con (.int 48271))) (.bin .mod (.var 4) (.con (.int 2147483549)))) (.con (.int 11))) .nil)) (.con (.int 2147483647)))))
  (.ret (.lst (.cons (.rev (.lc [4] (.nm 4) (.val (.var 2)) (.cons (.cmp .ge (.var 4) (.bin .pow (.con (.int 10)) (.con (.int 18)))) .nil) (.var 4))) (.cons (.var 3) .nil)))))))
theorem cut48 (ns : List Int) : cutW (ns.map W.int) none (some 48) = (ns.take (min 48 ns.length)).map W.int := by
  unfold cutW
  rw [show HT.sIx (ns.map W.int).length 0 none = 0 from rfl, show HT.sIx (ns.map W.int).length (ns.map W.int).length (some 48) = min 48 (ns.map W.int).length from HT.sIx_nat _ _ 48]
  simp [List.map_take]
theorem srcOf_lst {st : Sto} {n : Nat} {ws : List W} (h : st[n]? = some (.lst ws)) : srcOf st (.ref n) = some (.live n) := by simp only [srcOf, h]
theorem get_live {st : Sto} {n k : Nat} {ws : List W} (h : st[n]? = some (.lst ws)) : (Src.live n).get st k = some ws[k]? := by simp only [Src.get, h]
theorem slW_frl {ws : List W} {lo hi : Option Int} {st : Sto} : slW (.frl ws) lo hi st = some (.ref st.length, st ++ [.lst (cutW ws lo hi)]) := rfl
theorem revW_lst {st : Sto} {n : Nat} {ws : List W} (h : st[n]? = some (.lst ws)) : revW (.ref n) st = some (.ref st.length, st ++ [.lst ws.reverse]) := by
  simp only [revW, lstOf, h]
  rfl
def DrawnQ (st : Sto) (w : W) (st' : Sto) : Prop := ∃ d c, w = .ref d ∧ Deal st' d c ∧ ∀ (m : Nat) (o : Ob), st[m]? = some o → st'[m]? = some o ∧ m ≠ d ∧ m ≠ c
theorem draw_ok {tab : List Fd} {n i : Nat} {st : Sto} {ns : List Int} {salt : Int} (ht : tab[i]? = some ⟨2, 5, cDraw⟩) (hs : small64 salt = true) (hl : ns.length ≤ 63) :
    Wp (run tab (n + 1) i [.frl (ns.map .int), .int salt] st) (DrawnQ st) := by
  refine wp_run ht rfl ?_
  unfold cDraw
  have h1 : binI .mul 104729 salt = some (104729 * salt) := by rw [binI_mul, if_pos (by rw [hs]; simp)]
  try simp -implicitDefEqProofs only [wp_ok, wp_bind, wp_noexc, wp_seq, wp_skip, wp_brk, wp_cnt, wp_retN, wp_ret, wp_set, wp_par, wp_unp, wp_sto, wp_xpr, wp_ite, wp_for, wp_whl, wp_tru, sk_nx, sk_rt, sk_bk, sk_ct, lk_nx, lk_ct, lk_bk, lk_rt, ik_true, ik_false, ev, evs, evo, evi, evc, evd, keyK_str, keyK_int, retK_rt, retK_nx, iteK_true, iteK_false, truK0_bl, truK0_int, truK0_tup, truK0_frl, truK0_non, scK_bl, wp_callK, cmpO, cmp_eq, cmp_ne, cmp_lt, cmp_le, cmp_gt, cmp_ge, cmp_isN, cmp_notN, eqD_int, eqD_str, bin_int, binI_add, binI_sub, of_some, negK_int, setK_nm, setK_tp, setsK, asg, asgs, tgsOf, intK, rngK, srcK, subO, startE, newR, new, bi_int, bi_abs, bi_len_tup, bi_len_frl,  Option.map_some, Option.map_none, Option.bind_some, List.map_cons, List.map_nil, List.length_cons, List.length_nil, List.length_append, List.length_map, List.length_set, List.cons_append, List.nil_append, List.getElem?_cons_zero, List.getElem?_cons_succ, List.set_cons_zero, List.set_cons_succ, if_true, if_false, Bool.false_eq_true, Bool.true_eq_false, Bool.not_true, Bool.not_false, decide_true, decide_false, Nat.reduceEqDiff, Nat.zero_lt_succ, List.replicate_succ, List.replicate_zero, Nat.reduceSub, Nat.reduceAdd, Nat.reduceLT, Nat.reduceLeDiff, Nat.zero_le, id, lstK_ok, tupK_ok, slW_frl, cut48]
  rw [srcOf_lst getLast]
  try simp -implicitDefEqProofs only [wp_ok, wp_bind, wp_noexc, wp_seq, wp_skip, wp_brk, wp_cnt, wp_retN, wp_ret, wp_set, wp_par, wp_unp, wp_sto, wp_xpr, wp_ite, wp_for, wp_whl, wp_tru, sk_nx, sk_rt, sk_bk, sk_ct, lk_nx, lk_ct, lk_bk, lk_rt, ik_true, ik_false, ev, evs, evo, evi, evc, evd, keyK_str, keyK_int, retK_rt, retK_nx, iteK_true, iteK_false, truK0_bl, truK0_int, truK0_tup, truK0_frl, truK0_non, scK_bl, wp_callK, cmpO, cmp_eq, cmp_ne, cmp_lt, cmp_le, cmp_gt, cmp_ge, cmp_isN, cmp_notN, eqD_int, eqD_str, bin_int, binI_add, binI_sub, of_some, negK_int, setK_nm, setK_tp, setsK, asg, asgs, tgsOf, intK, rngK, srcK, subO, startE, newR, new, bi_int, bi_abs, bi_len_tup, bi_len_frl,  Option.map_some, Option.map_none, Option.bind_some, List.map_cons, List.map_nil, List.length_cons, List.length_nil, List.length_append, List.length_map, List.length_set, List.cons_append, List.nil_append, List.getElem?_cons_zero, List.getElem?_cons_succ, List.set_cons_zero, List.set_cons_succ, if_true, if_false, Bool.false_eq_true, Bool.true_eq_false, Bool.not_true, Bool.not_false, decide_true, decide_false, Nat.reduceEqDiff, Nat.zero_lt_succ, List.replicate_succ, List.replicate_zero, Nat.reduceSub, Nat.reduceAdd, Nat.reduceLT, Nat.reduceLeDiff, Nat.zero_le, id, lstK_ok, tupK_ok]
  obtain ⟨cells, hcells⟩ : ∃ x, x = ns.take (min 48 ns.length) := ⟨_, rfl⟩
  obtain ⟨st1, hst1⟩ : ∃ x : Sto, x = st ++ [Ob.lst (cells.map W.int)] := ⟨_, rfl⟩
  have hlen : st.length + 1 = st1.length := by rw [hst1]; simp
  rw [← hcells, ← hst1, hlen]
  have hcl : cells.length ≤ 63 := by rw [hcells, List.length_take]; omega
  have g1 : st1[st.length]? = some (.lst (cells.map W.int)) := by rw [hst1]; exact getLast
  have old1 : ∀ (m : Nat) (o : Ob), st[m]? = some o → st1[m]? = some o := fun m o h => by rw [hst1]; exact getNew h
  refine wp_lcL (cells.map W.int) (fun k st' => ∃ ms : List Int, ms.length = k ∧ st' = st1 ++ [Ob.lst (ms.map W.int)]) ?_ ?_ ?_ FU 0 _ (Nat.zero_le _) ?_ ⟨[], rfl, rfl⟩
  · rintro k st' ⟨ms, _, rfl⟩
    exact get_live (getNew g1)
  · rintro k w st' hw ⟨ms, hk, rfl⟩
    rw [List.getElem?_map] at hw
    obtain ⟨x, hx, rfl⟩ := Option.map_eq_some_iff.mp hw
    have hkl := (List.getElem?_eq_some_iff.mp hx).1
    refine ⟨_, rfl, ?_⟩
    try simp -implicitDefEqProofs only [wp_ok, wp_bind, wp_noexc, wp_seq, wp_skip, wp_brk, wp_cnt, wp_retN, wp_ret, wp_set, wp_par, wp_unp, wp_sto, wp_xpr, wp_ite, wp_for, wp_whl, wp_tru, sk_nx, sk_rt, sk_bk, sk_ct, lk_nx, lk_ct, lk_bk, lk_rt, ik_true, ik_false, ev, evs, evo, evi, evc, evd, keyK_str, keyK_int, retK_rt, retK_nx, iteK_true, iteK_false, truK0_bl, truK0_int, truK0_tup, truK0_frl, truK0_non, scK_bl, wp_callK, cmpO, cmp_eq, cmp_ne, cmp_lt, cmp_le, cmp_gt, cmp_ge, cmp_isN, cmp_notN, eqD_int, eqD_str, bin_int, binI_add, binI_sub, of_some, negK_int, setK_nm, setK_tp, setsK, asg, asgs, tgsOf, intK, rngK, srcK, subO, startE, newR, new, bi_int, bi_abs, bi_len_tup, bi_len_frl,  Option.map_some, Option.map_none, Option.bind_some, List.map_cons, List.map_nil, List.length_cons, List.length_nil, List.length_append, List.length_map, List.length_set, List.cons_append, List.nil_append, List.getElem?_cons_zero, List.getElem?_cons_succ, List.set_cons_zero, List.set_cons_succ, if_true, if_false, Bool.false_eq_true, Bool.true_eq_false, Bool.not_true, Bool.not_false, decide_true, decide_false, Nat.reduceEqDiff, Nat.zero_lt_succ, List.replicate_succ, List.replicate_zero, Nat.reduceSub, Nat.reduceAdd, Nat.reduceLT, Nat.reduceLeDiff, Nat.zero_le, id, lstK_ok, tupK_ok, wipeE]
    refine ⟨ms.map W.int, getLast, by rw [List.length_map]; unfold sizeLine; omega, ms ++ [if x < 0 then -x else x], ?_, ?_⟩
    · simp [hk]
    · simp
  · rintro st' ⟨ms, hm, rfl⟩
    rw [List.length_map] at hm
    obtain ⟨st2, hst2⟩ : ∃ x : Sto, x = st1 ++ [Ob.lst (ms.map W.int)] := ⟨_, rfl⟩
    have g2 : st2[st1.length]? = some (.lst (ms.map W.int)) := by rw [hst2]; exact getLast
    have old2 : ∀ (m : Nat) (o : Ob), st[m]? = some o → st2[m]? = some o := fun m o h => by rw [hst2]; exact getNew (old1 m o h)
    have len2 : st.length < st2.length := by rw [hst2]; simp; omega
    rw [← hst2]
    try simp -implicitDefEqProofs only [wp_ok, wp_bind, wp_noexc, wp_seq, wp_skip, wp_brk, wp_cnt, wp_retN, wp_ret, wp_set, wp_par, wp_unp, wp_sto, wp_xpr, wp_ite, wp_for, wp_whl, wp_tru, sk_nx, sk_rt, sk_bk, sk_ct, lk_nx, lk_ct, lk_bk, lk_rt, ik_true, ik_false, ev, evs, evo, evi, evc, evd, keyK_str, keyK_int, retK_rt, retK_nx, iteK_true, iteK_false, truK0_bl, truK0_int, truK0_tup, truK0_frl, truK0_non, scK_bl, wp_callK, cmpO, cmp_eq, cmp_ne, cmp_lt, cmp_le, cmp_gt, cmp_ge, cmp_isN, cmp_notN, eqD_int, eqD_str, bin_int, binI_add, binI_sub, of_some, negK_int, setK_nm, setK_tp, setsK, asg, asgs, tgsOf, intK, rngK, srcK, subO, startE, newR, new, bi_int, bi_abs, bi_len_tup, bi_len_frl,  Option.map_some, Option.map_none, Option.bind_some, List.map_cons, List.map_nil, List.length_cons, List.length_nil, List.length_append, List.length_map, List.length_set, List.cons_append, List.nil_append, List.getElem?_cons_zero, List.getElem?_cons_succ, List.set_cons_zero, List.set_cons_succ, if_true, if_false, Bool.false_eq_true, Bool.true_eq_false, Bool.not_true, Bool.not_false, decide_true, decide_false, Nat.reduceEqDiff, Nat.zero_lt_succ, List.replicate_succ, List.replicate_zero, Nat.reduceSub, Nat.reduceAdd, Nat.reduceLT, Nat.reduceLeDiff, Nat.zero_le, id, lstK_ok, tupK_ok, h1, srcOf_lst g2]
    refine wp_forL (ms.map W.int) (fun k en st' => st' = st2 ∧ ∃ (b : Int) (x : Option W), en = [some (.frl (ns.map .int)), some (.int salt), some (.ref st1.length), some (.int b), x]) ?_ ?_ ?_ FU 0 _ _ (Nat.zero_le _) ?_ ⟨rfl, _, _, rfl⟩
    · rintro k en st' ⟨rfl, _⟩
      exact get_live g2
    · rintro k w en st' hw ⟨rfl, b, x, rfl⟩
      rw [List.getElem?_map] at hw
      obtain ⟨y, hy, rfl⟩ := Option.map_eq_some_iff.mp hw
      refine ⟨_, rfl, ?_⟩
      have hmul : binI .mul b 48271 = some (b * 48271) := by rw [binI_mul, if_pos (by simp [small64])]
      have hmo : ∀ x : Int, binI .mod x 2147483647 = some (x % 2147483647) := fun x => binI_mod_pos (by decide)
      have hmo2 : ∀ x : Int, binI .mod x 2147483549 = some (x % 2147483549) := fun x => binI_mod_pos (by decide)
      try simp -implicitDefEqProofs only [wp_ok, wp_bind, wp_noexc, wp_seq, wp_skip, wp_brk, wp_cnt, wp_retN, wp_ret, wp_set, wp_par, wp_unp, wp_sto, wp_xpr, wp_ite, wp_for, wp_whl, wp_tru, sk_nx, sk_rt, sk_bk, sk_ct, lk_nx, lk_ct, lk_bk, lk_rt, ik_true, ik_false, ev, evs, evo, evi, evc, evd, keyK_str, keyK_int, retK_rt, retK_nx, iteK_true, iteK_false, truK0_bl, truK0_int, truK0_tup, truK0_frl, truK0_non, scK_bl, wp_callK, cmpO, cmp_eq, cmp_ne, cmp_lt, cmp_le, cmp_gt, cmp_ge, cmp_isN, cmp_notN, eqD_int, eqD_str, bin_int, binI_add, binI_sub, of_some, negK_int, setK_nm, setK_tp, setsK, asg, asgs, tgsOf, intK, rngK, srcK, subO, startE, newR, new, bi_int, bi_abs, bi_len_tup, bi_len_frl,  Option.map_some, Option.map_none, Option.bind_some, List.map_cons, List.map_nil, List.length_cons, List.length_nil, List.length_append, List.length_map, List.length_set, List.cons_append, List.nil_append, List.getElem?_cons_zero, List.getElem?_cons_succ, List.set_cons_zero, List.set_cons_succ, if_true, if_false, Bool.false_eq_true, Bool.true_eq_false, Bool.not_true, Bool.not_false, decide_true, decide_false, Nat.reduceEqDiff, Nat.zero_lt_succ, List.replicate_succ, List.replicate_zero, Nat.reduceSub, Nat.reduceAdd, Nat.reduceLT, Nat.reduceLeDiff, Nat.zero_le, id, lstK_ok, tupK_ok, hmul, hmo, hmo2]
      exact ⟨by trivial, _, _, rfl⟩
    · rintro en st' ⟨rfl, b, x, rfl⟩
      have hp : binI .pow 10 18 = some 1000000000000000000 := by decide
      try simp -implicitDefEqProofs only [wp_ok, wp_bind, wp_noexc, wp_seq, wp_skip, wp_brk, wp_cnt, wp_retN, wp_ret, wp_set, wp_par, wp_unp, wp_sto, wp_xpr, wp_ite, wp_for, wp_whl, wp_tru, sk_nx, sk_rt, sk_bk, sk_ct, lk_nx, lk_ct, lk_bk, lk_rt, ik_true, ik_false, ev, evs, evo, evi, evc, evd, keyK_str, keyK_int, retK_rt, retK_nx, iteK_true, iteK_false, truK0_bl, truK0_int, truK0_tup, truK0_frl, truK0_non, scK_bl, wp_callK, cmpO, cmp_eq, cmp_ne, cmp_lt, cmp_le, cmp_gt, cmp_ge, cmp_isN, cmp_notN, eqD_int, eqD_str, bin_int, binI_add, binI_sub, of_some, negK_int, setK_nm, setK_tp, setsK, asg, asgs, tgsOf, intK, rngK, srcK, subO, startE, newR, new, bi_int, bi_abs, bi_len_tup, bi_len_frl,  Option.map_some, Option.map_none, Option.bind_some, List.map_cons, List.map_nil, List.length_cons, List.length_nil, List.length_append, List.length_map, List.length_set, List.cons_append, List.nil_append, List.getElem?_cons_zero, List.getElem?_cons_succ, List.set_cons_zero, List.set_cons_succ, if_true, if_false, Bool.false_eq_true, Bool.true_eq_false, Bool.not_true, Bool.not_false, decide_true, decide_false, Nat.reduceEqDiff, Nat.zero_lt_succ, List.replicate_succ, List.replicate_zero, Nat.reduceSub, Nat.reduceAdd, Nat.reduceLT, Nat.reduceLeDiff, Nat.zero_le, id, lstK_ok, tupK_ok, srcOf_lst g2]
      refine wp_lcL (ms.map W.int) (fun k st3 => ∃ us : List Int, us.length ≤ k ∧ st3 = st' ++ [Ob.lst (us.map W.int)]) ?_ ?_ ?_ FU 0 _ (Nat.zero_le _) ?_ ⟨[], Nat.le_refl _, rfl⟩
      · rintro k st3 ⟨us, _, rfl⟩
        exact get_live (getNew g2)
      · rintro k w st3 hw ⟨us, hk, rfl⟩
        rw [List.getElem?_map] at hw
        obtain ⟨y, hy, rfl⟩ := Option.map_eq_some_iff.mp hw
        have hkl := (List.getElem?_eq_some_iff.mp hy).1
        refine ⟨_, rfl, ?_⟩
        try simp -implicitDefEqProofs only [wp_ok, wp_bind, wp_noexc, wp_seq, wp_skip, wp_brk, wp_cnt, wp_retN, wp_ret, wp_set, wp_par, wp_unp, wp_sto, wp_xpr, wp_ite, wp_for, wp_whl, wp_tru, sk_nx, sk_rt, sk_bk, sk_ct, lk_nx, lk_ct, lk_bk, lk_rt, ik_true, ik_false, ev, evs, evo, evi, evc, evd, keyK_str, keyK_int, retK_rt, retK_nx, iteK_true, iteK_false, truK0_bl, truK0_int, truK0_tup, truK0_frl, truK0_non, scK_bl, wp_callK, cmpO, cmp_eq, cmp_ne, cmp_lt, cmp_le, cmp_gt, cmp_ge, cmp_isN, cmp_notN, eqD_int, eqD_str, bin_int, binI_add, binI_sub, of_some, negK_int, setK_nm, setK_tp, setsK, asg, asgs, tgsOf, intK, rngK, srcK, subO, startE, newR, new, bi_int, bi_abs, bi_len_tup, bi_len_frl,  Option.map_some, Option.map_none, Option.bind_some, List.map_cons, List.map_nil, List.length_cons, List.length_nil, List.length_append, List.length_map, List.length_set, List.cons_append, List.nil_append, List.getElem?_cons_zero, List.getElem?_cons_succ, List.set_cons_zero, List.set_cons_succ, if_true, if_false, Bool.false_eq_true, Bool.true_eq_false, Bool.not_true, Bool.not_false, decide_true, decide_false, Nat.reduceEqDiff, Nat.zero_lt_succ, List.replicate_succ, List.replicate_zero, Nat.reduceSub, Nat.reduceAdd, Nat.reduceLT, Nat.reduceLeDiff, Nat.zero_le, id, lstK_ok, tupK_ok, wipeE, hp]
        by_cases hc : (1000000000000000000 : Int) ≤ y
        · rw [decide_eq_true hc]
          try simp -implicitDefEqProofs only [wp_ok, wp_bind, wp_noexc, wp_seq, wp_skip, wp_brk, wp_cnt, wp_retN, wp_ret, wp_set, wp_par, wp_unp, wp_sto, wp_xpr, wp_ite, wp_for, wp_whl, wp_tru, sk_nx, sk_rt, sk_bk, sk_ct, lk_nx, lk_ct, lk_bk, lk_rt, ik_true, ik_false, ev, evs, evo, evi, evc, evd, keyK_str, keyK_int, retK_rt, retK_nx, iteK_true, iteK_false, truK0_bl, truK0_int, truK0_tup, truK0_frl, truK0_non, scK_bl, wp_callK, cmpO, cmp_eq, cmp_ne, cmp_lt, cmp_le, cmp_gt, cmp_ge, cmp_isN, cmp_notN, eqD_int, eqD_str, bin_int, binI_add, binI_sub, of_some, negK_int, setK_nm, setK_tp, setsK, asg, asgs, tgsOf, intK, rngK, srcK, subO, startE, newR, new, bi_int, bi_abs, bi_len_tup, bi_len_frl,  Option.map_some, Option.map_none, Option.bind_some, List.map_cons, List.map_nil, List.length_cons, List.length_nil, List.length_append, List.length_map, List.length_set, List.cons_append, List.nil_append, List.getElem?_cons_zero, List.getElem?_cons_succ, List.set_cons_zero, List.set_cons_succ, if_true, if_false, Bool.false_eq_true, Bool.true_eq_false, Bool.not_true, Bool.not_false, decide_true, decide_false, Nat.reduceEqDiff, Nat.zero_lt_succ, List.replicate_succ, List.replicate_zero, Nat.reduceSub, Nat.reduceAdd, Nat.reduceLT, Nat.reduceLeDiff, Nat.zero_le, id, lstK_ok, tupK_ok]
          refine ⟨us.map W.int, getLast, by rw [List.length_map]; unfold sizeLine; omega, us ++ [y], ?_, ?_⟩
          · simp; omega
          · simp
        · rw [decide_eq_false hc]
          try simp -implicitDefEqProofs only [wp_ok, wp_bind, wp_noexc, wp_seq, wp_skip, wp_brk, wp_cnt, wp_retN, wp_ret, wp_set, wp_par, wp_unp, wp_sto, wp_xpr, wp_ite, wp_for, wp_whl, wp_tru, sk_nx, sk_rt, sk_bk, sk_ct, lk_nx, lk_ct, lk_bk, lk_rt, ik_true, ik_false, ev, evs, evo, evi, evc, evd, keyK_str, keyK_int, retK_rt, retK_nx, iteK_true, iteK_false, truK0_bl, truK0_int, truK0_tup, truK0_frl, truK0_non, scK_bl, wp_callK, cmpO, cmp_eq, cmp_ne, cmp_lt, cmp_le, cmp_gt, cmp_ge, cmp_isN, cmp_notN, eqD_int, eqD_str, bin_int, binI_add, binI_sub, of_some, negK_int, setK_nm, setK_tp, setsK, asg, asgs, tgsOf, intK, rngK, srcK, subO, startE, newR, new, bi_int, bi_abs, bi_len_tup, bi_len_frl,  Option.map_some, Option.map_none, Option.bind_some, List.map_cons, List.map_nil, List.length_cons, List.length_nil, List.length_append, List.length_map, List.length_set, List.cons_append, List.nil_append, List.getElem?_cons_zero, List.getElem?_cons_succ, List.set_cons_zero, List.set_cons_succ, if_true, if_false, Bool.false_eq_true, Bool.true_eq_false, Bool.not_true, Bool.not_false, decide_true, decide_false, Nat.reduceEqDiff, Nat.zero_lt_succ, List.replicate_succ, List.replicate_zero, Nat.reduceSub, Nat.reduceAdd, Nat.reduceLT, Nat.reduceLeDiff, Nat.zero_le, id, lstK_ok, tupK_ok]
          exact ⟨us, by omega, rfl⟩
      · rintro st3 ⟨us, hu, rfl⟩
        rw [List.length_map] at hu
        try simp -implicitDefEqProofs only [wp_ok, wp_bind, wp_noexc, wp_seq, wp_skip, wp_brk, wp_cnt, wp_retN, wp_ret, wp_set, wp_par, wp_unp, wp_sto, wp_xpr, wp_ite, wp_for, wp_whl, wp_tru, sk_nx, sk_rt, sk_bk, sk_ct, lk_nx, lk_ct, lk_bk, lk_rt, ik_true, ik_false, ev, evs, evo, evi, evc, evd, keyK_str, keyK_int, retK_rt, retK_nx, iteK_true, iteK_false, truK0_bl, truK0_int, truK0_tup, truK0_frl, truK0_non, scK_bl, wp_callK, cmpO, cmp_eq, cmp_ne, cmp_lt, cmp_le, cmp_gt, cmp_ge, cmp_isN, cmp_notN, eqD_int, eqD_str, bin_int, binI_add, binI_sub, of_some, negK_int, setK_nm, setK_tp, setsK, asg, asgs, tgsOf, intK, rngK, srcK, subO, startE, newR, new, bi_int, bi_abs, bi_len_tup, bi_len_frl,  Option.map_some, Option.map_none, Option.bind_some, List.map_cons, List.map_nil, List.length_cons, List.length_nil, List.length_append, List.length_map, List.length_set, List.cons_append, List.nil_append, List.getElem?_cons_zero, List.getElem?_cons_succ, List.set_cons_zero, List.set_cons_succ, if_true, if_false, Bool.false_eq_true, Bool.true_eq_false, Bool.not_true, Bool.not_false, decide_true, decide_false, Nat.reduceEqDiff, Nat.zero_lt_succ, List.replicate_succ, List.replicate_zero, Nat.reduceSub, Nat.reduceAdd, Nat.reduceLT, Nat.reduceLeDiff, Nat.zero_le, id, lstK_ok, tupK_ok, revW_lst getLast]
        rw [← List.map_reverse]
        obtain ⟨st4, hst4⟩ : ∃ x : Sto, x = st' ++ [Ob.lst (us.map W.int)] ++ [Ob.lst (us.reverse.map W.int)] := ⟨_, rfl⟩
        have hl4 : st4.length = st'.length + 1 + 1 := by rw [hst4]; simp
        have g4 : st4[st'.length + 1]? = some (.lst (us.reverse.map W.int)) := by
          have : (st' ++ [Ob.lst (us.map W.int)]).length = st'.length + 1 := by simp
          rw [hst4, ← this]; exact getLast
        rw [← hst4, ← hl4]
        refine ⟨st4.length, st'.length + 1, by trivial, ⟨by omega, ⟨b, getLast⟩, us.reverse, getNew g4, by simp; omega⟩, fun m o h => ?_⟩
        have hm' := (List.getElem?_eq_some_iff.mp h).1
        exact ⟨getNew (by rw [hst4]; exact getNew (getNew (old2 m o h))), by omega, by omega⟩
      · rw [List.length_map]; unfold FU; omega
    · rw [List.length_map]; unfold FU; omega
  · rw [List.length_map]; unfold FU; omega
end Ci
/-! Cj4: lists of numbers compared, ranges, stores that only grow. -/
namespace Ci
open PySem

/-! ### order -/
theorem listLt_lexI : ∀ xs ys : List Int, PySem.W.listLt xs ys = lexI xs ys
  | [], [] => rfl
  | [], _ :: _ => rfl
  | _ :: _, [] => rfl
  | x :: xs, y :: ys => by
    rw [PySem.W.listLt, lexI, listLt_lexI xs ys]
    rfl
theorem dataLt_ints (xs ys : List Int) : PySem.W.dataLt (.list (xs.map .int)) (.list (ys.map .int)) = lexI xs ys := by
  rw [PySem.W.dataLt_list, ← listLt_lexI]
  exact PySem.W.lexAll_map xs ys
theorem alike_ints (xs ys : List Int) : PySem.W.alike (.list (xs.map .int)) (.list (ys.map .int)) = true := by
  rw [PySem.W.alike]
  exact PySem.W.alikeAll_map xs ys
theorem ordD_ints {f : PyData → PyData → Bool} {st : Sto} {a b : Nat} {xs ys : List Int} (h1 : st[a]? = some (.lst (xs.map .int))) (h2 : st[b]? = some (.lst (ys.map .int))) :
    ordD f st (.ref a) (.ref b) = some (f (.list (xs.map .int)) (.list (ys.map .int))) := by
  unfold ordD
  rw [toD_ints h1, toD_ints h2]
  simp only [alike_ints, noneD, PyData.depth, depthAll_ints]
  rfl
section
variable {st : Sto} {a b : Nat} {xs ys : List Int}
theorem cmp_lt_ints (h1 : st[a]? = some (.lst (xs.map .int))) (h2 : st[b]? = some (.lst (ys.map .int))) : cmp .lt (.ref a) (.ref b) st = some (lexI xs ys) := by
  rw [show cmp .lt (.ref a) (.ref b) st = ordD PySem.W.dataLt st (.ref a) (.ref b) from rfl, ordD_ints h1 h2, dataLt_ints]
theorem cmp_le_ints (h1 : st[a]? = some (.lst (xs.map .int))) (h2 : st[b]? = some (.lst (ys.map .int))) : cmp .le (.ref a) (.ref b) st = some (!lexI ys xs) := by
  rw [show cmp .le (.ref a) (.ref b) st = ordD (fun d e => !PySem.W.dataLt e d) st (.ref a) (.ref b) from rfl, ordD_ints h1 h2, dataLt_ints]
end
/-! ### ranges -/
theorem rngOf_nat {n : Nat} (h : n < 1000000) : rngOf [.int (n : Int)] = some (0, (n : Int)) := by
  have : rgOk 0 (n : Int) = true := by unfold rgOk; exact decide_eq_true ⟨by decide, by decide, by omega, by omega⟩
  simp only [rngOf, this, if_true]
theorem rngOf_two {a b : Int} (h : -1000000000 ≤ a) (h2 : a < 1000000000) (h3 : -1000000000 ≤ b) (h4 : b < 1000000000) : rngOf [.int a, .int b] = some (a, b) := by
  have : rgOk a b = true := by unfold rgOk; exact decide_eq_true ⟨by omega, by omega, by omega, by omega⟩
  simp only [rngOf, this, if_true]
theorem rngW_len (n : Nat) : (rngW 0 (n : Int)).length = n := by unfold rngW; simp
theorem rngW_get {n k : Nat} {w : W} (h : (rngW 0 (n : Int))[k]? = some w) : k < n ∧ w = .int k := by
  unfold rngW at h
  rw [List.getElem?_map] at h
  obtain ⟨j, hj, rfl⟩ := Option.map_eq_some_iff.mp h
  have hk := (List.getElem?_eq_some_iff.mp hj).1
  rw [List.length_range] at hk
  rw [List.getElem?_range hk] at hj
  cases hj
  exact ⟨by omega, by congr 1; omega⟩
theorem get_fix {ws : List W} {st : Sto} {k : Nat} : (Src.fix ws).get st k = some ws[k]? := rfl
/-- for i in range(n): no break within I, the body's own ends otherwise -/
theorem wp_rng {as : W → En → Option En} {body : En → Sto → Res Out} {Q : Out → Sto → Prop} {en : En} {st : Sto} (n : Nat) (hn : n < 1000000) (I : Nat → En → Sto → Prop)
    (step : ∀ k en st, k < n → I k en st → ∃ en1, as (.int (k : Int)) en = some en1 ∧ Wp (body en1 st) (Lk (I (k + 1)) Q)) (fin : ∀ en st, I n en st → Q (.nx en) st) (i0 : I 0 en st) :
    Wp (forL (Src.fix (rngW 0 (n : Int))).get as body FU 0 en st) Q := by
  refine wp_forL (rngW 0 (n : Int)) I (fun _ _ _ _ => rfl) ?_ ?_ FU 0 en st (Nat.zero_le _) ?_ i0
  · intro k w en st hw i
    obtain ⟨hk, rfl⟩ := rngW_get hw
    exact step k en st hk i
  · intro en st i
    rw [rngW_len] at i
    exact fin en st i
  · rw [rngW_len]; unfold FU; omega
/-! ### stores that grow -/
def Ext (st st' : Sto) : Prop := st.length ≤ st'.length ∧ ∀ (m : Nat) (o : Ob), st[m]? = some o → st'[m]? = some o
theorem Ext.refl {st : Sto} : Ext st st := ⟨Nat.le_refl _, fun _ _ h => h⟩
theorem Ext.trans {a b c : Sto} (x : Ext a b) (y : Ext b c) : Ext a c := ⟨Nat.le_trans x.1 y.1, fun m o h => y.2 m o (x.2 m o h)⟩
theorem Ext.new {st : Sto} {o : Ob} : Ext st (st ++ [o]) := ⟨by simp, fun m u h => getNew h⟩
/-- what lies behind the old end may change -/
theorem Ext.set {st st' : Sto} {m : Nat} {o : Ob} (h : Ext st st') (hm : st.length ≤ m) : Ext st (st'.set m o) := ⟨by rw [List.length_set]; exact h.1, fun k u e => by
  have := (List.getElem?_eq_some_iff.mp e).1
  rw [List.getElem?_set_ne (by omega)]
  exact h.2 k u e⟩
theorem Ext.keep {st st' : Sto} {d c : Nat} (h : Ext st st') : Keep d c st st' := fun m o _ _ e => h.2 m o e
theorem Deal.ext {st st' : Sto} {d c : Nat} (D : Deal st d c) (h : Ext st st') : Deal st' d c := ⟨D.ne, D.at_.imp fun _ e => h.2 _ _ e, D.cel.imp fun _ e => ⟨h.2 _ _ e.1, e.2⟩⟩
theorem Deal.lt {st : Sto} {d c : Nat} (D : Deal st d c) : d < st.length ∧ c < st.length := by
  obtain ⟨_, ⟨b, h1⟩, ns, h2, _⟩ := D
  exact ⟨(List.getElem?_eq_some_iff.mp h1).1, (List.getElem?_eq_some_iff.mp h2).1⟩
/-- a new list, nothing else changed -/
def NewL (st : Sto) (ws : List W) (w : W) (st' : Sto) : Prop := ∃ a, w = .ref a ∧ Ext st st' ∧ st.length ≤ a ∧ st'[a]? = some (.lst ws)
theorem own_of {st st' : Sto} {a d c : Nat} {ws : List W} (D : Deal st d c) (h : st.length ≤ a) (e : st'[a]? = some (.lst ws)) : Own d c st' a ws := ⟨e, by have := D.lt; omega, by have := D.lt; omega⟩
/-! ### texts of numbers -/
theorem reprOk_small {i : Int} (h0 : -(2 ^ 64) ≤ i) (h : i ≤ 2 ^ 64) : reprOk (.int i) = true := by
  show decide (i.natAbs.log2 < 1920) = true
  apply decide_eq_true
  by_cases e : i.natAbs = 0
  · rw [e]; decide
  · have : i.natAbs < 2 ^ 65 := by omega
    have := (Nat.log2_lt e).mpr this
    omega
theorem bi_repr_int {st : Sto} {i : Int} (h0 : -(2 ^ 64) ≤ i) (h : i ≤ 2 ^ 64) : bi .repr [.int i] st = some (.str (PyData.int i).shown, st) := bi_repr toD_int (reprOk_small h0 h)
theorem beq_str (s : Str) : (s == s) = true := by
  have : LawfulBEq Str := inferInstance
  exact beq_self_eq_true s
theorem powOk_1 {w : Nat} (h : w ≤ 1000000) : powOk 1 (w : Int) = true := by
  unfold powOk
  exact decide_eq_true ⟨by omega, by omega, by decide⟩
theorem divOk_pow {w : Nat} (h : w < 9000) : divOk (2 ^ w) = true := by
  unfold divOk
  have e : ((2 : Int) ^ w).natAbs = 2 ^ w := by rw [Int.natAbs_pow]; rfl
  rw [e, Nat.log2_two_pow, decide_eq_true h, Bool.or_true, decide_eq_true (Int.pow_pos (by decide))]
  rfl
end Ci
/-! Cj5: kinds, tuples, lists of truths. -/
namespace Ci
open PySem

section
variable {st : Sto} {i : Int} {b : Bool} {s : Str} {ws us : List W} {n : Nat}
theorem isi_int_int : isiK ["int"] (.int i) st = .ok (.bl true) st := rfl
theorem isi_int_bl : isiK ["int"] (.bl b) st = .ok (.bl true) st := rfl
theorem isi_int_non : isiK ["int"] .non st = .ok (.bl false) st := rfl
theorem isi_int_str : isiK ["int"] (.str s) st = .ok (.bl false) st := rfl
theorem isi_int_tup : isiK ["int"] (.tup ws) st = .ok (.bl false) st := rfl
theorem isi_bool_int : isiK ["bool"] (.int i) st = .ok (.bl false) st := rfl
theorem isi_bool_bl : isiK ["bool"] (.bl b) st = .ok (.bl true) st := rfl
theorem isi_tuple_tup : isiK ["tuple"] (.tup ws) st = .ok (.bl true) st := rfl
theorem isi_tuple_non : isiK ["tuple"] .non st = .ok (.bl false) st := rfl
theorem isi_tuple_int : isiK ["tuple"] (.int i) st = .ok (.bl false) st := rfl
theorem isi_tuple_bl : isiK ["tuple"] (.bl b) st = .ok (.bl false) st := rfl
theorem isi_tuple_str : isiK ["tuple"] (.str s) st = .ok (.bl false) st := rfl
theorem isi_tuple_lst (h : st[n]? = some (.lst ws)) : isiK ["tuple"] (.ref n) st = .ok (.bl false) st := by simp only [isiK, tyOf, h]; rfl
theorem isi_str_str : isiK ["str"] (.str s) st = .ok (.bl true) st := rfl
theorem isi_str_non : isiK ["str"] .non st = .ok (.bl false) st := rfl
theorem isi_str_int : isiK ["str"] (.int i) st = .ok (.bl false) st := rfl
theorem isi_str_tup : isiK ["str"] (.tup ws) st = .ok (.bl false) st := rfl
theorem isi_list_lst (h : st[n]? = some (.lst ws)) : isiK ["list"] (.ref n) st = .ok (.bl true) st := by simp only [isiK, tyOf, h]; rfl
theorem slW_tup {lo hi : Option Int} : slW (.tup ws) lo hi st = some (.tup (cutW ws lo hi), st) := rfl
theorem cut_drop {k : Nat} : cutW ws (some (k : Int)) none = ws.drop k := by
  unfold cutW
  rw [HT.sIx_nat, show HT.sIx ws.length ws.length none = ws.length from rfl]
  rcases Nat.le_total k ws.length with h | h
  · rw [Nat.min_eq_left h, List.take_of_length_le (by rw [List.length_drop]; omega)]
  · rw [Nat.min_eq_right h, List.drop_of_length_le (Nat.le_refl _), List.drop_of_length_le h, List.take_nil]
theorem cut_take {k : Nat} : cutW ws none (some (k : Int)) = ws.take k := by
  unfold cutW
  rw [HT.sIx_nat, show HT.sIx ws.length 0 none = 0 from rfl, List.drop_zero, Nat.sub_zero]
  rcases Nat.le_total k ws.length with h | h
  · rw [Nat.min_eq_left h]
  · rw [Nat.min_eq_right h, List.take_length, List.take_of_length_le h]
theorem bin_tup (h : ws.length + us.length ≤ 16777216) : bin .add (.tup ws) (.tup us) st = some (.tup (ws ++ us), st) := if_pos h
theorem bi_tuple_lst (h : st[n]? = some (.lst ws)) : bi .tuple [.ref n] st = some (.tup ws, st) := by simp only [bi, seqOf, h]; rfl
theorem bi_tuple_tup : bi .tuple [.tup ws] st = some (.tup ws, st) := rfl
theorem bi_list_tup : bi .list [.tup ws] st = some (.ref st.length, st ++ [.lst ws]) := rfl
theorem bi_list_lst (h : st[n]? = some (.lst ws)) : bi .list [.ref n] st = some (.ref st.length, st ++ [.lst ws]) := by simp only [bi, seqOf, h]; rfl
theorem blsOf_map {α : Type} (f : α → Bool) : ∀ l : List α, blsOf (l.map fun x => .bl (f x)) = some (l.map f)
  | [] => rfl
  | x :: l => by rw [List.map_cons, blsOf, blsOf_map f l]; rfl
theorem bi_all_lst {bs : List Bool} (h : st[n]? = some (.lst (bs.map .bl))) : bi .all [.ref n] st = some (.bl (bs.all id), st) := by
  have e : blsOf (bs.map .bl) = some bs := by
    have := blsOf_map id bs
    rw [List.map_id] at this
    exact this
  simp only [bi, lstOf, h, Option.bind_some, e]
  rfl
theorem bi_any_lst {bs : List Bool} (h : st[n]? = some (.lst (bs.map .bl))) : bi .any [.ref n] st = some (.bl (bs.any id), st) := by
  have e : blsOf (bs.map .bl) = some bs := by
    have := blsOf_map id bs
    rw [List.map_id] at this
    exact this
  simp only [bi, lstOf, h, Option.bind_some, e]
  rfl
theorem bi_repr_bl : bi .repr [.bl b] st = some (.str (PyData.bool b).shown, st) := rfl
theorem bi_repr_non : bi .repr [.non] st = some (.str PyData.none.shown, st) := rfl
theorem is_bl {x y : Bool} : cmp .isN (.bl x) (.bl y) st = some (decide (x = y)) := rfl
theorem isnot_bl {x y : Bool} : cmp .notN (.bl x) (.bl y) st = some (!decide (x = y)) := rfl
theorem eqD_data {x y : W} {d e : PyData} (h1 : toD st x = some d) (h2 : toD st y = some e) (h3 : shapedB d = true) (h4 : shapedB e = true) (hx : ∀ s, x ≠ .str s) (hx2 : ∀ i, x ≠ .int i) : eqD st x y = some (PyData.eqv d e) := by
  unfold eqD
  split
  · exact absurd rfl (hx _)
  · exact absurd rfl (hx2 _)
  · rw [h1, h2]
    simp only [h3, h4, Bool.and_self, if_true]
theorem eqD_tup {y : W} {d e : PyData} (h1 : toD st (.tup ws) = some d) (h2 : toD st y = some e) (h3 : shapedB d = true) (h4 : shapedB e = true) : eqD st (.tup ws) y = some (PyData.eqv d e) :=
  eqD_data h1 h2 h3 h4 (fun _ h => by cases h) fun _ h => by cases h
end
end Ci
namespace Law
open PySem L2 PyProof.Rows Ci
def top (i : Nat) : Stmt := PySem.Challenge.pw_anypasses_k01_operations_on_numbers.main.body.getD i (.Pass ⟨0, 0, 0, 0⟩)
def k_DIVISIONS : W := (.tup [(.str "udiv"), (.str "sdiv"), (.str "urem"), (.str "srem")])
def k_OPS : W := (.tup [(.str "add"), (.str "sub"), (.str "mul"), (.str "udiv"), (.str "sdiv"), (.str "urem"), (.str "srem"), (.str "and"), (.str "or"), (.str "xor"), (.str "shl"), (.str "lshr"), (.str "ashr")])
def k_WIDTHS : W := (.tup [(.int 1), (.int 8), (.int 16), (.int 32), (.int 64)])
abbrev s0 : Stmt := top 1
abbrev N0 : List Str := ["value"]
abbrev ps0 : List Str := ["value"]
/-- is_integer(value); 0 value -/
def c0 : S :=
  (.ret (.and (.isi ["int"] (.var 0)) (.not (.isi ["bool"] (.var 0)))))
def d0 : Fd := ⟨1, 1, c0⟩
abbrev s1 : Stmt := top 2
abbrev N1 : List Str := ["value"]
abbrev ps1 : List Str := ["value"]
/-- is_number(value); 0 value -/
def c1 : S :=
  (.ret (.and (.call 0 none (.cons (.var 0) .nil)) (.cmp .ge (.var 0) (.con (.int 0)))))
def d1 : Fd := ⟨1, 1, c1⟩
abbrev s2 : Stmt := top 3
abbrev N2 : List Str := ["value", "many"]
abbrev ps2 : List Str := ["value", "many"]
/-- is_index(value, many); 0 value, 1 many -/
def c2 : S :=
  (.ret (.and (.call 1 none (.cons (.var 0) .nil)) (.cmp .lt (.var 0) (.var 1))))
def d2 : Fd := ⟨2, 2, c2⟩
abbrev s3 : Stmt := top 8
abbrev N3 : List Str := ["value"]
abbrev ps3 : List Str := ["value"]
/-- is_width(value); 0 value -/
def c3 : S :=
  (.ret (.and (.call 0 none (.cons (.var 0) .nil)) (.cmp .isin (.var 0) (.con k_WIDTHS))))
def d3 : Fd := ⟨1, 1, c3⟩
abbrev s4 : Stmt := top 9
abbrev N4 : List Str := ["value", "width"]
abbrev ps4 : List Str := ["value", "width"]
/-- is_of_width(value, width); 0 value, 1 width -/
def c4 : S :=
  (.ret (.call 2 none (.cons (.var 0) (.cons (.bin .shl (.con (.int 1)) (.var 1)) .nil))))
def d4 : Fd := ⟨2, 2, c4⟩
abbrev s5 : Stmt := top 10
abbrev N5 : List Str := ["number", "width"]
abbrev ps5 : List Str := ["number", "width"]
/-- wrapped(number, width); 0 number, 1 width -/
def c5 : S :=
  (.ret (.bin .mod (.var 0) (.bin .shl (.con (.int 1)) (.var 1))))
def d5 : Fd := ⟨2, 2, c5⟩
abbrev s6 : Stmt := top 11
abbrev N6 : List Str := ["number", "width"]
abbrev ps6 : List Str := ["number", "width"]
/-- signed(number, width); 0 number, 1 width -/
def c6 : S :=
  (.ret (.ite (.cmp .ge (.var 0) (.bin .shl (.con (.int 1)) (.bin .sub (.var 1) (.con (.int 1))))) (.bin .sub (.var 0) (.bin .shl (.con (.int 1)) (.var 1))) (.var 0)))
def d6 : Fd := ⟨2, 2, c6⟩
abbrev s7 : Stmt := top 12
abbrev N7 : List Str := ["one", "other", "found"]
abbrev ps7 : List Str := ["one", "other"]
/-- quotient(one, other); 0 one, 1 other, 2 found -/
def c7 : S :=
  (.seq (.set 2 (.bin .fdiv (.bi .abs (.cons (.var 0) .nil)) (.bi .abs (.cons (.var 1) .nil))))
  (.ret (.ite (.cmp .eq (.cmp .lt (.var 0) (.con (.int 0))) (.cmp .lt (.var 1) (.con (.int 0)))) (.var 2) (.neg (.var 2)))))
def d7 : Fd := ⟨2, 3, c7⟩
abbrev s8 : Stmt := top 13
abbrev N8 : List Str := ["op", "width", "one", "other", "first", "second", "whole"]
abbrev ps8 : List Str := ["op", "width", "one", "other"]
/-- divided(op, width, one, other); 0 op, 1 width, 2 one, 3 other, 4 first, 5 second, 6 whole -/
def c8 : S :=
  (.seq (.ite (.cmp .eq (.var 3) (.con (.int 0))) (.ret (.con .non)) .skip)
  (.seq (.ite (.cmp .eq (.var 0) (.con (.str "udiv"))) (.ret (.bin .fdiv (.var 2) (.var 3))) .skip)
  (.seq (.ite (.cmp .eq (.var 0) (.con (.str "urem"))) (.ret (.bin .mod (.var 2) (.var 3))) .skip)
  (.seq (.par [4, 5] (.cons (.call 6 none (.cons (.var 2) (.cons (.var 1) .nil))) (.cons (.call 6 none (.cons (.var 3) (.cons (.var 1) .nil))) .nil)))
  (.seq (.set 6 (.call 7 none (.cons (.var 4) (.cons (.var 5) .nil))))
  (.ret (.call 5 none (.cons (.ite (.cmp .eq (.var 0) (.con (.str "sdiv"))) (.var 6) (.bin .sub (.var 4) (.bin .mul (.var 5) (.var 6)))) (.cons (.var 1) .nil)))))))))
def d8 : Fd := ⟨4, 7, c8⟩
abbrev s9 : Stmt := top 14
abbrev N9 : List Str := ["op", "width", "one", "other", "by"]
abbrev ps9 : List Str := ["op", "width", "one", "other"]
/-- shifted(op, width, one, other); 0 op, 1 width, 2 one, 3 other, 4 by -/
def c9 : S :=
  (.seq (.set 4 (.bin .mod (.var 3) (.var 1)))
  (.seq (.ite (.cmp .eq (.var 0) (.con (.str "shl"))) (.ret (.call 5 none (.cons (.bin .shl (.var 2) (.var 4)) (.cons (.var 1) .nil)))) .skip)
  (.seq (.ite (.cmp .eq (.var 0) (.con (.str "lshr"))) (.ret (.bin .shr (.var 2) (.var 4))) .skip)
  (.ret (.call 5 none (.cons (.bin .shr (.call 6 none (.cons (.var 2) (.cons (.var 1) .nil))) (.var 4)) (.cons (.var 1) .nil)))))))
def d9 : Fd := ⟨4, 5, c9⟩
abbrev s10 : Stmt := top 15
abbrev N10 : List Str := ["op", "width", "one", "other"]
abbrev ps10 : List Str := ["op", "width", "one", "other"]
/-- bin_told(op, width, one, other); 0 op, 1 width, 2 one, 3 other -/
def c10 : S :=
  (.seq (.ite (.cmp .isin (.var 0) (.con k_DIVISIONS)) (.ret (.call 8 none (.cons (.var 0) (.cons (.var 1) (.cons (.var 2) (.cons (.var 3) .nil)))))) .skip)
  (.seq (.ite (.cmp .isin (.var 0) (.tup (.cons (.con (.str "shl")) (.cons (.con (.str "lshr")) (.cons (.con (.str "ashr")) .nil))))) (.ret (.call 9 none (.cons (.var 0) (.cons (.var 1) (.cons (.var 2) (.cons (.var 3) .nil)))))) .skip)
  (.seq (.ite (.cmp .eq (.var 0) (.con (.str "and"))) (.ret (.bin .band (.var 2) (.var 3))) .skip)
  (.seq (.ite (.cmp .eq (.var 0) (.con (.str "or"))) (.ret (.bin .bor (.var 2) (.var 3))) .skip)
  (.seq (.ite (.cmp .eq (.var 0) (.con (.str "xor"))) (.ret (.bin .bxor (.var 2) (.var 3))) .skip)
  (.seq (.ite (.cmp .eq (.var 0) (.con (.str "add"))) (.ret (.call 5 none (.cons (.bin .add (.var 2) (.var 3)) (.cons (.var 1) .nil)))) .skip)
  (.ret (.call 5 none (.cons (.ite (.cmp .eq (.var 0) (.con (.str "sub"))) (.bin .sub (.var 2) (.var 3)) (.bin .mul (.var 2) (.var 3))) (.cons (.var 1) .nil))))))))))
def d10 : Fd := ⟨4, 4, c10⟩
abbrev s11 : Stmt := top 17
abbrev N11 : List Str := ["_law_script", "_law_salt", "_law_cells", "_law_blend", "_law_cell"]
abbrev ps11 : List Str := ["_law_script", "_law_salt"]
/-- _law_draw(_law_script, _law_salt); 0 _law_script, 1 _law_salt, 2 _law_cells, 3 _law_blend, 4 _law_cell -/
def c11 : S :=
  (.seq (.set 2 (.lc [4] (.nm 4) (.val (.sl (.var 0) .nil (.cons (.con (.int 48)) .nil))) .nil (.bi .abs (.cons (.bi .int (.cons (.var 4) .nil)) .nil))))
  (.seq (.set 3 (.bin .add (.con (.int 7919)) (.bin .mul (.con (.int 104729)) (.var 1))))
  (.seq (.for_ (.nm 4) (.val (.var 2)) (.set 3 (.bin .mod (.bi .int (.cons (.bin .add (.bin .add (.bin .mul (.var 3) (.con (.int 48271))) (.bin .mod (.var 4) (.con (.int 2147483549)))) (.con (.int 11))) .nil)) (.con (.int 2147483647)))))
  (.ret (.lst (.cons (.rev (.lc [4] (.nm 4) (.val (.var 2)) (.cons (.cmp .ge (.var 4) (.bin .pow (.con (.int 10)) (.con (.int 18)))) .nil) (.var 4))) (.cons (.var 3) .nil)))))))
def d11 : Fd := ⟨2, 5, c11⟩
abbrev s12 : Stmt := top 18
abbrev N12 : List Str := ["_law_deal", "_law_bound", "_law_rest"]
abbrev ps12 : List Str := ["_law_deal", "_law_bound"]
/-- _law_any(_law_deal, _law_bound); 0 _law_deal, 1 _law_bound, 2 _law_rest -/
def c12 : S :=
  (.seq (.whl (.and (.cmp .ne (.ix (.var 0) (.con (.int 0))) (.lst .nil)) (.cmp .eq (.ix (.ix (.var 0) (.con (.int 0))) (.neg (.con (.int 1)))) (.con (.int 0)))) (.xpr (.mt .pop (.ix (.var 0) (.con (.int 0))) .nil)))
  (.seq (.ite (.cmp .ne (.ix (.var 0) (.con (.int 0))) (.lst .nil)) (.seq (.set 2 (.bi .int (.cons (.mt .pop (.ix (.var 0) (.con (.int 0))) .nil) .nil)))
  (.seq (.xpr (.mt .append (.ix (.var 0) (.con (.int 0))) (.cons (.bin .fdiv (.var 2) (.var 1)) .nil)))
  (.ret (.bin .mod (.var 2) (.var 1))))) .skip)
  (.seq (.sto (.var 0) (.con (.int 1)) (.bin .mod (.bi .int (.cons (.bin .add (.bin .mul (.ix (.var 0) (.con (.int 1))) (.con (.int 40693))) (.con (.int 71))) .nil)) (.con (.int 2147483647))))
  (.ret (.bin .mod (.bi .int (.cons (.bin .fdiv (.ix (.var 0) (.con (.int 1))) (.con (.int 64))) .nil)) (.var 1))))))
def d12 : Fd := ⟨2, 3, c12⟩
abbrev s13 : Stmt := top 19
abbrev N13 : List Str := ["_law_deal", "_law_some"]
abbrev ps13 : List Str := ["_law_deal", "_law_some"]
/-- _law_of(_law_deal, _law_some); 0 _law_deal, 1 _law_some -/
def c13 : S :=
  (.ret (.ix (.var 1) (.call 12 none (.cons (.var 0) (.cons (.bi .len (.cons (.var 1) .nil)) .nil)))))
def d13 : Fd := ⟨2, 2, c13⟩
abbrev s15 : Stmt := top 21
abbrev N15 : List Str := ["_law_deal", "_law_width", "_law_top", "_law_form"]
abbrev ps15 : List Str := ["_law_deal", "_law_width"]
/-- _law_number(_law_deal, _law_width); 0 _law_deal, 1 _law_width, 2 _law_top, 3 _law_form -/
def c15 : S :=
  (.seq (.set 2 (.call 16 none (.cons (.var 1) .nil)))
  (.seq (.set 3 (.call 12 none (.cons (.var 0) (.cons (.con (.int 4)) .nil))))
  (.seq (.ite (.cmp .eq (.var 3) (.con (.int 0))) (.ret (.call 13 none (.cons (.var 0) (.cons (.lst (.cons (.con (.int 0)) (.cons (.con (.int 1)) (.cons (.bin .sub (.var 2) (.con (.int 1))) (.cons (.bin .fdiv (.var 2) (.con (.int 2))) (.cons (.bin .sub (.bin .fdiv (.var 2) (.con (.int 2))) (.con (.int 1))) (.cons (.bin .mod (.bi .int (.cons (.var 1) .nil)) (.var 2)) (.cons (.bin .mod (.bi .int (.cons (.bin .add (.var 1) (.con (.int 1))) .nil)) (.var 2)) (.cons (.bin .fdiv (.var 2) (.con (.int 4))) .nil))))))))) .nil)))) .skip)
  (.ret (.ite (.cmp .eq (.var 3) (.con (.int 1))) (.call 12 none (.cons (.var 0) (.cons (.var 2) .nil))) (.bin .mod (.bi .int (.cons (.bin .sub (.call 12 none (.cons (.var 0) (.cons (.con (.int 41)) .nil))) (.con (.int 20))) .nil)) (.var 2)))))))
def d15 : Fd := ⟨2, 4, c15⟩
abbrev s16 : Stmt := top 22
abbrev N16 : List Str := ["_law_many"]
abbrev ps16 : List Str := ["_law_many"]
/-- _law_power(_law_many); 0 _law_many -/
def c16 : S :=
  (.ret (.bin .shl (.con (.int 1)) (.var 0)))
def d16 : Fd := ⟨1, 1, c16⟩
abbrev s17 : Stmt := top 23
abbrev N17 : List Str := ["_law_number_here", "_law_width", "_law_rest", "_law_found", "_law_turn"]
abbrev ps17 : List Str := ["_law_number_here", "_law_width"]
/-- _law_digits(_law_number_here, _law_width); 0 _law_number_here, 1 _law_width, 2 _law_rest, 3 _law_found, 4 _law_turn -/
def c17 : S :=
  (.seq (.par [2, 3] (.cons (.bin .mod (.bi .int (.cons (.var 0) .nil)) (.call 16 none (.cons (.var 1) .nil))) (.cons (.lst .nil) .nil)))
  (.seq (.for_ (.nm 4) (.rng (.cons (.var 1) .nil)) (.seq (.xpr (.mt .append (.var 3) (.cons (.bin .mod (.var 2) (.con (.int 2))) .nil)))
  (.set 2 (.bin .fdiv (.var 2) (.con (.int 2))))))
  (.ret (.var 3))))
def d17 : Fd := ⟨2, 5, c17⟩
abbrev s18 : Stmt := top 24
abbrev N18 : List Str := ["_law_digits_here", "_law_total", "_law_weight", "_law_digit"]
abbrev ps18 : List Str := ["_law_digits_here"]
/-- _law_back(_law_digits_here); 0 _law_digits_here, 1 _law_total, 2 _law_weight, 3 _law_digit -/
def c18 : S :=
  (.seq (.unp (.tp (.cons (.nm 1) (.cons (.nm 2) .nil))) (.tup (.cons (.con (.int 0)) (.cons (.con (.int 1)) .nil))))
  (.seq (.for_ (.nm 3) (.val (.var 0)) (.par [1, 2] (.cons (.bin .add (.var 1) (.bin .mul (.var 3) (.var 2))) (.cons (.bin .add (.var 2) (.var 2)) .nil))))
  (.ret (.var 1))))
def d18 : Fd := ⟨1, 4, c18⟩
abbrev s19 : Stmt := top 25
abbrev N19 : List Str := ["_law_digits_here", "_law_total", "_law_weight", "_law_at", "_law_digit"]
abbrev ps19 : List Str := ["_law_digits_here"]
/-- _law_read(_law_digits_here); 0 _law_digits_here, 1 _law_total, 2 _law_weight, 3 _law_at, 4 _law_digit -/
def c19 : S :=
  (.seq (.unp (.tp (.cons (.nm 1) (.cons (.nm 2) .nil))) (.tup (.cons (.con (.int 0)) (.cons (.con (.int 1)) .nil))))
  (.seq (.for_ (.tp (.cons (.nm 3) (.cons (.nm 4) .nil))) (.enum (.var 0)) (.seq (.set 1 (.ite (.cmp .eq (.bin .add (.var 3) (.con (.int 1))) (.bi .len (.cons (.var 0) .nil))) (.bin .sub (.var 1) (.bin .mul (.var 4) (.var 2))) (.bin .add (.var 1) (.bin .mul (.var 4) (.var 2)))))
  (.set 2 (.bin .add (.var 2) (.var 2)))))
  (.ret (.var 1))))
def d19 : Fd := ⟨1, 5, c19⟩
abbrev s20 : Stmt := top 26
abbrev N20 : List Str := ["_law_one", "_law_other", "_law_width", "_law_pieces", "_law_found", "_law_turn", "_law_rest", "_law_at"]
abbrev ps20 : List Str := ["_law_one", "_law_other", "_law_width"]
/-- _law_times(_law_one, _law_other, _law_width); 0 _law_one, 1 _law_other, 2 _law_width, 3 _law_pieces, 4 _law_found, 5 _law_turn, 6 _law_rest, 7 _law_at -/
def c20 : S :=
  (.seq (.par [3, 4] (.cons (.lst (.cons (.var 1) .nil)) (.cons (.con (.int 0)) .nil)))
  (.seq (.for_ (.nm 5) (.rng (.cons (.var 2) .nil)) (.xpr (.mt .append (.var 3) (.cons (.bin .add (.ix (.var 3) (.neg (.con (.int 1)))) (.ix (.var 3) (.neg (.con (.int 1))))) .nil))))
  (.seq (.set 6 (.var 0))
  (.seq (.for_ (.nm 7) (.val (.rev (.lrg (.cons (.bin .add (.var 2) (.con (.int 1))) .nil)))) (.ite (.cmp .le (.ix (.var 3) (.var 7)) (.var 6)) (.par [6, 4] (.cons (.bin .sub (.var 6) (.ix (.var 3) (.var 7))) (.cons (.bin .add (.var 4) (.call 16 none (.cons (.var 7) .nil))) .nil))) .skip))
  (.ret (.var 4))))))
def d20 : Fd := ⟨3, 8, c20⟩
abbrev s21 : Stmt := top 27
abbrev N21 : List Str := ["_law_op", "_law_width", "_law_one", "_law_other", "_law_first", "_law_second", "_law_a", "_law_b", "_law_times_here", "_law_wanted", "_law_by"]
abbrev ps21 : List Str := ["_law_op", "_law_width", "_law_one", "_law_other"]
/-- _law_due(_law_op, _law_width, _law_one, _law_other); 0 _law_op, 1 _law_width, 2 _law_one, 3 _law_other, 4 _law_first, 5 _law_second, 6 _law_a, 7 _law_b, 8 _law_times_here, 9 _law_wanted, 10 _law_by -/
def c21 : S :=
  (.seq (.par [4, 5] (.cons (.call 17 none (.cons (.var 2) (.cons (.var 1) .nil))) (.cons (.call 17 none (.cons (.var 3) (.cons (.var 1) .nil))) .nil)))
  (.seq (.ite (.cmp .isin (.var 0) (.lst (.cons (.con (.str "add")) (.cons (.con (.str "sub")) (.cons (.con (.str "mul")) .nil))))) (.ret (.call 18 none (.cons (.call 17 none (.cons (.ite (.cmp .eq (.var 0) (.con (.str "add"))) (.bin .add (.var 2) (.var 3)) (.ite (.cmp .eq (.var 0) (.con (.str "sub"))) (.bin .sub (.var 2) (.var 3)) (.bin .mul (.var 2) (.var 3)))) (.cons (.var 1) .nil))) .nil))) .skip)
  (.seq (.ite (.cmp .isin (.var 0) (.lst (.cons (.con (.str "udiv")) (.cons (.con (.str "urem")) (.cons (.con (.str "sdiv")) (.cons (.con (.str "srem")) .nil)))))) (.seq (.ite (.cmp .eq (.var 3) (.con (.int 0))) (.ret (.con .non)) .skip)
  (.seq (.unp (.tp (.cons (.nm 6) (.cons (.nm 7) .nil))) (.ite (.cmp .eq (.ix (.var 0) (.con (.int 0))) (.con (.str "u"))) (.tup (.cons (.var 2) (.cons (.var 3) .nil))) (.tup (.cons (.call 19 none (.cons (.var 4) .nil)) (.cons (.call 19 none (.cons (.var 5) .nil)) .nil)))))
  (.seq (.set 8 (.call 20 none (.cons (.bi .abs (.cons (.var 6) .nil)) (.cons (.bi .abs (.cons (.var 7) .nil)) (.cons (.var 1) .nil)))))
  (.seq (.set 8 (.ite (.cmp .eq (.cmp .lt (.var 6) (.con (.int 0))) (.cmp .lt (.var 7) (.con (.int 0)))) (.var 8) (.bin .sub (.con (.int 0)) (.var 8))))
  (.ret (.call 18 none (.cons (.call 17 none (.cons (.ite (.cmp .eq (.sl (.var 0) (.cons (.con (.int 1)) .nil) .nil) (.con (.str "div"))) (.var 8) (.bin .sub (.var 6) (.bin .mul (.var 7) (.var 8)))) (.cons (.var 1) .nil))) .nil))))))) .skip)
  (.seq (.ite (.cmp .isin (.var 0) (.lst (.cons (.con (.str "and")) (.cons (.con (.str "or")) (.cons (.con (.str "xor")) .nil))))) (.seq (.set 9 (.ix (.dsp (.cons (.con (.str "and")) (.cons (.lst (.cons (.con (.int 2)) .nil)) (.cons (.con (.str "or")) (.cons (.lst (.cons (.con (.int 1)) (.cons (.con (.int 2)) .nil))) (.cons (.con (.str "xor")) (.cons (.lst (.cons (.con (.int 1)) .nil)) .nil))))))) (.var 0)))
  (.ret (.call 18 none (.cons (.lc [6, 7] (.tp (.cons (.nm 6) (.cons (.nm 7) .nil))) (.zip (.var 4) (.var 5)) .nil (.ite (.cmp .isin (.bin .add (.var 6) (.var 7)) (.var 9)) (.con (.int 1)) (.con (.int 0)))) .nil)))) .skip)
  (.seq (.set 10 (.bin .mod (.bi .int (.cons (.var 3) .nil)) (.var 1)))
  (.seq (.ite (.cmp .eq (.var 0) (.con (.str "shl"))) (.ret (.call 18 none (.cons (.sl (.bin .add (.bin .mul (.lst (.cons (.con (.int 0)) .nil)) (.var 10)) (.var 4)) .nil (.cons (.var 1) .nil)) .nil))) .skip)
  (.ret (.call 18 none (.cons (.sl (.bin .add (.var 4) (.bin .mul (.lst (.cons (.ite (.cmp .eq (.var 0) (.con (.str "ashr"))) (.ix (.var 4) (.neg (.con (.int 1)))) (.con (.int 0))) .nil)) (.var 10))) (.cons (.var 10) .nil) .nil) .nil)))))))))
def d21 : Fd := ⟨4, 11, c21⟩
abbrev s22 : Stmt := top 28
abbrev N22 : List Str := ["_law_script", "_law_deal", "_law_names", "_law_turn", "_law_width", "_law_one", "_law_other", "_law_op", "_law_great", "_law_odd"]
abbrev ps22 : List Str := ["_law_script"]
/-- law(_law_script); 0 _law_script, 1 _law_deal, 2 _law_names, 3 _law_turn, 4 _law_width, 5 _law_one, 6 _law_other, 7 _law_op, 8 _law_great, 9 _law_odd -/
def c22 : S :=
  (.seq (.set 1 (.call 11 none (.cons (.var 0) (.cons (.con (.int 1)) .nil))))
  (.seq (.set 2 (.tup (.cons (.con (.str "add")) (.cons (.con (.str "sub")) (.cons (.con (.str "mul")) (.cons (.con (.str "udiv")) (.cons (.con (.str "sdiv")) (.cons (.con (.str "urem")) (.cons (.con (.str "srem")) (.cons (.con (.str "and")) (.cons (.con (.str "or")) (.cons (.con (.str "xor")) (.cons (.con (.str "shl")) (.cons (.con (.str "lshr")) (.cons (.con (.str "ashr")) .nil)))))))))))))))
  (.seq (.ite (.cmp .ne (.bi .repr (.cons (.tup (.cons (.con k_OPS) (.cons (.con k_WIDTHS) .nil))) .nil)) (.bi .repr (.cons (.tup (.cons (.var 2) (.cons (.tup (.cons (.con (.int 1)) (.cons (.con (.int 8)) (.cons (.con (.int 16)) (.cons (.con (.int 32)) (.cons (.con (.int 64)) .nil)))))) .nil))) .nil))) (.ret (.con (.bl false))) .skip)
  (.seq (.for_ (.nm 3) (.rng (.cons (.con (.int 4)) .nil)) (.seq (.set 4 (.call 13 none (.cons (.var 1) (.cons (.lst (.cons (.con (.int 1)) (.cons (.con (.int 8)) (.cons (.con (.int 16)) (.cons (.con (.int 32)) (.cons (.con (.int 64)) .nil)))))) .nil))))
  (.seq (.par [5, 6] (.cons (.call 15 none (.cons (.var 1) (.cons (.var 4) .nil))) (.cons (.call 15 none (.cons (.var 1) (.cons (.var 4) .nil))) .nil)))
  (.seq (.ite (.or (.cmp .notN (.call 4 (some [1, 0]) (.cons (.var 4) (.cons (.var 5) .nil))) (.con (.bl true))) (.cmp .notN (.call 3 (some [0]) (.cons (.var 4) .nil)) (.con (.bl true)))) (.ret (.con (.bl false))) .skip)
  (.seq (.ite (.cmp .ne (.bi .repr (.cons (.call 6 (some [1, 0]) (.cons (.var 4) (.cons (.var 5) .nil))) .nil)) (.bi .repr (.cons (.call 19 none (.cons (.call 17 none (.cons (.var 5) (.cons (.var 4) .nil))) .nil)) .nil))) (.ret (.con (.bl false))) .skip)
  (.seq (.for_ (.nm 7) (.val (.var 2)) (.ite (.cmp .ne (.bi .repr (.cons (.call 10 (some [3, 2, 1, 0]) (.cons (.var 6) (.cons (.var 5) (.cons (.var 4) (.cons (.var 7) .nil))))) .nil)) (.bi .repr (.cons (.call 21 none (.cons (.var 7) (.cons (.var 4) (.cons (.var 5) (.cons (.var 6) .nil))))) .nil))) (.ret (.con (.bl false))) .skip))
  (.seq (.set 8 (.call 13 none (.cons (.var 1) (.cons (.lst (.cons (.bin .mul (.var 5) (.var 6)) (.cons (.bin .sub (.bin .pow (.con (.int 10)) (.con (.int 39))) (.call 12 none (.cons (.var 1) (.cons (.bin .pow (.con (.int 10)) (.con (.int 20))) .nil)))) (.cons (.bin .sub (.con (.int 0)) (.call 12 none (.cons (.var 1) (.cons (.bin .pow (.con (.int 10)) (.con (.int 39))) .nil)))) (.cons (.bin .sub (.var 5) (.call 16 none (.cons (.var 4) .nil))) .nil))))) .nil))))
  (.seq (.ite (.cmp .ne (.bi .repr (.cons (.call 5 (some [1, 0]) (.cons (.var 4) (.cons (.var 8) .nil))) .nil)) (.bi .repr (.cons (.call 18 none (.cons (.call 17 none (.cons (.var 8) (.cons (.var 4) .nil))) .nil)) .nil))) (.ret (.con (.bl false))) .skip)
  (.seq (.set 9 (.call 13 none (.cons (.var 1) (.cons (.lst (.cons (.call 16 none (.cons (.var 4) .nil)) (.cons (.neg (.con (.int 1))) (.cons (.con (.bl true)) (.cons (.con (.bl false)) (.cons (.con .non) (.cons (.con (.str "1")) (.cons (.tup (.cons (.con (.int 1)) .nil)) (.cons (.bin .pow (.con (.int 10)) (.con (.int 30))) .nil))))))))) .nil))))
  (.ite (.or (.cmp .notN (.call 4 none (.cons (.var 9) (.cons (.var 4) .nil))) (.con (.bl false))) (.cmp .notN (.call 3 none (.cons (.call 13 none (.cons (.var 1) (.cons (.lst (.cons (.con (.int 0)) (.cons (.con (.int 2)) (.cons (.con (.int 7)) (.cons (.con (.int 128)) (.cons (.neg (.con (.int 8))) (.cons (.con (.bl true)) (.cons (.con .non) (.cons (.con (.str "8")) (.cons (.tup (.cons (.con (.int 8)) .nil)) .nil)))))))))) .nil))) .nil)) (.con (.bl false)))) (.ret (.con (.bl false))) .skip))))))))))
  (.ret (.con (.bl true)))))))
def d22 : Fd := ⟨1, 10, c22⟩
def tab : List Fd := [d0, d1, d2, d3, d4, d5, d6, d7, d8, d9, d10, d11, d12, d13, ⟨0, 0, .skip⟩, d15, d16, d17, d18, d19, d20, d21, d22]
/-! ### the walk -/
structure Fx (K : PySem.W.Frag) (mg : Str → Option Value) : Prop where
  f_abs : mg "abs" = none
  f_bool : mg "bool" = none
  f_enumerate : mg "enumerate" = none
  f_int : mg "int" = none
  f_isinstance : mg "isinstance" = none
  f_len : mg "len" = none
  f_list : mg "list" = none
  f_range : mg "range" = none
  f_repr : mg "repr" = none
  f_zip : mg "zip" = none
  k_DIVISIONS : ConP K mg "DIVISIONS" k_DIVISIONS
  k_OPS : ConP K mg "OPS" k_OPS
  k_WIDTHS : ConP K mg "WIDTHS" k_WIDTHS
theorem sc0 : FnScope N0 ps0 (defScope s0) := ⟨rfl, rfl, rfl, by decide +kernel, rfl, by decide +kernel, by decide +kernel⟩
abbrev Q0 (P : Program) (w : World) (K : PySem.W.Frag) (mg : Str → Option Value) (base : Heap) (n : Nat) : Prop := DefP P w K mg base tab n 0 "is_integer" ps0 (defArgs s0) (defBody s0) (defScope s0)
theorem bd0 : ∀ (kV doc pm : Value) (an : Option Addr) (cdv ct : Value) (us : List Value), us.length = ps0.length → bindArgs (PySem.W.fnOf "is_integer" "is_integer" (defArgs s0) (defBody s0) (defScope s0) .none kV doc pm an cdv ct) ⟨us, []⟩ = pure (ps0.zip us) := fun _ _ _ _ _ _ us hl => match us, hl with | [_], _ => rfl
theorem sc1 : FnScope N1 ps1 (defScope s1) := ⟨rfl, rfl, rfl, by decide +kernel, rfl, by decide +kernel, by decide +kernel⟩
abbrev Q1 (P : Program) (w : World) (K : PySem.W.Frag) (mg : Str → Option Value) (base : Heap) (n : Nat) : Prop := DefP P w K mg base tab n 1 "is_number" ps1 (defArgs s1) (defBody s1) (defScope s1)
theorem bd1 : ∀ (kV doc pm : Value) (an : Option Addr) (cdv ct : Value) (us : List Value), us.length = ps1.length → bindArgs (PySem.W.fnOf "is_number" "is_number" (defArgs s1) (defBody s1) (defScope s1) .none kV doc pm an cdv ct) ⟨us, []⟩ = pure (ps1.zip us) := fun _ _ _ _ _ _ us hl => match us, hl with | [_], _ => rfl
theorem sc2 : FnScope N2 ps2 (defScope s2) := ⟨rfl, rfl, rfl, by decide +kernel, rfl, by decide +kernel, by decide +kernel⟩
abbrev Q2 (P : Program) (w : World) (K : PySem.W.Frag) (mg : Str → Option Value) (base : Heap) (n : Nat) : Prop := DefP P w K mg base tab n 2 "is_index" ps2 (defArgs s2) (defBody s2) (defScope s2)
theorem bd2 : ∀ (kV doc pm : Value) (an : Option Addr) (cdv ct : Value) (us : List Value), us.length = ps2.length → bindArgs (PySem.W.fnOf "is_index" "is_index" (defArgs s2) (defBody s2) (defScope s2) .none kV doc pm an cdv ct) ⟨us, []⟩ = pure (ps2.zip us) := fun _ _ _ _ _ _ us hl => match us, hl with | [_, _], _ => rfl
theorem sc3 : FnScope N3 ps3 (defScope s3) := ⟨rfl, rfl, rfl, by decide +kernel, rfl, by decide +kernel, by decide +kernel⟩
abbrev Q3 (P : Program) (w : World) (K : PySem.W.Frag) (mg : Str → Option Value) (base : Heap) (n : Nat) : Prop := DefP P w K mg base tab n 3 "is_width" ps3 (defArgs s3) (defBody s3) (defScope s3)
theorem bd3 : ∀ (kV doc pm : Value) (an : Option Addr) (cdv ct : Value) (us : List Value), us.length = ps3.length → bindArgs (PySem.W.fnOf "is_width" "is_width" (defArgs s3) (defBody s3) (defScope s3) .none kV doc pm an cdv ct) ⟨us, []⟩ = pure (ps3.zip us) := fun _ _ _ _ _ _ us hl => match us, hl with | [_], _ => rfl
theorem sc4 : FnScope N4 ps4 (defScope s4) := ⟨rfl, rfl, rfl, by decide +kernel, rfl, by decide +kernel, by decide +kernel⟩
abbrev Q4 (P : Program) (w : World) (K : PySem.W.Frag) (mg : Str → Option Value) (base : Heap) (n : Nat) : Prop := DefP P w K mg base tab n 4 "is_of_width" ps4 (defArgs s4) (defBody s4) (defScope s4)
theorem bd4 : ∀ (kV doc pm : Value) (an : Option Addr) (cdv ct : Value) (us : List Value), us.length = ps4.length → bindArgs (PySem.W.fnOf "is_of_width" "is_of_width" (defArgs s4) (defBody s4) (defScope s4) .none kV doc pm an cdv ct) ⟨us, []⟩ = pure (ps4.zip us) := fun _ _ _ _ _ _ us hl => match us, hl with | [_, _], _ => rfl
theorem sc5 : FnScope N5 ps5 (defScope s5) := ⟨rfl, rfl, rfl, by decide +kernel, rfl, by decide +kernel, by decide +kernel⟩
abbrev Q5 (P : Program) (w : World) (K : PySem.W.Frag) (mg : Str → Option Value) (base : Heap) (n : Nat) : Prop := DefP P w K mg base tab n 5 "wrapped" ps5 (defArgs s5) (defBody s5) (defScope s5)
theorem bd5 : ∀ (kV doc pm : Value) (an : Option Addr) (cdv ct : Value) (us : List Value), us.length = ps5.length → bindArgs (PySem.W.fnOf "wrapped" "wrapped" (defArgs s5) (defBody s5) (defScope s5) .none kV doc pm an cdv ct) ⟨us, []⟩ = pure (ps5.zip us) := fun _ _ _ _ _ _ us hl => match us, hl with | [_, _], _ => rfl
theorem sc6 : FnScope N6 ps6 (defScope s6) := ⟨rfl, rfl, rfl, by decide +kernel, rfl, by decide +kernel, by decide +kernel⟩
abbrev Q6 (P : Program) (w : World) (K : PySem.W.Frag) (mg : Str → Option Value) (base : Heap) (n : Nat) : Prop := DefP P w K mg base tab n 6 "signed" ps6 (defArgs s6) (defBody s6) (defScope s6)
theorem bd6 : ∀ (kV doc pm : Value) (an : Option Addr) (cdv ct : Value) (us : List Value), us.length = ps6.length → bindArgs (PySem.W.fnOf "signed" "signed" (defArgs s6) (defBody s6) (defScope s6) .none kV doc pm an cdv ct) ⟨us, []⟩ = pure (ps6.zip us) := fun _ _ _ _ _ _ us hl => match us, hl with | [_, _], _ => rfl
theorem sc7 : FnScope N7 ps7 (defScope s7) := ⟨rfl, rfl, rfl, by decide +kernel, rfl, by decide +kernel, by decide +kernel⟩
abbrev Q7 (P : Program) (w : World) (K : PySem.W.Frag) (mg : Str → Option Value) (base : Heap) (n : Nat) : Prop := DefP P w K mg base tab n 7 "quotient" ps7 (defArgs s7) (defBody s7) (defScope s7)
theorem bd7 : ∀ (kV doc pm : Value) (an : Option Addr) (cdv ct : Value) (us : List Value), us.length = ps7.length → bindArgs (PySem.W.fnOf "quotient" "quotient" (defArgs s7) (defBody s7) (defScope s7) .none kV doc pm an cdv ct) ⟨us, []⟩ = pure (ps7.zip us) := fun _ _ _ _ _ _ us hl => match us, hl with | [_, _], _ => rfl
theorem sc8 : FnScope N8 ps8 (defScope s8) := ⟨rfl, rfl, rfl, by decide +kernel, rfl, by decide +kernel, by decide +kernel⟩
abbrev Q8 (P : Program) (w : World) (K : PySem.W.Frag) (mg : Str → Option Value) (base : Heap) (n : Nat) : Prop := DefP P w K mg base tab n 8 "divided" ps8 (defArgs s8) (defBody s8) (defScope s8)
theorem bd8 : ∀ (kV doc pm : Value) (an : Option Addr) (cdv ct : Value) (us : List Value), us.length = ps8.length → bindArgs (PySem.W.fnOf "divided" "divided" (defArgs s8) (defBody s8) (defScope s8) .none kV doc pm an cdv ct) ⟨us, []⟩ = pure (ps8.zip us) := fun _ _ _ _ _ _ us hl => match us, hl with | [_, _, _, _], _ => rfl
theorem sc9 : FnScope N9 ps9 (defScope s9) := ⟨rfl, rfl, rfl, by decide +kernel, rfl, by decide +kernel, by decide +kernel⟩
abbrev Q9 (P : Program) (w : World) (K : PySem.W.Frag) (mg : Str → Option Value) (base : Heap) (n : Nat) : Prop := DefP P w K mg base tab n 9 "shifted" ps9 (defArgs s9) (defBody s9) (defScope s9)
theorem bd9 : ∀ (kV doc pm : Value) (an : Option Addr) (cdv ct : Value) (us : List Value), us.length = ps9.length → bindArgs (PySem.W.fnOf "shifted" "shifted" (defArgs s9) (defBody s9) (defScope s9) .none kV doc pm an cdv ct) ⟨us, []⟩ = pure (ps9.zip us) := fun _ _ _ _ _ _ us hl => match us, hl with | [_, _, _, _], _ => rfl
theorem sc10 : FnScope N10 ps10 (defScope s10) := ⟨rfl, rfl, rfl, by decide +kernel, rfl, by decide +kernel, by decide +kernel⟩
abbrev Q10 (P : Program) (w : World) (K : PySem.W.Frag) (mg : Str → Option Value) (base : Heap) (n : Nat) : Prop := DefP P w K mg base tab n 10 "bin_told" ps10 (defArgs s10) (defBody s10) (defScope s10)
theorem bd10 : ∀ (kV doc pm : Value) (an : Option Addr) (cdv ct : Value) (us : List Value), us.length = ps10.length → bindArgs (PySem.W.fnOf "bin_told" "bin_told" (defArgs s10) (defBody s10) (defScope s10) .none kV doc pm an cdv ct) ⟨us, []⟩ = pure (ps10.zip us) := fun _ _ _ _ _ _ us hl => match us, hl with | [_, _, _, _], _ => rfl
theorem sc11 : FnScope N11 ps11 (defScope s11) := ⟨rfl, rfl, rfl, by decide +kernel, rfl, by decide +kernel, by decide +kernel⟩
abbrev Q11 (P : Program) (w : World) (K : PySem.W.Frag) (mg : Str → Option Value) (base : Heap) (n : Nat) : Prop := DefP P w K mg base tab n 11 "_law_draw" ps11 (defArgs s11) (defBody s11) (defScope s11)
theorem bd11 : ∀ (kV doc pm : Value) (an : Option Addr) (cdv ct : Value) (us : List Value), us.length = ps11.length → bindArgs (PySem.W.fnOf "_law_draw" "_law_draw" (defArgs s11) (defBody s11) (defScope s11) .none kV doc pm an cdv ct) ⟨us, []⟩ = pure (ps11.zip us) := fun _ _ _ _ _ _ us hl => match us, hl with | [_, _], _ => rfl
theorem sc12 : FnScope N12 ps12 (defScope s12) := ⟨rfl, rfl, rfl, by decide +kernel, rfl, by decide +kernel, by decide +kernel⟩
abbrev Q12 (P : Program) (w : World) (K : PySem.W.Frag) (mg : Str → Option Value) (base : Heap) (n : Nat) : Prop := DefP P w K mg base tab n 12 "_law_any" ps12 (defArgs s12) (defBody s12) (defScope s12)
theorem bd12 : ∀ (kV doc pm : Value) (an : Option Addr) (cdv ct : Value) (us : List Value), us.length = ps12.length → bindArgs (PySem.W.fnOf "_law_any" "_law_any" (defArgs s12) (defBody s12) (defScope s12) .none kV doc pm an cdv ct) ⟨us, []⟩ = pure (ps12.zip us) := fun _ _ _ _ _ _ us hl => match us, hl with | [_, _], _ => rfl
theorem sc13 : FnScope N13 ps13 (defScope s13) := ⟨rfl, rfl, rfl, by decide +kernel, rfl, by decide +kernel, by decide +kernel⟩
abbrev Q13 (P : Program) (w : World) (K : PySem.W.Frag) (mg : Str → Option Value) (base : Heap) (n : Nat) : Prop := DefP P w K mg base tab n 13 "_law_of" ps13 (defArgs s13) (defBody s13) (defScope s13)
theorem bd13 : ∀ (kV doc pm : Value) (an : Option Addr) (cdv ct : Value) (us : List Value), us.length = ps13.length → bindArgs (PySem.W.fnOf "_law_of" "_law_of" (defArgs s13) (defBody s13) (defScope s13) .none kV doc pm an cdv ct) ⟨us, []⟩ = pure (ps13.zip us) := fun _ _ _ _ _ _ us hl => match us, hl with | [_, _], _ => rfl
theorem sc15 : FnScope N15 ps15 (defScope s15) := ⟨rfl, rfl, rfl, by decide +kernel, rfl, by decide +kernel, by decide +kernel⟩
abbrev Q15 (P : Program) (w : World) (K : PySem.W.Frag) (mg : Str → Option Value) (base : Heap) (n : Nat) : Prop := DefP P w K mg base tab n 15 "_law_number" ps15 (defArgs s15) (defBody s15) (defScope s15)
theorem bd15 : ∀ (kV doc pm : Value) (an : Option Addr) (cdv ct : Value) (us : List Value), us.length = ps15.length → bindArgs (PySem.W.fnOf "_law_number" "_law_number" (defArgs s15) (defBody s15) (defScope s15) .none kV doc pm an cdv ct) ⟨us, []⟩ = pure (ps15.zip us) := fun _ _ _ _ _ _ us hl => match us, hl with | [_, _], _ => rfl
theorem sc16 : FnScope N16 ps16 (defScope s16) := ⟨rfl, rfl, rfl, by decide +kernel, rfl, by decide +kernel, by decide +kernel⟩
abbrev Q16 (P : Program) (w : World) (K : PySem.W.Frag) (mg : Str → Option Value) (base : Heap) (n : Nat) : Prop := DefP P w K mg base tab n 16 "_law_power" ps16 (defArgs s16) (defBody s16) (defScope s16)
theorem bd16 : ∀ (kV doc pm : Value) (an : Option Addr) (cdv ct : Value) (us : List Value), us.length = ps16.length → bindArgs (PySem.W.fnOf "_law_power" "_law_power" (defArgs s16) (defBody s16) (defScope s16) .none kV doc pm an cdv ct) ⟨us, []⟩ = pure (ps16.zip us) := fun _ _ _ _ _ _ us hl => match us, hl with | [_], _ => rfl
theorem sc17 : FnScope N17 ps17 (defScope s17) := ⟨rfl, rfl, rfl, by decide +kernel, rfl, by decide +kernel, by decide +kernel⟩
abbrev Q17 (P : Program) (w : World) (K : PySem.W.Frag) (mg : Str → Option Value) (base : Heap) (n : Nat) : Prop := DefP P w K mg base tab n 17 "_law_digits" ps17 (defArgs s17) (defBody s17) (defScope s17)
theorem bd17 : ∀ (kV doc pm : Value) (an : Option Addr) (cdv ct : Value) (us : List Value), us.length = ps17.length → bindArgs (PySem.W.fnOf "_law_digits" "_law_digits" (defArgs s17) (defBody s17) (defScope s17) .none kV doc pm an cdv ct) ⟨us, []⟩ = pure (ps17.zip us) := fun _ _ _ _ _ _ us hl => match us, hl with | [_, _], _ => rfl
theorem sc18 : FnScope N18 ps18 (defScope s18) := ⟨rfl, rfl, rfl, by decide +kernel, rfl, by decide +kernel, by decide +kernel⟩
abbrev Q18 (P : Program) (w : World) (K : PySem.W.Frag) (mg : Str → Option Value) (base : Heap) (n : Nat) : Prop := DefP P w K mg base tab n 18 "_law_back" ps18 (defArgs s18) (defBody s18) (defScope s18)
theorem bd18 : ∀ (kV doc pm : Value) (an : Option Addr) (cdv ct : Value) (us : List Value), us.length = ps18.length → bindArgs (PySem.W.fnOf "_law_back" "_law_back" (defArgs s18) (defBody s18) (defScope s18) .none kV doc pm an cdv ct) ⟨us, []⟩ = pure (ps18.zip us) := fun _ _ _ _ _ _ us hl => match us, hl with | [_], _ => rfl
theorem sc19 : FnScope N19 ps19 (defScope s19) := ⟨rfl, rfl, rfl, by decide +kernel, rfl, by decide +kernel, by decide +kernel⟩
abbrev Q19 (P : Program) (w : World) (K : PySem.W.Frag) (mg : Str → Option Value) (base : Heap) (n : Nat) : Prop := DefP P w K mg base tab n 19 "_law_read" ps19 (defArgs s19) (defBody s19) (defScope s19)
theorem bd19 : ∀ (kV doc pm : Value) (an : Option Addr) (cdv ct : Value) (us : List Value), us.length = ps19.length → bindArgs (PySem.W.fnOf "_law_read" "_law_read" (defArgs s19) (defBody s19) (defScope s19) .none kV doc pm an cdv ct) ⟨us, []⟩ = pure (ps19.zip us) := fun _ _ _ _ _ _ us hl => match us, hl with | [_], _ => rfl
theorem sc20 : FnScope N20 ps20 (defScope s20) := ⟨rfl, rfl, rfl, by decide +kernel, rfl, by decide +kernel, by decide +kernel⟩
abbrev Q20 (P : Program) (w : World) (K : PySem.W.Frag) (mg : Str → Option Value) (base : Heap) (n : Nat) : Prop := DefP P w K mg base tab n 20 "_law_times" ps20 (defArgs s20) (defBody s20) (defScope s20)
theorem bd20 : ∀ (kV doc pm : Value) (an : Option Addr) (cdv ct : Value) (us : List Value), us.length = ps20.length → bindArgs (PySem.W.fnOf "_law_times" "_law_times" (defArgs s20) (defBody s20) (defScope s20) .none kV doc pm an cdv ct) ⟨us, []⟩ = pure (ps20.zip us) := fun _ _ _ _ _ _ us hl => match us, hl with | [_, _, _], _ => rfl
theorem sc21 : FnScope N21 ps21 (defScope s21) := ⟨rfl, rfl, rfl, by decide +kernel, rfl, by decide +kernel, by decide +kernel⟩
abbrev Q21 (P : Program) (w : World) (K : PySem.W.Frag) (mg : Str → Option Value) (base : Heap) (n : Nat) : Prop := DefP P w K mg base tab n 21 "_law_due" ps21 (defArgs s21) (defBody s21) (defScope s21)
theorem bd21 : ∀ (kV doc pm : Value) (an : Option Addr) (cdv ct : Value) (us : List Value), us.length = ps21.length → bindArgs (PySem.W.fnOf "_law_due" "_law_due" (defArgs s21) (defBody s21) (defScope s21) .none kV doc pm an cdv ct) ⟨us, []⟩ = pure (ps21.zip us) := fun _ _ _ _ _ _ us hl => match us, hl with | [_, _, _, _], _ => rfl
theorem sc22 : FnScope N22 ps22 (defScope s22) := ⟨rfl, rfl, rfl, by decide +kernel, rfl, by decide +kernel, by decide +kernel⟩
abbrev Q22 (P : Program) (w : World) (K : PySem.W.Frag) (mg : Str → Option Value) (base : Heap) (n : Nat) : Prop := DefP P w K mg base tab n 22 "law" ps22 (defArgs s22) (defBody s22) (defScope s22)
theorem bd22 : ∀ (kV doc pm : Value) (an : Option Addr) (cdv ct : Value) (us : List Value), us.length = ps22.length → bindArgs (PySem.W.fnOf "law" "law" (defArgs s22) (defBody s22) (defScope s22) .none kV doc pm an cdv ct) ⟨us, []⟩ = pure (ps22.zip us) := fun _ _ _ _ _ _ us hl => match us, hl with | [_], _ => rfl
theorem kw4_0_1_0 : KwOk "is_of_width" ps4 ["width", "value"] [1, 0] 0 2 (defArgs s4) (defBody s4) (defScope s4) := fun _ _ _ _ _ _ us ws h1 h2 => match us, ws, h1, h2 with | [], [x0, x1], _, _ => ⟨[x1, x0], rfl, rfl, rfl⟩
theorem kw3_0_0 : KwOk "is_width" ps3 ["value"] [0] 0 1 (defArgs s3) (defBody s3) (defScope s3) := fun _ _ _ _ _ _ us ws h1 h2 => match us, ws, h1, h2 with | [], [x0], _, _ => ⟨[x0], rfl, rfl, rfl⟩
theorem kw6_0_1_0 : KwOk "signed" ps6 ["width", "number"] [1, 0] 0 2 (defArgs s6) (defBody s6) (defScope s6) := fun _ _ _ _ _ _ us ws h1 h2 => match us, ws, h1, h2 with | [], [x0, x1], _, _ => ⟨[x1, x0], rfl, rfl, rfl⟩
theorem kw10_0_3_2_1_0 : KwOk "bin_told" ps10 ["other", "one", "width", "op"] [3, 2, 1, 0] 0 4 (defArgs s10) (defBody s10) (defScope s10) := fun _ _ _ _ _ _ us ws h1 h2 => match us, ws, h1, h2 with | [], [x0, x1, x2, x3], _, _ => ⟨[x3, x2, x1, x0], rfl, rfl, rfl⟩
theorem kw5_0_1_0 : KwOk "wrapped" ps5 ["width", "number"] [1, 0] 0 2 (defArgs s5) (defBody s5) (defScope s5) := fun _ _ _ _ _ _ us ws h1 h2 => match us, ws, h1, h2 with | [], [x0, x1], _, _ => ⟨[x1, x0], rfl, rfl, rfl⟩
section
variable {P : Program} {w : World} {K : PySem.W.Frag} {mg : Str → Option Value} {base : Heap} {n : Nat}
theorem b0 (fx : Fx K mg)  : BodyP P w K mg base tab n N0 "is_integer" (defBody s0) (defScope s0) c0 := by
  intro f cdv A outer s H E hr hg
  have ok := bodyZ_ok (P := P) (w := w) (K := K) (mg := mg) (base := base) (outer := outer) (H := H) (E := E) (cl := run tab n) sc0.nd hr hg
  exact (s_one (s_ret (w_and (w_isi (w_var 0) rfl fx.f_isinstance rfl fx.f_int (by decide +kernel) kit_int) (w_one (w_not (w_isi (w_var 0) rfl fx.f_isinstance rfl fx.f_bool (by decide +kernel) kit_bool))))))
theorem b1 (fx : Fx K mg) (q_is_integer : Q0 P w K mg base n) : BodyP P w K mg base tab n N1 "is_number" (defBody s1) (defScope s1) c1 := by
  intro f cdv A outer s H E hr hg
  have ok := bodyZ_ok (P := P) (w := w) (K := K) (mg := mg) (base := base) (outer := outer) (H := H) (E := E) (cl := run tab n) sc1.nd hr hg
  exact (s_one (s_ret (w_and (w_call 0 ok (DefP.callee q_is_integer hr) rfl (w_cons (w_var 0) w_nil) bd0) (w_one (w_cmp .ge ok (w_var 0) w_int)))))
theorem b2 (fx : Fx K mg) (q_is_number : Q1 P w K mg base n) : BodyP P w K mg base tab n N2 "is_index" (defBody s2) (defScope s2) c2 := by
  intro f cdv A outer s H E hr hg
  have ok := bodyZ_ok (P := P) (w := w) (K := K) (mg := mg) (base := base) (outer := outer) (H := H) (E := E) (cl := run tab n) sc2.nd hr hg
  exact (s_one (s_ret (w_and (w_call 1 ok (DefP.callee q_is_number hr) rfl (w_cons (w_var 0) w_nil) bd1) (w_one (w_cmp .lt ok (w_var 0) (w_var 1))))))
theorem b3 (fx : Fx K mg) (q_is_integer : Q0 P w K mg base n) : BodyP P w K mg base tab n N3 "is_width" (defBody s3) (defScope s3) c3 := by
  intro f cdv A outer s H E hr hg
  have ok := bodyZ_ok (P := P) (w := w) (K := K) (mg := mg) (base := base) (outer := outer) (H := H) (E := E) (cl := run tab n) sc3.nd hr hg
  exact (s_one (s_ret (w_and (w_call 0 ok (DefP.callee q_is_integer hr) rfl (w_cons (w_var 0) w_nil) bd0) (w_one (w_cmp .isin ok (w_var 0) (w_con fx.k_WIDTHS rfl))))))
theorem b4 (fx : Fx K mg) (q_is_index : Q2 P w K mg base n) : BodyP P w K mg base tab n N4 "is_of_width" (defBody s4) (defScope s4) c4 := by
  intro f cdv A outer s H E hr hg
  have ok := bodyZ_ok (P := P) (w := w) (K := K) (mg := mg) (base := base) (outer := outer) (H := H) (E := E) (cl := run tab n) sc4.nd hr hg
  exact (s_one (s_ret (w_call 2 ok (DefP.callee q_is_index hr) rfl (w_cons (w_var 0) (w_cons (w_bin .shl w_int (w_var 1)) w_nil)) bd2)))
theorem b5 (fx : Fx K mg)  : BodyP P w K mg base tab n N5 "wrapped" (defBody s5) (defScope s5) c5 := by
  intro f cdv A outer s H E hr hg
  have ok := bodyZ_ok (P := P) (w := w) (K := K) (mg := mg) (base := base) (outer := outer) (H := H) (E := E) (cl := run tab n) sc5.nd hr hg
  exact (s_one (s_ret (w_bin .mod (w_var 0) (w_bin .shl w_int (w_var 1)))))
theorem b6 (fx : Fx K mg)  : BodyP P w K mg base tab n N6 "signed" (defBody s6) (defScope s6) c6 := by
  intro f cdv A outer s H E hr hg
  have ok := bodyZ_ok (P := P) (w := w) (K := K) (mg := mg) (base := base) (outer := outer) (H := H) (E := E) (cl := run tab n) sc6.nd hr hg
  exact (s_one (s_ret (w_ite (t_cmp .ge ok (w_var 0) (w_bin .shl w_int (w_bin .sub (w_var 1) w_int))) (w_bin .sub (w_var 0) (w_bin .shl w_int (w_var 1))) (w_var 0))))
theorem b7 (fx : Fx K mg)  : BodyP P w K mg base tab n N7 "quotient" (defBody s7) (defScope s7) c7 := by
  intro f cdv A outer s H E hr hg
  have ok := bodyZ_ok (P := P) (w := w) (K := K) (mg := mg) (base := base) (outer := outer) (H := H) (E := E) (cl := run tab n) sc7.nd hr hg
  exact (s_cons (s_set 2 sc7.nd (w_bin .fdiv (w_bi .abs ok rfl fx.f_abs (by decide +kernel) (w_cons (w_var 0) w_nil)) (w_bi .abs ok rfl fx.f_abs (by decide +kernel) (w_cons (w_var 1) w_nil))))
  (s_one (s_ret (w_ite (t_cmp .eq ok (w_cmp .lt ok (w_var 0) w_int) (w_cmp .lt ok (w_var 1) w_int)) (w_var 2) (w_neg (w_var 2))))))
theorem b8 (fx : Fx K mg) (q_wrapped : Q5 P w K mg base n) (q_signed : Q6 P w K mg base n) (q_quotient : Q7 P w K mg base n) : BodyP P w K mg base tab n N8 "divided" (defBody s8) (defScope s8) c8 := by
  intro f cdv A outer s H E hr hg
  have ok := bodyZ_ok (P := P) (w := w) (K := K) (mg := mg) (base := base) (outer := outer) (H := H) (E := E) (cl := run tab n) sc8.nd hr hg
  exact (s_cons (s_ite (t_cmp .eq ok (w_var 3) w_int) (s_one (s_ret w_non)) s_nil)
  (s_cons (s_ite (t_cmp .eq ok (w_var 0) w_str) (s_one (s_ret (w_bin .fdiv (w_var 2) (w_var 3)))) s_nil)
  (s_cons (s_ite (t_cmp .eq ok (w_var 0) w_str) (s_one (s_ret (w_bin .mod (w_var 2) (w_var 3)))) s_nil)
  (s_cons (s_par2 4 5 ok (w_cons (w_call 6 ok (DefP.callee q_signed hr) rfl (w_cons (w_var 2) (w_cons (w_var 1) w_nil)) bd6) (w_cons (w_call 6 ok (DefP.callee q_signed hr) rfl (w_cons (w_var 3) (w_cons (w_var 1) w_nil)) bd6) w_nil)) rfl)
  (s_cons (s_set 6 sc8.nd (w_call 7 ok (DefP.callee q_quotient hr) rfl (w_cons (w_var 4) (w_cons (w_var 5) w_nil)) bd7))
  (s_one (s_ret (w_call 5 ok (DefP.callee q_wrapped hr) rfl (w_cons (w_ite (t_cmp .eq ok (w_var 0) w_str) (w_var 6) (w_bin .sub (w_var 4) (w_bin .mul (w_var 5) (w_var 6)))) (w_cons (w_var 1) w_nil)) bd5))))))))
theorem b9 (fx : Fx K mg) (q_wrapped : Q5 P w K mg base n) (q_signed : Q6 P w K mg base n) : BodyP P w K mg base tab n N9 "shifted" (defBody s9) (defScope s9) c9 := by
  intro f cdv A outer s H E hr hg
  have ok := bodyZ_ok (P := P) (w := w) (K := K) (mg := mg) (base := base) (outer := outer) (H := H) (E := E) (cl := run tab n) sc9.nd hr hg
  exact (s_cons (s_set 4 sc9.nd (w_bin .mod (w_var 3) (w_var 1)))
  (s_cons (s_ite (t_cmp .eq ok (w_var 0) w_str) (s_one (s_ret (w_call 5 ok (DefP.callee q_wrapped hr) rfl (w_cons (w_bin .shl (w_var 2) (w_var 4)) (w_cons (w_var 1) w_nil)) bd5))) s_nil)
  (s_cons (s_ite (t_cmp .eq ok (w_var 0) w_str) (s_one (s_ret (w_bin .shr (w_var 2) (w_var 4)))) s_nil)
  (s_one (s_ret (w_call 5 ok (DefP.callee q_wrapped hr) rfl (w_cons (w_bin .shr (w_call 6 ok (DefP.callee q_signed hr) rfl (w_cons (w_var 2) (w_cons (w_var 1) w_nil)) bd6) (w_var 4)) (w_cons (w_var 1) w_nil)) bd5))))))
theorem b10 (fx : Fx K mg) (q_wrapped : Q5 P w K mg base n) (q_divided : Q8 P w K mg base n) (q_shifted : Q9 P w K mg base n) : BodyP P w K mg base tab n N10 "bin_told" (defBody s10) (defScope s10) c10 := by
  intro f cdv A outer s H E hr hg
  have ok := bodyZ_ok (P := P) (w := w) (K := K) (mg := mg) (base := base) (outer := outer) (H := H) (E := E) (cl := run tab n) sc10.nd hr hg
  exact (s_cons (s_ite (t_cmp .isin ok (w_var 0) (w_con fx.k_DIVISIONS rfl)) (s_one (s_ret (w_call 8 ok (DefP.callee q_divided hr) rfl (w_cons (w_var 0) (w_cons (w_var 1) (w_cons (w_var 2) (w_cons (w_var 3) w_nil)))) bd8))) s_nil)
  (s_cons (s_ite (t_cmp .isin ok (w_var 0) (w_tup (w_cons w_str (w_cons w_str (w_cons w_str w_nil))))) (s_one (s_ret (w_call 9 ok (DefP.callee q_shifted hr) rfl (w_cons (w_var 0) (w_cons (w_var 1) (w_cons (w_var 2) (w_cons (w_var 3) w_nil)))) bd9))) s_nil)
  (s_cons (s_ite (t_cmp .eq ok (w_var 0) w_str) (s_one (s_ret (w_bin .band (w_var 2) (w_var 3)))) s_nil)
  (s_cons (s_ite (t_cmp .eq ok (w_var 0) w_str) (s_one (s_ret (w_bin .bor (w_var 2) (w_var 3)))) s_nil)
  (s_cons (s_ite (t_cmp .eq ok (w_var 0) w_str) (s_one (s_ret (w_bin .bxor (w_var 2) (w_var 3)))) s_nil)
  (s_cons (s_ite (t_cmp .eq ok (w_var 0) w_str) (s_one (s_ret (w_call 5 ok (DefP.callee q_wrapped hr) rfl (w_cons (w_bin .add (w_var 2) (w_var 3)) (w_cons (w_var 1) w_nil)) bd5))) s_nil)
  (s_one (s_ret (w_call 5 ok (DefP.callee q_wrapped hr) rfl (w_cons (w_ite (t_cmp .eq ok (w_var 0) w_str) (w_bin .sub (w_var 2) (w_var 3)) (w_bin .mul (w_var 2) (w_var 3))) (w_cons (w_var 1) w_nil)) bd5)))))))))
theorem b11 (fx : Fx K mg)  : BodyP P w K mg base tab n N11 "_law_draw" (defBody s11) (defScope s11) c11 := by
  intro f cdv A outer s H E hr hg
  have ok := bodyZ_ok (P := P) (w := w) (K := K) (mg := mg) (base := base) (outer := outer) (H := H) (E := E) (cl := run tab n) sc11.nd hr hg
  exact (s_cons (s_setLc 2 (own := [("_law_cell", 4)]) ok (i_val (w_sl (w_var 0) w_o0 (w_o1 w_int))) (blkOk_by (by kernel_rfl)) (fun _ _ _ _ _ => (g_nm 4 sc11.nd)) (fun s0 H0 C0 l0 fp0 => c_nil) (fun s0 H0 C0 l0 fp0 => (w_bi .abs (Cz.Ok.blk ok s0 H0 _ C0 l0 fp0) rfl fx.f_abs (by decide +kernel) (w_cons (w_bi .int (Cz.Ok.blk ok s0 H0 _ C0 l0 fp0) rfl fx.f_int (by decide +kernel) (w_cons (w_var 4) w_nil)) w_nil))) (hsl_by (by decide)) (sw_true rfl rfl rfl (by decide +kernel)))
  (s_cons (s_set 3 sc11.nd (w_bin .add w_int (w_bin .mul w_int (w_var 1))))
  (s_cons (s_for ok bodyZ_pass (i_val (w_var 2)) (g_nm 4 sc11.nd) (fun _ _ => rfl) (s_one (s_set 3 sc11.nd (w_bin .mod (w_bi .int ok rfl fx.f_int (by decide +kernel) (w_cons (w_bin .add (w_bin .add (w_bin .mul (w_var 3) w_int) (w_bin .mod (w_var 4) w_int)) w_int) w_nil)) w_int))))
  (s_one (s_ret (w_lst (w_cons (w_rev (w_lc (own := [("_law_cell", 4)]) ok (i_val (w_var 2)) (blkOk_by (by kernel_rfl)) (fun _ _ _ _ _ => (g_nm 4 sc11.nd)) (fun s0 H0 C0 l0 fp0 => (c_one (t_cmp .ge (Cz.Ok.blk ok s0 H0 _ C0 l0 fp0) (w_var 4) (w_bin .pow w_int w_int)))) (fun s0 H0 C0 l0 fp0 => (w_var 4)) (hsl_by (by decide)))) (w_cons (w_var 3) w_nil))))))))
theorem b12 (fx : Fx K mg)  : BodyP P w K mg base tab n N12 "_law_any" (defBody s12) (defScope s12) c12 := by
  intro f cdv A outer s H E hr hg
  have ok := bodyZ_ok (P := P) (w := w) (K := K) (mg := mg) (base := base) (outer := outer) (H := H) (E := E) (cl := run tab n) sc12.nd hr hg
  exact (s_cons (s_whl bodyZ_pass (SW.t (t_and (t_cmp .ne ok (w_ix ok (w_var 0) w_int) (w_lst w_nil)) (t_and1 (t_cmp .eq ok (w_ix ok (w_ix ok (w_var 0) w_int) (w_neg w_int)) w_int)))) (s_one (s_expr (w_mt0 .pop PySem.F.slot_list_pop rfl (w_ix ok (w_var 0) w_int)))))
  (s_cons (s_ite (t_cmp .ne ok (w_ix ok (w_var 0) w_int) (w_lst w_nil)) (s_cons (s_set 2 sc12.nd (w_bi .int ok rfl fx.f_int (by decide +kernel) (w_cons (w_mt0 .pop PySem.F.slot_list_pop rfl (w_ix ok (w_var 0) w_int)) w_nil)))
  (s_cons (s_expr (w_mt .append PySem.F.slot_list_append rfl (w_ix ok (w_var 0) w_int) (w_cons (w_bin .fdiv (w_var 2) (w_var 1)) w_nil)))
  (s_one (s_ret (w_bin .mod (w_var 2) (w_var 1)))))) s_nil)
  (s_cons (s_sto ok (w_var 0) w_int (w_bin .mod (w_bi .int ok rfl fx.f_int (by decide +kernel) (w_cons (w_bin .add (w_bin .mul (w_ix ok (w_var 0) w_int) w_int) w_int) w_nil)) w_int))
  (s_one (s_ret (w_bin .mod (w_bi .int ok rfl fx.f_int (by decide +kernel) (w_cons (w_bin .fdiv (w_ix ok (w_var 0) w_int) w_int) w_nil)) (w_var 1)))))))
theorem b13 (fx : Fx K mg) (q__law_any : Q12 P w K mg base n) : BodyP P w K mg base tab n N13 "_law_of" (defBody s13) (defScope s13) c13 := by
  intro f cdv A outer s H E hr hg
  have ok := bodyZ_ok (P := P) (w := w) (K := K) (mg := mg) (base := base) (outer := outer) (H := H) (E := E) (cl := run tab n) sc13.nd hr hg
  exact (s_one (s_ret (w_ix ok (w_var 1) (w_call 12 ok (DefP.callee q__law_any hr) rfl (w_cons (w_var 0) (w_cons (w_bi .len ok rfl fx.f_len (by decide +kernel) (w_cons (w_var 1) w_nil)) w_nil)) bd12))))
theorem b15 (fx : Fx K mg) (q__law_any : Q12 P w K mg base n) (q__law_of : Q13 P w K mg base n) (q__law_power : Q16 P w K mg base n) : BodyP P w K mg base tab n N15 "_law_number" (defBody s15) (defScope s15) c15 := by
  intro f cdv A outer s H E hr hg
  have ok := bodyZ_ok (P := P) (w := w) (K := K) (mg := mg) (base := base) (outer := outer) (H := H) (E := E) (cl := run tab n) sc15.nd hr hg
  exact (s_cons (s_set 2 sc15.nd (w_call 16 ok (DefP.callee q__law_power hr) rfl (w_cons (w_var 1) w_nil) bd16))
  (s_cons (s_set 3 sc15.nd (w_call 12 ok (DefP.callee q__law_any hr) rfl (w_cons (w_var 0) (w_cons w_int w_nil)) bd12))
  (s_cons (s_ite (t_cmp .eq ok (w_var 3) w_int) (s_one (s_ret (w_call 13 ok (DefP.callee q__law_of hr) rfl (w_cons (w_var 0) (w_cons (w_lst (w_cons w_int (w_cons w_int (w_cons (w_bin .sub (w_var 2) w_int) (w_cons (w_bin .fdiv (w_var 2) w_int) (w_cons (w_bin .sub (w_bin .fdiv (w_var 2) w_int) w_int) (w_cons (w_bin .mod (w_bi .int ok rfl fx.f_int (by decide +kernel) (w_cons (w_var 1) w_nil)) (w_var 2)) (w_cons (w_bin .mod (w_bi .int ok rfl fx.f_int (by decide +kernel) (w_cons (w_bin .add (w_var 1) w_int) w_nil)) (w_var 2)) (w_cons (w_bin .fdiv (w_var 2) w_int) w_nil))))))))) w_nil)) bd13))) s_nil)
  (s_one (s_ret (w_ite (t_cmp .eq ok (w_var 3) w_int) (w_call 12 ok (DefP.callee q__law_any hr) rfl (w_cons (w_var 0) (w_cons (w_var 2) w_nil)) bd12) (w_bin .mod (w_bi .int ok rfl fx.f_int (by decide +kernel) (w_cons (w_bin .sub (w_call 12 ok (DefP.callee q__law_any hr) rfl (w_cons (w_var 0) (w_cons w_int w_nil)) bd12) w_int) w_nil)) (w_var 2))))))))
theorem b16 (fx : Fx K mg)  : BodyP P w K mg base tab n N16 "_law_power" (defBody s16) (defScope s16) c16 := by
  intro f cdv A outer s H E hr hg
  have ok := bodyZ_ok (P := P) (w := w) (K := K) (mg := mg) (base := base) (outer := outer) (H := H) (E := E) (cl := run tab n) sc16.nd hr hg
  exact (s_one (s_ret (w_bin .shl w_int (w_var 0))))
theorem b17 (fx : Fx K mg) (q__law_power : Q16 P w K mg base n) : BodyP P w K mg base tab n N17 "_law_digits" (defBody s17) (defScope s17) c17 := by
  intro f cdv A outer s H E hr hg
  have ok := bodyZ_ok (P := P) (w := w) (K := K) (mg := mg) (base := base) (outer := outer) (H := H) (E := E) (cl := run tab n) sc17.nd hr hg
  exact (s_cons (s_par2 2 3 ok (w_cons (w_bin .mod (w_bi .int ok rfl fx.f_int (by decide +kernel) (w_cons (w_var 0) w_nil)) (w_call 16 ok (DefP.callee q__law_power hr) rfl (w_cons (w_var 1) w_nil) bd16)) (w_cons (w_lst w_nil) w_nil)) rfl)
  (s_cons (s_for ok bodyZ_pass (i_rng1 rfl fx.f_range (w_var 1)) (g_nm 4 sc17.nd) (fun _ _ => rfl) (s_cons (s_expr (w_mt .append PySem.F.slot_list_append rfl (w_var 3) (w_cons (w_bin .mod (w_var 2) w_int) w_nil)))
  (s_one (s_set 2 sc17.nd (w_bin .fdiv (w_var 2) w_int)))))
  (s_one (s_ret (w_var 3)))))
theorem b18 (fx : Fx K mg)  : BodyP P w K mg base tab n N18 "_law_back" (defBody s18) (defScope s18) c18 := by
  intro f cdv A outer s H E hr hg
  have ok := bodyZ_ok (P := P) (w := w) (K := K) (mg := mg) (base := base) (outer := outer) (H := H) (E := E) (cl := run tab n) sc18.nd hr hg
  exact (s_cons (s_unp (w_tup (w_cons w_int (w_cons w_int w_nil))) (g_tp rfl (gs_cons (g_nm 1 sc18.nd) (gs_cons (g_nm 2 sc18.nd) gs_nil)) (fun _ _ _ h => asgs_len h)) (fun _ _ => rfl))
  (s_cons (s_for ok bodyZ_pass (i_val (w_var 0)) (g_nm 3 sc18.nd) (fun _ _ => rfl) (s_one (s_par2 1 2 ok (w_cons (w_bin .add (w_var 1) (w_bin .mul (w_var 3) (w_var 2))) (w_cons (w_bin .add (w_var 2) (w_var 2)) w_nil)) rfl)))
  (s_one (s_ret (w_var 1)))))
theorem b19 (fx : Fx K mg)  : BodyP P w K mg base tab n N19 "_law_read" (defBody s19) (defScope s19) c19 := by
  intro f cdv A outer s H E hr hg
  have ok := bodyZ_ok (P := P) (w := w) (K := K) (mg := mg) (base := base) (outer := outer) (H := H) (E := E) (cl := run tab n) sc19.nd hr hg
  exact (s_cons (s_unp (w_tup (w_cons w_int (w_cons w_int w_nil))) (g_tp rfl (gs_cons (g_nm 1 sc19.nd) (gs_cons (g_nm 2 sc19.nd) gs_nil)) (fun _ _ _ h => asgs_len h)) (fun _ _ => rfl))
  (s_cons (s_for ok bodyZ_pass (i_enum (w_var 0) rfl fx.f_enumerate) (g_tp rfl (gs_cons (g_nm 3 sc19.nd) (gs_cons (g_nm 4 sc19.nd) gs_nil)) (fun _ _ _ h => asgs_len h)) (fun _ _ => rfl) (s_cons (s_set 1 sc19.nd (w_ite (t_cmp .eq ok (w_bin .add (w_var 3) w_int) (w_bi .len ok rfl fx.f_len (by decide +kernel) (w_cons (w_var 0) w_nil))) (w_bin .sub (w_var 1) (w_bin .mul (w_var 4) (w_var 2))) (w_bin .add (w_var 1) (w_bin .mul (w_var 4) (w_var 2)))))
  (s_one (s_set 2 sc19.nd (w_bin .add (w_var 2) (w_var 2))))))
  (s_one (s_ret (w_var 1)))))
theorem b20 (fx : Fx K mg) (q__law_power : Q16 P w K mg base n) : BodyP P w K mg base tab n N20 "_law_times" (defBody s20) (defScope s20) c20 := by
  intro f cdv A outer s H E hr hg
  have ok := bodyZ_ok (P := P) (w := w) (K := K) (mg := mg) (base := base) (outer := outer) (H := H) (E := E) (cl := run tab n) sc20.nd hr hg
  exact (s_cons (s_par2 3 4 ok (w_cons (w_lst (w_cons (w_var 1) w_nil)) (w_cons w_int w_nil)) rfl)
  (s_cons (s_for ok bodyZ_pass (i_rng1 rfl fx.f_range (w_var 2)) (g_nm 5 sc20.nd) (fun _ _ => rfl) (s_one (s_expr (w_mt .append PySem.F.slot_list_append rfl (w_var 3) (w_cons (w_bin .add (w_ix ok (w_var 3) (w_neg w_int)) (w_ix ok (w_var 3) (w_neg w_int))) w_nil)))))
  (s_cons (s_set 6 sc20.nd (w_var 0))
  (s_cons (s_for ok bodyZ_pass (i_val (w_rev (w_lrg1 ok (w_bin .add (w_var 2) w_int) rfl fx.f_list rfl fx.f_range))) (g_nm 7 sc20.nd) (fun _ _ => rfl) (s_one (s_ite (t_cmp .le ok (w_ix ok (w_var 3) (w_var 7)) (w_var 6)) (s_one (s_par2 6 4 ok (w_cons (w_bin .sub (w_var 6) (w_ix ok (w_var 3) (w_var 7))) (w_cons (w_bin .add (w_var 4) (w_call 16 ok (DefP.callee q__law_power hr) rfl (w_cons (w_var 7) w_nil) bd16)) w_nil)) rfl)) s_nil)))
  (s_one (s_ret (w_var 4)))))))
theorem b21 (fx : Fx K mg) (q__law_digits : Q17 P w K mg base n) (q__law_back : Q18 P w K mg base n) (q__law_read : Q19 P w K mg base n) (q__law_times : Q20 P w K mg base n) : BodyP P w K mg base tab n N21 "_law_due" (defBody s21) (defScope s21) c21 := by
  intro f cdv A outer s H E hr hg
  have ok := bodyZ_ok (P := P) (w := w) (K := K) (mg := mg) (base := base) (outer := outer) (H := H) (E := E) (cl := run tab n) sc21.nd hr hg
  exact (s_cons (s_par2 4 5 ok (w_cons (w_call 17 ok (DefP.callee q__law_digits hr) rfl (w_cons (w_var 2) (w_cons (w_var 1) w_nil)) bd17) (w_cons (w_call 17 ok (DefP.callee q__law_digits hr) rfl (w_cons (w_var 3) (w_cons (w_var 1) w_nil)) bd17) w_nil)) rfl)
  (s_cons (s_ite (t_cmp .isin ok (w_var 0) (w_lst (w_cons w_str (w_cons w_str (w_cons w_str w_nil))))) (s_one (s_ret (w_call 18 ok (DefP.callee q__law_back hr) rfl (w_cons (w_call 17 ok (DefP.callee q__law_digits hr) rfl (w_cons (w_ite (t_cmp .eq ok (w_var 0) w_str) (w_bin .add (w_var 2) (w_var 3)) (w_ite (t_cmp .eq ok (w_var 0) w_str) (w_bin .sub (w_var 2) (w_var 3)) (w_bin .mul (w_var 2) (w_var 3)))) (w_cons (w_var 1) w_nil)) bd17) w_nil) bd18))) s_nil)
  (s_cons (s_ite (t_cmp .isin ok (w_var 0) (w_lst (w_cons w_str (w_cons w_str (w_cons w_str (w_cons w_str w_nil)))))) (s_cons (s_ite (t_cmp .eq ok (w_var 3) w_int) (s_one (s_ret w_non)) s_nil)
  (s_cons (s_unp (w_ite (t_cmp .eq ok (w_ix ok (w_var 0) w_int) w_str) (w_tup (w_cons (w_var 2) (w_cons (w_var 3) w_nil))) (w_tup (w_cons (w_call 19 ok (DefP.callee q__law_read hr) rfl (w_cons (w_var 4) w_nil) bd19) (w_cons (w_call 19 ok (DefP.callee q__law_read hr) rfl (w_cons (w_var 5) w_nil) bd19) w_nil)))) (g_tp rfl (gs_cons (g_nm 6 sc21.nd) (gs_cons (g_nm 7 sc21.nd) gs_nil)) (fun _ _ _ h => asgs_len h)) (fun _ _ => rfl))
  (s_cons (s_set 8 sc21.nd (w_call 20 ok (DefP.callee q__law_times hr) rfl (w_cons (w_bi .abs ok rfl fx.f_abs (by decide +kernel) (w_cons (w_var 6) w_nil)) (w_cons (w_bi .abs ok rfl fx.f_abs (by decide +kernel) (w_cons (w_var 7) w_nil)) (w_cons (w_var 1) w_nil))) bd20))
  (s_cons (s_set 8 sc21.nd (w_ite (t_cmp .eq ok (w_cmp .lt ok (w_var 6) w_int) (w_cmp .lt ok (w_var 7) w_int)) (w_var 8) (w_bin .sub w_int (w_var 8))))
  (s_one (s_ret (w_call 18 ok (DefP.callee q__law_back hr) rfl (w_cons (w_call 17 ok (DefP.callee q__law_digits hr) rfl (w_cons (w_ite (t_cmp .eq ok (w_sl (w_var 0) (w_o1 w_int) w_o0) w_str) (w_var 8) (w_bin .sub (w_var 6) (w_bin .mul (w_var 7) (w_var 8)))) (w_cons (w_var 1) w_nil)) bd17) w_nil) bd18))))))) s_nil)
  (s_cons (s_ite (t_cmp .isin ok (w_var 0) (w_lst (w_cons w_str (w_cons w_str (w_cons w_str w_nil))))) (s_cons (s_set 9 sc21.nd (w_ix ok (w_dsp (d_cons w_str (w_lst (w_cons w_int w_nil)) (d_cons w_str (w_lst (w_cons w_int (w_cons w_int w_nil))) (d_cons w_str (w_lst (w_cons w_int w_nil)) d_nil)))) (w_var 0)))
  (s_one (s_ret (w_call 18 ok (DefP.callee q__law_back hr) rfl (w_cons (w_lc (own := [("_law_a", 6), ("_law_b", 7)]) ok (i_zip (w_var 4) (w_var 5) rfl fx.f_zip) (blkOk_by (by kernel_rfl)) (fun _ _ _ _ _ => (g_tp rfl (gs_cons (g_nm 6 sc21.nd) (gs_cons (g_nm 7 sc21.nd) gs_nil)) (fun _ _ _ h => asgs_len h))) (fun s0 H0 C0 l0 fp0 => c_nil) (fun s0 H0 C0 l0 fp0 => (w_ite (t_cmp .isin (Cz.Ok.blk ok s0 H0 _ C0 l0 fp0) (w_bin .add (w_var 6) (w_var 7)) (w_var 9)) w_int w_int)) (hsl_by (by decide))) w_nil) bd18)))) s_nil)
  (s_cons (s_set 10 sc21.nd (w_bin .mod (w_bi .int ok rfl fx.f_int (by decide +kernel) (w_cons (w_var 3) w_nil)) (w_var 1)))
  (s_cons (s_ite (t_cmp .eq ok (w_var 0) w_str) (s_one (s_ret (w_call 18 ok (DefP.callee q__law_back hr) rfl (w_cons (w_sl (w_bin .add (w_bin .mul (w_lst (w_cons w_int w_nil)) (w_var 10)) (w_var 4)) w_o0 (w_o1 (w_var 1))) w_nil) bd18))) s_nil)
  (s_one (s_ret (w_call 18 ok (DefP.callee q__law_back hr) rfl (w_cons (w_sl (w_bin .add (w_var 4) (w_bin .mul (w_lst (w_cons (w_ite (t_cmp .eq ok (w_var 0) w_str) (w_ix ok (w_var 4) (w_neg w_int)) w_int) w_nil)) (w_var 10))) (w_o1 (w_var 10)) w_o0) w_nil) bd18)))))))))
theorem b22 (fx : Fx K mg) (q_is_width : Q3 P w K mg base n) (q_is_of_width : Q4 P w K mg base n) (q_wrapped : Q5 P w K mg base n) (q_signed : Q6 P w K mg base n) (q_bin_told : Q10 P w K mg base n) (q__law_draw : Q11 P w K mg base n) (q__law_any : Q12 P w K mg base n) (q__law_of : Q13 P w K mg base n) (q__law_number : Q15 P w K mg base n) (q__law_power : Q16 P w K mg base n) (q__law_digits : Q17 P w K mg base n) (q__law_back : Q18 P w K mg base n) (q__law_read : Q19 P w K mg base n) (q__law_due : Q21 P w K mg base n) : BodyP P w K mg base tab n N22 "law" (defBody s22) (defScope s22) c22 := by
  intro f cdv A outer s H E hr hg
  have ok := bodyZ_ok (P := P) (w := w) (K := K) (mg := mg) (base := base) (outer := outer) (H := H) (E := E) (cl := run tab n) sc22.nd hr hg
  exact (s_cons (s_set 1 sc22.nd (w_call 11 ok (DefP.callee q__law_draw hr) rfl (w_cons (w_var 0) (w_cons w_int w_nil)) bd11))
  (s_cons (s_set 2 sc22.nd (w_tup (w_cons w_str (w_cons w_str (w_cons w_str (w_cons w_str (w_cons w_str (w_cons w_str (w_cons w_str (w_cons w_str (w_cons w_str (w_cons w_str (w_cons w_str (w_cons w_str (w_cons w_str w_nil)))))))))))))))
  (s_cons (s_ite (t_cmp .ne ok (w_bi .repr ok rfl fx.f_repr (by decide +kernel) (w_cons (w_tup (w_cons (w_con fx.k_OPS rfl) (w_cons (w_con fx.k_WIDTHS rfl) w_nil))) w_nil)) (w_bi .repr ok rfl fx.f_repr (by decide +kernel) (w_cons (w_tup (w_cons (w_var 2) (w_cons (w_tup (w_cons w_int (w_cons w_int (w_cons w_int (w_cons w_int (w_cons w_int w_nil)))))) w_nil))) w_nil))) (s_one (s_ret w_bl)) s_nil)
  (s_cons (s_for ok bodyZ_pass (i_rng1 rfl fx.f_range w_int) (g_nm 3 sc22.nd) (fun _ _ => rfl) (s_cons (s_set 4 sc22.nd (w_call 13 ok (DefP.callee q__law_of hr) rfl (w_cons (w_var 1) (w_cons (w_lst (w_cons w_int (w_cons w_int (w_cons w_int (w_cons w_int (w_cons w_int w_nil)))))) w_nil)) bd13))
  (s_cons (s_par2 5 6 ok (w_cons (w_call 15 ok (DefP.callee q__law_number hr) rfl (w_cons (w_var 1) (w_cons (w_var 4) w_nil)) bd15) (w_cons (w_call 15 ok (DefP.callee q__law_number hr) rfl (w_cons (w_var 1) (w_cons (w_var 4) w_nil)) bd15) w_nil)) rfl)
  (s_cons (s_ite (SW.t (t_or (t_cmp .notN ok (w_callK0 4 ok (DefP.callee q_is_of_width hr) rfl (k_cons (w_var 4) (k_cons (w_var 5) k_nil)) kw4_0_1_0) w_bl) (t_or1 (t_cmp .notN ok (w_callK0 3 ok (DefP.callee q_is_width hr) rfl (k_cons (w_var 4) k_nil) kw3_0_0) w_bl)))) (s_one (s_ret w_bl)) s_nil)
  (s_cons (s_ite (t_cmp .ne ok (w_bi .repr ok rfl fx.f_repr (by decide +kernel) (w_cons (w_callK0 6 ok (DefP.callee q_signed hr) rfl (k_cons (w_var 4) (k_cons (w_var 5) k_nil)) kw6_0_1_0) w_nil)) (w_bi .repr ok rfl fx.f_repr (by decide +kernel) (w_cons (w_call 19 ok (DefP.callee q__law_read hr) rfl (w_cons (w_call 17 ok (DefP.callee q__law_digits hr) rfl (w_cons (w_var 5) (w_cons (w_var 4) w_nil)) bd17) w_nil) bd19) w_nil))) (s_one (s_ret w_bl)) s_nil)
  (s_cons (s_for ok bodyZ_pass (i_val (w_var 2)) (g_nm 7 sc22.nd) (fun _ _ => rfl) (s_one (s_ite (t_cmp .ne ok (w_bi .repr ok rfl fx.f_repr (by decide +kernel) (w_cons (w_callK0 10 ok (DefP.callee q_bin_told hr) rfl (k_cons (w_var 6) (k_cons (w_var 5) (k_cons (w_var 4) (k_cons (w_var 7) k_nil)))) kw10_0_3_2_1_0) w_nil)) (w_bi .repr ok rfl fx.f_repr (by decide +kernel) (w_cons (w_call 21 ok (DefP.callee q__law_due hr) rfl (w_cons (w_var 7) (w_cons (w_var 4) (w_cons (w_var 5) (w_cons (w_var 6) w_nil)))) bd21) w_nil))) (s_one (s_ret w_bl)) s_nil)))
  (s_cons (s_set 8 sc22.nd (w_call 13 ok (DefP.callee q__law_of hr) rfl (w_cons (w_var 1) (w_cons (w_lst (w_cons (w_bin .mul (w_var 5) (w_var 6)) (w_cons (w_bin .sub (w_bin .pow w_int w_int) (w_call 12 ok (DefP.callee q__law_any hr) rfl (w_cons (w_var 1) (w_cons (w_bin .pow w_int w_int) w_nil)) bd12)) (w_cons (w_bin .sub w_int (w_call 12 ok (DefP.callee q__law_any hr) rfl (w_cons (w_var 1) (w_cons (w_bin .pow w_int w_int) w_nil)) bd12)) (w_cons (w_bin .sub (w_var 5) (w_call 16 ok (DefP.callee q__law_power hr) rfl (w_cons (w_var 4) w_nil) bd16)) w_nil))))) w_nil)) bd13))
  (s_cons (s_ite (t_cmp .ne ok (w_bi .repr ok rfl fx.f_repr (by decide +kernel) (w_cons (w_callK0 5 ok (DefP.callee q_wrapped hr) rfl (k_cons (w_var 4) (k_cons (w_var 8) k_nil)) kw5_0_1_0) w_nil)) (w_bi .repr ok rfl fx.f_repr (by decide +kernel) (w_cons (w_call 18 ok (DefP.callee q__law_back hr) rfl (w_cons (w_call 17 ok (DefP.callee q__law_digits hr) rfl (w_cons (w_var 8) (w_cons (w_var 4) w_nil)) bd17) w_nil) bd18) w_nil))) (s_one (s_ret w_bl)) s_nil)
  (s_cons (s_set 9 sc22.nd (w_call 13 ok (DefP.callee q__law_of hr) rfl (w_cons (w_var 1) (w_cons (w_lst (w_cons (w_call 16 ok (DefP.callee q__law_power hr) rfl (w_cons (w_var 4) w_nil) bd16) (w_cons (w_neg w_int) (w_cons w_bl (w_cons w_bl (w_cons w_non (w_cons w_str (w_cons (w_tup (w_cons w_int w_nil)) (w_cons (w_bin .pow w_int w_int) w_nil))))))))) w_nil)) bd13))
  (s_one (s_ite (SW.t (t_or (t_cmp .notN ok (w_call 4 ok (DefP.callee q_is_of_width hr) rfl (w_cons (w_var 9) (w_cons (w_var 4) w_nil)) bd4) w_bl) (t_or1 (t_cmp .notN ok (w_call 3 ok (DefP.callee q_is_width hr) rfl (w_cons (w_call 13 ok (DefP.callee q__law_of hr) rfl (w_cons (w_var 1) (w_cons (w_lst (w_cons w_int (w_cons w_int (w_cons w_int (w_cons w_int (w_cons (w_neg w_int) (w_cons w_bl (w_cons w_non (w_cons w_str (w_cons (w_tup (w_cons w_int w_nil)) w_nil)))))))))) w_nil)) bd13) w_nil) bd3) w_bl)))) (s_one (s_ret w_bl)) s_nil)))))))))))
  (s_one (s_ret w_bl))))))
theorem all (fx : Fx K mg) (z0 : Q0 P w K mg base 0) (z1 : Q1 P w K mg base 0) (z2 : Q2 P w K mg base 0) (z3 : Q3 P w K mg base 0) (z4 : Q4 P w K mg base 0) (z5 : Q5 P w K mg base 0) (z6 : Q6 P w K mg base 0) (z7 : Q7 P w K mg base 0) (z8 : Q8 P w K mg base 0) (z9 : Q9 P w K mg base 0) (z10 : Q10 P w K mg base 0) (z11 : Q11 P w K mg base 0) (z12 : Q12 P w K mg base 0) (z13 : Q13 P w K mg base 0) (z15 : Q15 P w K mg base 0) (z16 : Q16 P w K mg base 0) (z17 : Q17 P w K mg base 0) (z18 : Q18 P w K mg base 0) (z19 : Q19 P w K mg base 0) (z20 : Q20 P w K mg base 0) (z21 : Q21 P w K mg base 0) (z22 : Q22 P w K mg base 0) : ∀ n, Q0 P w K mg base n ∧ Q1 P w K mg base n ∧ Q2 P w K mg base n ∧ Q3 P w K mg base n ∧ Q4 P w K mg base n ∧ Q5 P w K mg base n ∧ Q6 P w K mg base n ∧ Q7 P w K mg base n ∧ Q8 P w K mg base n ∧ Q9 P w K mg base n ∧ Q10 P w K mg base n ∧ Q11 P w K mg base n ∧ Q12 P w K mg base n ∧ Q13 P w K mg base n ∧ Q15 P w K mg base n ∧ Q16 P w K mg base n ∧ Q17 P w K mg base n ∧ Q18 P w K mg base n ∧ Q19 P w K mg base n ∧ Q20 P w K mg base n ∧ Q21 P w K mg base n ∧ Q22 P w K mg base n
  | 0 => ⟨z0, z1, z2, z3, z4, z5, z6, z7, z8, z9, z10, z11, z12, z13, z15, z16, z17, z18, z19, z20, z21, z22⟩
  | n + 1 => by
    obtain ⟨q0, q1, q2, q3, q4, q5, q6, q7, q8, q9, q10, q11, q12, q13, q15, q16, q17, q18, q19, q20, q21, q22⟩ := all fx z0 z1 z2 z3 z4 z5 z6 z7 z8 z9 z10 z11 z12 z13 z15 z16 z17 z18 z19 z20 z21 z22 n
    exact ⟨q0.succ (d := d0) rfl sc0 rfl rfl (b0 fx ), q1.succ (d := d1) rfl sc1 rfl rfl (b1 fx q0), q2.succ (d := d2) rfl sc2 rfl rfl (b2 fx q1), q3.succ (d := d3) rfl sc3 rfl rfl (b3 fx q0), q4.succ (d := d4) rfl sc4 rfl rfl (b4 fx q2), q5.succ (d := d5) rfl sc5 rfl rfl (b5 fx ), q6.succ (d := d6) rfl sc6 rfl rfl (b6 fx ), q7.succ (d := d7) rfl sc7 rfl rfl (b7 fx ), q8.succ (d := d8) rfl sc8 rfl rfl (b8 fx q5 q6 q7), q9.succ (d := d9) rfl sc9 rfl rfl (b9 fx q5 q6), q10.succ (d := d10) rfl sc10 rfl rfl (b10 fx q5 q8 q9), q11.succ (d := d11) rfl sc11 rfl rfl (b11 fx ), q12.succ (d := d12) rfl sc12 rfl rfl (b12 fx ), q13.succ (d := d13) rfl sc13 rfl rfl (b13 fx q12), q15.succ (d := d15) rfl sc15 rfl rfl (b15 fx q12 q13 q16), q16.succ (d := d16) rfl sc16 rfl rfl (b16 fx ), q17.succ (d := d17) rfl sc17 rfl rfl (b17 fx q16), q18.succ (d := d18) rfl sc18 rfl rfl (b18 fx ), q19.succ (d := d19) rfl sc19 rfl rfl (b19 fx ), q20.succ (d := d20) rfl sc20 rfl rfl (b20 fx q16), q21.succ (d := d21) rfl sc21 rfl rfl (b21 fx q17 q18 q19 q20), q22.succ (d := d22) rfl sc22 rfl rfl (b22 fx q3 q4 q5 q6 q10 q11 q12 q13 q15 q16 q17 q18 q19 q21)⟩
end
/-! ### the head -/
def fn : List He.DefD := [⟨("is_integer", none), "is_integer", "is_integer", defArgs s0, defBody s0, defScope s0, [], []⟩, ⟨("is_number", none), "is_number", "is_number", defArgs s1, defBody s1, defScope s1, [], []⟩, ⟨("is_index", none), "is_index", "is_index", defArgs s2, defBody s2, defScope s2, [], []⟩, ⟨("is_width", none), "is_width", "is_width", defArgs s3, defBody s3, defScope s3, [], []⟩, ⟨("is_of_width", none), "is_of_width", "is_of_width", defArgs s4, defBody s4, defScope s4, [], []⟩, ⟨("wrapped", none), "wrapped", "wrapped", defArgs s5, defBody s5, defScope s5, [], []⟩, ⟨("signed", none), "signed", "signed", defArgs s6, defBody s6, defScope s6, [], []⟩, ⟨("quotient", none), "quotient", "quotient", defArgs s7, defBody s7, defScope s7, [], []⟩, ⟨("divided", none), "divided", "divided", defArgs s8, defBody s8, defScope s8, [], []⟩, ⟨("shifted", none), "shifted", "shifted", defArgs s9, defBody s9, defScope s9, [], []⟩, ⟨("bin_told", none), "bin_told", "bin_told", defArgs s10, defBody s10, defScope s10, [], []⟩, ⟨("_law_draw", none), "_law_draw", "_law_draw", defArgs s11, defBody s11, defScope s11, [], []⟩, ⟨("_law_any", none), "_law_any", "_law_any", defArgs s12, defBody s12, defScope s12, [], []⟩, ⟨("_law_of", none), "_law_of", "_law_of", defArgs s13, defBody s13, defScope s13, [], []⟩, ⟨("_law_number", none), "_law_number", "_law_number", defArgs s15, defBody s15, defScope s15, [], []⟩, ⟨("_law_power", none), "_law_power", "_law_power", defArgs s16, defBody s16, defScope s16, [], []⟩, ⟨("_law_digits", none), "_law_digits", "_law_digits", defArgs s17, defBody s17, defScope s17, [], []⟩, ⟨("_law_back", none), "_law_back", "_law_back", defArgs s18, defBody s18, defScope s18, [], []⟩, ⟨("_law_read", none), "_law_read", "_law_read", defArgs s19, defBody s19, defScope s19, [], []⟩, ⟨("_law_times", none), "_law_times", "_law_times", defArgs s20, defBody s20, defScope s20, [], []⟩, ⟨("_law_due", none), "_law_due", "_law_due", defArgs s21, defBody s21, defScope s21, [], []⟩, ⟨("law", none), "law", "law", defArgs s22, defBody s22, defScope s22, [], []⟩]
def fa : List He.Fa := [.glo "is_integer", .glo "is_number", .glo "is_index", .glo "is_width", .glo "is_of_width", .glo "wrapped", .glo "signed", .glo "quotient", .glo "divided", .glo "shifted", .glo "bin_told", .glo "_law_draw", .glo "_law_any", .glo "_law_of", .glo "_law_number", .glo "_law_power", .glo "_law_digits", .glo "_law_back", .glo "_law_read", .glo "_law_times", .glo "_law_due", .glo "law", .free "abs", .free "bool", .free "enumerate", .free "int", .free "isinstance", .free "len", .free "list", .free "range", .free "repr", .free "zip"]
def cons : List (Str × W) := [("DIVISIONS", k_DIVISIONS), ("OPS", k_OPS), ("WIDTHS", k_WIDTHS)]
abbrev R : PySem.W.OpenRow := PySem.W.OpenLaw.row PySem.Challenge.rw_anypasses_k01_operations_on_numbers
abbrev hk : PySem.W.Hook := hookC 4 fa fn cons
def ob (s : PySem.W.SharedT) : AlC := obsC 4 fa fn cons (HandSHeadRun.getT s)
theorem ob_eq (s : PySem.W.SharedT) : ob s = hk.obs s.abs := obsC_eq (HandSHeadRun.getT_eq s)
abbrev loose : List Str := ["is_integer", "is_number", "is_index", "WIDTHS", "OPS", "DIVISIONS", "is_width", "is_of_width", "wrapped", "signed", "quotient", "divided", "shifted", "bin_told", "_law_draw", "_law_any", "_law_of", "_law_mixed", "_law_number", "_law_power", "_law_digits", "_law_back", "_law_read", "_law_times", "_law_due"]
theorem runs (w : World) : HandSHeadRun.RunEq R (PySem.W.view R.prog [28]) hk ob 4000 loose w := by
  intro os
  kernel_rfl
theorem facts {P : Program} {w : World} {K : PySem.W.Frag} {h : Heap} {mg : Str → Option Value} {f : Addr} (X : K.In h) (G : h.Ns mainGlobals mg) (hfa : mg ("law" : Str) = some (.ref f)) (c : SaysC fa fn cons K) :
    ∃ fd : FuncData, (∀ (s : Shared) (v : Value), BindsTo s fd ⟨[v], []⟩ [("_law_script", v)]) ∧ ∀ base : Heap, K.In base → base.Ns mainGlobals mg → FnG P w K mg base 20 f fd ps22 (spR K (run tab 20 22) 1) := by
  obtain ⟨fd0, F0⟩ := c.1.def_ 0 rfl
  have m0 := He.glo_ok X G (c.1.fact 0 (f := .glo "is_integer") rfl)
  obtain ⟨fd1, F1⟩ := c.1.def_ 1 rfl
  have m1 := He.glo_ok X G (c.1.fact 1 (f := .glo "is_number") rfl)
  obtain ⟨fd2, F2⟩ := c.1.def_ 2 rfl
  have m2 := He.glo_ok X G (c.1.fact 2 (f := .glo "is_index") rfl)
  obtain ⟨fd3, F3⟩ := c.1.def_ 3 rfl
  have m3 := He.glo_ok X G (c.1.fact 3 (f := .glo "is_width") rfl)
  obtain ⟨fd4, F4⟩ := c.1.def_ 4 rfl
  have m4 := He.glo_ok X G (c.1.fact 4 (f := .glo "is_of_width") rfl)
  obtain ⟨fd5, F5⟩ := c.1.def_ 5 rfl
  have m5 := He.glo_ok X G (c.1.fact 5 (f := .glo "wrapped") rfl)
  obtain ⟨fd6, F6⟩ := c.1.def_ 6 rfl
  have m6 := He.glo_ok X G (c.1.fact 6 (f := .glo "signed") rfl)
  obtain ⟨fd7, F7⟩ := c.1.def_ 7 rfl
  have m7 := He.glo_ok X G (c.1.fact 7 (f := .glo "quotient") rfl)
  obtain ⟨fd8, F8⟩ := c.1.def_ 8 rfl
  have m8 := He.glo_ok X G (c.1.fact 8 (f := .glo "divided") rfl)
  obtain ⟨fd9, F9⟩ := c.1.def_ 9 rfl
  have m9 := He.glo_ok X G (c.1.fact 9 (f := .glo "shifted") rfl)
  obtain ⟨fd10, F10⟩ := c.1.def_ 10 rfl
  have m10 := He.glo_ok X G (c.1.fact 10 (f := .glo "bin_told") rfl)
  obtain ⟨fd11, F11⟩ := c.1.def_ 11 rfl
  have m11 := He.glo_ok X G (c.1.fact 11 (f := .glo "_law_draw") rfl)
  obtain ⟨fd12, F12⟩ := c.1.def_ 12 rfl
  have m12 := He.glo_ok X G (c.1.fact 12 (f := .glo "_law_any") rfl)
  obtain ⟨fd13, F13⟩ := c.1.def_ 13 rfl
  have m13 := He.glo_ok X G (c.1.fact 13 (f := .glo "_law_of") rfl)
  obtain ⟨fd15, F15⟩ := c.1.def_ 14 rfl
  have m15 := He.glo_ok X G (c.1.fact 14 (f := .glo "_law_number") rfl)
  obtain ⟨fd16, F16⟩ := c.1.def_ 15 rfl
  have m16 := He.glo_ok X G (c.1.fact 15 (f := .glo "_law_power") rfl)
  obtain ⟨fd17, F17⟩ := c.1.def_ 16 rfl
  have m17 := He.glo_ok X G (c.1.fact 16 (f := .glo "_law_digits") rfl)
  obtain ⟨fd18, F18⟩ := c.1.def_ 17 rfl
  have m18 := He.glo_ok X G (c.1.fact 17 (f := .glo "_law_back") rfl)
  obtain ⟨fd19, F19⟩ := c.1.def_ 18 rfl
  have m19 := He.glo_ok X G (c.1.fact 18 (f := .glo "_law_read") rfl)
  obtain ⟨fd20, F20⟩ := c.1.def_ 19 rfl
  have m20 := He.glo_ok X G (c.1.fact 19 (f := .glo "_law_times") rfl)
  obtain ⟨fd21, F21⟩ := c.1.def_ 20 rfl
  have m21 := He.glo_ok X G (c.1.fact 20 (f := .glo "_law_due") rfl)
  obtain ⟨fd22, F22⟩ := c.1.def_ 21 rfl
  have m22 := He.glo_ok X G (c.1.fact 21 (f := .glo "law") rfl)
  have e := hfa.symm.trans m22
  cases e
  have fx : Fx K mg := ⟨He.free_ok X G (c.1.fact 22 (f := .free "abs") rfl), He.free_ok X G (c.1.fact 23 (f := .free "bool") rfl), He.free_ok X G (c.1.fact 24 (f := .free "enumerate") rfl), He.free_ok X G (c.1.fact 25 (f := .free "int") rfl), He.free_ok X G (c.1.fact 26 (f := .free "isinstance") rfl), He.free_ok X G (c.1.fact 27 (f := .free "len") rfl), He.free_ok X G (c.1.fact 28 (f := .free "list") rfl), He.free_ok X G (c.1.fact 29 (f := .free "range") rfl), He.free_ok X G (c.1.fact 30 (f := .free "repr") rfl), He.free_ok X G (c.1.fact 31 (f := .free "zip") rfl), con_ok c X G 0 (p := ("DIVISIONS", k_DIVISIONS)) rfl, con_ok c X G 1 (p := ("OPS", k_OPS)) rfl, con_ok c X G 2 (p := ("WIDTHS", k_WIDTHS)) rfl⟩
  have b := FunD.bindsA (ps := ps22) F22 bd22
  refine ⟨fd22, fun s v => b s [v] rfl, fun base _ _ => ?_⟩
  obtain ⟨q0, q1, q2, q3, q4, q5, q6, q7, q8, q9, q10, q11, q12, q13, q15, q16, q17, q18, q19, q20, q21, q22⟩ := all (P := P) (w := w) (base := base) fx (DefP.zero m0 F0) (DefP.zero m1 F1) (DefP.zero m2 F2) (DefP.zero m3 F3) (DefP.zero m4 F4) (DefP.zero m5 F5) (DefP.zero m6 F6) (DefP.zero m7 F7) (DefP.zero m8 F8) (DefP.zero m9 F9) (DefP.zero m10 F10) (DefP.zero m11 F11) (DefP.zero m12 F12) (DefP.zero m13 F13) (DefP.zero m15 F15) (DefP.zero m16 F16) (DefP.zero m17 F17) (DefP.zero m18 F18) (DefP.zero m19 F19) (DefP.zero m20 F20) (DefP.zero m21 F21) (DefP.zero m22 F22) 20
  obtain ⟨f1, fd1, h1, FF, GG⟩ := q22
  have e1 := h1.symm.trans m22
  cases e1
  have e2 : fd1 = fd22 := funD_same FF F22
  rw [← e2]
  exact GG
theorem walked (hlaw : ∀ ns : List Int, ns.length ≤ 63 → ∃ st, run tab 20 22 [.frl (ns.map .int)] [] = .ok (.bl true) st) : (PySem.Challenge.rw_anypasses_k01_operations_on_numbers).Holds := by
  w_on; o_law
  refine HandSHeadRun.head_any (r := R) (q := PySem.W.view R.prog [28]) (H := hk) (ob := ob) (M := 4000) (loose := loose) (d := HandSHeadRun.topDef R.prog 28) (kwd := []) ob_eq
    (by kernel_rfl) (fun s => by kernel_rfl) runs (by kernel_rfl) (by kernel_rfl) (by kernel_rfl) (by rfl) (by first | assumption | decide +kernel) (by decide +kernel) ⟨rfl, rfl, rfl, rfl, rfl, by decide +kernel⟩ ?hw ?hc
  case hw => w_witness2
  case hc =>
    refine walkG (l := PySem.Challenge.rw_anypasses_k01_operations_on_numbers) (n := 63) (k := 20) (x := "_law_script") (r := run tab 20 22) rfl (by decide) (by kernel_rfl) ⟨rfl, by decide, by decide⟩ ?F hlaw
    intro w mg fa h Y G hmg0
    obtain ⟨K, KX, c⟩ := Y
    have hmg : mg ("law" : PySem.Str) = some (.ref fa) := by
      have e : (HandSHeadRun.topDef R.prog 28).name = ("law" : PySem.Str) := by kernel_rfl
      rw [← e]
      exact hmg0
    obtain ⟨fd, hb, hF⟩ := facts (P := (PySem.Challenge.rw_anypasses_k01_operations_on_numbers).prog) (w := w) KX G hmg c
    exact ⟨K, fd, KX, hb, hF⟩
end Law
/-! K02n: digits of two. -/
namespace K02
open PySem Ci

def dg : Nat → Int → List Int
  | 0, _ => []
  | w + 1, x => (x / 2 ^ w % 2) :: dg w x
def lo : Nat → Int → List Int
  | 0, _ => []
  | w + 1, x => (x % 2) :: lo w (x / 2)
theorem p2 (w : Nat) : (0 : Int) < 2 ^ w := Int.pow_pos (by decide)
theorem p2_le {u v : Nat} (h : u ≤ v) : (2 : Int) ^ u ≤ 2 ^ v := by
  obtain ⟨k, rfl⟩ : ∃ k, v = u + k := ⟨v - u, by omega⟩
  rw [Int.pow_add]
  have h1 := p2 k
  have := Int.mul_le_mul_of_nonneg_left (show (1 : Int) ≤ 2 ^ k by omega) (Int.le_of_lt (p2 u))
  omega
theorem p2s (w : Nat) : (2 : Int) ^ (w + 1) = 2 * 2 ^ w := by rw [Int.pow_succ, Int.mul_comm]
theorem lo_snoc : ∀ (w : Nat) (x : Int), lo (w + 1) x = lo w x ++ [x / 2 ^ w % 2]
  | 0, x => by simp [lo]
  | w + 1, x => by
    rw [lo, lo_snoc w (x / 2), lo, List.cons_append, Int.ediv_ediv_of_nonneg (by decide), p2s]
theorem lo_rev : ∀ (w : Nat) (x : Int), (lo w x).reverse = dg w x
  | 0, _ => rfl
  | w + 1, x => by rw [lo_snoc, List.reverse_append, lo_rev w x]; rfl
theorem dg_len : ∀ (w : Nat) (x : Int), (dg w x).length = w
  | 0, _ => rfl
  | w + 1, x => by rw [dg, List.length_cons, dg_len w x]
def val (l : List Int) : Int := l.foldl (fun t d => t + t + d) 0
theorem mod_top (w : Nat) (x : Int) : x % 2 ^ (w + 1) = x / 2 ^ w % 2 * 2 ^ w + x % 2 ^ w := by
  have h0 := p2 w
  have e1 := Int.mul_ediv_add_emod x (2 ^ w)
  have r1 := Int.emod_nonneg x (by omega : (2 : Int) ^ w ≠ 0)
  have r2 := Int.emod_lt_of_pos x h0
  generalize hq : x / 2 ^ w = q at *
  generalize hr : x % 2 ^ w = r at *
  have hp := p2s w
  generalize hP : (2 : Int) ^ w = P at *
  have e3 := Int.mul_ediv_add_emod q 2
  have h2 : q % 2 = 0 ∨ q % 2 = 1 := by omega
  have ex : x = (q % 2 * P + r) + 2 * P * (q / 2) := by
    have : P * q = P * (2 * (q / 2) + q % 2) := by rw [e3]
    rw [Int.mul_add, Int.mul_comm P (q % 2)] at this
    have h3 : P * (2 * (q / 2)) = 2 * P * (q / 2) := by rw [← Int.mul_assoc, Int.mul_comm P 2]
    omega
  rw [hp, ex, Int.add_mul_emod_self_left]
  rcases h2 with z | z
  · rw [z]; rw [Int.emod_eq_of_lt] <;> omega
  · rw [z]; rw [Int.emod_eq_of_lt] <;> omega
theorem fold_dg : ∀ (w : Nat) (x t : Int), (dg w x).foldl (fun t d => t + t + d) t = t * 2 ^ w + x % 2 ^ w
  | 0, x, t => by simp [dg, Int.emod_one]
  | w + 1, x, t => by
    rw [dg, List.foldl_cons, fold_dg w x, mod_top, p2s, Int.add_mul, Int.add_mul]
    have : t * (2 * 2 ^ w) = t * 2 ^ w + t * 2 ^ w := by rw [← Int.mul_assoc, Int.mul_comm t 2, Int.mul_assoc]; omega
    omega
theorem val_dg (w : Nat) (x : Int) : val (dg w x) = x % 2 ^ w := by rw [val, fold_dg]; omega
theorem bit2 (x : Int) (w : Nat) : x / 2 ^ w % 2 = 0 ∨ x / 2 ^ w % 2 = 1 := by
  generalize x / 2 ^ w = q
  omega
theorem lex_dg : ∀ (w : Nat) (a b : Int), lexI (dg w a) (dg w b) = decide (a % 2 ^ w < b % 2 ^ w)
  | 0, a, b => by simp [dg, lexI, Int.emod_one]
  | w + 1, a, b => by
    rw [dg, dg, lexI, lex_dg w a b, mod_top w a, mod_top w b]
    have h0 := p2 w
    have a1 := Int.emod_nonneg a (by omega : (2 : Int) ^ w ≠ 0)
    have a2 := Int.emod_lt_of_pos a h0
    have b1 := Int.emod_nonneg b (by omega : (2 : Int) ^ w ≠ 0)
    have b2 := Int.emod_lt_of_pos b h0
    rcases bit2 a w with ha | ha <;> rcases bit2 b w with hb | hb <;> rw [ha, hb]
    · simp
    · have : a % 2 ^ w < 2 ^ w + b % 2 ^ w := by omega
      simp [this]
    · have : ¬ (2 ^ w + a % 2 ^ w < b % 2 ^ w) := by omega
      simp [this]
    · simp
theorem dg_inj {w : Nat} {a b : Int} (ha : 0 ≤ a) (ha' : a < 2 ^ w) (hb : 0 ≤ b) (hb' : b < 2 ^ w) : (dg w a = dg w b) ↔ a = b := by
  refine ⟨fun h => ?_, fun h => by rw [h]⟩
  have := congrArg val h
  rw [val_dg, val_dg, Int.emod_eq_of_lt ha ha', Int.emod_eq_of_lt hb hb'] at this
  exact this
theorem dg_add : ∀ (u v : Nat) (x : Int), u ≤ v → dg u (x + 2 ^ v) = dg u x
  | 0, _, _, _ => rfl
  | u + 1, v, x, h => by
    rw [dg, dg, dg_add u v x (by omega)]
    congr 1
    obtain ⟨m, rfl⟩ : ∃ m, v = u + (m + 1) := ⟨v - u - 1, by omega⟩
    have : (2 : Int) ^ (u + (m + 1)) = 2 ^ u * (2 * 2 ^ m) := by rw [Int.pow_add, p2s]
    rw [this, Int.add_mul_ediv_left _ _ (by have := p2 u; omega)]
    omega
theorem dg_flip (v : Nat) (x : Int) : (1 - x / 2 ^ v % 2) :: dg v x = dg (v + 1) (x + 2 ^ v) := by
  rw [dg, dg_add v v x (Nat.le_refl _)]
  congr 1
  have : x + 2 ^ v = x + 2 ^ v * 1 := by omega
  rw [this, Int.add_mul_ediv_left _ _ (by have := p2 v; omega)]
  generalize x / 2 ^ v = q
  omega
theorem dg_drop : ∀ (k w : Nat) (x : Int), (dg (w + k) x).drop k = dg w x
  | 0, _, _ => rfl
  | k + 1, w, x => by rw [← Nat.add_assoc, dg, List.drop_succ_cons, dg_drop k w x]
def sgn (x : Int) (w : Nat) : Int := if 2 ^ (w - 1) ≤ x then x - 2 ^ w else x
theorem sgn_lt {v : Nat} {a b : Int} (ha : 0 ≤ a) (ha' : a < 2 ^ (v + 1)) (hb : 0 ≤ b) (hb' : b < 2 ^ (v + 1)) :
    ((a + 2 ^ v) % 2 ^ (v + 1) = sgn a (v + 1) + 2 ^ v) := by
  have hp := p2s v
  have h0 := p2 v
  unfold sgn
  rw [Nat.add_sub_cancel]
  generalize (2 : Int) ^ (v + 1) = Q at *
  generalize (2 : Int) ^ v = P at *
  subst hp
  by_cases h : P ≤ a
  · rw [if_pos h]
    have : a + P = (a - P) + 2 * P * 1 := by omega
    rw [this, Int.add_mul_emod_self_left, Int.emod_eq_of_lt (by omega) (by omega)]
    omega
  · rw [if_neg h, Int.emod_eq_of_lt (by omega) (by omega)]
theorem fold_rep (s : Int) : ∀ (k : Nat) (t : Int), (List.replicate k s).foldl (fun t d => t + t + d) t = t * 2 ^ k + s * (2 ^ k - 1)
  | 0, t => by simp
  | k + 1, t => by
    rw [List.replicate_succ, List.foldl_cons, fold_rep s k, p2s]
    have e1 : (t + t + s) * 2 ^ k = t * (2 * 2 ^ k) + s * 2 ^ k := by
      rw [Int.add_mul, Int.add_mul, ← Int.mul_assoc, Int.mul_comm t 2, Int.mul_assoc]; omega
    have e2 : s * (2 * 2 ^ k - 1) = s * 2 ^ k + s * (2 ^ k - 1) := by rw [← Int.mul_add]; congr 1; omega
    omega
/-- the last digits, with some more ahead of them -/
theorem val_ext {w t : Nat} {x s : Int} (ht : t ≤ 64) :
    val ((List.replicate 64 s ++ dg w x).drop (64 + w - t)) = if t ≤ w then x % 2 ^ t else s * (2 ^ t - 2 ^ w) + x % 2 ^ w := by
  by_cases h : t ≤ w
  · rw [if_pos h]
    obtain ⟨k, rfl⟩ : ∃ k, w = t + k := ⟨w - t, by omega⟩
    have : 64 + (t + k) - t = 64 + k := by omega
    rw [this, List.drop_append, List.length_replicate, List.drop_eq_nil_of_le (by simp), List.nil_append, Nat.add_sub_cancel_left, dg_drop, val_dg]
  · rw [if_neg h, List.drop_append, List.length_replicate]
    have e1 : 64 + w - t - 64 = 0 := by omega
    have e2 : 64 - (64 + w - t) = t - w := by omega
    rw [e1, List.drop_zero, List.drop_replicate, e2, val, List.foldl_append, fold_rep, fold_dg]
    have e3 : (2 : Int) ^ t = 2 ^ (t - w) * 2 ^ w := by rw [← Int.pow_add]; congr 1; omega
    rw [e3]
    have : s * (2 ^ (t - w) * 2 ^ w - 2 ^ w) = s * (2 ^ (t - w) - 1) * 2 ^ w := by
      rw [Int.mul_assoc]; congr 1; rw [Int.sub_mul, Int.one_mul]
    rw [this]
    simp
theorem zext_val {w t : Nat} {x : Int} (ht : t ≤ 64) (h0 : 0 ≤ x) (h1 : x < 2 ^ w) : val ((List.replicate 64 0 ++ dg w x).drop (64 + w - t)) = x % 2 ^ t := by
  rw [val_ext ht]
  by_cases h : t ≤ w
  · rw [if_pos h]
  · rw [if_neg h, Int.emod_eq_of_lt h0 h1, Int.emod_eq_of_lt h0 (Int.lt_of_lt_of_le h1 (p2_le (by omega)))]
    omega
theorem sext_val {v t : Nat} {x : Int} (ht : t ≤ 64) (h0 : 0 ≤ x) (h1 : x < 2 ^ (v + 1)) : val ((List.replicate 64 (x / 2 ^ v % 2) ++ dg (v + 1) x).drop (64 + (v + 1) - t)) = sgn x (v + 1) % 2 ^ t := by
  rw [val_ext ht]
  have hx : x % 2 ^ (v + 1) = x := Int.emod_eq_of_lt h0 h1
  have hP := p2 v
  have hs := p2s v
  have top : (2 ^ v ≤ x → x / 2 ^ v % 2 = 1) ∧ (¬ 2 ^ v ≤ x → x / 2 ^ v % 2 = 0) := by
    have := mod_top v x
    rw [hx] at this
    have r1 := Int.emod_nonneg x (by omega : (2 : Int) ^ v ≠ 0)
    have r2 := Int.emod_lt_of_pos x hP
    rcases bit2 x v with z | z <;> rw [z] at this ⊢ <;> constructor <;> intro h <;> omega
  unfold sgn
  rw [Nat.add_sub_cancel]
  by_cases h : t ≤ v + 1
  · rw [if_pos h]
    by_cases h2 : 2 ^ v ≤ x
    · rw [if_pos h2]
      obtain ⟨k, hk⟩ : ∃ k, v + 1 = t + k := ⟨v + 1 - t, by omega⟩
      have : x - 2 ^ (v + 1) = x + 2 ^ t * (-(2 ^ k)) := by rw [hk, Int.pow_add, Int.mul_neg]; omega
      rw [this, Int.add_mul_emod_self_left]
    · rw [if_neg h2]
  · rw [if_neg h, hx]
    have hle : (2 : Int) ^ (v + 1) ≤ 2 ^ t := p2_le (by omega)
    by_cases h2 : 2 ^ v ≤ x
    · rw [if_pos h2, top.1 h2]
      have : x - 2 ^ (v + 1) = (x - 2 ^ (v + 1) + 2 ^ t) + 2 ^ t * (-1) := by omega
      rw [this, Int.add_mul_emod_self_left, Int.emod_eq_of_lt (by omega) (by omega)]
      omega
    · rw [if_neg h2, top.2 h2, Int.emod_eq_of_lt h0 (by omega)]
      omega
end K02
/-! K01n: digits of two, the least first. -/
namespace K01
open PySem Ci K02

def vl : List Int → Int
  | [] => 0
  | d :: ds => d + 2 * vl ds
theorem vl_append : ∀ (l m : List Int), vl (l ++ m) = vl l + 2 ^ l.length * vl m
  | [], m => by simp [vl]
  | d :: l, m => by
    rw [List.cons_append, vl, vl_append l m, vl, List.length_cons, p2s, Int.mul_add, Int.mul_assoc]
    omega
theorem lo_len : ∀ (w : Nat) (x : Int), (lo w x).length = w
  | 0, _ => rfl
  | w + 1, x => by rw [lo, List.length_cons, lo_len w]
theorem vl_lo : ∀ (w : Nat) (x : Int), vl (lo w x) = x % 2 ^ w
  | 0, x => by simp [lo, vl, Int.emod_one]
  | w + 1, x => by
    rw [lo_snoc, vl_append, lo_len, vl_lo w x, mod_top]
    simp only [vl]
    rw [Int.mul_zero, Int.add_zero, Int.mul_comm]
    omega
theorem lo_take : ∀ (j k : Nat) (x : Int), (lo (j + k) x).take j = lo j x
  | 0, _, _ => rfl
  | j + 1, k, x => by
    rw [show j + 1 + k = (j + k) + 1 by omega, lo, List.take_succ_cons, lo_take j k, lo]
theorem lo_drop : ∀ (k j : Nat) (x : Int), (lo (k + j) x).drop k = lo j (x / 2 ^ k)
  | 0, j, x => by simp
  | k + 1, j, x => by
    rw [show k + 1 + j = (k + j) + 1 by omega, lo, List.drop_succ_cons, lo_drop k j, Int.ediv_ediv_of_nonneg (by decide), p2s]
theorem vl_zeros : ∀ k : Nat, vl (List.replicate k 0) = 0
  | 0 => rfl
  | k + 1 => by rw [List.replicate_succ, vl, vl_zeros k]; rfl
theorem vl_rep (z : Int) : ∀ k : Nat, vl (List.replicate k z) = z * (2 ^ k - 1)
  | 0 => by simp [vl]
  | k + 1 => by
    rw [List.replicate_succ, vl, vl_rep z k, p2s]
    have : z * (2 * 2 ^ k - 1) = z * (2 ^ k - 1) + z * 2 ^ k := by rw [← Int.mul_add]; congr 1; omega
    have h2 : z * 2 ^ k = z * (2 ^ k - 1) + z := by rw [Int.mul_sub]; omega
    omega
theorem shl_val {w k : Nat} {x : Int} (h : k ≤ w) : vl ((List.replicate k 0 ++ lo w x).take w) = (x * 2 ^ k) % 2 ^ w := by
  obtain ⟨j, rfl⟩ : ∃ j, w = j + k := ⟨w - k, by omega⟩
  rw [List.take_append, List.length_replicate, List.take_of_length_le (by rw [List.length_replicate]; omega), vl_append, vl_zeros, List.length_replicate, Nat.add_sub_cancel, lo_take, vl_lo, Int.zero_add, Int.pow_add, Int.mul_comm x, Int.mul_comm (2 ^ j), Int.mul_emod_mul_of_pos _ _ (p2 k)]
theorem shr_val {w k : Nat} {x z : Int} (h : k ≤ w) (h0 : 0 ≤ x) (h1 : x < 2 ^ w) : vl ((lo w x ++ List.replicate k z).drop k) = x / 2 ^ k + z * (2 ^ w - 2 ^ (w - k)) := by
  obtain ⟨j, rfl⟩ : ∃ j, w = k + j := ⟨w - k, by omega⟩
  have hj : x / 2 ^ k < 2 ^ j := Int.ediv_lt_of_lt_mul (p2 k) (by rw [Int.mul_comm, ← Int.pow_add]; exact h1)
  have hj0 : 0 ≤ x / 2 ^ k := Int.ediv_nonneg h0 (Int.le_of_lt (p2 k))
  rw [List.drop_append_of_le_length (by rw [lo_len]; omega), lo_drop, vl_append, vl_lo, lo_len, vl_rep, Int.emod_eq_of_lt hj0 hj, Nat.add_sub_cancel_left, Int.pow_add]
  congr 1
  have : 2 ^ j * (z * (2 ^ k - 1)) = z * (2 ^ j * (2 ^ k - 1)) := by rw [← Int.mul_assoc, Int.mul_comm (2 ^ j) z, Int.mul_assoc]
  rw [this, Int.mul_sub, Int.mul_one, Int.mul_comm (2 ^ j)]
theorem top_bit {v : Nat} {x : Int} (h0 : 0 ≤ x) (h1 : x < 2 ^ (v + 1)) : (2 ^ v ≤ x → x / 2 ^ v % 2 = 1) ∧ (¬ 2 ^ v ≤ x → x / 2 ^ v % 2 = 0) := by
  have hP := p2 v
  have hs := p2s v
  have := mod_top v x
  rw [Int.emod_eq_of_lt h0 h1] at this
  have r1 := Int.emod_nonneg x (by omega : (2 : Int) ^ v ≠ 0)
  have r2 := Int.emod_lt_of_pos x hP
  rcases bit2 x v with z | z <;> rw [z] at this ⊢ <;> constructor <;> intro h <;> omega
theorem ashr_val {v k : Nat} {x : Int} (h : k ≤ v + 1) (h0 : 0 ≤ x) (h1 : x < 2 ^ (v + 1)) : x / 2 ^ k + x / 2 ^ v % 2 * (2 ^ (v + 1) - 2 ^ (v + 1 - k)) = (sgn x (v + 1) / 2 ^ k) % 2 ^ (v + 1) := by
  have ht := top_bit h0 h1
  obtain ⟨j, hj⟩ : ∃ j, v + 1 = k + j := ⟨v + 1 - k, by omega⟩
  have hk := p2 k
  have hw : (2 : Int) ^ (v + 1) = 2 ^ k * 2 ^ j := by rw [hj, Int.pow_add]
  have hx : x / 2 ^ k < 2 ^ j := Int.ediv_lt_of_lt_mul hk (by rw [Int.mul_comm, ← hw]; exact h1)
  have hx0 : 0 ≤ x / 2 ^ k := Int.ediv_nonneg h0 (Int.le_of_lt hk)
  have hjw : (2 : Int) ^ j ≤ 2 ^ (v + 1) := p2_le (by omega)
  have e : v + 1 - k = j := by omega
  unfold sgn
  rw [Nat.add_sub_cancel, e]
  by_cases c : 2 ^ v ≤ x
  · rw [if_pos c, ht.1 c]
    have : (x - 2 ^ (v + 1)) / 2 ^ k = x / 2 ^ k - 2 ^ j := by
      rw [show x - 2 ^ (v + 1) = x + 2 ^ k * (-(2 ^ j)) by rw [Int.mul_neg, ← hw]; omega, Int.add_mul_ediv_left _ _ (by omega)]
      omega
    rw [this, show x / 2 ^ k - 2 ^ j = (x / 2 ^ k - 2 ^ j + 2 ^ (v + 1)) + 2 ^ (v + 1) * (-1) by omega, Int.add_mul_emod_self_left, Int.emod_eq_of_lt (by omega) (by omega)]
    omega
  · rw [if_neg c, ht.2 c, Int.emod_eq_of_lt hx0 (by omega)]
    omega
/-- with the last digit taken away -/
theorem read_val {v : Nat} {x : Int} (h0 : 0 ≤ x) (h1 : x < 2 ^ (v + 1)) : x % 2 ^ v - x / 2 ^ v % 2 * 2 ^ v = sgn x (v + 1) := by
  have ht := top_bit h0 h1
  have hm := mod_top v x
  rw [Int.emod_eq_of_lt h0 h1] at hm
  have hs := p2s v
  unfold sgn
  rw [Nat.add_sub_cancel]
  by_cases c : 2 ^ v ≤ x
  · rw [if_pos c, ht.1 c]
    rw [ht.1 c] at hm
    omega
  · rw [if_neg c, ht.2 c]
    rw [ht.2 c] at hm
    omega
theorem sgn_bd {v : Nat} {x : Int} (h0 : 0 ≤ x) (h1 : x < 2 ^ (v + 1)) : -(2 ^ v) ≤ sgn x (v + 1) ∧ sgn x (v + 1) < 2 ^ v := by
  have hs := p2s v
  have hp := p2 v
  unfold sgn
  rw [Nat.add_sub_cancel]
  by_cases c : 2 ^ v ≤ x
  · rw [if_pos c]; omega
  · rw [if_neg c]; omega
/-! ### digit by digit -/
theorem vl_zip (g : Int → Int → Int) (op : Nat → Nat → Nat) (h0 : op 0 0 = 0) (hs : ∀ m n : Nat, (op m n : Int) = g ((m % 2 : Nat) : Int) ((n % 2 : Nat) : Int) + 2 * (op (m / 2) (n / 2) : Int)) :
    ∀ (w m n : Nat), m < 2 ^ w → n < 2 ^ w → vl (List.zipWith g (lo w m) (lo w n)) = op m n
  | 0, m, n, h1, h2 => by
    have : m = 0 := by simpa using h1
    have : n = 0 := by simpa using h2
    subst m n
    rw [h0]; rfl
  | w + 1, m, n, h1, h2 => by
    rw [lo, lo, List.zipWith_cons_cons, vl, hs m n]
    have e1 : ((m : Int) / 2) = ((m / 2 : Nat) : Int) := by omega
    have e2 : ((n : Int) / 2) = ((n / 2 : Nat) : Int) := by omega
    have e3 : ((m : Int) % 2) = ((m % 2 : Nat) : Int) := by omega
    have e4 : ((n : Int) % 2) = ((n % 2 : Nat) : Int) := by omega
    have hp : 2 ^ (w + 1) = 2 * 2 ^ w := by rw [Nat.pow_succ, Nat.mul_comm]
    rw [e1, e2, e3, e4, vl_zip g op h0 hs w (m / 2) (n / 2) (by omega) (by omega)]
def gAnd (a b : Int) : Int := if a + b = 2 then 1 else 0
def gOr (a b : Int) : Int := if a + b = 1 ∨ a + b = 2 then 1 else 0
def gXor (a b : Int) : Int := if a + b = 1 then 1 else 0
theorem and_step (m n : Nat) : ((m &&& n : Nat) : Int) = gAnd ((m % 2 : Nat) : Int) ((n % 2 : Nat) : Int) + 2 * ((m / 2 &&& n / 2 : Nat) : Int) := by
  have h1 : (m &&& n) / 2 = m / 2 &&& n / 2 := Nat.and_div_two
  have h2 : (m &&& n) % 2 = m % 2 &&& n % 2 := Nat.and_mod_two_pow (n := 1)
  rw [← h1]
  generalize (m &&& n) = c at *
  rcases Nat.mod_two_eq_zero_or_one m with a | a <;> rcases Nat.mod_two_eq_zero_or_one n with b | b <;> rw [a, b] at h2 ⊢ <;> simp [gAnd] at h2 ⊢ <;> omega
theorem or_step (m n : Nat) : ((m ||| n : Nat) : Int) = gOr ((m % 2 : Nat) : Int) ((n % 2 : Nat) : Int) + 2 * ((m / 2 ||| n / 2 : Nat) : Int) := by
  have h1 : (m ||| n) / 2 = m / 2 ||| n / 2 := Nat.or_div_two
  have h2 : (m ||| n) % 2 = m % 2 ||| n % 2 := Nat.or_mod_two_pow (n := 1)
  rw [← h1]
  generalize (m ||| n) = c at *
  rcases Nat.mod_two_eq_zero_or_one m with a | a <;> rcases Nat.mod_two_eq_zero_or_one n with b | b <;> rw [a, b] at h2 ⊢ <;> simp [gOr] at h2 ⊢ <;> omega
theorem vl_xor : ∀ (w : Nat) (x y : Int), vl (List.zipWith gXor (lo w x) (lo w y)) = vl (List.zipWith gOr (lo w x) (lo w y)) - vl (List.zipWith gAnd (lo w x) (lo w y))
  | 0, _, _ => rfl
  | w + 1, x, y => by
    rw [lo, lo, List.zipWith_cons_cons, List.zipWith_cons_cons, List.zipWith_cons_cons, vl, vl, vl, vl_xor w]
    have hx : x % 2 = 0 ∨ x % 2 = 1 := by omega
    have hy : y % 2 = 0 ∨ y % 2 = 1 := by omega
    rcases hx with a | a <;> rcases hy with b | b <;> rw [a, b] <;> simp [gXor, gOr, gAnd] <;> omega
theorem bAnd (m n : Nat) : Builtin.bitAnd (m : Int) (n : Int) = ((m &&& n : Nat) : Int) := by
  unfold Builtin.bitAnd
  rw [decide_eq_true (by omega : (0 : Int) ≤ m), decide_eq_true (by omega : (0 : Int) ≤ n)]
  rfl
theorem bOr (m n : Nat) : Builtin.bitOr (m : Int) (n : Int) = ((m ||| n : Nat) : Int) := by
  have e : ∀ k : Nat, Builtin.bitNot (k : Int) = -(k : Int) - 1 := fun k => rfl
  have e2 : ∀ k : Nat, (Builtin.bitNot (-(k : Int) - 1)).toNat = k := fun k => by simp [Builtin.bitNot]; omega
  unfold Builtin.bitOr
  rw [e, e]
  unfold Builtin.bitAnd
  rw [decide_eq_false (by omega : ¬ (0 : Int) ≤ -(m : Int) - 1), decide_eq_false (by omega : ¬ (0 : Int) ≤ -(n : Int) - 1)]
  show Builtin.bitNot (Builtin.bitNot _) = _
  rw [e2, e2]
  simp [Builtin.bitNot]
  omega
theorem and_val {w : Nat} {x y : Int} (h0 : 0 ≤ x) (h1 : x < 2 ^ w) (g0 : 0 ≤ y) (g1 : y < 2 ^ w) : vl (List.zipWith gAnd (lo w x) (lo w y)) = Builtin.bitAnd x y := by
  obtain ⟨m, rfl⟩ := Int.eq_ofNat_of_zero_le h0
  obtain ⟨n, rfl⟩ := Int.eq_ofNat_of_zero_le g0
  rw [bAnd, vl_zip gAnd (fun m n => m &&& n) rfl and_step w m n (by exact_mod_cast h1) (by exact_mod_cast g1)]
theorem or_val {w : Nat} {x y : Int} (h0 : 0 ≤ x) (h1 : x < 2 ^ w) (g0 : 0 ≤ y) (g1 : y < 2 ^ w) : vl (List.zipWith gOr (lo w x) (lo w y)) = Builtin.bitOr x y := by
  obtain ⟨m, rfl⟩ := Int.eq_ofNat_of_zero_le h0
  obtain ⟨n, rfl⟩ := Int.eq_ofNat_of_zero_le g0
  rw [bOr, vl_zip gOr (fun m n => m ||| n) rfl or_step w m n (by exact_mod_cast h1) (by exact_mod_cast g1)]
theorem xor_val {w : Nat} {x y : Int} (h0 : 0 ≤ x) (h1 : x < 2 ^ w) (g0 : 0 ≤ y) (g1 : y < 2 ^ w) : vl (List.zipWith gXor (lo w x) (lo w y)) = Builtin.bitXor x y := by
  rw [vl_xor, or_val h0 h1 g0 g1, and_val h0 h1 g0 g1]
  rfl
end K01
/-! K01: the functions, one by one. -/
namespace K01
open PySem Ci Law K02

theorem shl_1 {w : Nat} (h : w ≤ 1000) : binI .shl 1 (w : Int) = some (2 ^ w) := by
  rw [binI_shl, if_pos (powOk_1 (by omega)), Int.one_mul, Int.toNat_natCast]
theorem mulS {a b : Int} (h : -(2 ^ 64) < b ∧ b < 2 ^ 64) : binI .mul a b = some (a * b) := by
  rw [binI_mul, if_pos]
  rw [show small64 b = true from decide_eq_true h]
  simp
theorem divOk_64 {j : Int} (h0 : 0 < j) (h : j ≤ 2 ^ 64) : divOk j = true := by
  unfold divOk
  have : j.natAbs.log2 < 9000 := by
    have : j.natAbs < 2 ^ 65 := by omega
    have := (Nat.log2_lt (by omega : j.natAbs ≠ 0)).mpr this
    omega
  rw [decide_eq_true h0, decide_eq_true this]
  simp
def ab (i : Int) : Int := if i < 0 then -i else i
theorem ab_pos {i : Int} (h : i ≠ 0) : 0 < ab i := by unfold ab; split <;> omega
theorem ab_nn {i : Int} : 0 ≤ ab i := by unfold ab; split <;> omega
theorem ab_le {i : Int} {m : Int} (h : -m ≤ i) (h2 : i ≤ m) : ab i ≤ m := by unfold ab; split <;> omega
def qt (a b : Int) : Int := if (decide (a < 0) == decide (b < 0)) = true then ab a / ab b else -(ab a / ab b)
theorem eqD_bl {st : Sto} {x y : Bool} : eqD st (.bl x) (.bl y) = some (x == y) := rfl
theorem bit_lo : ∀ (w : Nat) (x : Int), ∀ d ∈ lo w x, d = 0 ∨ d = 1
  | 0, _, d, h => by cases h
  | w + 1, x, d, h => by
    rw [lo] at h
    rcases List.mem_cons.mp h with rfl | h
    · omega
    · exact bit_lo w _ d h
section
variable {n : Nat} {st : Sto}
theorem wrapped_ok {x : Int} {t : Nat} (ht : t ≤ 64) : Wp (Ci.run tab (n + 1) 5 [.int x, .int (t : Int)] st) fun w st' => w = .int (x % 2 ^ t) ∧ st' = st := by
  refine wp_run (d := d5) rfl rfl ?_
  show Wp (ex _ c5 _ _) _
  unfold c5
  try simp -implicitDefEqProofs only [wp_ok, wp_bind, wp_noexc, wp_seq, wp_skip, wp_brk, wp_cnt, wp_retN, wp_ret, wp_set, wp_par, wp_unp, wp_sto, wp_xpr, wp_ite, wp_for, wp_whl, wp_tru, sk_nx, sk_rt, sk_bk, sk_ct, lk_nx, lk_ct, lk_bk, lk_rt, ik_true, ik_false, ev, evs, evo, evi, evc, evd, keyK_str, keyK_int, retK_rt, retK_nx, iteK_true, iteK_false, truK0_bl, truK0_int, truK0_tup, truK0_frl, truK0_non, scK_bl, wp_callK, cmpO, cmp_eq, cmp_ne, cmp_lt, cmp_le, cmp_gt, cmp_ge, cmp_isN, cmp_notN, eqD_int, eqD_str, bin_int, binI_add, binI_sub, of_some, negK_int, setK_nm, setK_tp, setsK, asg, asgs, tgsOf, intK, rngK, srcK, subO, startE, newR, new, bi_int, bi_abs, bi_len_tup, bi_len_frl,  Option.map_some, Option.map_none, Option.bind_some, List.map_cons, List.map_nil, List.length_cons, List.length_nil, List.length_append, List.length_map, List.length_set, List.cons_append, List.nil_append, List.getElem?_cons_zero, List.getElem?_cons_succ, List.set_cons_zero, List.set_cons_succ, if_true, if_false, Bool.false_eq_true, Bool.true_eq_false, Bool.not_true, Bool.not_false, decide_true, decide_false, Nat.reduceEqDiff, Nat.zero_lt_succ, List.replicate_succ, List.replicate_zero, Nat.reduceSub, Nat.reduceAdd, Nat.reduceLT, Nat.reduceLeDiff, Nat.zero_le, id, lstK_ok, tupK_ok, d5, shl_1 (show t ≤ 1000 by omega), binI_mod_pos (p2 t)]
  exact ⟨by trivial, by trivial⟩
theorem signed_ok {x : Int} {v : Nat} (hv : v < 64) : Wp (Ci.run tab (n + 1) 6 [.int x, .int ((v + 1 : Nat) : Int)] st) fun w st' => w = .int (sgn x (v + 1)) ∧ st' = st := by
  refine wp_run (d := d6) rfl rfl ?_
  show Wp (ex _ c6 _ _) _
  unfold c6
  have e : ((v + 1 : Nat) : Int) - 1 = (v : Int) := by omega
  have hs : sgn x (v + 1) = if 2 ^ v ≤ x then x - 2 ^ (v + 1) else x := rfl
  rw [hs]
  by_cases h : (2 : Int) ^ v ≤ x
  · try simp -implicitDefEqProofs only [wp_ok, wp_bind, wp_noexc, wp_seq, wp_skip, wp_brk, wp_cnt, wp_retN, wp_ret, wp_set, wp_par, wp_unp, wp_sto, wp_xpr, wp_ite, wp_for, wp_whl, wp_tru, sk_nx, sk_rt, sk_bk, sk_ct, lk_nx, lk_ct, lk_bk, lk_rt, ik_true, ik_false, ev, evs, evo, evi, evc, evd, keyK_str, keyK_int, retK_rt, retK_nx, iteK_true, iteK_false, truK0_bl, truK0_int, truK0_tup, truK0_frl, truK0_non, scK_bl, wp_callK, cmpO, cmp_eq, cmp_ne, cmp_lt, cmp_le, cmp_gt, cmp_ge, cmp_isN, cmp_notN, eqD_int, eqD_str, bin_int, binI_add, binI_sub, of_some, negK_int, setK_nm, setK_tp, setsK, asg, asgs, tgsOf, intK, rngK, srcK, subO, startE, newR, new, bi_int, bi_abs, bi_len_tup, bi_len_frl,  Option.map_some, Option.map_none, Option.bind_some, List.map_cons, List.map_nil, List.length_cons, List.length_nil, List.length_append, List.length_map, List.length_set, List.cons_append, List.nil_append, List.getElem?_cons_zero, List.getElem?_cons_succ, List.set_cons_zero, List.set_cons_succ, if_true, if_false, Bool.false_eq_true, Bool.true_eq_false, Bool.not_true, Bool.not_false, decide_true, decide_false, Nat.reduceEqDiff, Nat.zero_lt_succ, List.replicate_succ, List.replicate_zero, Nat.reduceSub, Nat.reduceAdd, Nat.reduceLT, Nat.reduceLeDiff, Nat.zero_le, id, lstK_ok, tupK_ok, d6, e, shl_1 (show v ≤ 1000 by omega), shl_1 (show v + 1 ≤ 1000 by omega), decide_eq_true h, if_pos h]
    exact ⟨by trivial, by trivial⟩
  · try simp -implicitDefEqProofs only [wp_ok, wp_bind, wp_noexc, wp_seq, wp_skip, wp_brk, wp_cnt, wp_retN, wp_ret, wp_set, wp_par, wp_unp, wp_sto, wp_xpr, wp_ite, wp_for, wp_whl, wp_tru, sk_nx, sk_rt, sk_bk, sk_ct, lk_nx, lk_ct, lk_bk, lk_rt, ik_true, ik_false, ev, evs, evo, evi, evc, evd, keyK_str, keyK_int, retK_rt, retK_nx, iteK_true, iteK_false, truK0_bl, truK0_int, truK0_tup, truK0_frl, truK0_non, scK_bl, wp_callK, cmpO, cmp_eq, cmp_ne, cmp_lt, cmp_le, cmp_gt, cmp_ge, cmp_isN, cmp_notN, eqD_int, eqD_str, bin_int, binI_add, binI_sub, of_some, negK_int, setK_nm, setK_tp, setsK, asg, asgs, tgsOf, intK, rngK, srcK, subO, startE, newR, new, bi_int, bi_abs, bi_len_tup, bi_len_frl,  Option.map_some, Option.map_none, Option.bind_some, List.map_cons, List.map_nil, List.length_cons, List.length_nil, List.length_append, List.length_map, List.length_set, List.cons_append, List.nil_append, List.getElem?_cons_zero, List.getElem?_cons_succ, List.set_cons_zero, List.set_cons_succ, if_true, if_false, Bool.false_eq_true, Bool.true_eq_false, Bool.not_true, Bool.not_false, decide_true, decide_false, Nat.reduceEqDiff, Nat.zero_lt_succ, List.replicate_succ, List.replicate_zero, Nat.reduceSub, Nat.reduceAdd, Nat.reduceLT, Nat.reduceLeDiff, Nat.zero_le, id, lstK_ok, tupK_ok, d6, e, shl_1 (show v ≤ 1000 by omega), shl_1 (show v + 1 ≤ 1000 by omega), decide_eq_false h, if_neg h]
    exact ⟨by trivial, by trivial⟩
theorem power_ok {t : Nat} (ht : t ≤ 64) : Wp (Ci.run tab (n + 1) 16 [.int (t : Int)] st) fun w st' => w = .int (2 ^ t) ∧ st' = st := by
  refine wp_run (d := d16) rfl rfl ?_
  show Wp (ex _ c16 _ _) _
  unfold c16
  try simp -implicitDefEqProofs only [wp_ok, wp_bind, wp_noexc, wp_seq, wp_skip, wp_brk, wp_cnt, wp_retN, wp_ret, wp_set, wp_par, wp_unp, wp_sto, wp_xpr, wp_ite, wp_for, wp_whl, wp_tru, sk_nx, sk_rt, sk_bk, sk_ct, lk_nx, lk_ct, lk_bk, lk_rt, ik_true, ik_false, ev, evs, evo, evi, evc, evd, keyK_str, keyK_int, retK_rt, retK_nx, iteK_true, iteK_false, truK0_bl, truK0_int, truK0_tup, truK0_frl, truK0_non, scK_bl, wp_callK, cmpO, cmp_eq, cmp_ne, cmp_lt, cmp_le, cmp_gt, cmp_ge, cmp_isN, cmp_notN, eqD_int, eqD_str, bin_int, binI_add, binI_sub, of_some, negK_int, setK_nm, setK_tp, setsK, asg, asgs, tgsOf, intK, rngK, srcK, subO, startE, newR, new, bi_int, bi_abs, bi_len_tup, bi_len_frl,  Option.map_some, Option.map_none, Option.bind_some, List.map_cons, List.map_nil, List.length_cons, List.length_nil, List.length_append, List.length_map, List.length_set, List.cons_append, List.nil_append, List.getElem?_cons_zero, List.getElem?_cons_succ, List.set_cons_zero, List.set_cons_succ, if_true, if_false, Bool.false_eq_true, Bool.true_eq_false, Bool.not_true, Bool.not_false, decide_true, decide_false, Nat.reduceEqDiff, Nat.zero_lt_succ, List.replicate_succ, List.replicate_zero, Nat.reduceSub, Nat.reduceAdd, Nat.reduceLT, Nat.reduceLeDiff, Nat.zero_le, id, lstK_ok, tupK_ok, d16, shl_1 (show t ≤ 1000 by omega)]
  exact ⟨by trivial, by trivial⟩
theorem quot_ok {a b : Int} (hb : b ≠ 0) (hb2 : ab b ≤ 2 ^ 64) : Wp (Ci.run tab (n + 1) 7 [.int a, .int b] st) fun w st' => w = .int (qt a b) ∧ st' = st := by
  refine wp_run (d := d7) rfl rfl ?_
  show Wp (ex _ c7 _ _) _
  unfold c7
  have hd : binI .fdiv (if a < 0 then -a else a) (if b < 0 then -b else b) = some (ab a / ab b) := by
    show binI .fdiv (ab a) (ab b) = _
    rw [binI_fdiv, if_pos (divOk_64 (ab_pos hb) hb2)]
  try simp -implicitDefEqProofs only [wp_ok, wp_bind, wp_noexc, wp_seq, wp_skip, wp_brk, wp_cnt, wp_retN, wp_ret, wp_set, wp_par, wp_unp, wp_sto, wp_xpr, wp_ite, wp_for, wp_whl, wp_tru, sk_nx, sk_rt, sk_bk, sk_ct, lk_nx, lk_ct, lk_bk, lk_rt, ik_true, ik_false, ev, evs, evo, evi, evc, evd, keyK_str, keyK_int, retK_rt, retK_nx, iteK_true, iteK_false, truK0_bl, truK0_int, truK0_tup, truK0_frl, truK0_non, scK_bl, wp_callK, cmpO, cmp_eq, cmp_ne, cmp_lt, cmp_le, cmp_gt, cmp_ge, cmp_isN, cmp_notN, eqD_int, eqD_str, bin_int, binI_add, binI_sub, of_some, negK_int, setK_nm, setK_tp, setsK, asg, asgs, tgsOf, intK, rngK, srcK, subO, startE, newR, new, bi_int, bi_abs, bi_len_tup, bi_len_frl,  Option.map_some, Option.map_none, Option.bind_some, List.map_cons, List.map_nil, List.length_cons, List.length_nil, List.length_append, List.length_map, List.length_set, List.cons_append, List.nil_append, List.getElem?_cons_zero, List.getElem?_cons_succ, List.set_cons_zero, List.set_cons_succ, if_true, if_false, Bool.false_eq_true, Bool.true_eq_false, Bool.not_true, Bool.not_false, decide_true, decide_false, Nat.reduceEqDiff, Nat.zero_lt_succ, List.replicate_succ, List.replicate_zero, Nat.reduceSub, Nat.reduceAdd, Nat.reduceLT, Nat.reduceLeDiff, Nat.zero_le, id, lstK_ok, tupK_ok, d7, hd, eqD_bl]
  unfold qt
  cases (decide (a < 0) == decide (b < 0)) with
  | true =>
    try simp -implicitDefEqProofs only [wp_ok, wp_bind, wp_noexc, wp_seq, wp_skip, wp_brk, wp_cnt, wp_retN, wp_ret, wp_set, wp_par, wp_unp, wp_sto, wp_xpr, wp_ite, wp_for, wp_whl, wp_tru, sk_nx, sk_rt, sk_bk, sk_ct, lk_nx, lk_ct, lk_bk, lk_rt, ik_true, ik_false, ev, evs, evo, evi, evc, evd, keyK_str, keyK_int, retK_rt, retK_nx, iteK_true, iteK_false, truK0_bl, truK0_int, truK0_tup, truK0_frl, truK0_non, scK_bl, wp_callK, cmpO, cmp_eq, cmp_ne, cmp_lt, cmp_le, cmp_gt, cmp_ge, cmp_isN, cmp_notN, eqD_int, eqD_str, bin_int, binI_add, binI_sub, of_some, negK_int, setK_nm, setK_tp, setsK, asg, asgs, tgsOf, intK, rngK, srcK, subO, startE, newR, new, bi_int, bi_abs, bi_len_tup, bi_len_frl,  Option.map_some, Option.map_none, Option.bind_some, List.map_cons, List.map_nil, List.length_cons, List.length_nil, List.length_append, List.length_map, List.length_set, List.cons_append, List.nil_append, List.getElem?_cons_zero, List.getElem?_cons_succ, List.set_cons_zero, List.set_cons_succ, if_true, if_false, Bool.false_eq_true, Bool.true_eq_false, Bool.not_true, Bool.not_false, decide_true, decide_false, Nat.reduceEqDiff, Nat.zero_lt_succ, List.replicate_succ, List.replicate_zero, Nat.reduceSub, Nat.reduceAdd, Nat.reduceLT, Nat.reduceLeDiff, Nat.zero_le, id, lstK_ok, tupK_ok]
    exact ⟨by first | rfl | trivial, by first | rfl | trivial⟩
  | false =>
    try simp -implicitDefEqProofs only [wp_ok, wp_bind, wp_noexc, wp_seq, wp_skip, wp_brk, wp_cnt, wp_retN, wp_ret, wp_set, wp_par, wp_unp, wp_sto, wp_xpr, wp_ite, wp_for, wp_whl, wp_tru, sk_nx, sk_rt, sk_bk, sk_ct, lk_nx, lk_ct, lk_bk, lk_rt, ik_true, ik_false, ev, evs, evo, evi, evc, evd, keyK_str, keyK_int, retK_rt, retK_nx, iteK_true, iteK_false, truK0_bl, truK0_int, truK0_tup, truK0_frl, truK0_non, scK_bl, wp_callK, cmpO, cmp_eq, cmp_ne, cmp_lt, cmp_le, cmp_gt, cmp_ge, cmp_isN, cmp_notN, eqD_int, eqD_str, bin_int, binI_add, binI_sub, of_some, negK_int, setK_nm, setK_tp, setsK, asg, asgs, tgsOf, intK, rngK, srcK, subO, startE, newR, new, bi_int, bi_abs, bi_len_tup, bi_len_frl,  Option.map_some, Option.map_none, Option.bind_some, List.map_cons, List.map_nil, List.length_cons, List.length_nil, List.length_append, List.length_map, List.length_set, List.cons_append, List.nil_append, List.getElem?_cons_zero, List.getElem?_cons_succ, List.set_cons_zero, List.set_cons_succ, if_true, if_false, Bool.false_eq_true, Bool.true_eq_false, Bool.not_true, Bool.not_false, decide_true, decide_false, Nat.reduceEqDiff, Nat.zero_lt_succ, List.replicate_succ, List.replicate_zero, Nat.reduceSub, Nat.reduceAdd, Nat.reduceLT, Nat.reduceLeDiff, Nat.zero_le, id, lstK_ok, tupK_ok]
    exact ⟨by first | rfl | trivial, by first | rfl | trivial⟩
theorem digits_ok {x : Int} {t : Nat} (ht : t ≤ 64) : Wp (Ci.run tab (n + 2) 17 [.int x, .int (t : Int)] st) (NewL st ((lo t (x % 2 ^ t)).map .int)) := by
  refine wp_run (d := d17) rfl rfl ?_
  show Wp (ex _ c17 _ _) _
  unfold c17
  try simp -implicitDefEqProofs only [wp_ok, wp_bind, wp_noexc, wp_seq, wp_skip, wp_brk, wp_cnt, wp_retN, wp_ret, wp_set, wp_par, wp_unp, wp_sto, wp_xpr, wp_ite, wp_for, wp_whl, wp_tru, sk_rt, sk_bk, sk_ct, lk_nx, lk_ct, lk_bk, lk_rt, ik_true, ik_false, ev, evs, evo, evi, evc, evd, keyK_str, keyK_int, retK_rt, retK_nx, iteK_true, iteK_false, truK0_bl, truK0_int, truK0_tup, truK0_frl, truK0_non, scK_bl, wp_callK, cmpO, cmp_eq, cmp_ne, cmp_lt, cmp_le, cmp_gt, cmp_ge, cmp_isN, cmp_notN, eqD_int, eqD_str, bin_int, binI_add, binI_sub, of_some, negK_int, setK_nm, setK_tp, setsK, asg, asgs, tgsOf, intK, rngK, srcK, subO, startE, newR, new, bi_int, bi_abs, bi_len_tup, bi_len_frl,  Option.map_some, Option.map_none, Option.bind_some, List.map_cons, List.map_nil, List.length_cons, List.length_nil, List.length_append, List.length_map, List.length_set, List.cons_append, List.nil_append, List.getElem?_cons_zero, List.getElem?_cons_succ, List.set_cons_zero, List.set_cons_succ, if_true, if_false, Bool.false_eq_true, Bool.true_eq_false, Bool.not_true, Bool.not_false, decide_true, decide_false, Nat.reduceEqDiff, Nat.zero_lt_succ, List.replicate_succ, List.replicate_zero, Nat.reduceSub, Nat.reduceAdd, Nat.reduceLT, Nat.reduceLeDiff, Nat.zero_le, id, lstK_ok, tupK_ok, d17]
  refine (power_ok ht).mono ?_
  rintro w st1 ⟨rfl, rfl⟩
  try simp -implicitDefEqProofs only [wp_ok, wp_bind, wp_noexc, wp_seq, wp_skip, wp_brk, wp_cnt, wp_retN, wp_ret, wp_set, wp_par, wp_unp, wp_sto, wp_xpr, wp_ite, wp_for, wp_whl, wp_tru, sk_rt, sk_bk, sk_ct, lk_nx, lk_ct, lk_bk, lk_rt, ik_true, ik_false, ev, evs, evo, evi, evc, evd, keyK_str, keyK_int, retK_rt, retK_nx, iteK_true, iteK_false, truK0_bl, truK0_int, truK0_tup, truK0_frl, truK0_non, scK_bl, wp_callK, cmpO, cmp_eq, cmp_ne, cmp_lt, cmp_le, cmp_gt, cmp_ge, cmp_isN, cmp_notN, eqD_int, eqD_str, bin_int, binI_add, binI_sub, of_some, negK_int, setK_nm, setK_tp, setsK, asg, asgs, tgsOf, intK, rngK, srcK, subO, startE, newR, new, bi_int, bi_abs, bi_len_tup, bi_len_frl,  Option.map_some, Option.map_none, Option.bind_some, List.map_cons, List.map_nil, List.length_cons, List.length_nil, List.length_append, List.length_map, List.length_set, List.cons_append, List.nil_append, List.getElem?_cons_zero, List.getElem?_cons_succ, List.set_cons_zero, List.set_cons_succ, if_true, if_false, Bool.false_eq_true, Bool.true_eq_false, Bool.not_true, Bool.not_false, decide_true, decide_false, Nat.reduceEqDiff, Nat.zero_lt_succ, List.replicate_succ, List.replicate_zero, Nat.reduceSub, Nat.reduceAdd, Nat.reduceLT, Nat.reduceLeDiff, Nat.zero_le, id, lstK_ok, tupK_ok, binI_mod_pos (p2 t)]
  rw [sk_nx]
  try simp -implicitDefEqProofs only [wp_ok, wp_bind, wp_noexc, wp_seq, wp_skip, wp_brk, wp_cnt, wp_retN, wp_ret, wp_set, wp_par, wp_unp, wp_sto, wp_xpr, wp_ite, wp_for, wp_whl, wp_tru, sk_rt, sk_bk, sk_ct, lk_nx, lk_ct, lk_bk, lk_rt, ik_true, ik_false, ev, evs, evo, evi, evc, evd, keyK_str, keyK_int, retK_rt, retK_nx, iteK_true, iteK_false, truK0_bl, truK0_int, truK0_tup, truK0_frl, truK0_non, scK_bl, wp_callK, cmpO, cmp_eq, cmp_ne, cmp_lt, cmp_le, cmp_gt, cmp_ge, cmp_isN, cmp_notN, eqD_int, eqD_str, bin_int, binI_add, binI_sub, of_some, negK_int, setK_nm, setK_tp, setsK, asg, asgs, tgsOf, intK, rngK, srcK, subO, startE, newR, new, bi_int, bi_abs, bi_len_tup, bi_len_frl,  Option.map_some, Option.map_none, Option.bind_some, List.map_cons, List.map_nil, List.length_cons, List.length_nil, List.length_append, List.length_map, List.length_set, List.cons_append, List.nil_append, List.getElem?_cons_zero, List.getElem?_cons_succ, List.set_cons_zero, List.set_cons_succ, if_true, if_false, Bool.false_eq_true, Bool.true_eq_false, Bool.not_true, Bool.not_false, decide_true, decide_false, Nat.reduceEqDiff, Nat.zero_lt_succ, List.replicate_succ, List.replicate_zero, Nat.reduceSub, Nat.reduceAdd, Nat.reduceLT, Nat.reduceLeDiff, Nat.zero_le, id, lstK_ok, tupK_ok, rngOf_nat (show t < 1000000 by omega)]
  generalize x % 2 ^ t = y
  refine wp_rng t (by omega) (fun k en st' => Ext st1 st' ∧ ∃ (r : Int) (u : Option W) (l : List Int), en = [some (.int x), some (.int (t : Int)), some (.int r), some (.ref st1.length), u] ∧ st'[st1.length]? = some (.lst (l.map .int)) ∧ l.length = k ∧ lo t y = l ++ lo (t - k) r) ?_ ?_ ⟨Ext.new, y, none, [], rfl, getLast, rfl, rfl⟩
  · rintro k en st' hk ⟨he, r, u, l, rfl, hl, hlen, hlo⟩
    refine ⟨_, rfl, ?_⟩
    have hf : binI .fdiv r 2 = some (r / 2) := by rw [binI_fdiv, if_pos (by decide)]
    have hm : binI .mod r 2 = some (r % 2) := binI_mod_pos (by decide)
    have ha := mt_append (y := W.int (r % 2)) hl (by rw [List.length_map]; unfold sizeLine; omega)
    try simp -implicitDefEqProofs only [wp_ok, wp_bind, wp_noexc, wp_seq, wp_skip, wp_brk, wp_cnt, wp_retN, wp_ret, wp_set, wp_par, wp_unp, wp_sto, wp_xpr, wp_ite, wp_for, wp_whl, wp_tru, sk_nx, sk_rt, sk_bk, sk_ct, lk_nx, lk_ct, lk_bk, lk_rt, ik_true, ik_false, ev, evs, evo, evi, evc, evd, keyK_str, keyK_int, retK_rt, retK_nx, iteK_true, iteK_false, truK0_bl, truK0_int, truK0_tup, truK0_frl, truK0_non, scK_bl, wp_callK, cmpO, cmp_eq, cmp_ne, cmp_lt, cmp_le, cmp_gt, cmp_ge, cmp_isN, cmp_notN, eqD_int, eqD_str, bin_int, binI_add, binI_sub, of_some, negK_int, setK_nm, setK_tp, setsK, asg, asgs, tgsOf, intK, rngK, srcK, subO, startE, newR, new, bi_int, bi_abs, bi_len_tup, bi_len_frl,  Option.map_some, Option.map_none, Option.bind_some, List.map_cons, List.map_nil, List.length_cons, List.length_nil, List.length_append, List.length_map, List.length_set, List.cons_append, List.nil_append, List.getElem?_cons_zero, List.getElem?_cons_succ, List.set_cons_zero, List.set_cons_succ, if_true, if_false, Bool.false_eq_true, Bool.true_eq_false, Bool.not_true, Bool.not_false, decide_true, decide_false, Nat.reduceEqDiff, Nat.zero_lt_succ, List.replicate_succ, List.replicate_zero, Nat.reduceSub, Nat.reduceAdd, Nat.reduceLT, Nat.reduceLeDiff, Nat.zero_le, id, lstK_ok, tupK_ok, isLK_lst hl, hm, ha, hf]
    refine ⟨he.set (Nat.le_refl _), r / 2, _, l ++ [r % 2], rfl, ?_, by simp [hlen], ?_⟩
    · rw [List.getElem?_set_self (List.getElem?_eq_some_iff.mp hl).1]
      simp
    · rw [hlo]
      have : t - k = (t - (k + 1)) + 1 := by omega
      rw [this, lo]
      simp
  · rintro en st' ⟨he, r, u, l, rfl, hl, hlen, hlo⟩
    try simp -implicitDefEqProofs only [wp_ok, wp_bind, wp_noexc, wp_seq, wp_skip, wp_brk, wp_cnt, wp_retN, wp_ret, wp_set, wp_par, wp_unp, wp_sto, wp_xpr, wp_ite, wp_for, wp_whl, wp_tru, sk_nx, sk_rt, sk_bk, sk_ct, lk_nx, lk_ct, lk_bk, lk_rt, ik_true, ik_false, ev, evs, evo, evi, evc, evd, keyK_str, keyK_int, retK_rt, retK_nx, iteK_true, iteK_false, truK0_bl, truK0_int, truK0_tup, truK0_frl, truK0_non, scK_bl, wp_callK, cmpO, cmp_eq, cmp_ne, cmp_lt, cmp_le, cmp_gt, cmp_ge, cmp_isN, cmp_notN, eqD_int, eqD_str, bin_int, binI_add, binI_sub, of_some, negK_int, setK_nm, setK_tp, setsK, asg, asgs, tgsOf, intK, rngK, srcK, subO, startE, newR, new, bi_int, bi_abs, bi_len_tup, bi_len_frl,  Option.map_some, Option.map_none, Option.bind_some, List.map_cons, List.map_nil, List.length_cons, List.length_nil, List.length_append, List.length_map, List.length_set, List.cons_append, List.nil_append, List.getElem?_cons_zero, List.getElem?_cons_succ, List.set_cons_zero, List.set_cons_succ, if_true, if_false, Bool.false_eq_true, Bool.true_eq_false, Bool.not_true, Bool.not_false, decide_true, decide_false, Nat.reduceEqDiff, Nat.zero_lt_succ, List.replicate_succ, List.replicate_zero, Nat.reduceSub, Nat.reduceAdd, Nat.reduceLT, Nat.reduceLeDiff, Nat.zero_le, id, lstK_ok, tupK_ok]
    rw [Nat.sub_self, lo, List.append_nil] at hlo
    refine ⟨_, by trivial, he, Nat.le_refl _, ?_⟩
    rw [hlo]
    exact hl
theorem back_ok {a : Nat} {l : List Int} (h : st[a]? = some (.lst (l.map .int))) (hb : ∀ d ∈ l, d = 0 ∨ d = 1) (hl : l.length ≤ 1000) : Wp (Ci.run tab (n + 1) 18 [.ref a] st) fun w st' => w = .int (vl l) ∧ st' = st := by
  refine wp_run (d := d18) rfl rfl ?_
  show Wp (ex _ c18 _ _) _
  unfold c18
  try simp -implicitDefEqProofs only [wp_ok, wp_bind, wp_noexc, wp_seq, wp_skip, wp_brk, wp_cnt, wp_retN, wp_ret, wp_set, wp_par, wp_unp, wp_sto, wp_xpr, wp_ite, wp_for, wp_whl, wp_tru, sk_rt, sk_bk, sk_ct, lk_nx, lk_ct, lk_bk, lk_rt, ik_true, ik_false, ev, evs, evo, evi, evc, evd, keyK_str, keyK_int, retK_rt, retK_nx, iteK_true, iteK_false, truK0_bl, truK0_int, truK0_tup, truK0_frl, truK0_non, scK_bl, wp_callK, cmpO, cmp_eq, cmp_ne, cmp_lt, cmp_le, cmp_gt, cmp_ge, cmp_isN, cmp_notN, eqD_int, eqD_str, bin_int, binI_add, binI_sub, of_some, negK_int, setK_nm, setK_tp, setsK, asg, asgs, tgsOf, intK, rngK, srcK, subO, startE, newR, new, bi_int, bi_abs, bi_len_tup, bi_len_frl,  Option.map_some, Option.map_none, Option.bind_some, List.map_cons, List.map_nil, List.length_cons, List.length_nil, List.length_append, List.length_map, List.length_set, List.cons_append, List.nil_append, List.getElem?_cons_zero, List.getElem?_cons_succ, List.set_cons_zero, List.set_cons_succ, if_true, if_false, Bool.false_eq_true, Bool.true_eq_false, Bool.not_true, Bool.not_false, decide_true, decide_false, Nat.reduceEqDiff, Nat.zero_lt_succ, List.replicate_succ, List.replicate_zero, Nat.reduceSub, Nat.reduceAdd, Nat.reduceLT, Nat.reduceLeDiff, Nat.zero_le, id, lstK_ok, tupK_ok, d18]
  rw [sk_nx]
  try simp -implicitDefEqProofs only [wp_ok, wp_bind, wp_noexc, wp_seq, wp_skip, wp_brk, wp_cnt, wp_retN, wp_ret, wp_set, wp_par, wp_unp, wp_sto, wp_xpr, wp_ite, wp_for, wp_whl, wp_tru, sk_rt, sk_bk, sk_ct, lk_nx, lk_ct, lk_bk, lk_rt, ik_true, ik_false, ev, evs, evo, evi, evc, evd, keyK_str, keyK_int, retK_rt, retK_nx, iteK_true, iteK_false, truK0_bl, truK0_int, truK0_tup, truK0_frl, truK0_non, scK_bl, wp_callK, cmpO, cmp_eq, cmp_ne, cmp_lt, cmp_le, cmp_gt, cmp_ge, cmp_isN, cmp_notN, eqD_int, eqD_str, bin_int, binI_add, binI_sub, of_some, negK_int, setK_nm, setK_tp, setsK, asg, asgs, tgsOf, intK, rngK, srcK, subO, startE, newR, new, bi_int, bi_abs, bi_len_tup, bi_len_frl,  Option.map_some, Option.map_none, Option.bind_some, List.map_cons, List.map_nil, List.length_cons, List.length_nil, List.length_append, List.length_map, List.length_set, List.cons_append, List.nil_append, List.getElem?_cons_zero, List.getElem?_cons_succ, List.set_cons_zero, List.set_cons_succ, if_true, if_false, Bool.false_eq_true, Bool.true_eq_false, Bool.not_true, Bool.not_false, decide_true, decide_false, Nat.reduceEqDiff, Nat.zero_lt_succ, List.replicate_succ, List.replicate_zero, Nat.reduceSub, Nat.reduceAdd, Nat.reduceLT, Nat.reduceLeDiff, Nat.zero_le, id, lstK_ok, tupK_ok, srcOf_lst h]
  refine wp_forL (l.map .int) (fun k en st' => st' = st ∧ ∃ y, en = [some (.ref a), some (.int (vl (l.take k))), some (.int (2 ^ k)), y]) ?_ ?_ ?_ FU 0 _ _ (Nat.zero_le _) (by rw [List.length_map]; unfold FU; omega) ⟨rfl, none, rfl⟩
  · rintro k en st' ⟨rfl, _⟩
    exact get_live h
  · rintro k w en st' hw ⟨rfl, y, rfl⟩
    rw [List.getElem?_map] at hw
    obtain ⟨z, hz, rfl⟩ := Option.map_eq_some_iff.mp hw
    have hzb := hb z (List.mem_of_getElem? hz)
    refine ⟨_, rfl, ?_⟩
    have hm : binI .mul z (2 ^ k) = some (z * 2 ^ k) := by
      rw [binI_mul, if_pos]
      rw [show small64 z = true from decide_eq_true (by omega)]
      rfl
    try simp -implicitDefEqProofs only [wp_ok, wp_bind, wp_noexc, wp_seq, wp_skip, wp_brk, wp_cnt, wp_retN, wp_ret, wp_set, wp_par, wp_unp, wp_sto, wp_xpr, wp_ite, wp_for, wp_whl, wp_tru, sk_nx, sk_rt, sk_bk, sk_ct, lk_nx, lk_ct, lk_bk, lk_rt, ik_true, ik_false, ev, evs, evo, evi, evc, evd, keyK_str, keyK_int, retK_rt, retK_nx, iteK_true, iteK_false, truK0_bl, truK0_int, truK0_tup, truK0_frl, truK0_non, scK_bl, wp_callK, cmpO, cmp_eq, cmp_ne, cmp_lt, cmp_le, cmp_gt, cmp_ge, cmp_isN, cmp_notN, eqD_int, eqD_str, bin_int, binI_add, binI_sub, of_some, negK_int, setK_nm, setK_tp, setsK, asg, asgs, tgsOf, intK, rngK, srcK, subO, startE, newR, new, bi_int, bi_abs, bi_len_tup, bi_len_frl,  Option.map_some, Option.map_none, Option.bind_some, List.map_cons, List.map_nil, List.length_cons, List.length_nil, List.length_append, List.length_map, List.length_set, List.cons_append, List.nil_append, List.getElem?_cons_zero, List.getElem?_cons_succ, List.set_cons_zero, List.set_cons_succ, if_true, if_false, Bool.false_eq_true, Bool.true_eq_false, Bool.not_true, Bool.not_false, decide_true, decide_false, Nat.reduceEqDiff, Nat.zero_lt_succ, List.replicate_succ, List.replicate_zero, Nat.reduceSub, Nat.reduceAdd, Nat.reduceLT, Nat.reduceLeDiff, Nat.zero_le, id, lstK_ok, tupK_ok, hm]
    refine ⟨by trivial, some (W.int z), ?_⟩
    obtain ⟨hk, e⟩ := List.getElem?_eq_some_iff.mp hz
    rw [List.take_succ_eq_append_getElem hk, vl_append, e, List.length_take, Nat.min_eq_left (Nat.le_of_lt hk), p2s]
    simp only [vl]
    rw [Int.mul_zero, Int.add_zero, Int.mul_comm z]
    have : (2 : Int) ^ k + 2 ^ k = 2 * 2 ^ k := by omega
    rw [this]
  · rintro en st' ⟨rfl, y, rfl⟩
    rw [List.length_map, List.take_length]
    try simp -implicitDefEqProofs only [wp_ok, wp_bind, wp_noexc, wp_seq, wp_skip, wp_brk, wp_cnt, wp_retN, wp_ret, wp_set, wp_par, wp_unp, wp_sto, wp_xpr, wp_ite, wp_for, wp_whl, wp_tru, sk_nx, sk_rt, sk_bk, sk_ct, lk_nx, lk_ct, lk_bk, lk_rt, ik_true, ik_false, ev, evs, evo, evi, evc, evd, keyK_str, keyK_int, retK_rt, retK_nx, iteK_true, iteK_false, truK0_bl, truK0_int, truK0_tup, truK0_frl, truK0_non, scK_bl, wp_callK, cmpO, cmp_eq, cmp_ne, cmp_lt, cmp_le, cmp_gt, cmp_ge, cmp_isN, cmp_notN, eqD_int, eqD_str, bin_int, binI_add, binI_sub, of_some, negK_int, setK_nm, setK_tp, setsK, asg, asgs, tgsOf, intK, rngK, srcK, subO, startE, newR, new, bi_int, bi_abs, bi_len_tup, bi_len_frl,  Option.map_some, Option.map_none, Option.bind_some, List.map_cons, List.map_nil, List.length_cons, List.length_nil, List.length_append, List.length_map, List.length_set, List.cons_append, List.nil_append, List.getElem?_cons_zero, List.getElem?_cons_succ, List.set_cons_zero, List.set_cons_succ, if_true, if_false, Bool.false_eq_true, Bool.true_eq_false, Bool.not_true, Bool.not_false, decide_true, decide_false, Nat.reduceEqDiff, Nat.zero_lt_succ, List.replicate_succ, List.replicate_zero, Nat.reduceSub, Nat.reduceAdd, Nat.reduceLT, Nat.reduceLeDiff, Nat.zero_le, id, lstK_ok, tupK_ok]
    exact ⟨by trivial, by trivial⟩
theorem srcEK_lst {m : Nat} {ws : List W} (h : st[m]? = some (.lst ws)) : srcEK (.ref m) st = .ok (.enum (.live m)) st := by
  simp only [srcEK, srcOf, isLst, lstOf, h]
  rfl
theorem read_ok {a v : Nat} {x : Int} (hv : v < 64) (h0 : 0 ≤ x) (h1 : x < 2 ^ (v + 1)) (h : st[a]? = some (.lst ((lo (v + 1) x).map .int))) : Wp (Ci.run tab (n + 1) 19 [.ref a] st) fun w st' => w = .int (sgn x (v + 1)) ∧ st' = st := by
  refine wp_run (d := d19) rfl rfl ?_
  show Wp (ex _ c19 _ _) _
  unfold c19
  try simp -implicitDefEqProofs only [wp_ok, wp_bind, wp_noexc, wp_seq, wp_skip, wp_brk, wp_cnt, wp_retN, wp_ret, wp_set, wp_par, wp_unp, wp_sto, wp_xpr, wp_ite, wp_for, wp_whl, wp_tru, sk_rt, sk_bk, sk_ct, lk_nx, lk_ct, lk_bk, lk_rt, ik_true, ik_false, ev, evs, evo, evi, evc, evd, keyK_str, keyK_int, retK_rt, retK_nx, iteK_true, iteK_false, truK0_bl, truK0_int, truK0_tup, truK0_frl, truK0_non, scK_bl, wp_callK, cmpO, cmp_eq, cmp_ne, cmp_lt, cmp_le, cmp_gt, cmp_ge, cmp_isN, cmp_notN, eqD_int, eqD_str, bin_int, binI_add, binI_sub, of_some, negK_int, setK_nm, setK_tp, setsK, asg, asgs, tgsOf, intK, rngK, srcK, subO, startE, newR, new, bi_int, bi_abs, bi_len_tup, bi_len_frl,  Option.map_some, Option.map_none, Option.bind_some, List.map_cons, List.map_nil, List.length_cons, List.length_nil, List.length_append, List.length_map, List.length_set, List.cons_append, List.nil_append, List.getElem?_cons_zero, List.getElem?_cons_succ, List.set_cons_zero, List.set_cons_succ, if_true, if_false, Bool.false_eq_true, Bool.true_eq_false, Bool.not_true, Bool.not_false, decide_true, decide_false, Nat.reduceEqDiff, Nat.zero_lt_succ, List.replicate_succ, List.replicate_zero, Nat.reduceSub, Nat.reduceAdd, Nat.reduceLT, Nat.reduceLeDiff, Nat.zero_le, id, lstK_ok, tupK_ok, d19]
  rw [sk_nx]
  try simp -implicitDefEqProofs only [wp_ok, wp_bind, wp_noexc, wp_seq, wp_skip, wp_brk, wp_cnt, wp_retN, wp_ret, wp_set, wp_par, wp_unp, wp_sto, wp_xpr, wp_ite, wp_for, wp_whl, wp_tru, sk_rt, sk_bk, sk_ct, lk_nx, lk_ct, lk_bk, lk_rt, ik_true, ik_false, ev, evs, evo, evi, evc, evd, keyK_str, keyK_int, retK_rt, retK_nx, iteK_true, iteK_false, truK0_bl, truK0_int, truK0_tup, truK0_frl, truK0_non, scK_bl, wp_callK, cmpO, cmp_eq, cmp_ne, cmp_lt, cmp_le, cmp_gt, cmp_ge, cmp_isN, cmp_notN, eqD_int, eqD_str, bin_int, binI_add, binI_sub, of_some, negK_int, setK_nm, setK_tp, setsK, asg, asgs, tgsOf, intK, rngK, srcK, subO, startE, newR, new, bi_int, bi_abs, bi_len_tup, bi_len_frl,  Option.map_some, Option.map_none, Option.bind_some, List.map_cons, List.map_nil, List.length_cons, List.length_nil, List.length_append, List.length_map, List.length_set, List.cons_append, List.nil_append, List.getElem?_cons_zero, List.getElem?_cons_succ, List.set_cons_zero, List.set_cons_succ, if_true, if_false, Bool.false_eq_true, Bool.true_eq_false, Bool.not_true, Bool.not_false, decide_true, decide_false, Nat.reduceEqDiff, Nat.zero_lt_succ, List.replicate_succ, List.replicate_zero, Nat.reduceSub, Nat.reduceAdd, Nat.reduceLT, Nat.reduceLeDiff, Nat.zero_le, id, lstK_ok, tupK_ok, srcEK_lst h]
  have ln : ((lo (v + 1) x).map W.int).length = v + 1 := by rw [List.length_map, lo_len]
  have hlen : bi .len [.ref a] st = some (.int ((v + 1 : Nat) : Int), st) := by rw [bi_len_lst h, ln]
  let ws : List W := (List.range (v + 1)).map fun k => .tup [.int (k : Nat), .int (x / 2 ^ k % 2)]
  have hws : ∀ k, k < v + 1 → ((lo (v + 1) x).map W.int)[k]? = some (.int (x / 2 ^ k % 2)) := fun k hk => by
    rw [List.getElem?_map]
    have e := lo_drop k (v + 1 - k) x
    rw [show k + (v + 1 - k) = v + 1 by omega] at e
    have e2 : (lo (v + 1) x)[k]? = some (x / 2 ^ k % 2) := by
      have := List.getElem?_drop (xs := lo (v + 1) x) (i := k) (j := 0)
      rw [e] at this
      have this : _ = (lo (v + 1) x)[k]? := this
      rw [← this, show v + 1 - k = (v - k) + 1 by omega, lo]
      rfl
    rw [e2]
    rfl
  have lws : ws.length = v + 1 := by simp [ws]
  refine wp_forL ws (fun k en st' => st' = st ∧ ∃ y z, en = [some (.ref a), some (.int (if k = v + 1 then sgn x (v + 1) else x % 2 ^ k)), some (.int (2 ^ k)), y, z]) ?_ ?_ ?_ FU 0 _ _ (Nat.zero_le _) (by rw [lws]; unfold FU; omega) ⟨rfl, none, none, by simp [Int.emod_one]⟩
  · rintro k en st' ⟨rfl, _⟩
    simp only [Src.get, h]
    rcases Nat.lt_or_ge k (v + 1) with hk | hk
    · rw [hws k hk]
      simp only [ws, List.getElem?_map, List.getElem?_range hk, Option.map_some]
    · rw [List.getElem?_eq_none (by rw [ln]; exact hk), List.getElem?_eq_none (by rw [lws]; exact hk)]
  · rintro k w en st' hw ⟨rfl, y, z, rfl⟩
    have hk : k < v + 1 := by have := (List.getElem?_eq_some_iff.mp hw).1; rw [lws] at this; exact this
    simp only [ws, List.getElem?_map, List.getElem?_range hk, Option.map_some] at hw
    cases hw
    refine ⟨_, rfl, ?_⟩
    have hb := bit2 x k
    have hm : binI .mul (x / 2 ^ k % 2) (2 ^ k) = some (x / 2 ^ k % 2 * 2 ^ k) := by
      rw [binI_mul, if_pos]
      rw [show small64 (x / 2 ^ k % 2) = true from decide_eq_true (by omega)]
      rfl
    have ne : ¬ (k = v + 1) := by omega
    rw [if_neg ne]
    have dbl : (2 : Int) ^ k + 2 ^ k = 2 ^ (k + 1) := by rw [p2s]; omega
    by_cases c : k = v
    · subst c
      have e : (((k : Nat) : Int) + 1 == ((k + 1 : Nat) : Int)) = true := by rw [beq_iff_eq]; omega
      try simp -implicitDefEqProofs only [wp_ok, wp_bind, wp_noexc, wp_seq, wp_skip, wp_brk, wp_cnt, wp_retN, wp_ret, wp_set, wp_par, wp_unp, wp_sto, wp_xpr, wp_ite, wp_for, wp_whl, wp_tru, sk_nx, sk_rt, sk_bk, sk_ct, lk_nx, lk_ct, lk_bk, lk_rt, ik_true, ik_false, ev, evs, evo, evi, evc, evd, keyK_str, keyK_int, retK_rt, retK_nx, iteK_true, iteK_false, truK0_bl, truK0_int, truK0_tup, truK0_frl, truK0_non, scK_bl, wp_callK, cmpO, cmp_eq, cmp_ne, cmp_lt, cmp_le, cmp_gt, cmp_ge, cmp_isN, cmp_notN, eqD_int, eqD_str, bin_int, binI_add, binI_sub, of_some, negK_int, setK_nm, setK_tp, setsK, asg, asgs, tgsOf, intK, rngK, srcK, subO, startE, newR, new, bi_int, bi_abs, bi_len_tup, bi_len_frl,  Option.map_some, Option.map_none, Option.bind_some, List.map_cons, List.map_nil, List.length_cons, List.length_nil, List.length_append, List.length_map, List.length_set, List.cons_append, List.nil_append, List.getElem?_cons_zero, List.getElem?_cons_succ, List.set_cons_zero, List.set_cons_succ, if_true, if_false, Bool.false_eq_true, Bool.true_eq_false, Bool.not_true, Bool.not_false, decide_true, decide_false, Nat.reduceEqDiff, Nat.zero_lt_succ, List.replicate_succ, List.replicate_zero, Nat.reduceSub, Nat.reduceAdd, Nat.reduceLT, Nat.reduceLeDiff, Nat.zero_le, id, lstK_ok, tupK_ok, hlen, e, hm, dbl]
      refine ⟨by trivial, some (W.int (k : Nat)), some (W.int (x / 2 ^ k % 2)), ?_⟩
      rw [read_val h0 h1]
    · have e : (((k : Nat) : Int) + 1 == ((v + 1 : Nat) : Int)) = false := beq_eq_false_iff_ne.mpr (by omega)
      try simp -implicitDefEqProofs only [wp_ok, wp_bind, wp_noexc, wp_seq, wp_skip, wp_brk, wp_cnt, wp_retN, wp_ret, wp_set, wp_par, wp_unp, wp_sto, wp_xpr, wp_ite, wp_for, wp_whl, wp_tru, sk_nx, sk_rt, sk_bk, sk_ct, lk_nx, lk_ct, lk_bk, lk_rt, ik_true, ik_false, ev, evs, evo, evi, evc, evd, keyK_str, keyK_int, retK_rt, retK_nx, iteK_true, iteK_false, truK0_bl, truK0_int, truK0_tup, truK0_frl, truK0_non, scK_bl, wp_callK, cmpO, cmp_eq, cmp_ne, cmp_lt, cmp_le, cmp_gt, cmp_ge, cmp_isN, cmp_notN, eqD_int, eqD_str, bin_int, binI_add, binI_sub, of_some, negK_int, setK_nm, setK_tp, setsK, asg, asgs, tgsOf, intK, rngK, srcK, subO, startE, newR, new, bi_int, bi_abs, bi_len_tup, bi_len_frl,  Option.map_some, Option.map_none, Option.bind_some, List.map_cons, List.map_nil, List.length_cons, List.length_nil, List.length_append, List.length_map, List.length_set, List.cons_append, List.nil_append, List.getElem?_cons_zero, List.getElem?_cons_succ, List.set_cons_zero, List.set_cons_succ, if_true, if_false, Bool.false_eq_true, Bool.true_eq_false, Bool.not_true, Bool.not_false, decide_true, decide_false, Nat.reduceEqDiff, Nat.zero_lt_succ, List.replicate_succ, List.replicate_zero, Nat.reduceSub, Nat.reduceAdd, Nat.reduceLT, Nat.reduceLeDiff, Nat.zero_le, id, lstK_ok, tupK_ok, hlen, e, hm, dbl]
      refine ⟨by trivial, some (W.int (k : Nat)), some (W.int (x / 2 ^ k % 2)), ?_⟩
      rw [if_neg c, mod_top, Int.add_comm]
  · rintro en st' ⟨rfl, y, z, rfl⟩
    rw [lws, if_pos rfl]
    try simp -implicitDefEqProofs only [wp_ok, wp_bind, wp_noexc, wp_seq, wp_skip, wp_brk, wp_cnt, wp_retN, wp_ret, wp_set, wp_par, wp_unp, wp_sto, wp_xpr, wp_ite, wp_for, wp_whl, wp_tru, sk_nx, sk_rt, sk_bk, sk_ct, lk_nx, lk_ct, lk_bk, lk_rt, ik_true, ik_false, ev, evs, evo, evi, evc, evd, keyK_str, keyK_int, retK_rt, retK_nx, iteK_true, iteK_false, truK0_bl, truK0_int, truK0_tup, truK0_frl, truK0_non, scK_bl, wp_callK, cmpO, cmp_eq, cmp_ne, cmp_lt, cmp_le, cmp_gt, cmp_ge, cmp_isN, cmp_notN, eqD_int, eqD_str, bin_int, binI_add, binI_sub, of_some, negK_int, setK_nm, setK_tp, setsK, asg, asgs, tgsOf, intK, rngK, srcK, subO, startE, newR, new, bi_int, bi_abs, bi_len_tup, bi_len_frl,  Option.map_some, Option.map_none, Option.bind_some, List.map_cons, List.map_nil, List.length_cons, List.length_nil, List.length_append, List.length_map, List.length_set, List.cons_append, List.nil_append, List.getElem?_cons_zero, List.getElem?_cons_succ, List.set_cons_zero, List.set_cons_succ, if_true, if_false, Bool.false_eq_true, Bool.true_eq_false, Bool.not_true, Bool.not_false, decide_true, decide_false, Nat.reduceEqDiff, Nat.zero_lt_succ, List.replicate_succ, List.replicate_zero, Nat.reduceSub, Nat.reduceAdd, Nat.reduceLT, Nat.reduceLeDiff, Nat.zero_le, id, lstK_ok, tupK_ok]
    exact ⟨by trivial, by trivial⟩
end
end K01
/-! K01b: division by doubling; the operations told. -/
namespace K01
open PySem Ci Law K02

section
variable {n : Nat} {st : Sto}
def ps (b : Int) (k : Nat) : List Int := (List.range (k + 1)).map fun i => b * 2 ^ i
theorem ps_succ (b : Int) (k : Nat) : ps b (k + 1) = ps b k ++ [b * 2 ^ (k + 1)] := by
  rw [ps, List.range_succ, List.map_append]
  rfl
theorem ps_get {b : Int} {k i : Nat} (h : i ≤ k) : ((ps b k).map W.int)[i]? = some (.int (b * 2 ^ i)) := by
  rw [ps, List.getElem?_map, List.getElem?_map, List.getElem?_range (by omega)]
  rfl
theorem lrgK_of {a b : Int} {ws : List W} (e : rngOf ws = some (a, b)) (hm : (b - a).toNat ≤ 2 ^ 24) : lrgK ws st = newR st (.lst (rngW a b)) := by
  unfold lrgK
  rw [e]
  exact if_pos hm
theorem lrgK_nat {m : Nat} (h : m < 1000000) : lrgK [.int (m : Int)] st = newR st (.lst (rngW 0 (m : Int))) := lrgK_of (rngOf_nat h) (by omega)
theorem rev_get {w k : Nat} (h : k ≤ w) : (rngW 0 ((w + 1 : Nat) : Int)).reverse[k]? = some (.int ((w - k : Nat) : Int)) := by
  rw [List.getElem?_reverse (by rw [rngW_len]; omega), rngW_len]
  unfold rngW
  rw [List.getElem?_map, List.getElem?_range (by omega)]
  simp only [Option.map_some]
  congr 2
  omega
theorem times_ok {a b : Int} {w : Nat} (hw : w ≤ 64) (a0 : 0 ≤ a) (a1 : a < 2 ^ (w + 1)) (b0 : 0 < b) : Wp (Ci.run tab (n + 2) 20 [.int a, .int b, .int (w : Int)] st) fun r st' => r = .int (a / b) ∧ Ext st st' := by
  refine wp_run (d := d20) rfl rfl ?_
  show Wp (ex _ c20 _ _) _
  unfold c20
  try simp -implicitDefEqProofs only [wp_ok, wp_bind, wp_noexc, wp_seq, wp_skip, wp_brk, wp_cnt, wp_retN, wp_ret, wp_set, wp_par, wp_unp, wp_sto, wp_xpr, wp_ite, wp_for, wp_whl, wp_tru, sk_rt, sk_bk, sk_ct, lk_nx, lk_ct, lk_bk, lk_rt, ik_true, ik_false, ev, evs, evo, evi, evc, evd, keyK_str, keyK_int, retK_rt, retK_nx, iteK_true, iteK_false, truK0_bl, truK0_int, truK0_tup, truK0_frl, truK0_non, scK_bl, wp_callK, cmpO, cmp_eq, cmp_ne, cmp_lt, cmp_le, cmp_gt, cmp_ge, cmp_isN, cmp_notN, eqD_int, eqD_str, bin_int, binI_add, binI_sub, of_some, negK_int, setK_nm, setK_tp, setsK, asg, asgs, tgsOf, intK, rngK, srcK, subO, startE, newR, new, bi_int, bi_abs, bi_len_tup, bi_len_frl,  Option.map_some, Option.map_none, Option.bind_some, List.map_cons, List.map_nil, List.length_cons, List.length_nil, List.length_append, List.length_map, List.length_set, List.cons_append, List.nil_append, List.getElem?_cons_zero, List.getElem?_cons_succ, List.set_cons_zero, List.set_cons_succ, if_true, if_false, Bool.false_eq_true, Bool.true_eq_false, Bool.not_true, Bool.not_false, decide_true, decide_false, Nat.reduceEqDiff, Nat.zero_lt_succ, List.replicate_succ, List.replicate_zero, Nat.reduceSub, Nat.reduceAdd, Nat.reduceLT, Nat.reduceLeDiff, Nat.zero_le, id, lstK_ok, tupK_ok, d20]
  rw [sk_nx]
  try simp -implicitDefEqProofs only [wp_ok, wp_bind, wp_noexc, wp_seq, wp_skip, wp_brk, wp_cnt, wp_retN, wp_ret, wp_set, wp_par, wp_unp, wp_sto, wp_xpr, wp_ite, wp_for, wp_whl, wp_tru, sk_rt, sk_bk, sk_ct, lk_nx, lk_ct, lk_bk, lk_rt, ik_true, ik_false, ev, evs, evo, evi, evc, evd, keyK_str, keyK_int, retK_rt, retK_nx, iteK_true, iteK_false, truK0_bl, truK0_int, truK0_tup, truK0_frl, truK0_non, scK_bl, wp_callK, cmpO, cmp_eq, cmp_ne, cmp_lt, cmp_le, cmp_gt, cmp_ge, cmp_isN, cmp_notN, eqD_int, eqD_str, bin_int, binI_add, binI_sub, of_some, negK_int, setK_nm, setK_tp, setsK, asg, asgs, tgsOf, intK, rngK, srcK, subO, startE, newR, new, bi_int, bi_abs, bi_len_tup, bi_len_frl,  Option.map_some, Option.map_none, Option.bind_some, List.map_cons, List.map_nil, List.length_cons, List.length_nil, List.length_append, List.length_map, List.length_set, List.cons_append, List.nil_append, List.getElem?_cons_zero, List.getElem?_cons_succ, List.set_cons_zero, List.set_cons_succ, if_true, if_false, Bool.false_eq_true, Bool.true_eq_false, Bool.not_true, Bool.not_false, decide_true, decide_false, Nat.reduceEqDiff, Nat.zero_lt_succ, List.replicate_succ, List.replicate_zero, Nat.reduceSub, Nat.reduceAdd, Nat.reduceLT, Nat.reduceLeDiff, Nat.zero_le, id, lstK_ok, tupK_ok, rngOf_nat (show w < 1000000 by omega)]
  refine wp_rng w (by omega) (fun k en st' => Ext st st' ∧ st'[st.length]? = some (.lst ((ps b k).map .int)) ∧ ∃ u, en = [some (.int a), some (.int b), some (.int (w : Int)), some (.ref st.length), some (.int 0), u, none, none]) ?_ ?_ ⟨Ext.new, by simp [ps], none, rfl⟩
  · rintro k en st' hk ⟨he, g, u, rfl⟩
    refine ⟨_, rfl, ?_⟩
    have hl : ((ps b k).map W.int).length = k + 1 := by simp [ps]
    have e1 : sub st' (.ref st.length) (.int (-1)) = some (.int (b * 2 ^ k)) := by rw [sub_lst g, atW_last, hl, Nat.add_sub_cancel, ps_get (Nat.le_refl k)]
    have e2 := mt_append (y := W.int (b * 2 ^ k + b * 2 ^ k)) g (by rw [hl]; unfold sizeLine; omega)
    try simp -implicitDefEqProofs only [wp_ok, wp_bind, wp_noexc, wp_seq, wp_skip, wp_brk, wp_cnt, wp_retN, wp_ret, wp_set, wp_par, wp_unp, wp_sto, wp_xpr, wp_ite, wp_for, wp_whl, wp_tru, sk_nx, sk_rt, sk_bk, sk_ct, lk_nx, lk_ct, lk_bk, lk_rt, ik_true, ik_false, ev, evs, evo, evi, evc, evd, keyK_str, keyK_int, retK_rt, retK_nx, iteK_true, iteK_false, truK0_bl, truK0_int, truK0_tup, truK0_frl, truK0_non, scK_bl, wp_callK, cmpO, cmp_eq, cmp_ne, cmp_lt, cmp_le, cmp_gt, cmp_ge, cmp_isN, cmp_notN, eqD_int, eqD_str, bin_int, binI_add, binI_sub, of_some, negK_int, setK_nm, setK_tp, setsK, asg, asgs, tgsOf, intK, rngK, srcK, subO, startE, newR, new, bi_int, bi_abs, bi_len_tup, bi_len_frl,  Option.map_some, Option.map_none, Option.bind_some, List.map_cons, List.map_nil, List.length_cons, List.length_nil, List.length_append, List.length_map, List.length_set, List.cons_append, List.nil_append, List.getElem?_cons_zero, List.getElem?_cons_succ, List.set_cons_zero, List.set_cons_succ, if_true, if_false, Bool.false_eq_true, Bool.true_eq_false, Bool.not_true, Bool.not_false, decide_true, decide_false, Nat.reduceEqDiff, Nat.zero_lt_succ, List.replicate_succ, List.replicate_zero, Nat.reduceSub, Nat.reduceAdd, Nat.reduceLT, Nat.reduceLeDiff, Nat.zero_le, id, lstK_ok, tupK_ok, isLK_lst g, e1, e2]
    refine ⟨he.set (Nat.le_refl _), ?_, _, rfl⟩
    rw [List.getElem?_set_self (List.getElem?_eq_some_iff.mp g).1, ps_succ, List.map_append, p2s]
    have : b * 2 ^ k + b * 2 ^ k = b * (2 * 2 ^ k) := by rw [← Int.mul_add]; congr 1; omega
    rw [this]
    rfl
  · rintro en st1 ⟨he, g, u, rfl⟩
    rw [sk_nx]
    try simp -implicitDefEqProofs only [wp_ok, wp_bind, wp_noexc, wp_seq, wp_skip, wp_brk, wp_cnt, wp_retN, wp_ret, wp_set, wp_par, wp_unp, wp_sto, wp_xpr, wp_ite, wp_for, wp_whl, wp_tru, sk_rt, sk_bk, sk_ct, lk_nx, lk_ct, lk_bk, lk_rt, ik_true, ik_false, ev, evs, evo, evi, evc, evd, keyK_str, keyK_int, retK_rt, retK_nx, iteK_true, iteK_false, truK0_bl, truK0_int, truK0_tup, truK0_frl, truK0_non, scK_bl, wp_callK, cmpO, cmp_eq, cmp_ne, cmp_lt, cmp_le, cmp_gt, cmp_ge, cmp_isN, cmp_notN, eqD_int, eqD_str, bin_int, binI_add, binI_sub, of_some, negK_int, setK_nm, setK_tp, setsK, asg, asgs, tgsOf, intK, rngK, srcK, subO, startE, newR, new, bi_int, bi_abs, bi_len_tup, bi_len_frl,  Option.map_some, Option.map_none, Option.bind_some, List.map_cons, List.map_nil, List.length_cons, List.length_nil, List.length_append, List.length_map, List.length_set, List.cons_append, List.nil_append, List.getElem?_cons_zero, List.getElem?_cons_succ, List.set_cons_zero, List.set_cons_succ, if_true, if_false, Bool.false_eq_true, Bool.true_eq_false, Bool.not_true, Bool.not_false, decide_true, decide_false, Nat.reduceEqDiff, Nat.zero_lt_succ, List.replicate_succ, List.replicate_zero, Nat.reduceSub, Nat.reduceAdd, Nat.reduceLT, Nat.reduceLeDiff, Nat.zero_le, id, lstK_ok, tupK_ok]
    rw [sk_nx]
    have er : ((w : Int) + 1) = ((w + 1 : Nat) : Int) := by omega
    try simp -implicitDefEqProofs only [wp_ok, wp_bind, wp_noexc, wp_seq, wp_skip, wp_brk, wp_cnt, wp_retN, wp_ret, wp_set, wp_par, wp_unp, wp_sto, wp_xpr, wp_ite, wp_for, wp_whl, wp_tru, sk_rt, sk_bk, sk_ct, lk_nx, lk_ct, lk_bk, lk_rt, ik_true, ik_false, ev, evs, evo, evi, evc, evd, keyK_str, keyK_int, retK_rt, retK_nx, iteK_true, iteK_false, truK0_bl, truK0_int, truK0_tup, truK0_frl, truK0_non, scK_bl, wp_callK, cmpO, cmp_eq, cmp_ne, cmp_lt, cmp_le, cmp_gt, cmp_ge, cmp_isN, cmp_notN, eqD_int, eqD_str, bin_int, binI_add, binI_sub, of_some, negK_int, setK_nm, setK_tp, setsK, asg, asgs, tgsOf, intK, rngK, srcK, subO, startE, newR, new, bi_int, bi_abs, bi_len_tup, bi_len_frl,  Option.map_some, Option.map_none, Option.bind_some, List.map_cons, List.map_nil, List.length_cons, List.length_nil, List.length_append, List.length_map, List.length_set, List.cons_append, List.nil_append, List.getElem?_cons_zero, List.getElem?_cons_succ, List.set_cons_zero, List.set_cons_succ, if_true, if_false, Bool.false_eq_true, Bool.true_eq_false, Bool.not_true, Bool.not_false, decide_true, decide_false, Nat.reduceEqDiff, Nat.zero_lt_succ, List.replicate_succ, List.replicate_zero, Nat.reduceSub, Nat.reduceAdd, Nat.reduceLT, Nat.reduceLeDiff, Nat.zero_le, id, lstK_ok, tupK_ok, er, lrgK_nat (show w + 1 < 1000000 by omega), revW_lst getLast]
    obtain ⟨st2, hs2⟩ : ∃ x : Sto, x = st1 ++ [Ob.lst (rngW 0 ((w + 1 : Nat) : Int))] := ⟨_, rfl⟩
    have l2 : st1.length + 1 = st2.length := by rw [hs2]; simp
    have e2 : Ext st1 st2 := by rw [hs2]; exact Ext.new
    simp only [← hs2, l2]
    try simp -implicitDefEqProofs only [wp_ok, wp_bind, wp_noexc, wp_seq, wp_skip, wp_brk, wp_cnt, wp_retN, wp_ret, wp_set, wp_par, wp_unp, wp_sto, wp_xpr, wp_ite, wp_for, wp_whl, wp_tru, sk_rt, sk_bk, sk_ct, lk_nx, lk_ct, lk_bk, lk_rt, ik_true, ik_false, ev, evs, evo, evi, evc, evd, keyK_str, keyK_int, retK_rt, retK_nx, iteK_true, iteK_false, truK0_bl, truK0_int, truK0_tup, truK0_frl, truK0_non, scK_bl, wp_callK, cmpO, cmp_eq, cmp_ne, cmp_lt, cmp_le, cmp_gt, cmp_ge, cmp_isN, cmp_notN, eqD_int, eqD_str, bin_int, binI_add, binI_sub, of_some, negK_int, setK_nm, setK_tp, setsK, asg, asgs, tgsOf, intK, rngK, srcK, subO, startE, newR, new, bi_int, bi_abs, bi_len_tup, bi_len_frl,  Option.map_some, Option.map_none, Option.bind_some, List.map_cons, List.map_nil, List.length_cons, List.length_nil, List.length_append, List.length_map, List.length_set, List.cons_append, List.nil_append, List.getElem?_cons_zero, List.getElem?_cons_succ, List.set_cons_zero, List.set_cons_succ, if_true, if_false, Bool.false_eq_true, Bool.true_eq_false, Bool.not_true, Bool.not_false, decide_true, decide_false, Nat.reduceEqDiff, Nat.zero_lt_succ, List.replicate_succ, List.replicate_zero, Nat.reduceSub, Nat.reduceAdd, Nat.reduceLT, Nat.reduceLeDiff, Nat.zero_le, id, lstK_ok, tupK_ok, srcOf_lst getLast]
    have g2 : (st2 ++ [Ob.lst (rngW 0 ((w + 1 : Nat) : Int)).reverse])[st.length]? = some (.lst ((ps b w).map .int)) := getNew (e2.2 _ _ g)
    have ln : (rngW 0 ((w + 1 : Nat) : Int)).reverse.length = w + 1 := by rw [List.length_reverse, rngW_len]
    generalize hs3 : st2 ++ [Ob.lst (rngW 0 ((w + 1 : Nat) : Int)).reverse] = st3 at *
    have g3 : st3[st2.length]? = some (.lst (rngW 0 ((w + 1 : Nat) : Int)).reverse) := by rw [← hs3]; exact getLast
    have e3 : Ext st st3 := he.trans (e2.trans (by rw [← hs3]; exact Ext.new))
    refine wp_forL (rngW 0 ((w + 1 : Nat) : Int)).reverse (fun k en st' => st' = st3 ∧ k ≤ w + 1 ∧ ∃ (rest found : Int) (u y : Option W), en = [some (.int a), some (.int b), some (.int (w : Int)), some (.ref st.length), some (.int found), u, some (.int rest), y] ∧ rest + found * b = a ∧ 0 ≤ rest ∧ rest < b * 2 ^ (w + 1 - k)) ?_ ?_ ?_ FU 0 _ _ (Nat.zero_le _) (by rw [ln]; unfold FU; omega) ⟨rfl, by omega, a, 0, u, none, rfl, by omega, a0, ?_⟩
    · rintro k en st' ⟨rfl, _⟩
      exact get_live g3
    · rintro k w' en st' hw' ⟨rfl, hk, rest, found, u, y, rfl, r1, r2, r3⟩
      have hkw : k ≤ w := by have := (List.getElem?_eq_some_iff.mp hw').1; rw [ln] at this; omega
      rw [rev_get hkw] at hw'
      cases hw'
      refine ⟨_, rfl, ?_⟩
      obtain ⟨i, hi⟩ : ∃ i, i = w - k := ⟨_, rfl⟩
      rw [← hi]
      rw [show w + 1 - k = i + 1 by omega, p2s] at r3
      have e1 : sub st' (.ref st.length) (.int (i : Int)) = some (.int (b * 2 ^ i)) := by rw [sub_lst g2, atW_nat, ps_get (by omega)]
      have r3' : rest < b * 2 ^ i + b * 2 ^ i := by
        have : b * (2 * 2 ^ i) = b * 2 ^ i + b * 2 ^ i := by rw [← Int.mul_add]; congr 1; omega
        omega
      by_cases c : b * 2 ^ i ≤ rest
      · try simp -implicitDefEqProofs only [wp_ok, wp_bind, wp_noexc, wp_seq, wp_skip, wp_brk, wp_cnt, wp_retN, wp_ret, wp_set, wp_par, wp_unp, wp_sto, wp_xpr, wp_ite, wp_for, wp_whl, wp_tru, sk_rt, sk_bk, sk_ct, lk_nx, lk_ct, lk_bk, lk_rt, ik_true, ik_false, ev, evs, evo, evi, evc, evd, keyK_str, keyK_int, retK_rt, retK_nx, iteK_true, iteK_false, truK0_bl, truK0_int, truK0_tup, truK0_frl, truK0_non, scK_bl, wp_callK, cmpO, cmp_eq, cmp_ne, cmp_lt, cmp_le, cmp_gt, cmp_ge, cmp_isN, cmp_notN, eqD_int, eqD_str, bin_int, binI_add, binI_sub, of_some, negK_int, setK_nm, setK_tp, setsK, asg, asgs, tgsOf, intK, rngK, srcK, subO, startE, newR, new, bi_int, bi_abs, bi_len_tup, bi_len_frl,  Option.map_some, Option.map_none, Option.bind_some, List.map_cons, List.map_nil, List.length_cons, List.length_nil, List.length_append, List.length_map, List.length_set, List.cons_append, List.nil_append, List.getElem?_cons_zero, List.getElem?_cons_succ, List.set_cons_zero, List.set_cons_succ, if_true, if_false, Bool.false_eq_true, Bool.true_eq_false, Bool.not_true, Bool.not_false, decide_true, decide_false, Nat.reduceEqDiff, Nat.zero_lt_succ, List.replicate_succ, List.replicate_zero, Nat.reduceSub, Nat.reduceAdd, Nat.reduceLT, Nat.reduceLeDiff, Nat.zero_le, id, lstK_ok, tupK_ok, e1, decide_eq_true c]
        refine (power_ok (n := n) (show i ≤ 64 by omega)).mono ?_
        rintro r st4 ⟨rfl, rfl⟩
        try simp -implicitDefEqProofs only [wp_ok, wp_bind, wp_noexc, wp_seq, wp_skip, wp_brk, wp_cnt, wp_retN, wp_ret, wp_set, wp_par, wp_unp, wp_sto, wp_xpr, wp_ite, wp_for, wp_whl, wp_tru, sk_rt, sk_bk, sk_ct, lk_nx, lk_ct, lk_bk, lk_rt, ik_true, ik_false, ev, evs, evo, evi, evc, evd, keyK_str, keyK_int, retK_rt, retK_nx, iteK_true, iteK_false, truK0_bl, truK0_int, truK0_tup, truK0_frl, truK0_non, scK_bl, wp_callK, cmpO, cmp_eq, cmp_ne, cmp_lt, cmp_le, cmp_gt, cmp_ge, cmp_isN, cmp_notN, eqD_int, eqD_str, bin_int, binI_add, binI_sub, of_some, negK_int, setK_nm, setK_tp, setsK, asg, asgs, tgsOf, intK, rngK, srcK, subO, startE, newR, new, bi_int, bi_abs, bi_len_tup, bi_len_frl,  Option.map_some, Option.map_none, Option.bind_some, List.map_cons, List.map_nil, List.length_cons, List.length_nil, List.length_append, List.length_map, List.length_set, List.cons_append, List.nil_append, List.getElem?_cons_zero, List.getElem?_cons_succ, List.set_cons_zero, List.set_cons_succ, if_true, if_false, Bool.false_eq_true, Bool.true_eq_false, Bool.not_true, Bool.not_false, decide_true, decide_false, Nat.reduceEqDiff, Nat.zero_lt_succ, List.replicate_succ, List.replicate_zero, Nat.reduceSub, Nat.reduceAdd, Nat.reduceLT, Nat.reduceLeDiff, Nat.zero_le, id, lstK_ok, tupK_ok]
        refine ⟨by trivial, by omega, _, _, _, _, rfl, ?_, by omega, ?_⟩
        · rw [Int.add_mul, Int.mul_comm (2 ^ i) b]; omega
        · rw [show w + 1 - (k + 1) = i by omega]; omega
      · try simp -implicitDefEqProofs only [wp_ok, wp_bind, wp_noexc, wp_seq, wp_skip, wp_brk, wp_cnt, wp_retN, wp_ret, wp_set, wp_par, wp_unp, wp_sto, wp_xpr, wp_ite, wp_for, wp_whl, wp_tru, sk_rt, sk_bk, sk_ct, lk_nx, lk_ct, lk_bk, lk_rt, ik_true, ik_false, ev, evs, evo, evi, evc, evd, keyK_str, keyK_int, retK_rt, retK_nx, iteK_true, iteK_false, truK0_bl, truK0_int, truK0_tup, truK0_frl, truK0_non, scK_bl, wp_callK, cmpO, cmp_eq, cmp_ne, cmp_lt, cmp_le, cmp_gt, cmp_ge, cmp_isN, cmp_notN, eqD_int, eqD_str, bin_int, binI_add, binI_sub, of_some, negK_int, setK_nm, setK_tp, setsK, asg, asgs, tgsOf, intK, rngK, srcK, subO, startE, newR, new, bi_int, bi_abs, bi_len_tup, bi_len_frl,  Option.map_some, Option.map_none, Option.bind_some, List.map_cons, List.map_nil, List.length_cons, List.length_nil, List.length_append, List.length_map, List.length_set, List.cons_append, List.nil_append, List.getElem?_cons_zero, List.getElem?_cons_succ, List.set_cons_zero, List.set_cons_succ, if_true, if_false, Bool.false_eq_true, Bool.true_eq_false, Bool.not_true, Bool.not_false, decide_true, decide_false, Nat.reduceEqDiff, Nat.zero_lt_succ, List.replicate_succ, List.replicate_zero, Nat.reduceSub, Nat.reduceAdd, Nat.reduceLT, Nat.reduceLeDiff, Nat.zero_le, id, lstK_ok, tupK_ok, e1, decide_eq_false c]
        refine ⟨by trivial, by omega, _, _, _, _, rfl, r1, r2, ?_⟩
        rw [show w + 1 - (k + 1) = i by omega]; omega
    · rintro en st' ⟨rfl, hk, rest, found, u, y, rfl, r1, r2, r3⟩
      rw [ln] at r3 hk
      rw [Nat.sub_self] at r3
      try simp -implicitDefEqProofs only [wp_ok, wp_bind, wp_noexc, wp_seq, wp_skip, wp_brk, wp_cnt, wp_retN, wp_ret, wp_set, wp_par, wp_unp, wp_sto, wp_xpr, wp_ite, wp_for, wp_whl, wp_tru, sk_nx, sk_rt, sk_bk, sk_ct, lk_nx, lk_ct, lk_bk, lk_rt, ik_true, ik_false, ev, evs, evo, evi, evc, evd, keyK_str, keyK_int, retK_rt, retK_nx, iteK_true, iteK_false, truK0_bl, truK0_int, truK0_tup, truK0_frl, truK0_non, scK_bl, wp_callK, cmpO, cmp_eq, cmp_ne, cmp_lt, cmp_le, cmp_gt, cmp_ge, cmp_isN, cmp_notN, eqD_int, eqD_str, bin_int, binI_add, binI_sub, of_some, negK_int, setK_nm, setK_tp, setsK, asg, asgs, tgsOf, intK, rngK, srcK, subO, startE, newR, new, bi_int, bi_abs, bi_len_tup, bi_len_frl,  Option.map_some, Option.map_none, Option.bind_some, List.map_cons, List.map_nil, List.length_cons, List.length_nil, List.length_append, List.length_map, List.length_set, List.cons_append, List.nil_append, List.getElem?_cons_zero, List.getElem?_cons_succ, List.set_cons_zero, List.set_cons_succ, if_true, if_false, Bool.false_eq_true, Bool.true_eq_false, Bool.not_true, Bool.not_false, decide_true, decide_false, Nat.reduceEqDiff, Nat.zero_lt_succ, List.replicate_succ, List.replicate_zero, Nat.reduceSub, Nat.reduceAdd, Nat.reduceLT, Nat.reduceLeDiff, Nat.zero_le, id, lstK_ok, tupK_ok]
      refine ⟨?_, e3⟩
      have : a / b = found := by
        rw [← r1, Int.add_mul_ediv_right _ _ (by omega), Int.ediv_eq_zero_of_lt r2 (by simpa using r3)]
        omega
      rw [this]
    · rw [Nat.sub_zero]
      have := Int.mul_le_mul_of_nonneg_right (show (1 : Int) ≤ b by omega) (Int.le_of_lt (p2 (w + 1)))
      omega
end
end K01
/-! K01c: the operations told. -/
namespace K01
open PySem Ci Law K02

theorem mulS1 {a b : Int} (h : -(2 ^ 64) < a ∧ a < 2 ^ 64) : binI .mul a b = some (a * b) := by
  rw [binI_mul, if_pos]
  rw [show small64 a = true from decide_eq_true h]
  rfl
theorem sgn_ne {b : Int} {v : Nat} (h0 : 0 ≤ b) (h1 : b < 2 ^ (v + 1)) (h : b ≠ 0) : sgn b (v + 1) ≠ 0 := by
  unfold sgn
  split <;> omega
theorem sgn_ab {b : Int} {v : Nat} (hv : v < 64) (h0 : 0 ≤ b) (h1 : b < 2 ^ (v + 1)) : ab (sgn b (v + 1)) ≤ 2 ^ v ∧ ab (sgn b (v + 1)) ≤ 2 ^ 64 := by
  have := sgn_bd h0 h1
  have h2 : (2 : Int) ^ v ≤ 2 ^ 64 := p2_le (by omega)
  have h3 : ab (sgn b (v + 1)) ≤ 2 ^ v := ab_le (by omega) (by omega)
  omega
section
variable {n v : Nat} {st : Sto} {a b : Int}

def v_add (v : Nat) (a b : Int) : W := .int ((a + b) % 2 ^ (v + 1))
def v_sub (v : Nat) (a b : Int) : W := .int ((a - b) % 2 ^ (v + 1))
def v_mul (v : Nat) (a b : Int) : W := .int ((a * b) % 2 ^ (v + 1))
def v_udiv (v : Nat) (a b : Int) : W := if b = 0 then .non else .int (a / b)
def v_sdiv (v : Nat) (a b : Int) : W := if b = 0 then .non else .int (qt (sgn a (v + 1)) (sgn b (v + 1)) % 2 ^ (v + 1))
def v_urem (v : Nat) (a b : Int) : W := if b = 0 then .non else .int (a % b)
def v_srem (v : Nat) (a b : Int) : W := if b = 0 then .non else .int ((sgn a (v + 1) - sgn b (v + 1) * qt (sgn a (v + 1)) (sgn b (v + 1))) % 2 ^ (v + 1))
def v_and (v : Nat) (a b : Int) : W := .int (Builtin.bitAnd a b)
def v_or (v : Nat) (a b : Int) : W := .int (Builtin.bitOr a b)
def v_xor (v : Nat) (a b : Int) : W := .int (Builtin.bitXor a b)
def v_shl (v : Nat) (a b : Int) : W := .int ((a * 2 ^ (b % ((v + 1 : Nat) : Int)).toNat) % 2 ^ (v + 1))
def v_lshr (v : Nat) (a b : Int) : W := .int (a / 2 ^ (b % ((v + 1 : Nat) : Int)).toNat)
def v_ashr (v : Nat) (a b : Int) : W := .int (sgn a (v + 1) / 2 ^ (b % ((v + 1 : Nat) : Int)).toNat % 2 ^ (v + 1))
structure Ab (v : Nat) (a b : Int) : Prop where
  hv : v < 64
  a0 : 0 ≤ a
  a1 : a < 2 ^ (v + 1)
  b0 : 0 ≤ b
  b1 : b < 2 ^ (v + 1)
theorem p64 (hv : v < 64) : (2 : Int) ^ (v + 1) ≤ 2 ^ 64 := p2_le (by omega)
theorem by_ok (hv : v < 64) : ∃ k : Nat, b % ((v + 1 : Nat) : Int) = (k : Int) ∧ k < v + 1 := by
  have h1 := Int.emod_nonneg b (by omega : ((v + 1 : Nat) : Int) ≠ 0)
  have h2 := Int.emod_lt_of_pos b (by omega : (0 : Int) < ((v + 1 : Nat) : Int))
  exact ⟨(b % ((v + 1 : Nat) : Int)).toNat, by omega, by omega⟩
theorem shl_k {k : Nat} (h0 : 0 ≤ a) (h1 : a < 2 ^ 64) (hk : k ≤ 1000) : binI .shl a (k : Int) = some (a * 2 ^ k) := by
  rw [binI_shl, if_pos, Int.toNat_natCast]
  exact decide_eq_true ⟨by omega, by omega, by omega⟩
theorem shr_k {k : Nat} : binI .shr a (k : Int) = some (a / 2 ^ k) := by
  rw [binI_shr, if_pos (decide_eq_true (by omega)), Int.toNat_natCast]
theorem div_udiv (h : Ab v a b) : Wp (Ci.run tab (n + 2) 8 [.str "udiv", .int ((v + 1 : Nat) : Int), .int a, .int b] st) fun w st' => w = v_udiv v a b ∧ st' = st := by
  refine wp_run (d := d8) rfl rfl ?_
  show Wp (ex _ c8 _ _) _
  unfold c8 v_udiv
  have e1 : (("udiv" : Str) == "udiv") = true := by decide +kernel
  have e2 : (("udiv" : Str) == "urem") = false := by decide +kernel
  have e3 : (("udiv" : Str) == "sdiv") = false := by decide +kernel
  have hp := p64 h.hv
  by_cases z : b = 0
  · subst z
    try simp -implicitDefEqProofs only [wp_ok, wp_bind, wp_noexc, wp_seq, wp_skip, wp_brk, wp_cnt, wp_retN, wp_ret, wp_set, wp_par, wp_unp, wp_sto, wp_xpr, wp_ite, wp_for, wp_whl, wp_tru, sk_nx, sk_rt, sk_bk, sk_ct, lk_nx, lk_ct, lk_bk, lk_rt, ik_true, ik_false, ev, evs, evo, evi, evc, evd, keyK_str, keyK_int, retK_rt, retK_nx, iteK_true, iteK_false, truK0_bl, truK0_int, truK0_tup, truK0_frl, truK0_non, scK_bl, wp_callK, cmpO, cmp_eq, cmp_ne, cmp_lt, cmp_le, cmp_gt, cmp_ge, cmp_isN, cmp_notN, eqD_int, eqD_str, bin_int, binI_add, binI_sub, of_some, negK_int, setK_nm, setK_tp, setsK, asg, asgs, tgsOf, intK, rngK, srcK, subO, startE, newR, new, bi_int, bi_abs, bi_len_tup, bi_len_frl,  Option.map_some, Option.map_none, Option.bind_some, List.map_cons, List.map_nil, List.length_cons, List.length_nil, List.length_append, List.length_map, List.length_set, List.cons_append, List.nil_append, List.getElem?_cons_zero, List.getElem?_cons_succ, List.set_cons_zero, List.set_cons_succ, if_true, if_false, Bool.false_eq_true, Bool.true_eq_false, Bool.not_true, Bool.not_false, decide_true, decide_false, Nat.reduceEqDiff, Nat.zero_lt_succ, List.replicate_succ, List.replicate_zero, Nat.reduceSub, Nat.reduceAdd, Nat.reduceLT, Nat.reduceLeDiff, Nat.zero_le, id, lstK_ok, tupK_ok, d8, beq_self_eq_true]
    exact ⟨by first | rfl | trivial, by first | rfl | trivial⟩
  · have hb : 0 < b := by have := h.b0; omega
    have hd := divOk_64 hb (by have := h.b1; omega)
    have hf : binI .fdiv a b = some (a / b) := by rw [binI_fdiv, if_pos hd]
    try simp -implicitDefEqProofs only [wp_ok, wp_bind, wp_noexc, wp_seq, wp_skip, wp_brk, wp_cnt, wp_retN, wp_ret, wp_set, wp_par, wp_unp, wp_sto, wp_xpr, wp_ite, wp_for, wp_whl, wp_tru, sk_nx, sk_rt, sk_bk, sk_ct, lk_nx, lk_ct, lk_bk, lk_rt, ik_true, ik_false, ev, evs, evo, evi, evc, evd, keyK_str, keyK_int, retK_rt, retK_nx, iteK_true, iteK_false, truK0_bl, truK0_int, truK0_tup, truK0_frl, truK0_non, scK_bl, wp_callK, cmpO, cmp_eq, cmp_ne, cmp_lt, cmp_le, cmp_gt, cmp_ge, cmp_isN, cmp_notN, eqD_int, eqD_str, bin_int, binI_add, binI_sub, of_some, negK_int, setK_nm, setK_tp, setsK, asg, asgs, tgsOf, intK, rngK, srcK, subO, startE, newR, new, bi_int, bi_abs, bi_len_tup, bi_len_frl,  Option.map_some, Option.map_none, Option.bind_some, List.map_cons, List.map_nil, List.length_cons, List.length_nil, List.length_append, List.length_map, List.length_set, List.cons_append, List.nil_append, List.getElem?_cons_zero, List.getElem?_cons_succ, List.set_cons_zero, List.set_cons_succ, if_true, if_false, Bool.false_eq_true, Bool.true_eq_false, Bool.not_true, Bool.not_false, decide_true, decide_false, Nat.reduceEqDiff, Nat.zero_lt_succ, List.replicate_succ, List.replicate_zero, Nat.reduceSub, Nat.reduceAdd, Nat.reduceLT, Nat.reduceLeDiff, Nat.zero_le, id, lstK_ok, tupK_ok, d8, beq_eq_false_iff_ne.mpr z, if_neg z, e1, e2, e3, hf, binI_mod_pos hb]
    exact ⟨by first | rfl | trivial, by first | rfl | trivial⟩

theorem div_urem (h : Ab v a b) : Wp (Ci.run tab (n + 2) 8 [.str "urem", .int ((v + 1 : Nat) : Int), .int a, .int b] st) fun w st' => w = v_urem v a b ∧ st' = st := by
  refine wp_run (d := d8) rfl rfl ?_
  show Wp (ex _ c8 _ _) _
  unfold c8 v_urem
  have e1 : (("urem" : Str) == "udiv") = false := by decide +kernel
  have e2 : (("urem" : Str) == "urem") = true := by decide +kernel
  have e3 : (("urem" : Str) == "sdiv") = false := by decide +kernel
  have hp := p64 h.hv
  by_cases z : b = 0
  · subst z
    try simp -implicitDefEqProofs only [wp_ok, wp_bind, wp_noexc, wp_seq, wp_skip, wp_brk, wp_cnt, wp_retN, wp_ret, wp_set, wp_par, wp_unp, wp_sto, wp_xpr, wp_ite, wp_for, wp_whl, wp_tru, sk_nx, sk_rt, sk_bk, sk_ct, lk_nx, lk_ct, lk_bk, lk_rt, ik_true, ik_false, ev, evs, evo, evi, evc, evd, keyK_str, keyK_int, retK_rt, retK_nx, iteK_true, iteK_false, truK0_bl, truK0_int, truK0_tup, truK0_frl, truK0_non, scK_bl, wp_callK, cmpO, cmp_eq, cmp_ne, cmp_lt, cmp_le, cmp_gt, cmp_ge, cmp_isN, cmp_notN, eqD_int, eqD_str, bin_int, binI_add, binI_sub, of_some, negK_int, setK_nm, setK_tp, setsK, asg, asgs, tgsOf, intK, rngK, srcK, subO, startE, newR, new, bi_int, bi_abs, bi_len_tup, bi_len_frl,  Option.map_some, Option.map_none, Option.bind_some, List.map_cons, List.map_nil, List.length_cons, List.length_nil, List.length_append, List.length_map, List.length_set, List.cons_append, List.nil_append, List.getElem?_cons_zero, List.getElem?_cons_succ, List.set_cons_zero, List.set_cons_succ, if_true, if_false, Bool.false_eq_true, Bool.true_eq_false, Bool.not_true, Bool.not_false, decide_true, decide_false, Nat.reduceEqDiff, Nat.zero_lt_succ, List.replicate_succ, List.replicate_zero, Nat.reduceSub, Nat.reduceAdd, Nat.reduceLT, Nat.reduceLeDiff, Nat.zero_le, id, lstK_ok, tupK_ok, d8, beq_self_eq_true]
    exact ⟨by first | rfl | trivial, by first | rfl | trivial⟩
  · have hb : 0 < b := by have := h.b0; omega
    have hd := divOk_64 hb (by have := h.b1; omega)
    have hf : binI .fdiv a b = some (a / b) := by rw [binI_fdiv, if_pos hd]
    try simp -implicitDefEqProofs only [wp_ok, wp_bind, wp_noexc, wp_seq, wp_skip, wp_brk, wp_cnt, wp_retN, wp_ret, wp_set, wp_par, wp_unp, wp_sto, wp_xpr, wp_ite, wp_for, wp_whl, wp_tru, sk_nx, sk_rt, sk_bk, sk_ct, lk_nx, lk_ct, lk_bk, lk_rt, ik_true, ik_false, ev, evs, evo, evi, evc, evd, keyK_str, keyK_int, retK_rt, retK_nx, iteK_true, iteK_false, truK0_bl, truK0_int, truK0_tup, truK0_frl, truK0_non, scK_bl, wp_callK, cmpO, cmp_eq, cmp_ne, cmp_lt, cmp_le, cmp_gt, cmp_ge, cmp_isN, cmp_notN, eqD_int, eqD_str, bin_int, binI_add, binI_sub, of_some, negK_int, setK_nm, setK_tp, setsK, asg, asgs, tgsOf, intK, rngK, srcK, subO, startE, newR, new, bi_int, bi_abs, bi_len_tup, bi_len_frl,  Option.map_some, Option.map_none, Option.bind_some, List.map_cons, List.map_nil, List.length_cons, List.length_nil, List.length_append, List.length_map, List.length_set, List.cons_append, List.nil_append, List.getElem?_cons_zero, List.getElem?_cons_succ, List.set_cons_zero, List.set_cons_succ, if_true, if_false, Bool.false_eq_true, Bool.true_eq_false, Bool.not_true, Bool.not_false, decide_true, decide_false, Nat.reduceEqDiff, Nat.zero_lt_succ, List.replicate_succ, List.replicate_zero, Nat.reduceSub, Nat.reduceAdd, Nat.reduceLT, Nat.reduceLeDiff, Nat.zero_le, id, lstK_ok, tupK_ok, d8, beq_eq_false_iff_ne.mpr z, if_neg z, e1, e2, e3, hf, binI_mod_pos hb]
    exact ⟨by first | rfl | trivial, by first | rfl | trivial⟩

theorem div_sdiv (h : Ab v a b) : Wp (Ci.run tab (n + 2) 8 [.str "sdiv", .int ((v + 1 : Nat) : Int), .int a, .int b] st) fun w st' => w = v_sdiv v a b ∧ st' = st := by
  refine wp_run (d := d8) rfl rfl ?_
  show Wp (ex _ c8 _ _) _
  unfold c8 v_sdiv
  have e1 : (("sdiv" : Str) == "udiv") = false := by decide +kernel
  have e2 : (("sdiv" : Str) == "urem") = false := by decide +kernel
  have e3 : (("sdiv" : Str) == "sdiv") = true := by decide +kernel
  have hp := p64 h.hv
  by_cases z : b = 0
  · subst z
    try simp -implicitDefEqProofs only [wp_ok, wp_bind, wp_noexc, wp_seq, wp_skip, wp_brk, wp_cnt, wp_retN, wp_ret, wp_set, wp_par, wp_unp, wp_sto, wp_xpr, wp_ite, wp_for, wp_whl, wp_tru, sk_nx, sk_rt, sk_bk, sk_ct, lk_nx, lk_ct, lk_bk, lk_rt, ik_true, ik_false, ev, evs, evo, evi, evc, evd, keyK_str, keyK_int, retK_rt, retK_nx, iteK_true, iteK_false, truK0_bl, truK0_int, truK0_tup, truK0_frl, truK0_non, scK_bl, wp_callK, cmpO, cmp_eq, cmp_ne, cmp_lt, cmp_le, cmp_gt, cmp_ge, cmp_isN, cmp_notN, eqD_int, eqD_str, bin_int, binI_add, binI_sub, of_some, negK_int, setK_nm, setK_tp, setsK, asg, asgs, tgsOf, intK, rngK, srcK, subO, startE, newR, new, bi_int, bi_abs, bi_len_tup, bi_len_frl,  Option.map_some, Option.map_none, Option.bind_some, List.map_cons, List.map_nil, List.length_cons, List.length_nil, List.length_append, List.length_map, List.length_set, List.cons_append, List.nil_append, List.getElem?_cons_zero, List.getElem?_cons_succ, List.set_cons_zero, List.set_cons_succ, if_true, if_false, Bool.false_eq_true, Bool.true_eq_false, Bool.not_true, Bool.not_false, decide_true, decide_false, Nat.reduceEqDiff, Nat.zero_lt_succ, List.replicate_succ, List.replicate_zero, Nat.reduceSub, Nat.reduceAdd, Nat.reduceLT, Nat.reduceLeDiff, Nat.zero_le, id, lstK_ok, tupK_ok, d8, beq_self_eq_true]
    exact ⟨by first | rfl | trivial, by first | rfl | trivial⟩
  · have hb : 0 < b := by have := h.b0; omega
    have hd := divOk_64 hb (by have := h.b1; omega)
    have hf : binI .fdiv a b = some (a / b) := by rw [binI_fdiv, if_pos hd]
    try simp -implicitDefEqProofs only [wp_ok, wp_bind, wp_noexc, wp_seq, wp_skip, wp_brk, wp_cnt, wp_retN, wp_ret, wp_set, wp_par, wp_unp, wp_sto, wp_xpr, wp_ite, wp_for, wp_whl, wp_tru, sk_nx, sk_rt, sk_bk, sk_ct, lk_nx, lk_ct, lk_bk, lk_rt, ik_true, ik_false, ev, evs, evo, evi, evc, evd, keyK_str, keyK_int, retK_rt, retK_nx, iteK_true, iteK_false, truK0_bl, truK0_int, truK0_tup, truK0_frl, truK0_non, scK_bl, wp_callK, cmpO, cmp_eq, cmp_ne, cmp_lt, cmp_le, cmp_gt, cmp_ge, cmp_isN, cmp_notN, eqD_int, eqD_str, bin_int, binI_add, binI_sub, of_some, negK_int, setK_nm, setK_tp, setsK, asg, asgs, tgsOf, intK, rngK, srcK, subO, startE, newR, new, bi_int, bi_abs, bi_len_tup, bi_len_frl,  Option.map_some, Option.map_none, Option.bind_some, List.map_cons, List.map_nil, List.length_cons, List.length_nil, List.length_append, List.length_map, List.length_set, List.cons_append, List.nil_append, List.getElem?_cons_zero, List.getElem?_cons_succ, List.set_cons_zero, List.set_cons_succ, if_true, if_false, Bool.false_eq_true, Bool.true_eq_false, Bool.not_true, Bool.not_false, decide_true, decide_false, Nat.reduceEqDiff, Nat.zero_lt_succ, List.replicate_succ, List.replicate_zero, Nat.reduceSub, Nat.reduceAdd, Nat.reduceLT, Nat.reduceLeDiff, Nat.zero_le, id, lstK_ok, tupK_ok, d8, beq_eq_false_iff_ne.mpr z, if_neg z, e1, e2, e3, hf, binI_mod_pos hb]
    refine (signed_ok h.hv).mono ?_
    rintro w st1 ⟨rfl, rfl⟩
    try simp -implicitDefEqProofs only [wp_ok, wp_bind, wp_noexc, wp_seq, wp_skip, wp_brk, wp_cnt, wp_retN, wp_ret, wp_set, wp_par, wp_unp, wp_sto, wp_xpr, wp_ite, wp_for, wp_whl, wp_tru, sk_nx, sk_rt, sk_bk, sk_ct, lk_nx, lk_ct, lk_bk, lk_rt, ik_true, ik_false, ev, evs, evo, evi, evc, evd, keyK_str, keyK_int, retK_rt, retK_nx, iteK_true, iteK_false, truK0_bl, truK0_int, truK0_tup, truK0_frl, truK0_non, scK_bl, wp_callK, cmpO, cmp_eq, cmp_ne, cmp_lt, cmp_le, cmp_gt, cmp_ge, cmp_isN, cmp_notN, eqD_int, eqD_str, bin_int, binI_add, binI_sub, of_some, negK_int, setK_nm, setK_tp, setsK, asg, asgs, tgsOf, intK, rngK, srcK, subO, startE, newR, new, bi_int, bi_abs, bi_len_tup, bi_len_frl,  Option.map_some, Option.map_none, Option.bind_some, List.map_cons, List.map_nil, List.length_cons, List.length_nil, List.length_append, List.length_map, List.length_set, List.cons_append, List.nil_append, List.getElem?_cons_zero, List.getElem?_cons_succ, List.set_cons_zero, List.set_cons_succ, if_true, if_false, Bool.false_eq_true, Bool.true_eq_false, Bool.not_true, Bool.not_false, decide_true, decide_false, Nat.reduceEqDiff, Nat.zero_lt_succ, List.replicate_succ, List.replicate_zero, Nat.reduceSub, Nat.reduceAdd, Nat.reduceLT, Nat.reduceLeDiff, Nat.zero_le, id, lstK_ok, tupK_ok, e3]
    refine (signed_ok h.hv).mono ?_
    rintro w st1 ⟨rfl, rfl⟩
    try simp -implicitDefEqProofs only [wp_ok, wp_bind, wp_noexc, wp_seq, wp_skip, wp_brk, wp_cnt, wp_retN, wp_ret, wp_set, wp_par, wp_unp, wp_sto, wp_xpr, wp_ite, wp_for, wp_whl, wp_tru, sk_nx, sk_rt, sk_bk, sk_ct, lk_nx, lk_ct, lk_bk, lk_rt, ik_true, ik_false, ev, evs, evo, evi, evc, evd, keyK_str, keyK_int, retK_rt, retK_nx, iteK_true, iteK_false, truK0_bl, truK0_int, truK0_tup, truK0_frl, truK0_non, scK_bl, wp_callK, cmpO, cmp_eq, cmp_ne, cmp_lt, cmp_le, cmp_gt, cmp_ge, cmp_isN, cmp_notN, eqD_int, eqD_str, bin_int, binI_add, binI_sub, of_some, negK_int, setK_nm, setK_tp, setsK, asg, asgs, tgsOf, intK, rngK, srcK, subO, startE, newR, new, bi_int, bi_abs, bi_len_tup, bi_len_frl,  Option.map_some, Option.map_none, Option.bind_some, List.map_cons, List.map_nil, List.length_cons, List.length_nil, List.length_append, List.length_map, List.length_set, List.cons_append, List.nil_append, List.getElem?_cons_zero, List.getElem?_cons_succ, List.set_cons_zero, List.set_cons_succ, if_true, if_false, Bool.false_eq_true, Bool.true_eq_false, Bool.not_true, Bool.not_false, decide_true, decide_false, Nat.reduceEqDiff, Nat.zero_lt_succ, List.replicate_succ, List.replicate_zero, Nat.reduceSub, Nat.reduceAdd, Nat.reduceLT, Nat.reduceLeDiff, Nat.zero_le, id, lstK_ok, tupK_ok, e3]
    have hs := sgn_ab h.hv h.b0 h.b1
    have hbd := sgn_bd h.b0 h.b1
    have hv2 : (2 : Int) ^ v ≤ 2 ^ 63 := p2_le (by have := h.hv; omega)
    refine (quot_ok (sgn_ne h.b0 h.b1 z) hs.2).mono ?_
    rintro w st1 ⟨rfl, rfl⟩
    try simp -implicitDefEqProofs only [wp_ok, wp_bind, wp_noexc, wp_seq, wp_skip, wp_brk, wp_cnt, wp_retN, wp_ret, wp_set, wp_par, wp_unp, wp_sto, wp_xpr, wp_ite, wp_for, wp_whl, wp_tru, sk_nx, sk_rt, sk_bk, sk_ct, lk_nx, lk_ct, lk_bk, lk_rt, ik_true, ik_false, ev, evs, evo, evi, evc, evd, keyK_str, keyK_int, retK_rt, retK_nx, iteK_true, iteK_false, truK0_bl, truK0_int, truK0_tup, truK0_frl, truK0_non, scK_bl, wp_callK, cmpO, cmp_eq, cmp_ne, cmp_lt, cmp_le, cmp_gt, cmp_ge, cmp_isN, cmp_notN, eqD_int, eqD_str, bin_int, binI_add, binI_sub, of_some, negK_int, setK_nm, setK_tp, setsK, asg, asgs, tgsOf, intK, rngK, srcK, subO, startE, newR, new, bi_int, bi_abs, bi_len_tup, bi_len_frl,  Option.map_some, Option.map_none, Option.bind_some, List.map_cons, List.map_nil, List.length_cons, List.length_nil, List.length_append, List.length_map, List.length_set, List.cons_append, List.nil_append, List.getElem?_cons_zero, List.getElem?_cons_succ, List.set_cons_zero, List.set_cons_succ, if_true, if_false, Bool.false_eq_true, Bool.true_eq_false, Bool.not_true, Bool.not_false, decide_true, decide_false, Nat.reduceEqDiff, Nat.zero_lt_succ, List.replicate_succ, List.replicate_zero, Nat.reduceSub, Nat.reduceAdd, Nat.reduceLT, Nat.reduceLeDiff, Nat.zero_le, id, lstK_ok, tupK_ok, e3]
    exact wrapped_ok (by have := h.hv; omega)

theorem div_srem (h : Ab v a b) : Wp (Ci.run tab (n + 2) 8 [.str "srem", .int ((v + 1 : Nat) : Int), .int a, .int b] st) fun w st' => w = v_srem v a b ∧ st' = st := by
  refine wp_run (d := d8) rfl rfl ?_
  show Wp (ex _ c8 _ _) _
  unfold c8 v_srem
  have e1 : (("srem" : Str) == "udiv") = false := by decide +kernel
  have e2 : (("srem" : Str) == "urem") = false := by decide +kernel
  have e3 : (("srem" : Str) == "sdiv") = false := by decide +kernel
  have hp := p64 h.hv
  by_cases z : b = 0
  · subst z
    try simp -implicitDefEqProofs only [wp_ok, wp_bind, wp_noexc, wp_seq, wp_skip, wp_brk, wp_cnt, wp_retN, wp_ret, wp_set, wp_par, wp_unp, wp_sto, wp_xpr, wp_ite, wp_for, wp_whl, wp_tru, sk_nx, sk_rt, sk_bk, sk_ct, lk_nx, lk_ct, lk_bk, lk_rt, ik_true, ik_false, ev, evs, evo, evi, evc, evd, keyK_str, keyK_int, retK_rt, retK_nx, iteK_true, iteK_false, truK0_bl, truK0_int, truK0_tup, truK0_frl, truK0_non, scK_bl, wp_callK, cmpO, cmp_eq, cmp_ne, cmp_lt, cmp_le, cmp_gt, cmp_ge, cmp_isN, cmp_notN, eqD_int, eqD_str, bin_int, binI_add, binI_sub, of_some, negK_int, setK_nm, setK_tp, setsK, asg, asgs, tgsOf, intK, rngK, srcK, subO, startE, newR, new, bi_int, bi_abs, bi_len_tup, bi_len_frl,  Option.map_some, Option.map_none, Option.bind_some, List.map_cons, List.map_nil, List.length_cons, List.length_nil, List.length_append, List.length_map, List.length_set, List.cons_append, List.nil_append, List.getElem?_cons_zero, List.getElem?_cons_succ, List.set_cons_zero, List.set_cons_succ, if_true, if_false, Bool.false_eq_true, Bool.true_eq_false, Bool.not_true, Bool.not_false, decide_true, decide_false, Nat.reduceEqDiff, Nat.zero_lt_succ, List.replicate_succ, List.replicate_zero, Nat.reduceSub, Nat.reduceAdd, Nat.reduceLT, Nat.reduceLeDiff, Nat.zero_le, id, lstK_ok, tupK_ok, d8, beq_self_eq_true]
    exact ⟨by first | rfl | trivial, by first | rfl | trivial⟩
  · have hb : 0 < b := by have := h.b0; omega
    have hd := divOk_64 hb (by have := h.b1; omega)
    have hf : binI .fdiv a b = some (a / b) := by rw [binI_fdiv, if_pos hd]
    try simp -implicitDefEqProofs only [wp_ok, wp_bind, wp_noexc, wp_seq, wp_skip, wp_brk, wp_cnt, wp_retN, wp_ret, wp_set, wp_par, wp_unp, wp_sto, wp_xpr, wp_ite, wp_for, wp_whl, wp_tru, sk_nx, sk_rt, sk_bk, sk_ct, lk_nx, lk_ct, lk_bk, lk_rt, ik_true, ik_false, ev, evs, evo, evi, evc, evd, keyK_str, keyK_int, retK_rt, retK_nx, iteK_true, iteK_false, truK0_bl, truK0_int, truK0_tup, truK0_frl, truK0_non, scK_bl, wp_callK, cmpO, cmp_eq, cmp_ne, cmp_lt, cmp_le, cmp_gt, cmp_ge, cmp_isN, cmp_notN, eqD_int, eqD_str, bin_int, binI_add, binI_sub, of_some, negK_int, setK_nm, setK_tp, setsK, asg, asgs, tgsOf, intK, rngK, srcK, subO, startE, newR, new, bi_int, bi_abs, bi_len_tup, bi_len_frl,  Option.map_some, Option.map_none, Option.bind_some, List.map_cons, List.map_nil, List.length_cons, List.length_nil, List.length_append, List.length_map, List.length_set, List.cons_append, List.nil_append, List.getElem?_cons_zero, List.getElem?_cons_succ, List.set_cons_zero, List.set_cons_succ, if_true, if_false, Bool.false_eq_true, Bool.true_eq_false, Bool.not_true, Bool.not_false, decide_true, decide_false, Nat.reduceEqDiff, Nat.zero_lt_succ, List.replicate_succ, List.replicate_zero, Nat.reduceSub, Nat.reduceAdd, Nat.reduceLT, Nat.reduceLeDiff, Nat.zero_le, id, lstK_ok, tupK_ok, d8, beq_eq_false_iff_ne.mpr z, if_neg z, e1, e2, e3, hf, binI_mod_pos hb]
    refine (signed_ok h.hv).mono ?_
    rintro w st1 ⟨rfl, rfl⟩
    try simp -implicitDefEqProofs only [wp_ok, wp_bind, wp_noexc, wp_seq, wp_skip, wp_brk, wp_cnt, wp_retN, wp_ret, wp_set, wp_par, wp_unp, wp_sto, wp_xpr, wp_ite, wp_for, wp_whl, wp_tru, sk_nx, sk_rt, sk_bk, sk_ct, lk_nx, lk_ct, lk_bk, lk_rt, ik_true, ik_false, ev, evs, evo, evi, evc, evd, keyK_str, keyK_int, retK_rt, retK_nx, iteK_true, iteK_false, truK0_bl, truK0_int, truK0_tup, truK0_frl, truK0_non, scK_bl, wp_callK, cmpO, cmp_eq, cmp_ne, cmp_lt, cmp_le, cmp_gt, cmp_ge, cmp_isN, cmp_notN, eqD_int, eqD_str, bin_int, binI_add, binI_sub, of_some, negK_int, setK_nm, setK_tp, setsK, asg, asgs, tgsOf, intK, rngK, srcK, subO, startE, newR, new, bi_int, bi_abs, bi_len_tup, bi_len_frl,  Option.map_some, Option.map_none, Option.bind_some, List.map_cons, List.map_nil, List.length_cons, List.length_nil, List.length_append, List.length_map, List.length_set, List.cons_append, List.nil_append, List.getElem?_cons_zero, List.getElem?_cons_succ, List.set_cons_zero, List.set_cons_succ, if_true, if_false, Bool.false_eq_true, Bool.true_eq_false, Bool.not_true, Bool.not_false, decide_true, decide_false, Nat.reduceEqDiff, Nat.zero_lt_succ, List.replicate_succ, List.replicate_zero, Nat.reduceSub, Nat.reduceAdd, Nat.reduceLT, Nat.reduceLeDiff, Nat.zero_le, id, lstK_ok, tupK_ok, e3]
    refine (signed_ok h.hv).mono ?_
    rintro w st1 ⟨rfl, rfl⟩
    try simp -implicitDefEqProofs only [wp_ok, wp_bind, wp_noexc, wp_seq, wp_skip, wp_brk, wp_cnt, wp_retN, wp_ret, wp_set, wp_par, wp_unp, wp_sto, wp_xpr, wp_ite, wp_for, wp_whl, wp_tru, sk_nx, sk_rt, sk_bk, sk_ct, lk_nx, lk_ct, lk_bk, lk_rt, ik_true, ik_false, ev, evs, evo, evi, evc, evd, keyK_str, keyK_int, retK_rt, retK_nx, iteK_true, iteK_false, truK0_bl, truK0_int, truK0_tup, truK0_frl, truK0_non, scK_bl, wp_callK, cmpO, cmp_eq, cmp_ne, cmp_lt, cmp_le, cmp_gt, cmp_ge, cmp_isN, cmp_notN, eqD_int, eqD_str, bin_int, binI_add, binI_sub, of_some, negK_int, setK_nm, setK_tp, setsK, asg, asgs, tgsOf, intK, rngK, srcK, subO, startE, newR, new, bi_int, bi_abs, bi_len_tup, bi_len_frl,  Option.map_some, Option.map_none, Option.bind_some, List.map_cons, List.map_nil, List.length_cons, List.length_nil, List.length_append, List.length_map, List.length_set, List.cons_append, List.nil_append, List.getElem?_cons_zero, List.getElem?_cons_succ, List.set_cons_zero, List.set_cons_succ, if_true, if_false, Bool.false_eq_true, Bool.true_eq_false, Bool.not_true, Bool.not_false, decide_true, decide_false, Nat.reduceEqDiff, Nat.zero_lt_succ, List.replicate_succ, List.replicate_zero, Nat.reduceSub, Nat.reduceAdd, Nat.reduceLT, Nat.reduceLeDiff, Nat.zero_le, id, lstK_ok, tupK_ok, e3]
    have hs := sgn_ab h.hv h.b0 h.b1
    have hbd := sgn_bd h.b0 h.b1
    have hv2 : (2 : Int) ^ v ≤ 2 ^ 63 := p2_le (by have := h.hv; omega)
    refine (quot_ok (sgn_ne h.b0 h.b1 z) hs.2).mono ?_
    rintro w st1 ⟨rfl, rfl⟩
    have hm := mulS1 (a := sgn b (v + 1)) (b := qt (sgn a (v + 1)) (sgn b (v + 1))) (by omega)
    try simp -implicitDefEqProofs only [wp_ok, wp_bind, wp_noexc, wp_seq, wp_skip, wp_brk, wp_cnt, wp_retN, wp_ret, wp_set, wp_par, wp_unp, wp_sto, wp_xpr, wp_ite, wp_for, wp_whl, wp_tru, sk_nx, sk_rt, sk_bk, sk_ct, lk_nx, lk_ct, lk_bk, lk_rt, ik_true, ik_false, ev, evs, evo, evi, evc, evd, keyK_str, keyK_int, retK_rt, retK_nx, iteK_true, iteK_false, truK0_bl, truK0_int, truK0_tup, truK0_frl, truK0_non, scK_bl, wp_callK, cmpO, cmp_eq, cmp_ne, cmp_lt, cmp_le, cmp_gt, cmp_ge, cmp_isN, cmp_notN, eqD_int, eqD_str, bin_int, binI_add, binI_sub, of_some, negK_int, setK_nm, setK_tp, setsK, asg, asgs, tgsOf, intK, rngK, srcK, subO, startE, newR, new, bi_int, bi_abs, bi_len_tup, bi_len_frl,  Option.map_some, Option.map_none, Option.bind_some, List.map_cons, List.map_nil, List.length_cons, List.length_nil, List.length_append, List.length_map, List.length_set, List.cons_append, List.nil_append, List.getElem?_cons_zero, List.getElem?_cons_succ, List.set_cons_zero, List.set_cons_succ, if_true, if_false, Bool.false_eq_true, Bool.true_eq_false, Bool.not_true, Bool.not_false, decide_true, decide_false, Nat.reduceEqDiff, Nat.zero_lt_succ, List.replicate_succ, List.replicate_zero, Nat.reduceSub, Nat.reduceAdd, Nat.reduceLT, Nat.reduceLeDiff, Nat.zero_le, id, lstK_ok, tupK_ok, e3, hm]
    exact wrapped_ok (by have := h.hv; omega)

theorem shf_shl (h : Ab v a b) : Wp (Ci.run tab (n + 2) 9 [.str "shl", .int ((v + 1 : Nat) : Int), .int a, .int b] st) fun w st' => w = v_shl v a b ∧ st' = st := by
  refine wp_run (d := d9) rfl rfl ?_
  show Wp (ex _ c9 _ _) _
  unfold c9 v_shl
  have e1 : (("shl" : Str) == "shl") = true := by decide +kernel
  have e2 : (("shl" : Str) == "lshr") = false := by decide +kernel
  have hp := p64 h.hv
  obtain ⟨k, hk, hk2⟩ := by_ok (b := b) h.hv
  have hm : binI .mod b ((v + 1 : Nat) : Int) = some (k : Int) := by rw [binI_mod_pos (by omega), hk]
  rw [hk, Int.toNat_natCast]
  have hs := shl_k (a := a) (k := k) h.a0 (by have := h.a1; omega) (by have := h.hv; omega)
  try simp -implicitDefEqProofs only [wp_ok, wp_bind, wp_noexc, wp_seq, wp_skip, wp_brk, wp_cnt, wp_retN, wp_ret, wp_set, wp_par, wp_unp, wp_sto, wp_xpr, wp_ite, wp_for, wp_whl, wp_tru, sk_nx, sk_rt, sk_bk, sk_ct, lk_nx, lk_ct, lk_bk, lk_rt, ik_true, ik_false, ev, evs, evo, evi, evc, evd, keyK_str, keyK_int, retK_rt, retK_nx, iteK_true, iteK_false, truK0_bl, truK0_int, truK0_tup, truK0_frl, truK0_non, scK_bl, wp_callK, cmpO, cmp_eq, cmp_ne, cmp_lt, cmp_le, cmp_gt, cmp_ge, cmp_isN, cmp_notN, eqD_int, eqD_str, bin_int, binI_add, binI_sub, of_some, negK_int, setK_nm, setK_tp, setsK, asg, asgs, tgsOf, intK, rngK, srcK, subO, startE, newR, new, bi_int, bi_abs, bi_len_tup, bi_len_frl,  Option.map_some, Option.map_none, Option.bind_some, List.map_cons, List.map_nil, List.length_cons, List.length_nil, List.length_append, List.length_map, List.length_set, List.cons_append, List.nil_append, List.getElem?_cons_zero, List.getElem?_cons_succ, List.set_cons_zero, List.set_cons_succ, if_true, if_false, Bool.false_eq_true, Bool.true_eq_false, Bool.not_true, Bool.not_false, decide_true, decide_false, Nat.reduceEqDiff, Nat.zero_lt_succ, List.replicate_succ, List.replicate_zero, Nat.reduceSub, Nat.reduceAdd, Nat.reduceLT, Nat.reduceLeDiff, Nat.zero_le, id, lstK_ok, tupK_ok, d9, hm, e1, e2, hs, shr_k]
  exact wrapped_ok (by have := h.hv; omega)

theorem shf_lshr (h : Ab v a b) : Wp (Ci.run tab (n + 2) 9 [.str "lshr", .int ((v + 1 : Nat) : Int), .int a, .int b] st) fun w st' => w = v_lshr v a b ∧ st' = st := by
  refine wp_run (d := d9) rfl rfl ?_
  show Wp (ex _ c9 _ _) _
  unfold c9 v_lshr
  have e1 : (("lshr" : Str) == "shl") = false := by decide +kernel
  have e2 : (("lshr" : Str) == "lshr") = true := by decide +kernel
  have hp := p64 h.hv
  obtain ⟨k, hk, hk2⟩ := by_ok (b := b) h.hv
  have hm : binI .mod b ((v + 1 : Nat) : Int) = some (k : Int) := by rw [binI_mod_pos (by omega), hk]
  rw [hk, Int.toNat_natCast]
  have hs := shl_k (a := a) (k := k) h.a0 (by have := h.a1; omega) (by have := h.hv; omega)
  try simp -implicitDefEqProofs only [wp_ok, wp_bind, wp_noexc, wp_seq, wp_skip, wp_brk, wp_cnt, wp_retN, wp_ret, wp_set, wp_par, wp_unp, wp_sto, wp_xpr, wp_ite, wp_for, wp_whl, wp_tru, sk_nx, sk_rt, sk_bk, sk_ct, lk_nx, lk_ct, lk_bk, lk_rt, ik_true, ik_false, ev, evs, evo, evi, evc, evd, keyK_str, keyK_int, retK_rt, retK_nx, iteK_true, iteK_false, truK0_bl, truK0_int, truK0_tup, truK0_frl, truK0_non, scK_bl, wp_callK, cmpO, cmp_eq, cmp_ne, cmp_lt, cmp_le, cmp_gt, cmp_ge, cmp_isN, cmp_notN, eqD_int, eqD_str, bin_int, binI_add, binI_sub, of_some, negK_int, setK_nm, setK_tp, setsK, asg, asgs, tgsOf, intK, rngK, srcK, subO, startE, newR, new, bi_int, bi_abs, bi_len_tup, bi_len_frl,  Option.map_some, Option.map_none, Option.bind_some, List.map_cons, List.map_nil, List.length_cons, List.length_nil, List.length_append, List.length_map, List.length_set, List.cons_append, List.nil_append, List.getElem?_cons_zero, List.getElem?_cons_succ, List.set_cons_zero, List.set_cons_succ, if_true, if_false, Bool.false_eq_true, Bool.true_eq_false, Bool.not_true, Bool.not_false, decide_true, decide_false, Nat.reduceEqDiff, Nat.zero_lt_succ, List.replicate_succ, List.replicate_zero, Nat.reduceSub, Nat.reduceAdd, Nat.reduceLT, Nat.reduceLeDiff, Nat.zero_le, id, lstK_ok, tupK_ok, d9, hm, e1, e2, hs, shr_k]
  exact ⟨by first | rfl | trivial, by first | rfl | trivial⟩

theorem shf_ashr (h : Ab v a b) : Wp (Ci.run tab (n + 2) 9 [.str "ashr", .int ((v + 1 : Nat) : Int), .int a, .int b] st) fun w st' => w = v_ashr v a b ∧ st' = st := by
  refine wp_run (d := d9) rfl rfl ?_
  show Wp (ex _ c9 _ _) _
  unfold c9 v_ashr
  have e1 : (("ashr" : Str) == "shl") = false := by decide +kernel
  have e2 : (("ashr" : Str) == "lshr") = false := by decide +kernel
  have hp := p64 h.hv
  obtain ⟨k, hk, hk2⟩ := by_ok (b := b) h.hv
  have hm : binI .mod b ((v + 1 : Nat) : Int) = some (k : Int) := by rw [binI_mod_pos (by omega), hk]
  rw [hk, Int.toNat_natCast]
  have hs := shl_k (a := a) (k := k) h.a0 (by have := h.a1; omega) (by have := h.hv; omega)
  try simp -implicitDefEqProofs only [wp_ok, wp_bind, wp_noexc, wp_seq, wp_skip, wp_brk, wp_cnt, wp_retN, wp_ret, wp_set, wp_par, wp_unp, wp_sto, wp_xpr, wp_ite, wp_for, wp_whl, wp_tru, sk_nx, sk_rt, sk_bk, sk_ct, lk_nx, lk_ct, lk_bk, lk_rt, ik_true, ik_false, ev, evs, evo, evi, evc, evd, keyK_str, keyK_int, retK_rt, retK_nx, iteK_true, iteK_false, truK0_bl, truK0_int, truK0_tup, truK0_frl, truK0_non, scK_bl, wp_callK, cmpO, cmp_eq, cmp_ne, cmp_lt, cmp_le, cmp_gt, cmp_ge, cmp_isN, cmp_notN, eqD_int, eqD_str, bin_int, binI_add, binI_sub, of_some, negK_int, setK_nm, setK_tp, setsK, asg, asgs, tgsOf, intK, rngK, srcK, subO, startE, newR, new, bi_int, bi_abs, bi_len_tup, bi_len_frl,  Option.map_some, Option.map_none, Option.bind_some, List.map_cons, List.map_nil, List.length_cons, List.length_nil, List.length_append, List.length_map, List.length_set, List.cons_append, List.nil_append, List.getElem?_cons_zero, List.getElem?_cons_succ, List.set_cons_zero, List.set_cons_succ, if_true, if_false, Bool.false_eq_true, Bool.true_eq_false, Bool.not_true, Bool.not_false, decide_true, decide_false, Nat.reduceEqDiff, Nat.zero_lt_succ, List.replicate_succ, List.replicate_zero, Nat.reduceSub, Nat.reduceAdd, Nat.reduceLT, Nat.reduceLeDiff, Nat.zero_le, id, lstK_ok, tupK_ok, d9, hm, e1, e2, hs, shr_k]
  refine (signed_ok h.hv).mono ?_
  rintro w st1 ⟨rfl, rfl⟩
  try simp -implicitDefEqProofs only [wp_ok, wp_bind, wp_noexc, wp_seq, wp_skip, wp_brk, wp_cnt, wp_retN, wp_ret, wp_set, wp_par, wp_unp, wp_sto, wp_xpr, wp_ite, wp_for, wp_whl, wp_tru, sk_nx, sk_rt, sk_bk, sk_ct, lk_nx, lk_ct, lk_bk, lk_rt, ik_true, ik_false, ev, evs, evo, evi, evc, evd, keyK_str, keyK_int, retK_rt, retK_nx, iteK_true, iteK_false, truK0_bl, truK0_int, truK0_tup, truK0_frl, truK0_non, scK_bl, wp_callK, cmpO, cmp_eq, cmp_ne, cmp_lt, cmp_le, cmp_gt, cmp_ge, cmp_isN, cmp_notN, eqD_int, eqD_str, bin_int, binI_add, binI_sub, of_some, negK_int, setK_nm, setK_tp, setsK, asg, asgs, tgsOf, intK, rngK, srcK, subO, startE, newR, new, bi_int, bi_abs, bi_len_tup, bi_len_frl,  Option.map_some, Option.map_none, Option.bind_some, List.map_cons, List.map_nil, List.length_cons, List.length_nil, List.length_append, List.length_map, List.length_set, List.cons_append, List.nil_append, List.getElem?_cons_zero, List.getElem?_cons_succ, List.set_cons_zero, List.set_cons_succ, if_true, if_false, Bool.false_eq_true, Bool.true_eq_false, Bool.not_true, Bool.not_false, decide_true, decide_false, Nat.reduceEqDiff, Nat.zero_lt_succ, List.replicate_succ, List.replicate_zero, Nat.reduceSub, Nat.reduceAdd, Nat.reduceLT, Nat.reduceLeDiff, Nat.zero_le, id, lstK_ok, tupK_ok, shr_k]
  exact wrapped_ok (by have := h.hv; omega)

theorem told_add (h : Ab v a b) : Wp (Ci.run tab (n + 3) 10 [.str "add", .int ((v + 1 : Nat) : Int), .int a, .int b] st) fun w st' => w = v_add v a b ∧ st' = st := by
  refine wp_run (d := d10) rfl rfl ?_
  show Wp (ex _ c10 _ _) _
  unfold c10
  have i1 : ∀ s : Sto, inW s (.str "add") k_DIVISIONS = some false := fun _ => rfl
  have i2 : ∀ s : Sto, inW s (.str "add") (.tup [.str "shl", .str "lshr", .str "ashr"]) = some false := fun _ => rfl
  have e_and : (("add" : Str) == "and") = false := by decide +kernel
  have e_or : (("add" : Str) == "or") = false := by decide +kernel
  have e_xor : (("add" : Str) == "xor") = false := by decide +kernel
  have e_add : (("add" : Str) == "add") = true := by decide +kernel
  have e_sub : (("add" : Str) == "sub") = false := by decide +kernel
  try simp -implicitDefEqProofs only [wp_ok, wp_bind, wp_noexc, wp_seq, wp_skip, wp_brk, wp_cnt, wp_retN, wp_ret, wp_set, wp_par, wp_unp, wp_sto, wp_xpr, wp_ite, wp_for, wp_whl, wp_tru, sk_nx, sk_rt, sk_bk, sk_ct, lk_nx, lk_ct, lk_bk, lk_rt, ik_true, ik_false, ev, evs, evo, evi, evc, evd, keyK_str, keyK_int, retK_rt, retK_nx, iteK_true, iteK_false, truK0_bl, truK0_int, truK0_tup, truK0_frl, truK0_non, scK_bl, wp_callK, cmpO, cmp_eq, cmp_ne, cmp_lt, cmp_le, cmp_gt, cmp_ge, cmp_isN, cmp_notN, eqD_int, eqD_str, bin_int, binI_add, binI_sub, of_some, negK_int, setK_nm, setK_tp, setsK, asg, asgs, tgsOf, intK, rngK, srcK, subO, startE, newR, new, bi_int, bi_abs, bi_len_tup, bi_len_frl,  Option.map_some, Option.map_none, Option.bind_some, List.map_cons, List.map_nil, List.length_cons, List.length_nil, List.length_append, List.length_map, List.length_set, List.cons_append, List.nil_append, List.getElem?_cons_zero, List.getElem?_cons_succ, List.set_cons_zero, List.set_cons_succ, if_true, if_false, Bool.false_eq_true, Bool.true_eq_false, Bool.not_true, Bool.not_false, decide_true, decide_false, Nat.reduceEqDiff, Nat.zero_lt_succ, List.replicate_succ, List.replicate_zero, Nat.reduceSub, Nat.reduceAdd, Nat.reduceLT, Nat.reduceLeDiff, Nat.zero_le, id, lstK_ok, tupK_ok, d10, cmp_in, i1, i2, e_and, e_or, e_xor, e_add, e_sub]
  exact wrapped_ok (by have := h.hv; omega)

theorem told_sub (h : Ab v a b) : Wp (Ci.run tab (n + 3) 10 [.str "sub", .int ((v + 1 : Nat) : Int), .int a, .int b] st) fun w st' => w = v_sub v a b ∧ st' = st := by
  refine wp_run (d := d10) rfl rfl ?_
  show Wp (ex _ c10 _ _) _
  unfold c10
  have i1 : ∀ s : Sto, inW s (.str "sub") k_DIVISIONS = some false := fun _ => rfl
  have i2 : ∀ s : Sto, inW s (.str "sub") (.tup [.str "shl", .str "lshr", .str "ashr"]) = some false := fun _ => rfl
  have e_and : (("sub" : Str) == "and") = false := by decide +kernel
  have e_or : (("sub" : Str) == "or") = false := by decide +kernel
  have e_xor : (("sub" : Str) == "xor") = false := by decide +kernel
  have e_add : (("sub" : Str) == "add") = false := by decide +kernel
  have e_sub : (("sub" : Str) == "sub") = true := by decide +kernel
  try simp -implicitDefEqProofs only [wp_ok, wp_bind, wp_noexc, wp_seq, wp_skip, wp_brk, wp_cnt, wp_retN, wp_ret, wp_set, wp_par, wp_unp, wp_sto, wp_xpr, wp_ite, wp_for, wp_whl, wp_tru, sk_nx, sk_rt, sk_bk, sk_ct, lk_nx, lk_ct, lk_bk, lk_rt, ik_true, ik_false, ev, evs, evo, evi, evc, evd, keyK_str, keyK_int, retK_rt, retK_nx, iteK_true, iteK_false, truK0_bl, truK0_int, truK0_tup, truK0_frl, truK0_non, scK_bl, wp_callK, cmpO, cmp_eq, cmp_ne, cmp_lt, cmp_le, cmp_gt, cmp_ge, cmp_isN, cmp_notN, eqD_int, eqD_str, bin_int, binI_add, binI_sub, of_some, negK_int, setK_nm, setK_tp, setsK, asg, asgs, tgsOf, intK, rngK, srcK, subO, startE, newR, new, bi_int, bi_abs, bi_len_tup, bi_len_frl,  Option.map_some, Option.map_none, Option.bind_some, List.map_cons, List.map_nil, List.length_cons, List.length_nil, List.length_append, List.length_map, List.length_set, List.cons_append, List.nil_append, List.getElem?_cons_zero, List.getElem?_cons_succ, List.set_cons_zero, List.set_cons_succ, if_true, if_false, Bool.false_eq_true, Bool.true_eq_false, Bool.not_true, Bool.not_false, decide_true, decide_false, Nat.reduceEqDiff, Nat.zero_lt_succ, List.replicate_succ, List.replicate_zero, Nat.reduceSub, Nat.reduceAdd, Nat.reduceLT, Nat.reduceLeDiff, Nat.zero_le, id, lstK_ok, tupK_ok, d10, cmp_in, i1, i2, e_and, e_or, e_xor, e_add, e_sub]
  exact wrapped_ok (by have := h.hv; omega)

theorem told_mul (h : Ab v a b) : Wp (Ci.run tab (n + 3) 10 [.str "mul", .int ((v + 1 : Nat) : Int), .int a, .int b] st) fun w st' => w = v_mul v a b ∧ st' = st := by
  refine wp_run (d := d10) rfl rfl ?_
  show Wp (ex _ c10 _ _) _
  unfold c10
  have i1 : ∀ s : Sto, inW s (.str "mul") k_DIVISIONS = some false := fun _ => rfl
  have i2 : ∀ s : Sto, inW s (.str "mul") (.tup [.str "shl", .str "lshr", .str "ashr"]) = some false := fun _ => rfl
  have e_and : (("mul" : Str) == "and") = false := by decide +kernel
  have e_or : (("mul" : Str) == "or") = false := by decide +kernel
  have e_xor : (("mul" : Str) == "xor") = false := by decide +kernel
  have e_add : (("mul" : Str) == "add") = false := by decide +kernel
  have e_sub : (("mul" : Str) == "sub") = false := by decide +kernel
  have hp := p64 h.hv
  have hm := mulS1 (a := a) (b := b) (by have := h.a0; have := h.a1; omega)
  try simp -implicitDefEqProofs only [wp_ok, wp_bind, wp_noexc, wp_seq, wp_skip, wp_brk, wp_cnt, wp_retN, wp_ret, wp_set, wp_par, wp_unp, wp_sto, wp_xpr, wp_ite, wp_for, wp_whl, wp_tru, sk_nx, sk_rt, sk_bk, sk_ct, lk_nx, lk_ct, lk_bk, lk_rt, ik_true, ik_false, ev, evs, evo, evi, evc, evd, keyK_str, keyK_int, retK_rt, retK_nx, iteK_true, iteK_false, truK0_bl, truK0_int, truK0_tup, truK0_frl, truK0_non, scK_bl, wp_callK, cmpO, cmp_eq, cmp_ne, cmp_lt, cmp_le, cmp_gt, cmp_ge, cmp_isN, cmp_notN, eqD_int, eqD_str, bin_int, binI_add, binI_sub, of_some, negK_int, setK_nm, setK_tp, setsK, asg, asgs, tgsOf, intK, rngK, srcK, subO, startE, newR, new, bi_int, bi_abs, bi_len_tup, bi_len_frl,  Option.map_some, Option.map_none, Option.bind_some, List.map_cons, List.map_nil, List.length_cons, List.length_nil, List.length_append, List.length_map, List.length_set, List.cons_append, List.nil_append, List.getElem?_cons_zero, List.getElem?_cons_succ, List.set_cons_zero, List.set_cons_succ, if_true, if_false, Bool.false_eq_true, Bool.true_eq_false, Bool.not_true, Bool.not_false, decide_true, decide_false, Nat.reduceEqDiff, Nat.zero_lt_succ, List.replicate_succ, List.replicate_zero, Nat.reduceSub, Nat.reduceAdd, Nat.reduceLT, Nat.reduceLeDiff, Nat.zero_le, id, lstK_ok, tupK_ok, d10, cmp_in, i1, i2, e_and, e_or, e_xor, e_add, e_sub, hm]
  exact wrapped_ok (by have := h.hv; omega)

theorem told_udiv (h : Ab v a b) : Wp (Ci.run tab (n + 3) 10 [.str "udiv", .int ((v + 1 : Nat) : Int), .int a, .int b] st) fun w st' => w = v_udiv v a b ∧ st' = st := by
  refine wp_run (d := d10) rfl rfl ?_
  show Wp (ex _ c10 _ _) _
  unfold c10
  have i1 : ∀ s : Sto, inW s (.str "udiv") k_DIVISIONS = some true := fun _ => rfl
  have i2 : ∀ s : Sto, inW s (.str "udiv") (.tup [.str "shl", .str "lshr", .str "ashr"]) = some false := fun _ => rfl
  have e_and : (("udiv" : Str) == "and") = false := by decide +kernel
  have e_or : (("udiv" : Str) == "or") = false := by decide +kernel
  have e_xor : (("udiv" : Str) == "xor") = false := by decide +kernel
  have e_add : (("udiv" : Str) == "add") = false := by decide +kernel
  have e_sub : (("udiv" : Str) == "sub") = false := by decide +kernel
  try simp -implicitDefEqProofs only [wp_ok, wp_bind, wp_noexc, wp_seq, wp_skip, wp_brk, wp_cnt, wp_retN, wp_ret, wp_set, wp_par, wp_unp, wp_sto, wp_xpr, wp_ite, wp_for, wp_whl, wp_tru, sk_nx, sk_rt, sk_bk, sk_ct, lk_nx, lk_ct, lk_bk, lk_rt, ik_true, ik_false, ev, evs, evo, evi, evc, evd, keyK_str, keyK_int, retK_rt, retK_nx, iteK_true, iteK_false, truK0_bl, truK0_int, truK0_tup, truK0_frl, truK0_non, scK_bl, wp_callK, cmpO, cmp_eq, cmp_ne, cmp_lt, cmp_le, cmp_gt, cmp_ge, cmp_isN, cmp_notN, eqD_int, eqD_str, bin_int, binI_add, binI_sub, of_some, negK_int, setK_nm, setK_tp, setsK, asg, asgs, tgsOf, intK, rngK, srcK, subO, startE, newR, new, bi_int, bi_abs, bi_len_tup, bi_len_frl,  Option.map_some, Option.map_none, Option.bind_some, List.map_cons, List.map_nil, List.length_cons, List.length_nil, List.length_append, List.length_map, List.length_set, List.cons_append, List.nil_append, List.getElem?_cons_zero, List.getElem?_cons_succ, List.set_cons_zero, List.set_cons_succ, if_true, if_false, Bool.false_eq_true, Bool.true_eq_false, Bool.not_true, Bool.not_false, decide_true, decide_false, Nat.reduceEqDiff, Nat.zero_lt_succ, List.replicate_succ, List.replicate_zero, Nat.reduceSub, Nat.reduceAdd, Nat.reduceLT, Nat.reduceLeDiff, Nat.zero_le, id, lstK_ok, tupK_ok, d10, cmp_in, i1, i2, e_and, e_or, e_xor, e_add, e_sub]
  exact div_udiv h

theorem told_sdiv (h : Ab v a b) : Wp (Ci.run tab (n + 3) 10 [.str "sdiv", .int ((v + 1 : Nat) : Int), .int a, .int b] st) fun w st' => w = v_sdiv v a b ∧ st' = st := by
  refine wp_run (d := d10) rfl rfl ?_
  show Wp (ex _ c10 _ _) _
  unfold c10
  have i1 : ∀ s : Sto, inW s (.str "sdiv") k_DIVISIONS = some true := fun _ => rfl
  have i2 : ∀ s : Sto, inW s (.str "sdiv") (.tup [.str "shl", .str "lshr", .str "ashr"]) = some false := fun _ => rfl
  have e_and : (("sdiv" : Str) == "and") = false := by decide +kernel
  have e_or : (("sdiv" : Str) == "or") = false := by decide +kernel
  have e_xor : (("sdiv" : Str) == "xor") = false := by decide +kernel
  have e_add : (("sdiv" : Str) == "add") = false := by decide +kernel
  have e_sub : (("sdiv" : Str) == "sub") = false := by decide +kernel
  try simp -implicitDefEqProofs only [wp_ok, wp_bind, wp_noexc, wp_seq, wp_skip, wp_brk, wp_cnt, wp_retN, wp_ret, wp_set, wp_par, wp_unp, wp_sto, wp_xpr, wp_ite, wp_for, wp_whl, wp_tru, sk_nx, sk_rt, sk_bk, sk_ct, lk_nx, lk_ct, lk_bk, lk_rt, ik_true, ik_false, ev, evs, evo, evi, evc, evd, keyK_str, keyK_int, retK_rt, retK_nx, iteK_true, iteK_false, truK0_bl, truK0_int, truK0_tup, truK0_frl, truK0_non, scK_bl, wp_callK, cmpO, cmp_eq, cmp_ne, cmp_lt, cmp_le, cmp_gt, cmp_ge, cmp_isN, cmp_notN, eqD_int, eqD_str, bin_int, binI_add, binI_sub, of_some, negK_int, setK_nm, setK_tp, setsK, asg, asgs, tgsOf, intK, rngK, srcK, subO, startE, newR, new, bi_int, bi_abs, bi_len_tup, bi_len_frl,  Option.map_some, Option.map_none, Option.bind_some, List.map_cons, List.map_nil, List.length_cons, List.length_nil, List.length_append, List.length_map, List.length_set, List.cons_append, List.nil_append, List.getElem?_cons_zero, List.getElem?_cons_succ, List.set_cons_zero, List.set_cons_succ, if_true, if_false, Bool.false_eq_true, Bool.true_eq_false, Bool.not_true, Bool.not_false, decide_true, decide_false, Nat.reduceEqDiff, Nat.zero_lt_succ, List.replicate_succ, List.replicate_zero, Nat.reduceSub, Nat.reduceAdd, Nat.reduceLT, Nat.reduceLeDiff, Nat.zero_le, id, lstK_ok, tupK_ok, d10, cmp_in, i1, i2, e_and, e_or, e_xor, e_add, e_sub]
  exact div_sdiv h

theorem told_urem (h : Ab v a b) : Wp (Ci.run tab (n + 3) 10 [.str "urem", .int ((v + 1 : Nat) : Int), .int a, .int b] st) fun w st' => w = v_urem v a b ∧ st' = st := by
  refine wp_run (d := d10) rfl rfl ?_
  show Wp (ex _ c10 _ _) _
  unfold c10
  have i1 : ∀ s : Sto, inW s (.str "urem") k_DIVISIONS = some true := fun _ => rfl
  have i2 : ∀ s : Sto, inW s (.str "urem") (.tup [.str "shl", .str "lshr", .str "ashr"]) = some false := fun _ => rfl
  have e_and : (("urem" : Str) == "and") = false := by decide +kernel
  have e_or : (("urem" : Str) == "or") = false := by decide +kernel
  have e_xor : (("urem" : Str) == "xor") = false := by decide +kernel
  have e_add : (("urem" : Str) == "add") = false := by decide +kernel
  have e_sub : (("urem" : Str) == "sub") = false := by decide +kernel
  try simp -implicitDefEqProofs only [wp_ok, wp_bind, wp_noexc, wp_seq, wp_skip, wp_brk, wp_cnt, wp_retN, wp_ret, wp_set, wp_par, wp_unp, wp_sto, wp_xpr, wp_ite, wp_for, wp_whl, wp_tru, sk_nx, sk_rt, sk_bk, sk_ct, lk_nx, lk_ct, lk_bk, lk_rt, ik_true, ik_false, ev, evs, evo, evi, evc, evd, keyK_str, keyK_int, retK_rt, retK_nx, iteK_true, iteK_false, truK0_bl, truK0_int, truK0_tup, truK0_frl, truK0_non, scK_bl, wp_callK, cmpO, cmp_eq, cmp_ne, cmp_lt, cmp_le, cmp_gt, cmp_ge, cmp_isN, cmp_notN, eqD_int, eqD_str, bin_int, binI_add, binI_sub, of_some, negK_int, setK_nm, setK_tp, setsK, asg, asgs, tgsOf, intK, rngK, srcK, subO, startE, newR, new, bi_int, bi_abs, bi_len_tup, bi_len_frl,  Option.map_some, Option.map_none, Option.bind_some, List.map_cons, List.map_nil, List.length_cons, List.length_nil, List.length_append, List.length_map, List.length_set, List.cons_append, List.nil_append, List.getElem?_cons_zero, List.getElem?_cons_succ, List.set_cons_zero, List.set_cons_succ, if_true, if_false, Bool.false_eq_true, Bool.true_eq_false, Bool.not_true, Bool.not_false, decide_true, decide_false, Nat.reduceEqDiff, Nat.zero_lt_succ, List.replicate_succ, List.replicate_zero, Nat.reduceSub, Nat.reduceAdd, Nat.reduceLT, Nat.reduceLeDiff, Nat.zero_le, id, lstK_ok, tupK_ok, d10, cmp_in, i1, i2, e_and, e_or, e_xor, e_add, e_sub]
  exact div_urem h

theorem told_srem (h : Ab v a b) : Wp (Ci.run tab (n + 3) 10 [.str "srem", .int ((v + 1 : Nat) : Int), .int a, .int b] st) fun w st' => w = v_srem v a b ∧ st' = st := by
  refine wp_run (d := d10) rfl rfl ?_
  show Wp (ex _ c10 _ _) _
  unfold c10
  have i1 : ∀ s : Sto, inW s (.str "srem") k_DIVISIONS = some true := fun _ => rfl
  have i2 : ∀ s : Sto, inW s (.str "srem") (.tup [.str "shl", .str "lshr", .str "ashr"]) = some false := fun _ => rfl
  have e_and : (("srem" : Str) == "and") = false := by decide +kernel
  have e_or : (("srem" : Str) == "or") = false := by decide +kernel
  have e_xor : (("srem" : Str) == "xor") = false := by decide +kernel
  have e_add : (("srem" : Str) == "add") = false := by decide +kernel
  have e_sub : (("srem" : Str) == "sub") = false := by decide +kernel
  try simp -implicitDefEqProofs only [wp_ok, wp_bind, wp_noexc, wp_seq, wp_skip, wp_brk, wp_cnt, wp_retN, wp_ret, wp_set, wp_par, wp_unp, wp_sto, wp_xpr, wp_ite, wp_for, wp_whl, wp_tru, sk_nx, sk_rt, sk_bk, sk_ct, lk_nx, lk_ct, lk_bk, lk_rt, ik_true, ik_false, ev, evs, evo, evi, evc, evd, keyK_str, keyK_int, retK_rt, retK_nx, iteK_true, iteK_false, truK0_bl, truK0_int, truK0_tup, truK0_frl, truK0_non, scK_bl, wp_callK, cmpO, cmp_eq, cmp_ne, cmp_lt, cmp_le, cmp_gt, cmp_ge, cmp_isN, cmp_notN, eqD_int, eqD_str, bin_int, binI_add, binI_sub, of_some, negK_int, setK_nm, setK_tp, setsK, asg, asgs, tgsOf, intK, rngK, srcK, subO, startE, newR, new, bi_int, bi_abs, bi_len_tup, bi_len_frl,  Option.map_some, Option.map_none, Option.bind_some, List.map_cons, List.map_nil, List.length_cons, List.length_nil, List.length_append, List.length_map, List.length_set, List.cons_append, List.nil_append, List.getElem?_cons_zero, List.getElem?_cons_succ, List.set_cons_zero, List.set_cons_succ, if_true, if_false, Bool.false_eq_true, Bool.true_eq_false, Bool.not_true, Bool.not_false, decide_true, decide_false, Nat.reduceEqDiff, Nat.zero_lt_succ, List.replicate_succ, List.replicate_zero, Nat.reduceSub, Nat.reduceAdd, Nat.reduceLT, Nat.reduceLeDiff, Nat.zero_le, id, lstK_ok, tupK_ok, d10, cmp_in, i1, i2, e_and, e_or, e_xor, e_add, e_sub]
  exact div_srem h

theorem told_and (h : Ab v a b) : Wp (Ci.run tab (n + 3) 10 [.str "and", .int ((v + 1 : Nat) : Int), .int a, .int b] st) fun w st' => w = v_and v a b ∧ st' = st := by
  refine wp_run (d := d10) rfl rfl ?_
  show Wp (ex _ c10 _ _) _
  unfold c10
  have i1 : ∀ s : Sto, inW s (.str "and") k_DIVISIONS = some false := fun _ => rfl
  have i2 : ∀ s : Sto, inW s (.str "and") (.tup [.str "shl", .str "lshr", .str "ashr"]) = some false := fun _ => rfl
  have e_and : (("and" : Str) == "and") = true := by decide +kernel
  have e_or : (("and" : Str) == "or") = false := by decide +kernel
  have e_xor : (("and" : Str) == "xor") = false := by decide +kernel
  have e_add : (("and" : Str) == "add") = false := by decide +kernel
  have e_sub : (("and" : Str) == "sub") = false := by decide +kernel
  try simp -implicitDefEqProofs only [wp_ok, wp_bind, wp_noexc, wp_seq, wp_skip, wp_brk, wp_cnt, wp_retN, wp_ret, wp_set, wp_par, wp_unp, wp_sto, wp_xpr, wp_ite, wp_for, wp_whl, wp_tru, sk_nx, sk_rt, sk_bk, sk_ct, lk_nx, lk_ct, lk_bk, lk_rt, ik_true, ik_false, ev, evs, evo, evi, evc, evd, keyK_str, keyK_int, retK_rt, retK_nx, iteK_true, iteK_false, truK0_bl, truK0_int, truK0_tup, truK0_frl, truK0_non, scK_bl, wp_callK, cmpO, cmp_eq, cmp_ne, cmp_lt, cmp_le, cmp_gt, cmp_ge, cmp_isN, cmp_notN, eqD_int, eqD_str, bin_int, binI_add, binI_sub, of_some, negK_int, setK_nm, setK_tp, setsK, asg, asgs, tgsOf, intK, rngK, srcK, subO, startE, newR, new, bi_int, bi_abs, bi_len_tup, bi_len_frl,  Option.map_some, Option.map_none, Option.bind_some, List.map_cons, List.map_nil, List.length_cons, List.length_nil, List.length_append, List.length_map, List.length_set, List.cons_append, List.nil_append, List.getElem?_cons_zero, List.getElem?_cons_succ, List.set_cons_zero, List.set_cons_succ, if_true, if_false, Bool.false_eq_true, Bool.true_eq_false, Bool.not_true, Bool.not_false, decide_true, decide_false, Nat.reduceEqDiff, Nat.zero_lt_succ, List.replicate_succ, List.replicate_zero, Nat.reduceSub, Nat.reduceAdd, Nat.reduceLT, Nat.reduceLeDiff, Nat.zero_le, id, lstK_ok, tupK_ok, d10, cmp_in, i1, i2, e_and, e_or, e_xor, e_add, e_sub, show ∀ x y : Int, binI .band x y = some (Builtin.bitAnd x y) from fun _ _ => rfl]
  exact ⟨by first | rfl | trivial, by first | rfl | trivial⟩

theorem told_or (h : Ab v a b) : Wp (Ci.run tab (n + 3) 10 [.str "or", .int ((v + 1 : Nat) : Int), .int a, .int b] st) fun w st' => w = v_or v a b ∧ st' = st := by
  refine wp_run (d := d10) rfl rfl ?_
  show Wp (ex _ c10 _ _) _
  unfold c10
  have i1 : ∀ s : Sto, inW s (.str "or") k_DIVISIONS = some false := fun _ => rfl
  have i2 : ∀ s : Sto, inW s (.str "or") (.tup [.str "shl", .str "lshr", .str "ashr"]) = some false := fun _ => rfl
  have e_and : (("or" : Str) == "and") = false := by decide +kernel
  have e_or : (("or" : Str) == "or") = true := by decide +kernel
  have e_xor : (("or" : Str) == "xor") = false := by decide +kernel
  have e_add : (("or" : Str) == "add") = false := by decide +kernel
  have e_sub : (("or" : Str) == "sub") = false := by decide +kernel
  try simp -implicitDefEqProofs only [wp_ok, wp_bind, wp_noexc, wp_seq, wp_skip, wp_brk, wp_cnt, wp_retN, wp_ret, wp_set, wp_par, wp_unp, wp_sto, wp_xpr, wp_ite, wp_for, wp_whl, wp_tru, sk_nx, sk_rt, sk_bk, sk_ct, lk_nx, lk_ct, lk_bk, lk_rt, ik_true, ik_false, ev, evs, evo, evi, evc, evd, keyK_str, keyK_int, retK_rt, retK_nx, iteK_true, iteK_false, truK0_bl, truK0_int, truK0_tup, truK0_frl, truK0_non, scK_bl, wp_callK, cmpO, cmp_eq, cmp_ne, cmp_lt, cmp_le, cmp_gt, cmp_ge, cmp_isN, cmp_notN, eqD_int, eqD_str, bin_int, binI_add, binI_sub, of_some, negK_int, setK_nm, setK_tp, setsK, asg, asgs, tgsOf, intK, rngK, srcK, subO, startE, newR, new, bi_int, bi_abs, bi_len_tup, bi_len_frl,  Option.map_some, Option.map_none, Option.bind_some, List.map_cons, List.map_nil, List.length_cons, List.length_nil, List.length_append, List.length_map, List.length_set, List.cons_append, List.nil_append, List.getElem?_cons_zero, List.getElem?_cons_succ, List.set_cons_zero, List.set_cons_succ, if_true, if_false, Bool.false_eq_true, Bool.true_eq_false, Bool.not_true, Bool.not_false, decide_true, decide_false, Nat.reduceEqDiff, Nat.zero_lt_succ, List.replicate_succ, List.replicate_zero, Nat.reduceSub, Nat.reduceAdd, Nat.reduceLT, Nat.reduceLeDiff, Nat.zero_le, id, lstK_ok, tupK_ok, d10, cmp_in, i1, i2, e_and, e_or, e_xor, e_add, e_sub, show ∀ x y : Int, binI .bor x y = some (Builtin.bitOr x y) from fun _ _ => rfl]
  exact ⟨by first | rfl | trivial, by first | rfl | trivial⟩

theorem told_xor (h : Ab v a b) : Wp (Ci.run tab (n + 3) 10 [.str "xor", .int ((v + 1 : Nat) : Int), .int a, .int b] st) fun w st' => w = v_xor v a b ∧ st' = st := by
  refine wp_run (d := d10) rfl rfl ?_
  show Wp (ex _ c10 _ _) _
  unfold c10
  have i1 : ∀ s : Sto, inW s (.str "xor") k_DIVISIONS = some false := fun _ => rfl
  have i2 : ∀ s : Sto, inW s (.str "xor") (.tup [.str "shl", .str "lshr", .str "ashr"]) = some false := fun _ => rfl
  have e_and : (("xor" : Str) == "and") = false := by decide +kernel
  have e_or : (("xor" : Str) == "or") = false := by decide +kernel
  have e_xor : (("xor" : Str) == "xor") = true := by decide +kernel
  have e_add : (("xor" : Str) == "add") = false := by decide +kernel
  have e_sub : (("xor" : Str) == "sub") = false := by decide +kernel
  try simp -implicitDefEqProofs only [wp_ok, wp_bind, wp_noexc, wp_seq, wp_skip, wp_brk, wp_cnt, wp_retN, wp_ret, wp_set, wp_par, wp_unp, wp_sto, wp_xpr, wp_ite, wp_for, wp_whl, wp_tru, sk_nx, sk_rt, sk_bk, sk_ct, lk_nx, lk_ct, lk_bk, lk_rt, ik_true, ik_false, ev, evs, evo, evi, evc, evd, keyK_str, keyK_int, retK_rt, retK_nx, iteK_true, iteK_false, truK0_bl, truK0_int, truK0_tup, truK0_frl, truK0_non, scK_bl, wp_callK, cmpO, cmp_eq, cmp_ne, cmp_lt, cmp_le, cmp_gt, cmp_ge, cmp_isN, cmp_notN, eqD_int, eqD_str, bin_int, binI_add, binI_sub, of_some, negK_int, setK_nm, setK_tp, setsK, asg, asgs, tgsOf, intK, rngK, srcK, subO, startE, newR, new, bi_int, bi_abs, bi_len_tup, bi_len_frl,  Option.map_some, Option.map_none, Option.bind_some, List.map_cons, List.map_nil, List.length_cons, List.length_nil, List.length_append, List.length_map, List.length_set, List.cons_append, List.nil_append, List.getElem?_cons_zero, List.getElem?_cons_succ, List.set_cons_zero, List.set_cons_succ, if_true, if_false, Bool.false_eq_true, Bool.true_eq_false, Bool.not_true, Bool.not_false, decide_true, decide_false, Nat.reduceEqDiff, Nat.zero_lt_succ, List.replicate_succ, List.replicate_zero, Nat.reduceSub, Nat.reduceAdd, Nat.reduceLT, Nat.reduceLeDiff, Nat.zero_le, id, lstK_ok, tupK_ok, d10, cmp_in, i1, i2, e_and, e_or, e_xor, e_add, e_sub, show ∀ x y : Int, binI .bxor x y = some (Builtin.bitXor x y) from fun _ _ => rfl]
  exact ⟨by first | rfl | trivial, by first | rfl | trivial⟩

theorem told_shl (h : Ab v a b) : Wp (Ci.run tab (n + 3) 10 [.str "shl", .int ((v + 1 : Nat) : Int), .int a, .int b] st) fun w st' => w = v_shl v a b ∧ st' = st := by
  refine wp_run (d := d10) rfl rfl ?_
  show Wp (ex _ c10 _ _) _
  unfold c10
  have i1 : ∀ s : Sto, inW s (.str "shl") k_DIVISIONS = some false := fun _ => rfl
  have i2 : ∀ s : Sto, inW s (.str "shl") (.tup [.str "shl", .str "lshr", .str "ashr"]) = some true := fun _ => rfl
  have e_and : (("shl" : Str) == "and") = false := by decide +kernel
  have e_or : (("shl" : Str) == "or") = false := by decide +kernel
  have e_xor : (("shl" : Str) == "xor") = false := by decide +kernel
  have e_add : (("shl" : Str) == "add") = false := by decide +kernel
  have e_sub : (("shl" : Str) == "sub") = false := by decide +kernel
  try simp -implicitDefEqProofs only [wp_ok, wp_bind, wp_noexc, wp_seq, wp_skip, wp_brk, wp_cnt, wp_retN, wp_ret, wp_set, wp_par, wp_unp, wp_sto, wp_xpr, wp_ite, wp_for, wp_whl, wp_tru, sk_nx, sk_rt, sk_bk, sk_ct, lk_nx, lk_ct, lk_bk, lk_rt, ik_true, ik_false, ev, evs, evo, evi, evc, evd, keyK_str, keyK_int, retK_rt, retK_nx, iteK_true, iteK_false, truK0_bl, truK0_int, truK0_tup, truK0_frl, truK0_non, scK_bl, wp_callK, cmpO, cmp_eq, cmp_ne, cmp_lt, cmp_le, cmp_gt, cmp_ge, cmp_isN, cmp_notN, eqD_int, eqD_str, bin_int, binI_add, binI_sub, of_some, negK_int, setK_nm, setK_tp, setsK, asg, asgs, tgsOf, intK, rngK, srcK, subO, startE, newR, new, bi_int, bi_abs, bi_len_tup, bi_len_frl,  Option.map_some, Option.map_none, Option.bind_some, List.map_cons, List.map_nil, List.length_cons, List.length_nil, List.length_append, List.length_map, List.length_set, List.cons_append, List.nil_append, List.getElem?_cons_zero, List.getElem?_cons_succ, List.set_cons_zero, List.set_cons_succ, if_true, if_false, Bool.false_eq_true, Bool.true_eq_false, Bool.not_true, Bool.not_false, decide_true, decide_false, Nat.reduceEqDiff, Nat.zero_lt_succ, List.replicate_succ, List.replicate_zero, Nat.reduceSub, Nat.reduceAdd, Nat.reduceLT, Nat.reduceLeDiff, Nat.zero_le, id, lstK_ok, tupK_ok, d10, cmp_in, i1, i2, e_and, e_or, e_xor, e_add, e_sub]
  exact shf_shl h

theorem told_lshr (h : Ab v a b) : Wp (Ci.run tab (n + 3) 10 [.str "lshr", .int ((v + 1 : Nat) : Int), .int a, .int b] st) fun w st' => w = v_lshr v a b ∧ st' = st := by
  refine wp_run (d := d10) rfl rfl ?_
  show Wp (ex _ c10 _ _) _
  unfold c10
  have i1 : ∀ s : Sto, inW s (.str "lshr") k_DIVISIONS = some false := fun _ => rfl
  have i2 : ∀ s : Sto, inW s (.str "lshr") (.tup [.str "shl", .str "lshr", .str "ashr"]) = some true := fun _ => rfl
  have e_and : (("lshr" : Str) == "and") = false := by decide +kernel
  have e_or : (("lshr" : Str) == "or") = false := by decide +kernel
  have e_xor : (("lshr" : Str) == "xor") = false := by decide +kernel
  have e_add : (("lshr" : Str) == "add") = false := by decide +kernel
  have e_sub : (("lshr" : Str) == "sub") = false := by decide +kernel
  try simp -implicitDefEqProofs only [wp_ok, wp_bind, wp_noexc, wp_seq, wp_skip, wp_brk, wp_cnt, wp_retN, wp_ret, wp_set, wp_par, wp_unp, wp_sto, wp_xpr, wp_ite, wp_for, wp_whl, wp_tru, sk_nx, sk_rt, sk_bk, sk_ct, lk_nx, lk_ct, lk_bk, lk_rt, ik_true, ik_false, ev, evs, evo, evi, evc, evd, keyK_str, keyK_int, retK_rt, retK_nx, iteK_true, iteK_false, truK0_bl, truK0_int, truK0_tup, truK0_frl, truK0_non, scK_bl, wp_callK, cmpO, cmp_eq, cmp_ne, cmp_lt, cmp_le, cmp_gt, cmp_ge, cmp_isN, cmp_notN, eqD_int, eqD_str, bin_int, binI_add, binI_sub, of_some, negK_int, setK_nm, setK_tp, setsK, asg, asgs, tgsOf, intK, rngK, srcK, subO, startE, newR, new, bi_int, bi_abs, bi_len_tup, bi_len_frl,  Option.map_some, Option.map_none, Option.bind_some, List.map_cons, List.map_nil, List.length_cons, List.length_nil, List.length_append, List.length_map, List.length_set, List.cons_append, List.nil_append, List.getElem?_cons_zero, List.getElem?_cons_succ, List.set_cons_zero, List.set_cons_succ, if_true, if_false, Bool.false_eq_true, Bool.true_eq_false, Bool.not_true, Bool.not_false, decide_true, decide_false, Nat.reduceEqDiff, Nat.zero_lt_succ, List.replicate_succ, List.replicate_zero, Nat.reduceSub, Nat.reduceAdd, Nat.reduceLT, Nat.reduceLeDiff, Nat.zero_le, id, lstK_ok, tupK_ok, d10, cmp_in, i1, i2, e_and, e_or, e_xor, e_add, e_sub]
  exact shf_lshr h

theorem told_ashr (h : Ab v a b) : Wp (Ci.run tab (n + 3) 10 [.str "ashr", .int ((v + 1 : Nat) : Int), .int a, .int b] st) fun w st' => w = v_ashr v a b ∧ st' = st := by
  refine wp_run (d := d10) rfl rfl ?_
  show Wp (ex _ c10 _ _) _
  unfold c10
  have i1 : ∀ s : Sto, inW s (.str "ashr") k_DIVISIONS = some false := fun _ => rfl
  have i2 : ∀ s : Sto, inW s (.str "ashr") (.tup [.str "shl", .str "lshr", .str "ashr"]) = some true := fun _ => rfl
  have e_and : (("ashr" : Str) == "and") = false := by decide +kernel
  have e_or : (("ashr" : Str) == "or") = false := by decide +kernel
  have e_xor : (("ashr" : Str) == "xor") = false := by decide +kernel
  have e_add : (("ashr" : Str) == "add") = false := by decide +kernel
  have e_sub : (("ashr" : Str) == "sub") = false := by decide +kernel
  try simp -implicitDefEqProofs only [wp_ok, wp_bind, wp_noexc, wp_seq, wp_skip, wp_brk, wp_cnt, wp_retN, wp_ret, wp_set, wp_par, wp_unp, wp_sto, wp_xpr, wp_ite, wp_for, wp_whl, wp_tru, sk_nx, sk_rt, sk_bk, sk_ct, lk_nx, lk_ct, lk_bk, lk_rt, ik_true, ik_false, ev, evs, evo, evi, evc, evd, keyK_str, keyK_int, retK_rt, retK_nx, iteK_true, iteK_false, truK0_bl, truK0_int, truK0_tup, truK0_frl, truK0_non, scK_bl, wp_callK, cmpO, cmp_eq, cmp_ne, cmp_lt, cmp_le, cmp_gt, cmp_ge, cmp_isN, cmp_notN, eqD_int, eqD_str, bin_int, binI_add, binI_sub, of_some, negK_int, setK_nm, setK_tp, setsK, asg, asgs, tgsOf, intK, rngK, srcK, subO, startE, newR, new, bi_int, bi_abs, bi_len_tup, bi_len_frl,  Option.map_some, Option.map_none, Option.bind_some, List.map_cons, List.map_nil, List.length_cons, List.length_nil, List.length_append, List.length_map, List.length_set, List.cons_append, List.nil_append, List.getElem?_cons_zero, List.getElem?_cons_succ, List.set_cons_zero, List.set_cons_succ, if_true, if_false, Bool.false_eq_true, Bool.true_eq_false, Bool.not_true, Bool.not_false, decide_true, decide_false, Nat.reduceEqDiff, Nat.zero_lt_succ, List.replicate_succ, List.replicate_zero, Nat.reduceSub, Nat.reduceAdd, Nat.reduceLT, Nat.reduceLeDiff, Nat.zero_le, id, lstK_ok, tupK_ok, d10, cmp_in, i1, i2, e_and, e_or, e_xor, e_add, e_sub]
  exact shf_ashr h

end
end K01
/-! K01d: what is due. -/
namespace K01
open PySem Ci Law K02

theorem pds_strs (ρ : Nat → Option PyData) : ∀ ss : List Str, pds ρ (ss.map .str) = some (ss.map .str)
  | [] => rfl
  | s :: ss => by rw [List.map_cons, pds, pds_strs ρ ss]; rfl
theorem lay_strs : ∀ ss : List Str, ss.all PyData.strOk = true → PyData.canLayAll0 (ss.map PyData.str) = true ∧ PyData.depthAll (ss.map PyData.str) = 0
  | [], _ => by simp only [List.map_nil, PyData.canLayAll0, PyData.depthAll]; decide
  | s :: ss, h => by
    rw [List.all_cons, Bool.and_eq_true] at h
    obtain ⟨h1, h2⟩ := lay_strs ss h.2
    simp only [List.map_cons, PyData.canLayAll0, PyData.canLay0, PyData.depthAll, PyData.depth, h1, h2, h.1, Bool.and_self, Nat.max_self, true_and]
theorem in_strs {st : Sto} {n : Nat} {ss : List Str} {s : Str} (h : st[n]? = some (.lst (ss.map .str))) (h1 : PyData.strOk s = true) (h2 : ss.all PyData.strOk = true) : inW st (.str s) (.ref n) = some (ss.any fun z => z == s) := by
  have e1 : inW st (.str s) (.ref n) = inD st (.str s) (ss.map .str) := by simp only [inW, h]
  obtain ⟨l1, l2⟩ := lay_strs ss h2
  rw [e1, inD, toD_str, pds_strs]
  have s1 : shapedB (.str s) = true := by simp only [shapedB, SeqAt.shaped, PyData.canLay0, PyData.depth, h1]; rfl
  have s2 : shapedB (.list (ss.map .str)) = true := by simp only [shapedB, SeqAt.shaped, PyData.canLay0, PyData.depth, l1, l2]; rfl
  simp only [s1, s2, Bool.and_self, if_true, List.any_map]
  congr 1
theorem in_ints {st : Sto} {n : Nat} {ns : List Int} {i : Int} (h : st[n]? = some (.lst (ns.map .int))) : inW st (.int i) (.ref n) = some (ns.any fun z => z == i) := by
  have e1 : inW st (.int i) (.ref n) = inD st (.int i) (ns.map .int) := by simp only [inW, h]
  rw [e1, inD, toD_int, pds_ints]
  have s1 : shapedB (.int i) = true := by simp only [shapedB, SeqAt.shaped, PyData.canLay0, PyData.depth]; rfl
  have s2 := shaped_ints ns
  simp only [s1, s2, Bool.and_self, if_true, List.any_map]
  congr 1
theorem lo_get {w k : Nat} {x : Int} (hk : k < w) : (lo w x)[k]? = some (x / 2 ^ k % 2) := by
  have e := lo_drop k (w - k) x
  rw [show k + (w - k) = w by omega] at e
  have := List.getElem?_drop (xs := lo w x) (i := k) (j := 0)
  rw [e] at this
  have this : _ = (lo w x)[k]? := this
  rw [← this, show w - k = (w - k - 1) + 1 by omega, lo]
  rfl
theorem zip_range (g : Int → Int → Int) (w : Nat) (x y : Int) : List.zipWith g (lo w x) (lo w y) = (List.range w).map fun k => g (x / 2 ^ k % 2) (y / 2 ^ k % 2) := by
  refine List.ext_getElem? fun k => ?_
  rw [List.getElem?_zipWith, List.getElem?_map]
  rcases Nat.lt_or_ge k w with h | h
  · rw [lo_get h, lo_get h, List.getElem?_range h]; rfl
  · rw [List.getElem?_eq_none (l := lo w x) (by rw [lo_len]; exact h), List.getElem?_eq_none (l := lo w y) (by rw [lo_len]; exact h), List.getElem?_eq_none (l := List.range w) (by rw [List.length_range]; exact h)]; rfl
theorem src2K_lst {st : Sto} {m k : Nat} {ws us : List W} (h : st[m]? = some (.lst ws)) (h2 : st[k]? = some (.lst us)) : src2K (.ref m) (.ref k) st = .ok (.zip (.live m) (.live k)) st := by
  simp only [src2K, srcOf, isLst, lstOf, h, h2]
  rfl
theorem wantAnd : ∀ x y : Int, (x = 0 ∨ x = 1) → (y = 0 ∨ y = 1) → ([(2 : Int)].any fun z => z == x + y) = decide (gAnd x y = 1) ∧ (gAnd x y = 0 ∨ gAnd x y = 1) := by
  rintro _ _ (rfl | rfl) (rfl | rfl) <;> decide
theorem wantOr : ∀ x y : Int, (x = 0 ∨ x = 1) → (y = 0 ∨ y = 1) → ([(1 : Int), 2].any fun z => z == x + y) = decide (gOr x y = 1) ∧ (gOr x y = 0 ∨ gOr x y = 1) := by
  rintro _ _ (rfl | rfl) (rfl | rfl) <;> decide
theorem wantXor : ∀ x y : Int, (x = 0 ∨ x = 1) → (y = 0 ∨ y = 1) → ([(1 : Int)].any fun z => z == x + y) = decide (gXor x y = 1) ∧ (gXor x y = 0 ∨ gXor x y = 1) := by
  rintro _ _ (rfl | rfl) (rfl | rfl) <;> decide
section
variable {n v : Nat} {st : Sto} {a b : Int}
/-- digits, and back -/
theorem db_ok {x : Int} {t : Nat} {Q : W → Sto → Prop} (ht : t ≤ 64) (h : ∀ st', Ext st st' → Q (.int (x % 2 ^ t)) st') : Wp (Ci.run tab (n + 2) 17 [.int x, .int (t : Int)] st) fun w st1 => Wp (Ci.run tab (n + 2) 18 [w] st1) Q := by
  refine (digits_ok ht).mono ?_
  rintro w st1 ⟨p, rfl, e, -, g⟩
  refine (back_ok (n := n + 1) g (bit_lo _ _) (by rw [lo_len]; omega)).mono ?_
  rintro w st2 ⟨rfl, rfl⟩
  rw [vl_lo, Int.emod_emod]
  exact h _ e
theorem eqb {x : Bool} : eqD st (.bl x) (.bl x) = some true := by rw [eqD_bl]; simp

theorem due_add (h : Ab v a b) : Wp (Ci.run tab (n + 4) 21 [.str "add", .int ((v + 1 : Nat) : Int), .int a, .int b] st) fun w st' => w = v_add v a b ∧ Ext st st' := by
  refine wp_run (d := d21) rfl rfl ?_
  show Wp (ex _ c21 _ _) _
  unfold c21 v_add
  have hv := h.hv
  have am : a % 2 ^ (v + 1) = a := Int.emod_eq_of_lt h.a0 h.a1
  have bm : b % 2 ^ (v + 1) = b := Int.emod_eq_of_lt h.b0 h.b1
  have hp := p64 h.hv
  try simp -implicitDefEqProofs only [wp_ok, wp_bind, wp_noexc, wp_seq, wp_skip, wp_brk, wp_cnt, wp_retN, wp_ret, wp_set, wp_par, wp_unp, wp_sto, wp_xpr, wp_ite, wp_for, wp_whl, wp_tru, sk_rt, sk_bk, sk_ct, lk_nx, lk_ct, lk_bk, lk_rt, ik_true, ik_false, ev, evs, evo, evi, evc, evd, keyK_str, keyK_int, retK_rt, retK_nx, iteK_true, iteK_false, truK0_bl, truK0_int, truK0_tup, truK0_frl, truK0_non, scK_bl, wp_callK, cmpO, cmp_eq, cmp_ne, cmp_lt, cmp_le, cmp_gt, cmp_ge, cmp_isN, cmp_notN, eqD_int, eqD_str, bin_int, binI_add, binI_sub, of_some, negK_int, setK_nm, setK_tp, setsK, asg, asgs, tgsOf, intK, rngK, srcK, subO, startE, newR, new, bi_int, bi_abs, bi_len_tup, bi_len_frl,  Option.map_some, Option.map_none, Option.bind_some, List.map_cons, List.map_nil, List.length_cons, List.length_nil, List.length_append, List.length_map, List.length_set, List.cons_append, List.nil_append, List.getElem?_cons_zero, List.getElem?_cons_succ, List.set_cons_zero, List.set_cons_succ, if_true, if_false, Bool.false_eq_true, Bool.true_eq_false, Bool.not_true, Bool.not_false, decide_true, decide_false, Nat.reduceEqDiff, Nat.zero_lt_succ, List.replicate_succ, List.replicate_zero, Nat.reduceSub, Nat.reduceAdd, Nat.reduceLT, Nat.reduceLeDiff, Nat.zero_le, id, lstK_ok, tupK_ok, d21]
  refine (digits_ok (n := n + 1) (show v + 1 ≤ 64 by omega)).mono ?_
  rintro w st1 ⟨p4, rfl, x1, l4, g4⟩
  try simp -implicitDefEqProofs only [wp_ok, wp_bind, wp_noexc, wp_seq, wp_skip, wp_brk, wp_cnt, wp_retN, wp_ret, wp_set, wp_par, wp_unp, wp_sto, wp_xpr, wp_ite, wp_for, wp_whl, wp_tru, sk_rt, sk_bk, sk_ct, lk_nx, lk_ct, lk_bk, lk_rt, ik_true, ik_false, ev, evs, evo, evi, evc, evd, keyK_str, keyK_int, retK_rt, retK_nx, iteK_true, iteK_false, truK0_bl, truK0_int, truK0_tup, truK0_frl, truK0_non, scK_bl, wp_callK, cmpO, cmp_eq, cmp_ne, cmp_lt, cmp_le, cmp_gt, cmp_ge, cmp_isN, cmp_notN, eqD_int, eqD_str, bin_int, binI_add, binI_sub, of_some, negK_int, setK_nm, setK_tp, setsK, asg, asgs, tgsOf, intK, rngK, srcK, subO, startE, newR, new, bi_int, bi_abs, bi_len_tup, bi_len_frl,  Option.map_some, Option.map_none, Option.bind_some, List.map_cons, List.map_nil, List.length_cons, List.length_nil, List.length_append, List.length_map, List.length_set, List.cons_append, List.nil_append, List.getElem?_cons_zero, List.getElem?_cons_succ, List.set_cons_zero, List.set_cons_succ, if_true, if_false, Bool.false_eq_true, Bool.true_eq_false, Bool.not_true, Bool.not_false, decide_true, decide_false, Nat.reduceEqDiff, Nat.zero_lt_succ, List.replicate_succ, List.replicate_zero, Nat.reduceSub, Nat.reduceAdd, Nat.reduceLT, Nat.reduceLeDiff, Nat.zero_le, id, lstK_ok, tupK_ok]
  refine (digits_ok (n := n + 1) (show v + 1 ≤ 64 by omega)).mono ?_
  rintro w st2 ⟨p5, rfl, x2, l5, g5⟩
  have g4 := x2.2 _ _ g4
  rw [am] at g4
  rw [bm] at g5
  have x2 := x1.trans x2
  try simp -implicitDefEqProofs only [wp_ok, wp_bind, wp_noexc, wp_seq, wp_skip, wp_brk, wp_cnt, wp_retN, wp_ret, wp_set, wp_par, wp_unp, wp_sto, wp_xpr, wp_ite, wp_for, wp_whl, wp_tru, sk_rt, sk_bk, sk_ct, lk_nx, lk_ct, lk_bk, lk_rt, ik_true, ik_false, ev, evs, evo, evi, evc, evd, keyK_str, keyK_int, retK_rt, retK_nx, iteK_true, iteK_false, truK0_bl, truK0_int, truK0_tup, truK0_frl, truK0_non, scK_bl, wp_callK, cmpO, cmp_eq, cmp_ne, cmp_lt, cmp_le, cmp_gt, cmp_ge, cmp_isN, cmp_notN, eqD_int, eqD_str, bin_int, binI_add, binI_sub, of_some, negK_int, setK_nm, setK_tp, setsK, asg, asgs, tgsOf, intK, rngK, srcK, subO, startE, newR, new, bi_int, bi_abs, bi_len_tup, bi_len_frl,  Option.map_some, Option.map_none, Option.bind_some, List.map_cons, List.map_nil, List.length_cons, List.length_nil, List.length_append, List.length_map, List.length_set, List.cons_append, List.nil_append, List.getElem?_cons_zero, List.getElem?_cons_succ, List.set_cons_zero, List.set_cons_succ, if_true, if_false, Bool.false_eq_true, Bool.true_eq_false, Bool.not_true, Bool.not_false, decide_true, decide_false, Nat.reduceEqDiff, Nat.zero_lt_succ, List.replicate_succ, List.replicate_zero, Nat.reduceSub, Nat.reduceAdd, Nat.reduceLT, Nat.reduceLeDiff, Nat.zero_le, id, lstK_ok, tupK_ok]
  rw [sk_nx]
  have i1 : inW (st2 ++ [Ob.lst [W.str "add", W.str "sub", W.str "mul"]]) (.str "add") (.ref st2.length) = some true := (in_strs (ss := ["add", "sub", "mul"]) getLast (by decide +kernel) (by decide +kernel)).trans (by decide +kernel)
  have e1 : (("add" : Str) == "add") = true := by decide +kernel
  have e2 : (("add" : Str) == "sub") = false := by decide +kernel
  have hm := mulS1 (a := a) (b := b) (by have := h.a0; have := h.a1; omega)
  try simp -implicitDefEqProofs only [wp_ok, wp_bind, wp_noexc, wp_seq, wp_skip, wp_brk, wp_cnt, wp_retN, wp_ret, wp_set, wp_par, wp_unp, wp_sto, wp_xpr, wp_ite, wp_for, wp_whl, wp_tru, sk_rt, sk_bk, sk_ct, lk_nx, lk_ct, lk_bk, lk_rt, ik_true, ik_false, ev, evs, evo, evi, evc, evd, keyK_str, keyK_int, retK_rt, retK_nx, iteK_true, iteK_false, truK0_bl, truK0_int, truK0_tup, truK0_frl, truK0_non, scK_bl, wp_callK, cmpO, cmp_eq, cmp_ne, cmp_lt, cmp_le, cmp_gt, cmp_ge, cmp_isN, cmp_notN, eqD_int, eqD_str, bin_int, binI_add, binI_sub, of_some, negK_int, setK_nm, setK_tp, setsK, asg, asgs, tgsOf, intK, rngK, srcK, subO, startE, newR, new, bi_int, bi_abs, bi_len_tup, bi_len_frl,  Option.map_some, Option.map_none, Option.bind_some, List.map_cons, List.map_nil, List.length_cons, List.length_nil, List.length_append, List.length_map, List.length_set, List.cons_append, List.nil_append, List.getElem?_cons_zero, List.getElem?_cons_succ, List.set_cons_zero, List.set_cons_succ, if_true, if_false, Bool.false_eq_true, Bool.true_eq_false, Bool.not_true, Bool.not_false, decide_true, decide_false, Nat.reduceEqDiff, Nat.zero_lt_succ, List.replicate_succ, List.replicate_zero, Nat.reduceSub, Nat.reduceAdd, Nat.reduceLT, Nat.reduceLeDiff, Nat.zero_le, id, lstK_ok, tupK_ok, cmp_in, i1, e1, e2, hm]
  refine db_ok (n := n + 1) (show v + 1 ≤ 64 by omega) fun st3 x3 => ?_
  try simp -implicitDefEqProofs only [wp_ok, wp_bind, wp_noexc, wp_seq, wp_skip, wp_brk, wp_cnt, wp_retN, wp_ret, wp_set, wp_par, wp_unp, wp_sto, wp_xpr, wp_ite, wp_for, wp_whl, wp_tru, sk_rt, sk_bk, sk_ct, lk_nx, lk_ct, lk_bk, lk_rt, ik_true, ik_false, ev, evs, evo, evi, evc, evd, keyK_str, keyK_int, retK_rt, retK_nx, iteK_true, iteK_false, truK0_bl, truK0_int, truK0_tup, truK0_frl, truK0_non, scK_bl, wp_callK, cmpO, cmp_eq, cmp_ne, cmp_lt, cmp_le, cmp_gt, cmp_ge, cmp_isN, cmp_notN, eqD_int, eqD_str, bin_int, binI_add, binI_sub, of_some, negK_int, setK_nm, setK_tp, setsK, asg, asgs, tgsOf, intK, rngK, srcK, subO, startE, newR, new, bi_int, bi_abs, bi_len_tup, bi_len_frl,  Option.map_some, Option.map_none, Option.bind_some, List.map_cons, List.map_nil, List.length_cons, List.length_nil, List.length_append, List.length_map, List.length_set, List.cons_append, List.nil_append, List.getElem?_cons_zero, List.getElem?_cons_succ, List.set_cons_zero, List.set_cons_succ, if_true, if_false, Bool.false_eq_true, Bool.true_eq_false, Bool.not_true, Bool.not_false, decide_true, decide_false, Nat.reduceEqDiff, Nat.zero_lt_succ, List.replicate_succ, List.replicate_zero, Nat.reduceSub, Nat.reduceAdd, Nat.reduceLT, Nat.reduceLeDiff, Nat.zero_le, id, lstK_ok, tupK_ok]
  exact ⟨by first | rfl | trivial, x2.trans (Ext.new.trans x3)⟩

theorem due_sub (h : Ab v a b) : Wp (Ci.run tab (n + 4) 21 [.str "sub", .int ((v + 1 : Nat) : Int), .int a, .int b] st) fun w st' => w = v_sub v a b ∧ Ext st st' := by
  refine wp_run (d := d21) rfl rfl ?_
  show Wp (ex _ c21 _ _) _
  unfold c21 v_sub
  have hv := h.hv
  have am : a % 2 ^ (v + 1) = a := Int.emod_eq_of_lt h.a0 h.a1
  have bm : b % 2 ^ (v + 1) = b := Int.emod_eq_of_lt h.b0 h.b1
  have hp := p64 h.hv
  try simp -implicitDefEqProofs only [wp_ok, wp_bind, wp_noexc, wp_seq, wp_skip, wp_brk, wp_cnt, wp_retN, wp_ret, wp_set, wp_par, wp_unp, wp_sto, wp_xpr, wp_ite, wp_for, wp_whl, wp_tru, sk_rt, sk_bk, sk_ct, lk_nx, lk_ct, lk_bk, lk_rt, ik_true, ik_false, ev, evs, evo, evi, evc, evd, keyK_str, keyK_int, retK_rt, retK_nx, iteK_true, iteK_false, truK0_bl, truK0_int, truK0_tup, truK0_frl, truK0_non, scK_bl, wp_callK, cmpO, cmp_eq, cmp_ne, cmp_lt, cmp_le, cmp_gt, cmp_ge, cmp_isN, cmp_notN, eqD_int, eqD_str, bin_int, binI_add, binI_sub, of_some, negK_int, setK_nm, setK_tp, setsK, asg, asgs, tgsOf, intK, rngK, srcK, subO, startE, newR, new, bi_int, bi_abs, bi_len_tup, bi_len_frl,  Option.map_some, Option.map_none, Option.bind_some, List.map_cons, List.map_nil, List.length_cons, List.length_nil, List.length_append, List.length_map, List.length_set, List.cons_append, List.nil_append, List.getElem?_cons_zero, List.getElem?_cons_succ, List.set_cons_zero, List.set_cons_succ, if_true, if_false, Bool.false_eq_true, Bool.true_eq_false, Bool.not_true, Bool.not_false, decide_true, decide_false, Nat.reduceEqDiff, Nat.zero_lt_succ, List.replicate_succ, List.replicate_zero, Nat.reduceSub, Nat.reduceAdd, Nat.reduceLT, Nat.reduceLeDiff, Nat.zero_le, id, lstK_ok, tupK_ok, d21]
  refine (digits_ok (n := n + 1) (show v + 1 ≤ 64 by omega)).mono ?_
  rintro w st1 ⟨p4, rfl, x1, l4, g4⟩
  try simp -implicitDefEqProofs only [wp_ok, wp_bind, wp_noexc, wp_seq, wp_skip, wp_brk, wp_cnt, wp_retN, wp_ret, wp_set, wp_par, wp_unp, wp_sto, wp_xpr, wp_ite, wp_for, wp_whl, wp_tru, sk_rt, sk_bk, sk_ct, lk_nx, lk_ct, lk_bk, lk_rt, ik_true, ik_false, ev, evs, evo, evi, evc, evd, keyK_str, keyK_int, retK_rt, retK_nx, iteK_true, iteK_false, truK0_bl, truK0_int, truK0_tup, truK0_frl, truK0_non, scK_bl, wp_callK, cmpO, cmp_eq, cmp_ne, cmp_lt, cmp_le, cmp_gt, cmp_ge, cmp_isN, cmp_notN, eqD_int, eqD_str, bin_int, binI_add, binI_sub, of_some, negK_int, setK_nm, setK_tp, setsK, asg, asgs, tgsOf, intK, rngK, srcK, subO, startE, newR, new, bi_int, bi_abs, bi_len_tup, bi_len_frl,  Option.map_some, Option.map_none, Option.bind_some, List.map_cons, List.map_nil, List.length_cons, List.length_nil, List.length_append, List.length_map, List.length_set, List.cons_append, List.nil_append, List.getElem?_cons_zero, List.getElem?_cons_succ, List.set_cons_zero, List.set_cons_succ, if_true, if_false, Bool.false_eq_true, Bool.true_eq_false, Bool.not_true, Bool.not_false, decide_true, decide_false, Nat.reduceEqDiff, Nat.zero_lt_succ, List.replicate_succ, List.replicate_zero, Nat.reduceSub, Nat.reduceAdd, Nat.reduceLT, Nat.reduceLeDiff, Nat.zero_le, id, lstK_ok, tupK_ok]
  refine (digits_ok (n := n + 1) (show v + 1 ≤ 64 by omega)).mono ?_
  rintro w st2 ⟨p5, rfl, x2, l5, g5⟩
  have g4 := x2.2 _ _ g4
  rw [am] at g4
  rw [bm] at g5
  have x2 := x1.trans x2
  try simp -implicitDefEqProofs only [wp_ok, wp_bind, wp_noexc, wp_seq, wp_skip, wp_brk, wp_cnt, wp_retN, wp_ret, wp_set, wp_par, wp_unp, wp_sto, wp_xpr, wp_ite, wp_for, wp_whl, wp_tru, sk_rt, sk_bk, sk_ct, lk_nx, lk_ct, lk_bk, lk_rt, ik_true, ik_false, ev, evs, evo, evi, evc, evd, keyK_str, keyK_int, retK_rt, retK_nx, iteK_true, iteK_false, truK0_bl, truK0_int, truK0_tup, truK0_frl, truK0_non, scK_bl, wp_callK, cmpO, cmp_eq, cmp_ne, cmp_lt, cmp_le, cmp_gt, cmp_ge, cmp_isN, cmp_notN, eqD_int, eqD_str, bin_int, binI_add, binI_sub, of_some, negK_int, setK_nm, setK_tp, setsK, asg, asgs, tgsOf, intK, rngK, srcK, subO, startE, newR, new, bi_int, bi_abs, bi_len_tup, bi_len_frl,  Option.map_some, Option.map_none, Option.bind_some, List.map_cons, List.map_nil, List.length_cons, List.length_nil, List.length_append, List.length_map, List.length_set, List.cons_append, List.nil_append, List.getElem?_cons_zero, List.getElem?_cons_succ, List.set_cons_zero, List.set_cons_succ, if_true, if_false, Bool.false_eq_true, Bool.true_eq_false, Bool.not_true, Bool.not_false, decide_true, decide_false, Nat.reduceEqDiff, Nat.zero_lt_succ, List.replicate_succ, List.replicate_zero, Nat.reduceSub, Nat.reduceAdd, Nat.reduceLT, Nat.reduceLeDiff, Nat.zero_le, id, lstK_ok, tupK_ok]
  rw [sk_nx]
  have i1 : inW (st2 ++ [Ob.lst [W.str "add", W.str "sub", W.str "mul"]]) (.str "sub") (.ref st2.length) = some true := (in_strs (ss := ["add", "sub", "mul"]) getLast (by decide +kernel) (by decide +kernel)).trans (by decide +kernel)
  have e1 : (("sub" : Str) == "add") = false := by decide +kernel
  have e2 : (("sub" : Str) == "sub") = true := by decide +kernel
  have hm := mulS1 (a := a) (b := b) (by have := h.a0; have := h.a1; omega)
  try simp -implicitDefEqProofs only [wp_ok, wp_bind, wp_noexc, wp_seq, wp_skip, wp_brk, wp_cnt, wp_retN, wp_ret, wp_set, wp_par, wp_unp, wp_sto, wp_xpr, wp_ite, wp_for, wp_whl, wp_tru, sk_rt, sk_bk, sk_ct, lk_nx, lk_ct, lk_bk, lk_rt, ik_true, ik_false, ev, evs, evo, evi, evc, evd, keyK_str, keyK_int, retK_rt, retK_nx, iteK_true, iteK_false, truK0_bl, truK0_int, truK0_tup, truK0_frl, truK0_non, scK_bl, wp_callK, cmpO, cmp_eq, cmp_ne, cmp_lt, cmp_le, cmp_gt, cmp_ge, cmp_isN, cmp_notN, eqD_int, eqD_str, bin_int, binI_add, binI_sub, of_some, negK_int, setK_nm, setK_tp, setsK, asg, asgs, tgsOf, intK, rngK, srcK, subO, startE, newR, new, bi_int, bi_abs, bi_len_tup, bi_len_frl,  Option.map_some, Option.map_none, Option.bind_some, List.map_cons, List.map_nil, List.length_cons, List.length_nil, List.length_append, List.length_map, List.length_set, List.cons_append, List.nil_append, List.getElem?_cons_zero, List.getElem?_cons_succ, List.set_cons_zero, List.set_cons_succ, if_true, if_false, Bool.false_eq_true, Bool.true_eq_false, Bool.not_true, Bool.not_false, decide_true, decide_false, Nat.reduceEqDiff, Nat.zero_lt_succ, List.replicate_succ, List.replicate_zero, Nat.reduceSub, Nat.reduceAdd, Nat.reduceLT, Nat.reduceLeDiff, Nat.zero_le, id, lstK_ok, tupK_ok, cmp_in, i1, e1, e2, hm]
  refine db_ok (n := n + 1) (show v + 1 ≤ 64 by omega) fun st3 x3 => ?_
  try simp -implicitDefEqProofs only [wp_ok, wp_bind, wp_noexc, wp_seq, wp_skip, wp_brk, wp_cnt, wp_retN, wp_ret, wp_set, wp_par, wp_unp, wp_sto, wp_xpr, wp_ite, wp_for, wp_whl, wp_tru, sk_rt, sk_bk, sk_ct, lk_nx, lk_ct, lk_bk, lk_rt, ik_true, ik_false, ev, evs, evo, evi, evc, evd, keyK_str, keyK_int, retK_rt, retK_nx, iteK_true, iteK_false, truK0_bl, truK0_int, truK0_tup, truK0_frl, truK0_non, scK_bl, wp_callK, cmpO, cmp_eq, cmp_ne, cmp_lt, cmp_le, cmp_gt, cmp_ge, cmp_isN, cmp_notN, eqD_int, eqD_str, bin_int, binI_add, binI_sub, of_some, negK_int, setK_nm, setK_tp, setsK, asg, asgs, tgsOf, intK, rngK, srcK, subO, startE, newR, new, bi_int, bi_abs, bi_len_tup, bi_len_frl,  Option.map_some, Option.map_none, Option.bind_some, List.map_cons, List.map_nil, List.length_cons, List.length_nil, List.length_append, List.length_map, List.length_set, List.cons_append, List.nil_append, List.getElem?_cons_zero, List.getElem?_cons_succ, List.set_cons_zero, List.set_cons_succ, if_true, if_false, Bool.false_eq_true, Bool.true_eq_false, Bool.not_true, Bool.not_false, decide_true, decide_false, Nat.reduceEqDiff, Nat.zero_lt_succ, List.replicate_succ, List.replicate_zero, Nat.reduceSub, Nat.reduceAdd, Nat.reduceLT, Nat.reduceLeDiff, Nat.zero_le, id, lstK_ok, tupK_ok]
  exact ⟨by first | rfl | trivial, x2.trans (Ext.new.trans x3)⟩

theorem due_mul (h : Ab v a b) : Wp (Ci.run tab (n + 4) 21 [.str "mul", .int ((v + 1 : Nat) : Int), .int a, .int b] st) fun w st' => w = v_mul v a b ∧ Ext st st' := by
  refine wp_run (d := d21) rfl rfl ?_
  show Wp (ex _ c21 _ _) _
  unfold c21 v_mul
  have hv := h.hv
  have am : a % 2 ^ (v + 1) = a := Int.emod_eq_of_lt h.a0 h.a1
  have bm : b % 2 ^ (v + 1) = b := Int.emod_eq_of_lt h.b0 h.b1
  have hp := p64 h.hv
  try simp -implicitDefEqProofs only [wp_ok, wp_bind, wp_noexc, wp_seq, wp_skip, wp_brk, wp_cnt, wp_retN, wp_ret, wp_set, wp_par, wp_unp, wp_sto, wp_xpr, wp_ite, wp_for, wp_whl, wp_tru, sk_rt, sk_bk, sk_ct, lk_nx, lk_ct, lk_bk, lk_rt, ik_true, ik_false, ev, evs, evo, evi, evc, evd, keyK_str, keyK_int, retK_rt, retK_nx, iteK_true, iteK_false, truK0_bl, truK0_int, truK0_tup, truK0_frl, truK0_non, scK_bl, wp_callK, cmpO, cmp_eq, cmp_ne, cmp_lt, cmp_le, cmp_gt, cmp_ge, cmp_isN, cmp_notN, eqD_int, eqD_str, bin_int, binI_add, binI_sub, of_some, negK_int, setK_nm, setK_tp, setsK, asg, asgs, tgsOf, intK, rngK, srcK, subO, startE, newR, new, bi_int, bi_abs, bi_len_tup, bi_len_frl,  Option.map_some, Option.map_none, Option.bind_some, List.map_cons, List.map_nil, List.length_cons, List.length_nil, List.length_append, List.length_map, List.length_set, List.cons_append, List.nil_append, List.getElem?_cons_zero, List.getElem?_cons_succ, List.set_cons_zero, List.set_cons_succ, if_true, if_false, Bool.false_eq_true, Bool.true_eq_false, Bool.not_true, Bool.not_false, decide_true, decide_false, Nat.reduceEqDiff, Nat.zero_lt_succ, List.replicate_succ, List.replicate_zero, Nat.reduceSub, Nat.reduceAdd, Nat.reduceLT, Nat.reduceLeDiff, Nat.zero_le, id, lstK_ok, tupK_ok, d21]
  refine (digits_ok (n := n + 1) (show v + 1 ≤ 64 by omega)).mono ?_
  rintro w st1 ⟨p4, rfl, x1, l4, g4⟩
  try simp -implicitDefEqProofs only [wp_ok, wp_bind, wp_noexc, wp_seq, wp_skip, wp_brk, wp_cnt, wp_retN, wp_ret, wp_set, wp_par, wp_unp, wp_sto, wp_xpr, wp_ite, wp_for, wp_whl, wp_tru, sk_rt, sk_bk, sk_ct, lk_nx, lk_ct, lk_bk, lk_rt, ik_true, ik_false, ev, evs, evo, evi, evc, evd, keyK_str, keyK_int, retK_rt, retK_nx, iteK_true, iteK_false, truK0_bl, truK0_int, truK0_tup, truK0_frl, truK0_non, scK_bl, wp_callK, cmpO, cmp_eq, cmp_ne, cmp_lt, cmp_le, cmp_gt, cmp_ge, cmp_isN, cmp_notN, eqD_int, eqD_str, bin_int, binI_add, binI_sub, of_some, negK_int, setK_nm, setK_tp, setsK, asg, asgs, tgsOf, intK, rngK, srcK, subO, startE, newR, new, bi_int, bi_abs, bi_len_tup, bi_len_frl,  Option.map_some, Option.map_none, Option.bind_some, List.map_cons, List.map_nil, List.length_cons, List.length_nil, List.length_append, List.length_map, List.length_set, List.cons_append, List.nil_append, List.getElem?_cons_zero, List.getElem?_cons_succ, List.set_cons_zero, List.set_cons_succ, if_true, if_false, Bool.false_eq_true, Bool.true_eq_false, Bool.not_true, Bool.not_false, decide_true, decide_false, Nat.reduceEqDiff, Nat.zero_lt_succ, List.replicate_succ, List.replicate_zero, Nat.reduceSub, Nat.reduceAdd, Nat.reduceLT, Nat.reduceLeDiff, Nat.zero_le, id, lstK_ok, tupK_ok]
  refine (digits_ok (n := n + 1) (show v + 1 ≤ 64 by omega)).mono ?_
  rintro w st2 ⟨p5, rfl, x2, l5, g5⟩
  have g4 := x2.2 _ _ g4
  rw [am] at g4
  rw [bm] at g5
  have x2 := x1.trans x2
  try simp -implicitDefEqProofs only [wp_ok, wp_bind, wp_noexc, wp_seq, wp_skip, wp_brk, wp_cnt, wp_retN, wp_ret, wp_set, wp_par, wp_unp, wp_sto, wp_xpr, wp_ite, wp_for, wp_whl, wp_tru, sk_rt, sk_bk, sk_ct, lk_nx, lk_ct, lk_bk, lk_rt, ik_true, ik_false, ev, evs, evo, evi, evc, evd, keyK_str, keyK_int, retK_rt, retK_nx, iteK_true, iteK_false, truK0_bl, truK0_int, truK0_tup, truK0_frl, truK0_non, scK_bl, wp_callK, cmpO, cmp_eq, cmp_ne, cmp_lt, cmp_le, cmp_gt, cmp_ge, cmp_isN, cmp_notN, eqD_int, eqD_str, bin_int, binI_add, binI_sub, of_some, negK_int, setK_nm, setK_tp, setsK, asg, asgs, tgsOf, intK, rngK, srcK, subO, startE, newR, new, bi_int, bi_abs, bi_len_tup, bi_len_frl,  Option.map_some, Option.map_none, Option.bind_some, List.map_cons, List.map_nil, List.length_cons, List.length_nil, List.length_append, List.length_map, List.length_set, List.cons_append, List.nil_append, List.getElem?_cons_zero, List.getElem?_cons_succ, List.set_cons_zero, List.set_cons_succ, if_true, if_false, Bool.false_eq_true, Bool.true_eq_false, Bool.not_true, Bool.not_false, decide_true, decide_false, Nat.reduceEqDiff, Nat.zero_lt_succ, List.replicate_succ, List.replicate_zero, Nat.reduceSub, Nat.reduceAdd, Nat.reduceLT, Nat.reduceLeDiff, Nat.zero_le, id, lstK_ok, tupK_ok]
  rw [sk_nx]
  have i1 : inW (st2 ++ [Ob.lst [W.str "add", W.str "sub", W.str "mul"]]) (.str "mul") (.ref st2.length) = some true := (in_strs (ss := ["add", "sub", "mul"]) getLast (by decide +kernel) (by decide +kernel)).trans (by decide +kernel)
  have e1 : (("mul" : Str) == "add") = false := by decide +kernel
  have e2 : (("mul" : Str) == "sub") = false := by decide +kernel
  have hm := mulS1 (a := a) (b := b) (by have := h.a0; have := h.a1; omega)
  try simp -implicitDefEqProofs only [wp_ok, wp_bind, wp_noexc, wp_seq, wp_skip, wp_brk, wp_cnt, wp_retN, wp_ret, wp_set, wp_par, wp_unp, wp_sto, wp_xpr, wp_ite, wp_for, wp_whl, wp_tru, sk_rt, sk_bk, sk_ct, lk_nx, lk_ct, lk_bk, lk_rt, ik_true, ik_false, ev, evs, evo, evi, evc, evd, keyK_str, keyK_int, retK_rt, retK_nx, iteK_true, iteK_false, truK0_bl, truK0_int, truK0_tup, truK0_frl, truK0_non, scK_bl, wp_callK, cmpO, cmp_eq, cmp_ne, cmp_lt, cmp_le, cmp_gt, cmp_ge, cmp_isN, cmp_notN, eqD_int, eqD_str, bin_int, binI_add, binI_sub, of_some, negK_int, setK_nm, setK_tp, setsK, asg, asgs, tgsOf, intK, rngK, srcK, subO, startE, newR, new, bi_int, bi_abs, bi_len_tup, bi_len_frl,  Option.map_some, Option.map_none, Option.bind_some, List.map_cons, List.map_nil, List.length_cons, List.length_nil, List.length_append, List.length_map, List.length_set, List.cons_append, List.nil_append, List.getElem?_cons_zero, List.getElem?_cons_succ, List.set_cons_zero, List.set_cons_succ, if_true, if_false, Bool.false_eq_true, Bool.true_eq_false, Bool.not_true, Bool.not_false, decide_true, decide_false, Nat.reduceEqDiff, Nat.zero_lt_succ, List.replicate_succ, List.replicate_zero, Nat.reduceSub, Nat.reduceAdd, Nat.reduceLT, Nat.reduceLeDiff, Nat.zero_le, id, lstK_ok, tupK_ok, cmp_in, i1, e1, e2, hm]
  refine db_ok (n := n + 1) (show v + 1 ≤ 64 by omega) fun st3 x3 => ?_
  try simp -implicitDefEqProofs only [wp_ok, wp_bind, wp_noexc, wp_seq, wp_skip, wp_brk, wp_cnt, wp_retN, wp_ret, wp_set, wp_par, wp_unp, wp_sto, wp_xpr, wp_ite, wp_for, wp_whl, wp_tru, sk_rt, sk_bk, sk_ct, lk_nx, lk_ct, lk_bk, lk_rt, ik_true, ik_false, ev, evs, evo, evi, evc, evd, keyK_str, keyK_int, retK_rt, retK_nx, iteK_true, iteK_false, truK0_bl, truK0_int, truK0_tup, truK0_frl, truK0_non, scK_bl, wp_callK, cmpO, cmp_eq, cmp_ne, cmp_lt, cmp_le, cmp_gt, cmp_ge, cmp_isN, cmp_notN, eqD_int, eqD_str, bin_int, binI_add, binI_sub, of_some, negK_int, setK_nm, setK_tp, setsK, asg, asgs, tgsOf, intK, rngK, srcK, subO, startE, newR, new, bi_int, bi_abs, bi_len_tup, bi_len_frl,  Option.map_some, Option.map_none, Option.bind_some, List.map_cons, List.map_nil, List.length_cons, List.length_nil, List.length_append, List.length_map, List.length_set, List.cons_append, List.nil_append, List.getElem?_cons_zero, List.getElem?_cons_succ, List.set_cons_zero, List.set_cons_succ, if_true, if_false, Bool.false_eq_true, Bool.true_eq_false, Bool.not_true, Bool.not_false, decide_true, decide_false, Nat.reduceEqDiff, Nat.zero_lt_succ, List.replicate_succ, List.replicate_zero, Nat.reduceSub, Nat.reduceAdd, Nat.reduceLT, Nat.reduceLeDiff, Nat.zero_le, id, lstK_ok, tupK_ok]
  exact ⟨by first | rfl | trivial, x2.trans (Ext.new.trans x3)⟩

theorem due_udiv (h : Ab v a b) : Wp (Ci.run tab (n + 4) 21 [.str "udiv", .int ((v + 1 : Nat) : Int), .int a, .int b] st) fun w st' => w = v_udiv v a b ∧ Ext st st' := by
  refine wp_run (d := d21) rfl rfl ?_
  show Wp (ex _ c21 _ _) _
  unfold c21 v_udiv
  have hv := h.hv
  have am : a % 2 ^ (v + 1) = a := Int.emod_eq_of_lt h.a0 h.a1
  have bm : b % 2 ^ (v + 1) = b := Int.emod_eq_of_lt h.b0 h.b1
  have hp := p64 h.hv
  try simp -implicitDefEqProofs only [wp_ok, wp_bind, wp_noexc, wp_seq, wp_skip, wp_brk, wp_cnt, wp_retN, wp_ret, wp_set, wp_par, wp_unp, wp_sto, wp_xpr, wp_ite, wp_for, wp_whl, wp_tru, sk_rt, sk_bk, sk_ct, lk_nx, lk_ct, lk_bk, lk_rt, ik_true, ik_false, ev, evs, evo, evi, evc, evd, keyK_str, keyK_int, retK_rt, retK_nx, iteK_true, iteK_false, truK0_bl, truK0_int, truK0_tup, truK0_frl, truK0_non, scK_bl, wp_callK, cmpO, cmp_eq, cmp_ne, cmp_lt, cmp_le, cmp_gt, cmp_ge, cmp_isN, cmp_notN, eqD_int, eqD_str, bin_int, binI_add, binI_sub, of_some, negK_int, setK_nm, setK_tp, setsK, asg, asgs, tgsOf, intK, rngK, srcK, subO, startE, newR, new, bi_int, bi_abs, bi_len_tup, bi_len_frl,  Option.map_some, Option.map_none, Option.bind_some, List.map_cons, List.map_nil, List.length_cons, List.length_nil, List.length_append, List.length_map, List.length_set, List.cons_append, List.nil_append, List.getElem?_cons_zero, List.getElem?_cons_succ, List.set_cons_zero, List.set_cons_succ, if_true, if_false, Bool.false_eq_true, Bool.true_eq_false, Bool.not_true, Bool.not_false, decide_true, decide_false, Nat.reduceEqDiff, Nat.zero_lt_succ, List.replicate_succ, List.replicate_zero, Nat.reduceSub, Nat.reduceAdd, Nat.reduceLT, Nat.reduceLeDiff, Nat.zero_le, id, lstK_ok, tupK_ok, d21]
  refine (digits_ok (n := n + 1) (show v + 1 ≤ 64 by omega)).mono ?_
  rintro w st1 ⟨p4, rfl, x1, l4, g4⟩
  try simp -implicitDefEqProofs only [wp_ok, wp_bind, wp_noexc, wp_seq, wp_skip, wp_brk, wp_cnt, wp_retN, wp_ret, wp_set, wp_par, wp_unp, wp_sto, wp_xpr, wp_ite, wp_for, wp_whl, wp_tru, sk_rt, sk_bk, sk_ct, lk_nx, lk_ct, lk_bk, lk_rt, ik_true, ik_false, ev, evs, evo, evi, evc, evd, keyK_str, keyK_int, retK_rt, retK_nx, iteK_true, iteK_false, truK0_bl, truK0_int, truK0_tup, truK0_frl, truK0_non, scK_bl, wp_callK, cmpO, cmp_eq, cmp_ne, cmp_lt, cmp_le, cmp_gt, cmp_ge, cmp_isN, cmp_notN, eqD_int, eqD_str, bin_int, binI_add, binI_sub, of_some, negK_int, setK_nm, setK_tp, setsK, asg, asgs, tgsOf, intK, rngK, srcK, subO, startE, newR, new, bi_int, bi_abs, bi_len_tup, bi_len_frl,  Option.map_some, Option.map_none, Option.bind_some, List.map_cons, List.map_nil, List.length_cons, List.length_nil, List.length_append, List.length_map, List.length_set, List.cons_append, List.nil_append, List.getElem?_cons_zero, List.getElem?_cons_succ, List.set_cons_zero, List.set_cons_succ, if_true, if_false, Bool.false_eq_true, Bool.true_eq_false, Bool.not_true, Bool.not_false, decide_true, decide_false, Nat.reduceEqDiff, Nat.zero_lt_succ, List.replicate_succ, List.replicate_zero, Nat.reduceSub, Nat.reduceAdd, Nat.reduceLT, Nat.reduceLeDiff, Nat.zero_le, id, lstK_ok, tupK_ok]
  refine (digits_ok (n := n + 1) (show v + 1 ≤ 64 by omega)).mono ?_
  rintro w st2 ⟨p5, rfl, x2, l5, g5⟩
  have g4 := x2.2 _ _ g4
  rw [am] at g4
  rw [bm] at g5
  have x2 := x1.trans x2
  try simp -implicitDefEqProofs only [wp_ok, wp_bind, wp_noexc, wp_seq, wp_skip, wp_brk, wp_cnt, wp_retN, wp_ret, wp_set, wp_par, wp_unp, wp_sto, wp_xpr, wp_ite, wp_for, wp_whl, wp_tru, sk_rt, sk_bk, sk_ct, lk_nx, lk_ct, lk_bk, lk_rt, ik_true, ik_false, ev, evs, evo, evi, evc, evd, keyK_str, keyK_int, retK_rt, retK_nx, iteK_true, iteK_false, truK0_bl, truK0_int, truK0_tup, truK0_frl, truK0_non, scK_bl, wp_callK, cmpO, cmp_eq, cmp_ne, cmp_lt, cmp_le, cmp_gt, cmp_ge, cmp_isN, cmp_notN, eqD_int, eqD_str, bin_int, binI_add, binI_sub, of_some, negK_int, setK_nm, setK_tp, setsK, asg, asgs, tgsOf, intK, rngK, srcK, subO, startE, newR, new, bi_int, bi_abs, bi_len_tup, bi_len_frl,  Option.map_some, Option.map_none, Option.bind_some, List.map_cons, List.map_nil, List.length_cons, List.length_nil, List.length_append, List.length_map, List.length_set, List.cons_append, List.nil_append, List.getElem?_cons_zero, List.getElem?_cons_succ, List.set_cons_zero, List.set_cons_succ, if_true, if_false, Bool.false_eq_true, Bool.true_eq_false, Bool.not_true, Bool.not_false, decide_true, decide_false, Nat.reduceEqDiff, Nat.zero_lt_succ, List.replicate_succ, List.replicate_zero, Nat.reduceSub, Nat.reduceAdd, Nat.reduceLT, Nat.reduceLeDiff, Nat.zero_le, id, lstK_ok, tupK_ok]
  rw [sk_nx]
  have i1 : inW (st2 ++ [Ob.lst [W.str "add", W.str "sub", W.str "mul"]]) (.str "udiv") (.ref st2.length) = some false := (in_strs (ss := ["add", "sub", "mul"]) getLast (by decide +kernel) (by decide +kernel)).trans (by decide +kernel)
  try simp -implicitDefEqProofs only [wp_ok, wp_bind, wp_noexc, wp_seq, wp_skip, wp_brk, wp_cnt, wp_retN, wp_ret, wp_set, wp_par, wp_unp, wp_sto, wp_xpr, wp_ite, wp_for, wp_whl, wp_tru, sk_rt, sk_bk, sk_ct, lk_nx, lk_ct, lk_bk, lk_rt, ik_true, ik_false, ev, evs, evo, evi, evc, evd, keyK_str, keyK_int, retK_rt, retK_nx, iteK_true, iteK_false, truK0_bl, truK0_int, truK0_tup, truK0_frl, truK0_non, scK_bl, wp_callK, cmpO, cmp_eq, cmp_ne, cmp_lt, cmp_le, cmp_gt, cmp_ge, cmp_isN, cmp_notN, eqD_int, eqD_str, bin_int, binI_add, binI_sub, of_some, negK_int, setK_nm, setK_tp, setsK, asg, asgs, tgsOf, intK, rngK, srcK, subO, startE, newR, new, bi_int, bi_abs, bi_len_tup, bi_len_frl,  Option.map_some, Option.map_none, Option.bind_some, List.map_cons, List.map_nil, List.length_cons, List.length_nil, List.length_append, List.length_map, List.length_set, List.cons_append, List.nil_append, List.getElem?_cons_zero, List.getElem?_cons_succ, List.set_cons_zero, List.set_cons_succ, if_true, if_false, Bool.false_eq_true, Bool.true_eq_false, Bool.not_true, Bool.not_false, decide_true, decide_false, Nat.reduceEqDiff, Nat.zero_lt_succ, List.replicate_succ, List.replicate_zero, Nat.reduceSub, Nat.reduceAdd, Nat.reduceLT, Nat.reduceLeDiff, Nat.zero_le, id, lstK_ok, tupK_ok, cmp_in, i1]
  rw [sk_nx]
  obtain ⟨st3, hs3⟩ : ∃ x : Sto, x = st2 ++ [Ob.lst [W.str "add", W.str "sub", W.str "mul"]] := ⟨_, rfl⟩
  have x3 : Ext st2 st3 := by rw [hs3]; exact Ext.new
  rw [← hs3]
  have g4 := x3.2 _ _ g4
  have g5 := x3.2 _ _ g5
  have x3 := x2.trans x3
  have i2 : inW (st3 ++ [Ob.lst [W.str "udiv", W.str "urem", W.str "sdiv", W.str "srem"]]) (.str "udiv") (.ref st3.length) = some true := (in_strs (ss := ["udiv", "urem", "sdiv", "srem"]) getLast (by decide +kernel) (by decide +kernel)).trans (by decide +kernel)
  try simp -implicitDefEqProofs only [wp_ok, wp_bind, wp_noexc, wp_seq, wp_skip, wp_brk, wp_cnt, wp_retN, wp_ret, wp_set, wp_par, wp_unp, wp_sto, wp_xpr, wp_ite, wp_for, wp_whl, wp_tru, sk_rt, sk_bk, sk_ct, lk_nx, lk_ct, lk_bk, lk_rt, ik_true, ik_false, ev, evs, evo, evi, evc, evd, keyK_str, keyK_int, retK_rt, retK_nx, iteK_true, iteK_false, truK0_bl, truK0_int, truK0_tup, truK0_frl, truK0_non, scK_bl, wp_callK, cmpO, cmp_eq, cmp_ne, cmp_lt, cmp_le, cmp_gt, cmp_ge, cmp_isN, cmp_notN, eqD_int, eqD_str, bin_int, binI_add, binI_sub, of_some, negK_int, setK_nm, setK_tp, setsK, asg, asgs, tgsOf, intK, rngK, srcK, subO, startE, newR, new, bi_int, bi_abs, bi_len_tup, bi_len_frl,  Option.map_some, Option.map_none, Option.bind_some, List.map_cons, List.map_nil, List.length_cons, List.length_nil, List.length_append, List.length_map, List.length_set, List.cons_append, List.nil_append, List.getElem?_cons_zero, List.getElem?_cons_succ, List.set_cons_zero, List.set_cons_succ, if_true, if_false, Bool.false_eq_true, Bool.true_eq_false, Bool.not_true, Bool.not_false, decide_true, decide_false, Nat.reduceEqDiff, Nat.zero_lt_succ, List.replicate_succ, List.replicate_zero, Nat.reduceSub, Nat.reduceAdd, Nat.reduceLT, Nat.reduceLeDiff, Nat.zero_le, id, lstK_ok, tupK_ok, cmp_in, i2]
  obtain ⟨st4, hs4⟩ : ∃ x : Sto, x = st3 ++ [Ob.lst [W.str "udiv", W.str "urem", W.str "sdiv", W.str "srem"]] := ⟨_, rfl⟩
  have x4 : Ext st3 st4 := by rw [hs4]; exact Ext.new
  rw [← hs4]
  have g4 := x4.2 _ _ g4
  have g5 := x4.2 _ _ g5
  have x4 := x3.trans x4
  have c0 : ∀ s : Sto, sub s (.str "udiv") (.int 0) = some (.str "u") := fun _ => rfl
  have c1 : ∀ s : Sto, slW (.str "udiv") (some 1) none s = some (.str "div", s) := fun _ => rfl
  have e1 : (("u" : Str) == "u") = true := by decide +kernel
  have e2 : (("div" : Str) == "div") = true := by decide +kernel
  by_cases z : b = 0
  · try simp -implicitDefEqProofs only [wp_ok, wp_bind, wp_noexc, wp_seq, wp_skip, wp_brk, wp_cnt, wp_retN, wp_ret, wp_set, wp_par, wp_unp, wp_sto, wp_xpr, wp_ite, wp_for, wp_whl, wp_tru, sk_rt, sk_bk, sk_ct, lk_nx, lk_ct, lk_bk, lk_rt, ik_true, ik_false, ev, evs, evo, evi, evc, evd, keyK_str, keyK_int, retK_rt, retK_nx, iteK_true, iteK_false, truK0_bl, truK0_int, truK0_tup, truK0_frl, truK0_non, scK_bl, wp_callK, cmpO, cmp_eq, cmp_ne, cmp_lt, cmp_le, cmp_gt, cmp_ge, cmp_isN, cmp_notN, eqD_int, eqD_str, bin_int, binI_add, binI_sub, of_some, negK_int, setK_nm, setK_tp, setsK, asg, asgs, tgsOf, intK, rngK, srcK, subO, startE, newR, new, bi_int, bi_abs, bi_len_tup, bi_len_frl,  Option.map_some, Option.map_none, Option.bind_some, List.map_cons, List.map_nil, List.length_cons, List.length_nil, List.length_append, List.length_map, List.length_set, List.cons_append, List.nil_append, List.getElem?_cons_zero, List.getElem?_cons_succ, List.set_cons_zero, List.set_cons_succ, if_true, if_false, Bool.false_eq_true, Bool.true_eq_false, Bool.not_true, Bool.not_false, decide_true, decide_false, Nat.reduceEqDiff, Nat.zero_lt_succ, List.replicate_succ, List.replicate_zero, Nat.reduceSub, Nat.reduceAdd, Nat.reduceLT, Nat.reduceLeDiff, Nat.zero_le, id, lstK_ok, tupK_ok, z, beq_self_eq_true, if_true]
    exact ⟨by first | rfl | trivial, x4⟩
  rw [if_neg z]
  try simp -implicitDefEqProofs only [wp_ok, wp_bind, wp_noexc, wp_seq, wp_skip, wp_brk, wp_cnt, wp_retN, wp_ret, wp_set, wp_par, wp_unp, wp_sto, wp_xpr, wp_ite, wp_for, wp_whl, wp_tru, sk_rt, sk_bk, sk_ct, lk_nx, lk_ct, lk_bk, lk_rt, ik_true, ik_false, ev, evs, evo, evi, evc, evd, keyK_str, keyK_int, retK_rt, retK_nx, iteK_true, iteK_false, truK0_bl, truK0_int, truK0_tup, truK0_frl, truK0_non, scK_bl, wp_callK, cmpO, cmp_eq, cmp_ne, cmp_lt, cmp_le, cmp_gt, cmp_ge, cmp_isN, cmp_notN, eqD_int, eqD_str, bin_int, binI_add, binI_sub, of_some, negK_int, setK_nm, setK_tp, setsK, asg, asgs, tgsOf, intK, rngK, srcK, subO, startE, newR, new, bi_int, bi_abs, bi_len_tup, bi_len_frl,  Option.map_some, Option.map_none, Option.bind_some, List.map_cons, List.map_nil, List.length_cons, List.length_nil, List.length_append, List.length_map, List.length_set, List.cons_append, List.nil_append, List.getElem?_cons_zero, List.getElem?_cons_succ, List.set_cons_zero, List.set_cons_succ, if_true, if_false, Bool.false_eq_true, Bool.true_eq_false, Bool.not_true, Bool.not_false, decide_true, decide_false, Nat.reduceEqDiff, Nat.zero_lt_succ, List.replicate_succ, List.replicate_zero, Nat.reduceSub, Nat.reduceAdd, Nat.reduceLT, Nat.reduceLeDiff, Nat.zero_le, id, lstK_ok, tupK_ok, beq_eq_false_iff_ne.mpr z]
  rw [sk_nx]
  have hb : 0 < b := by have := h.b0; omega
  have hs2 := p2s (v + 1)
  have aa : (if a < 0 then -a else a) = a := by have := h.a0; rw [if_neg (by omega)]
  have bb : (if b < 0 then -b else b) = b := by rw [if_neg (by omega)]
  try simp -implicitDefEqProofs only [wp_ok, wp_bind, wp_noexc, wp_seq, wp_skip, wp_brk, wp_cnt, wp_retN, wp_ret, wp_set, wp_par, wp_unp, wp_sto, wp_xpr, wp_ite, wp_for, wp_whl, wp_tru, sk_rt, sk_bk, sk_ct, lk_nx, lk_ct, lk_bk, lk_rt, ik_true, ik_false, ev, evs, evo, evi, evc, evd, keyK_str, keyK_int, retK_rt, retK_nx, iteK_true, iteK_false, truK0_bl, truK0_int, truK0_tup, truK0_frl, truK0_non, scK_bl, wp_callK, cmpO, cmp_eq, cmp_ne, cmp_lt, cmp_le, cmp_gt, cmp_ge, cmp_isN, cmp_notN, eqD_int, eqD_str, bin_int, binI_add, binI_sub, of_some, negK_int, setK_nm, setK_tp, setsK, asg, asgs, tgsOf, intK, rngK, srcK, subO, startE, newR, new, bi_int, bi_abs, bi_len_tup, bi_len_frl,  Option.map_some, Option.map_none, Option.bind_some, List.map_cons, List.map_nil, List.length_cons, List.length_nil, List.length_append, List.length_map, List.length_set, List.cons_append, List.nil_append, List.getElem?_cons_zero, List.getElem?_cons_succ, List.set_cons_zero, List.set_cons_succ, if_true, if_false, Bool.false_eq_true, Bool.true_eq_false, Bool.not_true, Bool.not_false, decide_true, decide_false, Nat.reduceEqDiff, Nat.zero_lt_succ, List.replicate_succ, List.replicate_zero, Nat.reduceSub, Nat.reduceAdd, Nat.reduceLT, Nat.reduceLeDiff, Nat.zero_le, id, lstK_ok, tupK_ok, c0, e1]
  rw [sk_nx]
  try simp -implicitDefEqProofs only [wp_ok, wp_bind, wp_noexc, wp_seq, wp_skip, wp_brk, wp_cnt, wp_retN, wp_ret, wp_set, wp_par, wp_unp, wp_sto, wp_xpr, wp_ite, wp_for, wp_whl, wp_tru, sk_rt, sk_bk, sk_ct, lk_nx, lk_ct, lk_bk, lk_rt, ik_true, ik_false, ev, evs, evo, evi, evc, evd, keyK_str, keyK_int, retK_rt, retK_nx, iteK_true, iteK_false, truK0_bl, truK0_int, truK0_tup, truK0_frl, truK0_non, scK_bl, wp_callK, cmpO, cmp_eq, cmp_ne, cmp_lt, cmp_le, cmp_gt, cmp_ge, cmp_isN, cmp_notN, eqD_int, eqD_str, bin_int, binI_add, binI_sub, of_some, negK_int, setK_nm, setK_tp, setsK, asg, asgs, tgsOf, intK, rngK, srcK, subO, startE, newR, new, bi_int, bi_abs, bi_len_tup, bi_len_frl,  Option.map_some, Option.map_none, Option.bind_some, List.map_cons, List.map_nil, List.length_cons, List.length_nil, List.length_append, List.length_map, List.length_set, List.cons_append, List.nil_append, List.getElem?_cons_zero, List.getElem?_cons_succ, List.set_cons_zero, List.set_cons_succ, if_true, if_false, Bool.false_eq_true, Bool.true_eq_false, Bool.not_true, Bool.not_false, decide_true, decide_false, Nat.reduceEqDiff, Nat.zero_lt_succ, List.replicate_succ, List.replicate_zero, Nat.reduceSub, Nat.reduceAdd, Nat.reduceLT, Nat.reduceLeDiff, Nat.zero_le, id, lstK_ok, tupK_ok, aa, bb]
  refine (times_ok (n := n + 1) (w := v + 1) (by omega) h.a0 (by have := h.a1; omega) hb).mono ?_
  rintro r st5 ⟨rfl, x5⟩
  try simp -implicitDefEqProofs only [wp_ok, wp_bind, wp_noexc, wp_seq, wp_skip, wp_brk, wp_cnt, wp_retN, wp_ret, wp_set, wp_par, wp_unp, wp_sto, wp_xpr, wp_ite, wp_for, wp_whl, wp_tru, sk_rt, sk_bk, sk_ct, lk_nx, lk_ct, lk_bk, lk_rt, ik_true, ik_false, ev, evs, evo, evi, evc, evd, keyK_str, keyK_int, retK_rt, retK_nx, iteK_true, iteK_false, truK0_bl, truK0_int, truK0_tup, truK0_frl, truK0_non, scK_bl, wp_callK, cmpO, cmp_eq, cmp_ne, cmp_lt, cmp_le, cmp_gt, cmp_ge, cmp_isN, cmp_notN, eqD_int, eqD_str, bin_int, binI_add, binI_sub, of_some, negK_int, setK_nm, setK_tp, setsK, asg, asgs, tgsOf, intK, rngK, srcK, subO, startE, newR, new, bi_int, bi_abs, bi_len_tup, bi_len_frl,  Option.map_some, Option.map_none, Option.bind_some, List.map_cons, List.map_nil, List.length_cons, List.length_nil, List.length_append, List.length_map, List.length_set, List.cons_append, List.nil_append, List.getElem?_cons_zero, List.getElem?_cons_succ, List.set_cons_zero, List.set_cons_succ, if_true, if_false, Bool.false_eq_true, Bool.true_eq_false, Bool.not_true, Bool.not_false, decide_true, decide_false, Nat.reduceEqDiff, Nat.zero_lt_succ, List.replicate_succ, List.replicate_zero, Nat.reduceSub, Nat.reduceAdd, Nat.reduceLT, Nat.reduceLeDiff, Nat.zero_le, id, lstK_ok, tupK_ok]
  rw [sk_nx]
  have d1 : decide (a < 0) = false := decide_eq_false (by have := h.a0; omega)
  have d2 : decide (b < 0) = false := decide_eq_false (by omega)
  try simp -implicitDefEqProofs only [wp_ok, wp_bind, wp_noexc, wp_seq, wp_skip, wp_brk, wp_cnt, wp_retN, wp_ret, wp_set, wp_par, wp_unp, wp_sto, wp_xpr, wp_ite, wp_for, wp_whl, wp_tru, sk_rt, sk_bk, sk_ct, lk_nx, lk_ct, lk_bk, lk_rt, ik_true, ik_false, ev, evs, evo, evi, evc, evd, keyK_str, keyK_int, retK_rt, retK_nx, iteK_true, iteK_false, truK0_bl, truK0_int, truK0_tup, truK0_frl, truK0_non, scK_bl, wp_callK, cmpO, cmp_eq, cmp_ne, cmp_lt, cmp_le, cmp_gt, cmp_ge, cmp_isN, cmp_notN, eqD_int, eqD_str, bin_int, binI_add, binI_sub, of_some, negK_int, setK_nm, setK_tp, setsK, asg, asgs, tgsOf, intK, rngK, srcK, subO, startE, newR, new, bi_int, bi_abs, bi_len_tup, bi_len_frl,  Option.map_some, Option.map_none, Option.bind_some, List.map_cons, List.map_nil, List.length_cons, List.length_nil, List.length_append, List.length_map, List.length_set, List.cons_append, List.nil_append, List.getElem?_cons_zero, List.getElem?_cons_succ, List.set_cons_zero, List.set_cons_succ, if_true, if_false, Bool.false_eq_true, Bool.true_eq_false, Bool.not_true, Bool.not_false, decide_true, decide_false, Nat.reduceEqDiff, Nat.zero_lt_succ, List.replicate_succ, List.replicate_zero, Nat.reduceSub, Nat.reduceAdd, Nat.reduceLT, Nat.reduceLeDiff, Nat.zero_le, id, lstK_ok, tupK_ok, d1, d2, eqb]
  rw [sk_nx]
  try simp -implicitDefEqProofs only [wp_ok, wp_bind, wp_noexc, wp_seq, wp_skip, wp_brk, wp_cnt, wp_retN, wp_ret, wp_set, wp_par, wp_unp, wp_sto, wp_xpr, wp_ite, wp_for, wp_whl, wp_tru, sk_rt, sk_bk, sk_ct, lk_nx, lk_ct, lk_bk, lk_rt, ik_true, ik_false, ev, evs, evo, evi, evc, evd, keyK_str, keyK_int, retK_rt, retK_nx, iteK_true, iteK_false, truK0_bl, truK0_int, truK0_tup, truK0_frl, truK0_non, scK_bl, wp_callK, cmpO, cmp_eq, cmp_ne, cmp_lt, cmp_le, cmp_gt, cmp_ge, cmp_isN, cmp_notN, eqD_int, eqD_str, bin_int, binI_add, binI_sub, of_some, negK_int, setK_nm, setK_tp, setsK, asg, asgs, tgsOf, intK, rngK, srcK, subO, startE, newR, new, bi_int, bi_abs, bi_len_tup, bi_len_frl,  Option.map_some, Option.map_none, Option.bind_some, List.map_cons, List.map_nil, List.length_cons, List.length_nil, List.length_append, List.length_map, List.length_set, List.cons_append, List.nil_append, List.getElem?_cons_zero, List.getElem?_cons_succ, List.set_cons_zero, List.set_cons_succ, if_true, if_false, Bool.false_eq_true, Bool.true_eq_false, Bool.not_true, Bool.not_false, decide_true, decide_false, Nat.reduceEqDiff, Nat.zero_lt_succ, List.replicate_succ, List.replicate_zero, Nat.reduceSub, Nat.reduceAdd, Nat.reduceLT, Nat.reduceLeDiff, Nat.zero_le, id, lstK_ok, tupK_ok, c1, e2]
  refine db_ok (n := n + 1) (show v + 1 ≤ 64 by omega) fun st6 x6 => ?_
  try simp -implicitDefEqProofs only [wp_ok, wp_bind, wp_noexc, wp_seq, wp_skip, wp_brk, wp_cnt, wp_retN, wp_ret, wp_set, wp_par, wp_unp, wp_sto, wp_xpr, wp_ite, wp_for, wp_whl, wp_tru, sk_rt, sk_bk, sk_ct, lk_nx, lk_ct, lk_bk, lk_rt, ik_true, ik_false, ev, evs, evo, evi, evc, evd, keyK_str, keyK_int, retK_rt, retK_nx, iteK_true, iteK_false, truK0_bl, truK0_int, truK0_tup, truK0_frl, truK0_non, scK_bl, wp_callK, cmpO, cmp_eq, cmp_ne, cmp_lt, cmp_le, cmp_gt, cmp_ge, cmp_isN, cmp_notN, eqD_int, eqD_str, bin_int, binI_add, binI_sub, of_some, negK_int, setK_nm, setK_tp, setsK, asg, asgs, tgsOf, intK, rngK, srcK, subO, startE, newR, new, bi_int, bi_abs, bi_len_tup, bi_len_frl,  Option.map_some, Option.map_none, Option.bind_some, List.map_cons, List.map_nil, List.length_cons, List.length_nil, List.length_append, List.length_map, List.length_set, List.cons_append, List.nil_append, List.getElem?_cons_zero, List.getElem?_cons_succ, List.set_cons_zero, List.set_cons_succ, if_true, if_false, Bool.false_eq_true, Bool.true_eq_false, Bool.not_true, Bool.not_false, decide_true, decide_false, Nat.reduceEqDiff, Nat.zero_lt_succ, List.replicate_succ, List.replicate_zero, Nat.reduceSub, Nat.reduceAdd, Nat.reduceLT, Nat.reduceLeDiff, Nat.zero_le, id, lstK_ok, tupK_ok]
  have q0 : 0 ≤ a / b := Int.ediv_nonneg h.a0 (by omega)
  have q1 : a / b ≤ a := Int.ediv_le_self _ h.a0
  refine ⟨?_, x4.trans (x5.trans x6)⟩
  rw [Int.emod_eq_of_lt q0 (by have := h.a1; omega)]

theorem due_sdiv (h : Ab v a b) : Wp (Ci.run tab (n + 4) 21 [.str "sdiv", .int ((v + 1 : Nat) : Int), .int a, .int b] st) fun w st' => w = v_sdiv v a b ∧ Ext st st' := by
  refine wp_run (d := d21) rfl rfl ?_
  show Wp (ex _ c21 _ _) _
  unfold c21 v_sdiv
  have hv := h.hv
  have am : a % 2 ^ (v + 1) = a := Int.emod_eq_of_lt h.a0 h.a1
  have bm : b % 2 ^ (v + 1) = b := Int.emod_eq_of_lt h.b0 h.b1
  have hp := p64 h.hv
  try simp -implicitDefEqProofs only [wp_ok, wp_bind, wp_noexc, wp_seq, wp_skip, wp_brk, wp_cnt, wp_retN, wp_ret, wp_set, wp_par, wp_unp, wp_sto, wp_xpr, wp_ite, wp_for, wp_whl, wp_tru, sk_rt, sk_bk, sk_ct, lk_nx, lk_ct, lk_bk, lk_rt, ik_true, ik_false, ev, evs, evo, evi, evc, evd, keyK_str, keyK_int, retK_rt, retK_nx, iteK_true, iteK_false, truK0_bl, truK0_int, truK0_tup, truK0_frl, truK0_non, scK_bl, wp_callK, cmpO, cmp_eq, cmp_ne, cmp_lt, cmp_le, cmp_gt, cmp_ge, cmp_isN, cmp_notN, eqD_int, eqD_str, bin_int, binI_add, binI_sub, of_some, negK_int, setK_nm, setK_tp, setsK, asg, asgs, tgsOf, intK, rngK, srcK, subO, startE, newR, new, bi_int, bi_abs, bi_len_tup, bi_len_frl,  Option.map_some, Option.map_none, Option.bind_some, List.map_cons, List.map_nil, List.length_cons, List.length_nil, List.length_append, List.length_map, List.length_set, List.cons_append, List.nil_append, List.getElem?_cons_zero, List.getElem?_cons_succ, List.set_cons_zero, List.set_cons_succ, if_true, if_false, Bool.false_eq_true, Bool.true_eq_false, Bool.not_true, Bool.not_false, decide_true, decide_false, Nat.reduceEqDiff, Nat.zero_lt_succ, List.replicate_succ, List.replicate_zero, Nat.reduceSub, Nat.reduceAdd, Nat.reduceLT, Nat.reduceLeDiff, Nat.zero_le, id, lstK_ok, tupK_ok, d21]
  refine (digits_ok (n := n + 1) (show v + 1 ≤ 64 by omega)).mono ?_
  rintro w st1 ⟨p4, rfl, x1, l4, g4⟩
  try simp -implicitDefEqProofs only [wp_ok, wp_bind, wp_noexc, wp_seq, wp_skip, wp_brk, wp_cnt, wp_retN, wp_ret, wp_set, wp_par, wp_unp, wp_sto, wp_xpr, wp_ite, wp_for, wp_whl, wp_tru, sk_rt, sk_bk, sk_ct, lk_nx, lk_ct, lk_bk, lk_rt, ik_true, ik_false, ev, evs, evo, evi, evc, evd, keyK_str, keyK_int, retK_rt, retK_nx, iteK_true, iteK_false, truK0_bl, truK0_int, truK0_tup, truK0_frl, truK0_non, scK_bl, wp_callK, cmpO, cmp_eq, cmp_ne, cmp_lt, cmp_le, cmp_gt, cmp_ge, cmp_isN, cmp_notN, eqD_int, eqD_str, bin_int, binI_add, binI_sub, of_some, negK_int, setK_nm, setK_tp, setsK, asg, asgs, tgsOf, intK, rngK, srcK, subO, startE, newR, new, bi_int, bi_abs, bi_len_tup, bi_len_frl,  Option.map_some, Option.map_none, Option.bind_some, List.map_cons, List.map_nil, List.length_cons, List.length_nil, List.length_append, List.length_map, List.length_set, List.cons_append, List.nil_append, List.getElem?_cons_zero, List.getElem?_cons_succ, List.set_cons_zero, List.set_cons_succ, if_true, if_false, Bool.false_eq_true, Bool.true_eq_false, Bool.not_true, Bool.not_false, decide_true, decide_false, Nat.reduceEqDiff, Nat.zero_lt_succ, List.replicate_succ, List.replicate_zero, Nat.reduceSub, Nat.reduceAdd, Nat.reduceLT, Nat.reduceLeDiff, Nat.zero_le, id, lstK_ok, tupK_ok]
  refine (digits_ok (n := n + 1) (show v + 1 ≤ 64 by omega)).mono ?_
  rintro w st2 ⟨p5, rfl, x2, l5, g5⟩
  have g4 := x2.2 _ _ g4
  rw [am] at g4
  rw [bm] at g5
  have x2 := x1.trans x2
  try simp -implicitDefEqProofs only [wp_ok, wp_bind, wp_noexc, wp_seq, wp_skip, wp_brk, wp_cnt, wp_retN, wp_ret, wp_set, wp_par, wp_unp, wp_sto, wp_xpr, wp_ite, wp_for, wp_whl, wp_tru, sk_rt, sk_bk, sk_ct, lk_nx, lk_ct, lk_bk, lk_rt, ik_true, ik_false, ev, evs, evo, evi, evc, evd, keyK_str, keyK_int, retK_rt, retK_nx, iteK_true, iteK_false, truK0_bl, truK0_int, truK0_tup, truK0_frl, truK0_non, scK_bl, wp_callK, cmpO, cmp_eq, cmp_ne, cmp_lt, cmp_le, cmp_gt, cmp_ge, cmp_isN, cmp_notN, eqD_int, eqD_str, bin_int, binI_add, binI_sub, of_some, negK_int, setK_nm, setK_tp, setsK, asg, asgs, tgsOf, intK, rngK, srcK, subO, startE, newR, new, bi_int, bi_abs, bi_len_tup, bi_len_frl,  Option.map_some, Option.map_none, Option.bind_some, List.map_cons, List.map_nil, List.length_cons, List.length_nil, List.length_append, List.length_map, List.length_set, List.cons_append, List.nil_append, List.getElem?_cons_zero, List.getElem?_cons_succ, List.set_cons_zero, List.set_cons_succ, if_true, if_false, Bool.false_eq_true, Bool.true_eq_false, Bool.not_true, Bool.not_false, decide_true, decide_false, Nat.reduceEqDiff, Nat.zero_lt_succ, List.replicate_succ, List.replicate_zero, Nat.reduceSub, Nat.reduceAdd, Nat.reduceLT, Nat.reduceLeDiff, Nat.zero_le, id, lstK_ok, tupK_ok]
  rw [sk_nx]
  have i1 : inW (st2 ++ [Ob.lst [W.str "add", W.str "sub", W.str "mul"]]) (.str "sdiv") (.ref st2.length) = some false := (in_strs (ss := ["add", "sub", "mul"]) getLast (by decide +kernel) (by decide +kernel)).trans (by decide +kernel)
  try simp -implicitDefEqProofs only [wp_ok, wp_bind, wp_noexc, wp_seq, wp_skip, wp_brk, wp_cnt, wp_retN, wp_ret, wp_set, wp_par, wp_unp, wp_sto, wp_xpr, wp_ite, wp_for, wp_whl, wp_tru, sk_rt, sk_bk, sk_ct, lk_nx, lk_ct, lk_bk, lk_rt, ik_true, ik_false, ev, evs, evo, evi, evc, evd, keyK_str, keyK_int, retK_rt, retK_nx, iteK_true, iteK_false, truK0_bl, truK0_int, truK0_tup, truK0_frl, truK0_non, scK_bl, wp_callK, cmpO, cmp_eq, cmp_ne, cmp_lt, cmp_le, cmp_gt, cmp_ge, cmp_isN, cmp_notN, eqD_int, eqD_str, bin_int, binI_add, binI_sub, of_some, negK_int, setK_nm, setK_tp, setsK, asg, asgs, tgsOf, intK, rngK, srcK, subO, startE, newR, new, bi_int, bi_abs, bi_len_tup, bi_len_frl,  Option.map_some, Option.map_none, Option.bind_some, List.map_cons, List.map_nil, List.length_cons, List.length_nil, List.length_append, List.length_map, List.length_set, List.cons_append, List.nil_append, List.getElem?_cons_zero, List.getElem?_cons_succ, List.set_cons_zero, List.set_cons_succ, if_true, if_false, Bool.false_eq_true, Bool.true_eq_false, Bool.not_true, Bool.not_false, decide_true, decide_false, Nat.reduceEqDiff, Nat.zero_lt_succ, List.replicate_succ, List.replicate_zero, Nat.reduceSub, Nat.reduceAdd, Nat.reduceLT, Nat.reduceLeDiff, Nat.zero_le, id, lstK_ok, tupK_ok, cmp_in, i1]
  rw [sk_nx]
  obtain ⟨st3, hs3⟩ : ∃ x : Sto, x = st2 ++ [Ob.lst [W.str "add", W.str "sub", W.str "mul"]] := ⟨_, rfl⟩
  have x3 : Ext st2 st3 := by rw [hs3]; exact Ext.new
  rw [← hs3]
  have g4 := x3.2 _ _ g4
  have g5 := x3.2 _ _ g5
  have x3 := x2.trans x3
  have i2 : inW (st3 ++ [Ob.lst [W.str "udiv", W.str "urem", W.str "sdiv", W.str "srem"]]) (.str "sdiv") (.ref st3.length) = some true := (in_strs (ss := ["udiv", "urem", "sdiv", "srem"]) getLast (by decide +kernel) (by decide +kernel)).trans (by decide +kernel)
  try simp -implicitDefEqProofs only [wp_ok, wp_bind, wp_noexc, wp_seq, wp_skip, wp_brk, wp_cnt, wp_retN, wp_ret, wp_set, wp_par, wp_unp, wp_sto, wp_xpr, wp_ite, wp_for, wp_whl, wp_tru, sk_rt, sk_bk, sk_ct, lk_nx, lk_ct, lk_bk, lk_rt, ik_true, ik_false, ev, evs, evo, evi, evc, evd, keyK_str, keyK_int, retK_rt, retK_nx, iteK_true, iteK_false, truK0_bl, truK0_int, truK0_tup, truK0_frl, truK0_non, scK_bl, wp_callK, cmpO, cmp_eq, cmp_ne, cmp_lt, cmp_le, cmp_gt, cmp_ge, cmp_isN, cmp_notN, eqD_int, eqD_str, bin_int, binI_add, binI_sub, of_some, negK_int, setK_nm, setK_tp, setsK, asg, asgs, tgsOf, intK, rngK, srcK, subO, startE, newR, new, bi_int, bi_abs, bi_len_tup, bi_len_frl,  Option.map_some, Option.map_none, Option.bind_some, List.map_cons, List.map_nil, List.length_cons, List.length_nil, List.length_append, List.length_map, List.length_set, List.cons_append, List.nil_append, List.getElem?_cons_zero, List.getElem?_cons_succ, List.set_cons_zero, List.set_cons_succ, if_true, if_false, Bool.false_eq_true, Bool.true_eq_false, Bool.not_true, Bool.not_false, decide_true, decide_false, Nat.reduceEqDiff, Nat.zero_lt_succ, List.replicate_succ, List.replicate_zero, Nat.reduceSub, Nat.reduceAdd, Nat.reduceLT, Nat.reduceLeDiff, Nat.zero_le, id, lstK_ok, tupK_ok, cmp_in, i2]
  obtain ⟨st4, hs4⟩ : ∃ x : Sto, x = st3 ++ [Ob.lst [W.str "udiv", W.str "urem", W.str "sdiv", W.str "srem"]] := ⟨_, rfl⟩
  have x4 : Ext st3 st4 := by rw [hs4]; exact Ext.new
  rw [← hs4]
  have g4 := x4.2 _ _ g4
  have g5 := x4.2 _ _ g5
  have x4 := x3.trans x4
  have c0 : ∀ s : Sto, sub s (.str "sdiv") (.int 0) = some (.str "s") := fun _ => rfl
  have c1 : ∀ s : Sto, slW (.str "sdiv") (some 1) none s = some (.str "div", s) := fun _ => rfl
  have e1 : (("s" : Str) == "u") = false := by decide +kernel
  have e2 : (("div" : Str) == "div") = true := by decide +kernel
  by_cases z : b = 0
  · try simp -implicitDefEqProofs only [wp_ok, wp_bind, wp_noexc, wp_seq, wp_skip, wp_brk, wp_cnt, wp_retN, wp_ret, wp_set, wp_par, wp_unp, wp_sto, wp_xpr, wp_ite, wp_for, wp_whl, wp_tru, sk_rt, sk_bk, sk_ct, lk_nx, lk_ct, lk_bk, lk_rt, ik_true, ik_false, ev, evs, evo, evi, evc, evd, keyK_str, keyK_int, retK_rt, retK_nx, iteK_true, iteK_false, truK0_bl, truK0_int, truK0_tup, truK0_frl, truK0_non, scK_bl, wp_callK, cmpO, cmp_eq, cmp_ne, cmp_lt, cmp_le, cmp_gt, cmp_ge, cmp_isN, cmp_notN, eqD_int, eqD_str, bin_int, binI_add, binI_sub, of_some, negK_int, setK_nm, setK_tp, setsK, asg, asgs, tgsOf, intK, rngK, srcK, subO, startE, newR, new, bi_int, bi_abs, bi_len_tup, bi_len_frl,  Option.map_some, Option.map_none, Option.bind_some, List.map_cons, List.map_nil, List.length_cons, List.length_nil, List.length_append, List.length_map, List.length_set, List.cons_append, List.nil_append, List.getElem?_cons_zero, List.getElem?_cons_succ, List.set_cons_zero, List.set_cons_succ, if_true, if_false, Bool.false_eq_true, Bool.true_eq_false, Bool.not_true, Bool.not_false, decide_true, decide_false, Nat.reduceEqDiff, Nat.zero_lt_succ, List.replicate_succ, List.replicate_zero, Nat.reduceSub, Nat.reduceAdd, Nat.reduceLT, Nat.reduceLeDiff, Nat.zero_le, id, lstK_ok, tupK_ok, z, beq_self_eq_true, if_true]
    exact ⟨by first | rfl | trivial, x4⟩
  rw [if_neg z]
  try simp -implicitDefEqProofs only [wp_ok, wp_bind, wp_noexc, wp_seq, wp_skip, wp_brk, wp_cnt, wp_retN, wp_ret, wp_set, wp_par, wp_unp, wp_sto, wp_xpr, wp_ite, wp_for, wp_whl, wp_tru, sk_rt, sk_bk, sk_ct, lk_nx, lk_ct, lk_bk, lk_rt, ik_true, ik_false, ev, evs, evo, evi, evc, evd, keyK_str, keyK_int, retK_rt, retK_nx, iteK_true, iteK_false, truK0_bl, truK0_int, truK0_tup, truK0_frl, truK0_non, scK_bl, wp_callK, cmpO, cmp_eq, cmp_ne, cmp_lt, cmp_le, cmp_gt, cmp_ge, cmp_isN, cmp_notN, eqD_int, eqD_str, bin_int, binI_add, binI_sub, of_some, negK_int, setK_nm, setK_tp, setsK, asg, asgs, tgsOf, intK, rngK, srcK, subO, startE, newR, new, bi_int, bi_abs, bi_len_tup, bi_len_frl,  Option.map_some, Option.map_none, Option.bind_some, List.map_cons, List.map_nil, List.length_cons, List.length_nil, List.length_append, List.length_map, List.length_set, List.cons_append, List.nil_append, List.getElem?_cons_zero, List.getElem?_cons_succ, List.set_cons_zero, List.set_cons_succ, if_true, if_false, Bool.false_eq_true, Bool.true_eq_false, Bool.not_true, Bool.not_false, decide_true, decide_false, Nat.reduceEqDiff, Nat.zero_lt_succ, List.replicate_succ, List.replicate_zero, Nat.reduceSub, Nat.reduceAdd, Nat.reduceLT, Nat.reduceLeDiff, Nat.zero_le, id, lstK_ok, tupK_ok, beq_eq_false_iff_ne.mpr z]
  rw [sk_nx]
  have hb : 0 < b := by have := h.b0; omega
  have hs2 := p2s (v + 1)
  try simp -implicitDefEqProofs only [wp_ok, wp_bind, wp_noexc, wp_seq, wp_skip, wp_brk, wp_cnt, wp_retN, wp_ret, wp_set, wp_par, wp_unp, wp_sto, wp_xpr, wp_ite, wp_for, wp_whl, wp_tru, sk_rt, sk_bk, sk_ct, lk_nx, lk_ct, lk_bk, lk_rt, ik_true, ik_false, ev, evs, evo, evi, evc, evd, keyK_str, keyK_int, retK_rt, retK_nx, iteK_true, iteK_false, truK0_bl, truK0_int, truK0_tup, truK0_frl, truK0_non, scK_bl, wp_callK, cmpO, cmp_eq, cmp_ne, cmp_lt, cmp_le, cmp_gt, cmp_ge, cmp_isN, cmp_notN, eqD_int, eqD_str, bin_int, binI_add, binI_sub, of_some, negK_int, setK_nm, setK_tp, setsK, asg, asgs, tgsOf, intK, rngK, srcK, subO, startE, newR, new, bi_int, bi_abs, bi_len_tup, bi_len_frl,  Option.map_some, Option.map_none, Option.bind_some, List.map_cons, List.map_nil, List.length_cons, List.length_nil, List.length_append, List.length_map, List.length_set, List.cons_append, List.nil_append, List.getElem?_cons_zero, List.getElem?_cons_succ, List.set_cons_zero, List.set_cons_succ, if_true, if_false, Bool.false_eq_true, Bool.true_eq_false, Bool.not_true, Bool.not_false, decide_true, decide_false, Nat.reduceEqDiff, Nat.zero_lt_succ, List.replicate_succ, List.replicate_zero, Nat.reduceSub, Nat.reduceAdd, Nat.reduceLT, Nat.reduceLeDiff, Nat.zero_le, id, lstK_ok, tupK_ok, c0, e1]
  refine (read_ok (n := n + 2) h.hv h.a0 h.a1 g4).mono ?_
  rintro r st5 ⟨rfl, rfl⟩
  try simp -implicitDefEqProofs only [wp_ok, wp_bind, wp_noexc, wp_seq, wp_skip, wp_brk, wp_cnt, wp_retN, wp_ret, wp_set, wp_par, wp_unp, wp_sto, wp_xpr, wp_ite, wp_for, wp_whl, wp_tru, sk_rt, sk_bk, sk_ct, lk_nx, lk_ct, lk_bk, lk_rt, ik_true, ik_false, ev, evs, evo, evi, evc, evd, keyK_str, keyK_int, retK_rt, retK_nx, iteK_true, iteK_false, truK0_bl, truK0_int, truK0_tup, truK0_frl, truK0_non, scK_bl, wp_callK, cmpO, cmp_eq, cmp_ne, cmp_lt, cmp_le, cmp_gt, cmp_ge, cmp_isN, cmp_notN, eqD_int, eqD_str, bin_int, binI_add, binI_sub, of_some, negK_int, setK_nm, setK_tp, setsK, asg, asgs, tgsOf, intK, rngK, srcK, subO, startE, newR, new, bi_int, bi_abs, bi_len_tup, bi_len_frl,  Option.map_some, Option.map_none, Option.bind_some, List.map_cons, List.map_nil, List.length_cons, List.length_nil, List.length_append, List.length_map, List.length_set, List.cons_append, List.nil_append, List.getElem?_cons_zero, List.getElem?_cons_succ, List.set_cons_zero, List.set_cons_succ, if_true, if_false, Bool.false_eq_true, Bool.true_eq_false, Bool.not_true, Bool.not_false, decide_true, decide_false, Nat.reduceEqDiff, Nat.zero_lt_succ, List.replicate_succ, List.replicate_zero, Nat.reduceSub, Nat.reduceAdd, Nat.reduceLT, Nat.reduceLeDiff, Nat.zero_le, id, lstK_ok, tupK_ok]
  refine (read_ok (n := n + 2) h.hv h.b0 h.b1 g5).mono ?_
  rintro r st6 ⟨rfl, rfl⟩
  have sa := sgn_ab h.hv h.a0 h.a1
  have sb := sgn_ab h.hv h.b0 h.b1
  have sz := sgn_ne h.b0 h.b1 z
  have bd := sgn_bd h.b0 h.b1
  have pv : (2 : Int) ^ v ≤ 2 ^ 63 := p2_le (by omega)
  have pv2 : (2 : Int) ^ v ≤ 2 ^ (v + 1) := p2_le (by omega)
  have hq : qt (sgn a (v + 1)) (sgn b (v + 1)) = if (decide (sgn a (v + 1) < 0) == decide (sgn b (v + 1) < 0)) = true then ab (sgn a (v + 1)) / ab (sgn b (v + 1)) else -(ab (sgn a (v + 1)) / ab (sgn b (v + 1))) := rfl
  generalize sgn a (v + 1) = s at *
  generalize sgn b (v + 1) = u at *
  try simp -implicitDefEqProofs only [wp_ok, wp_bind, wp_noexc, wp_seq, wp_skip, wp_brk, wp_cnt, wp_retN, wp_ret, wp_set, wp_par, wp_unp, wp_sto, wp_xpr, wp_ite, wp_for, wp_whl, wp_tru, sk_rt, sk_bk, sk_ct, lk_nx, lk_ct, lk_bk, lk_rt, ik_true, ik_false, ev, evs, evo, evi, evc, evd, keyK_str, keyK_int, retK_rt, retK_nx, iteK_true, iteK_false, truK0_bl, truK0_int, truK0_tup, truK0_frl, truK0_non, scK_bl, wp_callK, cmpO, cmp_eq, cmp_ne, cmp_lt, cmp_le, cmp_gt, cmp_ge, cmp_isN, cmp_notN, eqD_int, eqD_str, bin_int, binI_add, binI_sub, of_some, negK_int, setK_nm, setK_tp, setsK, asg, asgs, tgsOf, intK, rngK, srcK, subO, startE, newR, new, bi_int, bi_abs, bi_len_tup, bi_len_frl,  Option.map_some, Option.map_none, Option.bind_some, List.map_cons, List.map_nil, List.length_cons, List.length_nil, List.length_append, List.length_map, List.length_set, List.cons_append, List.nil_append, List.getElem?_cons_zero, List.getElem?_cons_succ, List.set_cons_zero, List.set_cons_succ, if_true, if_false, Bool.false_eq_true, Bool.true_eq_false, Bool.not_true, Bool.not_false, decide_true, decide_false, Nat.reduceEqDiff, Nat.zero_lt_succ, List.replicate_succ, List.replicate_zero, Nat.reduceSub, Nat.reduceAdd, Nat.reduceLT, Nat.reduceLeDiff, Nat.zero_le, id, lstK_ok, tupK_ok]
  rw [sk_nx]
  try simp -implicitDefEqProofs only [wp_ok, wp_bind, wp_noexc, wp_seq, wp_skip, wp_brk, wp_cnt, wp_retN, wp_ret, wp_set, wp_par, wp_unp, wp_sto, wp_xpr, wp_ite, wp_for, wp_whl, wp_tru, sk_rt, sk_bk, sk_ct, lk_nx, lk_ct, lk_bk, lk_rt, ik_true, ik_false, ev, evs, evo, evi, evc, evd, keyK_str, keyK_int, retK_rt, retK_nx, iteK_true, iteK_false, truK0_bl, truK0_int, truK0_tup, truK0_frl, truK0_non, scK_bl, wp_callK, cmpO, cmp_eq, cmp_ne, cmp_lt, cmp_le, cmp_gt, cmp_ge, cmp_isN, cmp_notN, eqD_int, eqD_str, bin_int, binI_add, binI_sub, of_some, negK_int, setK_nm, setK_tp, setsK, asg, asgs, tgsOf, intK, rngK, srcK, subO, startE, newR, new, bi_int, bi_abs, bi_len_tup, bi_len_frl,  Option.map_some, Option.map_none, Option.bind_some, List.map_cons, List.map_nil, List.length_cons, List.length_nil, List.length_append, List.length_map, List.length_set, List.cons_append, List.nil_append, List.getElem?_cons_zero, List.getElem?_cons_succ, List.set_cons_zero, List.set_cons_succ, if_true, if_false, Bool.false_eq_true, Bool.true_eq_false, Bool.not_true, Bool.not_false, decide_true, decide_false, Nat.reduceEqDiff, Nat.zero_lt_succ, List.replicate_succ, List.replicate_zero, Nat.reduceSub, Nat.reduceAdd, Nat.reduceLT, Nat.reduceLeDiff, Nat.zero_le, id, lstK_ok, tupK_ok]
  have p0 := p2 (v + 1)
  refine (times_ok (n := n + 1) (a := ab s) (b := ab u) (w := v + 1) (by omega) ab_nn (by omega) (ab_pos sz)).mono ?_
  rintro r st5 ⟨rfl, x5⟩
  try simp -implicitDefEqProofs only [wp_ok, wp_bind, wp_noexc, wp_seq, wp_skip, wp_brk, wp_cnt, wp_retN, wp_ret, wp_set, wp_par, wp_unp, wp_sto, wp_xpr, wp_ite, wp_for, wp_whl, wp_tru, sk_rt, sk_bk, sk_ct, lk_nx, lk_ct, lk_bk, lk_rt, ik_true, ik_false, ev, evs, evo, evi, evc, evd, keyK_str, keyK_int, retK_rt, retK_nx, iteK_true, iteK_false, truK0_bl, truK0_int, truK0_tup, truK0_frl, truK0_non, scK_bl, wp_callK, cmpO, cmp_eq, cmp_ne, cmp_lt, cmp_le, cmp_gt, cmp_ge, cmp_isN, cmp_notN, eqD_int, eqD_str, bin_int, binI_add, binI_sub, of_some, negK_int, setK_nm, setK_tp, setsK, asg, asgs, tgsOf, intK, rngK, srcK, subO, startE, newR, new, bi_int, bi_abs, bi_len_tup, bi_len_frl,  Option.map_some, Option.map_none, Option.bind_some, List.map_cons, List.map_nil, List.length_cons, List.length_nil, List.length_append, List.length_map, List.length_set, List.cons_append, List.nil_append, List.getElem?_cons_zero, List.getElem?_cons_succ, List.set_cons_zero, List.set_cons_succ, if_true, if_false, Bool.false_eq_true, Bool.true_eq_false, Bool.not_true, Bool.not_false, decide_true, decide_false, Nat.reduceEqDiff, Nat.zero_lt_succ, List.replicate_succ, List.replicate_zero, Nat.reduceSub, Nat.reduceAdd, Nat.reduceLT, Nat.reduceLeDiff, Nat.zero_le, id, lstK_ok, tupK_ok]
  rw [sk_nx, wp_seq, wp_set]
  refine Wp.mono (Q := fun w st' => w = .int (qt s u) ∧ st' = st5) ?_ ?_
  · try simp -implicitDefEqProofs only [wp_ok, wp_bind, wp_noexc, wp_seq, wp_skip, wp_brk, wp_cnt, wp_retN, wp_ret, wp_set, wp_par, wp_unp, wp_sto, wp_xpr, wp_ite, wp_for, wp_whl, wp_tru, sk_rt, sk_bk, sk_ct, lk_nx, lk_ct, lk_bk, lk_rt, ik_true, ik_false, ev, evs, evo, evi, evc, evd, keyK_str, keyK_int, retK_rt, retK_nx, iteK_true, iteK_false, truK0_bl, truK0_int, truK0_tup, truK0_frl, truK0_non, scK_bl, wp_callK, cmpO, cmp_eq, cmp_ne, cmp_lt, cmp_le, cmp_gt, cmp_ge, cmp_isN, cmp_notN, eqD_int, eqD_str, bin_int, binI_add, binI_sub, of_some, negK_int, setK_nm, setK_tp, setsK, asg, asgs, tgsOf, intK, rngK, srcK, subO, startE, newR, new, bi_int, bi_abs, bi_len_tup, bi_len_frl,  Option.map_some, Option.map_none, Option.bind_some, List.map_cons, List.map_nil, List.length_cons, List.length_nil, List.length_append, List.length_map, List.length_set, List.cons_append, List.nil_append, List.getElem?_cons_zero, List.getElem?_cons_succ, List.set_cons_zero, List.set_cons_succ, if_true, if_false, Bool.false_eq_true, Bool.true_eq_false, Bool.not_true, Bool.not_false, decide_true, decide_false, Nat.reduceEqDiff, Nat.zero_lt_succ, List.replicate_succ, List.replicate_zero, Nat.reduceSub, Nat.reduceAdd, Nat.reduceLT, Nat.reduceLeDiff, Nat.zero_le, id, lstK_ok, tupK_ok, eqD_bl]
    rw [hq]
    cases (decide (s < 0) == decide (u < 0)) with
    | true =>
      try simp -implicitDefEqProofs only [wp_ok, wp_bind, wp_noexc, wp_seq, wp_skip, wp_brk, wp_cnt, wp_retN, wp_ret, wp_set, wp_par, wp_unp, wp_sto, wp_xpr, wp_ite, wp_for, wp_whl, wp_tru, sk_rt, sk_bk, sk_ct, lk_nx, lk_ct, lk_bk, lk_rt, ik_true, ik_false, ev, evs, evo, evi, evc, evd, keyK_str, keyK_int, retK_rt, retK_nx, iteK_true, iteK_false, truK0_bl, truK0_int, truK0_tup, truK0_frl, truK0_non, scK_bl, wp_callK, cmpO, cmp_eq, cmp_ne, cmp_lt, cmp_le, cmp_gt, cmp_ge, cmp_isN, cmp_notN, eqD_int, eqD_str, bin_int, binI_add, binI_sub, of_some, negK_int, setK_nm, setK_tp, setsK, asg, asgs, tgsOf, intK, rngK, srcK, subO, startE, newR, new, bi_int, bi_abs, bi_len_tup, bi_len_frl,  Option.map_some, Option.map_none, Option.bind_some, List.map_cons, List.map_nil, List.length_cons, List.length_nil, List.length_append, List.length_map, List.length_set, List.cons_append, List.nil_append, List.getElem?_cons_zero, List.getElem?_cons_succ, List.set_cons_zero, List.set_cons_succ, if_true, if_false, Bool.false_eq_true, Bool.true_eq_false, Bool.not_true, Bool.not_false, decide_true, decide_false, Nat.reduceEqDiff, Nat.zero_lt_succ, List.replicate_succ, List.replicate_zero, Nat.reduceSub, Nat.reduceAdd, Nat.reduceLT, Nat.reduceLeDiff, Nat.zero_le, id, lstK_ok, tupK_ok]
      exact ⟨by first | rfl | trivial, by first | rfl | trivial⟩
    | false =>
      try simp -implicitDefEqProofs only [wp_ok, wp_bind, wp_noexc, wp_seq, wp_skip, wp_brk, wp_cnt, wp_retN, wp_ret, wp_set, wp_par, wp_unp, wp_sto, wp_xpr, wp_ite, wp_for, wp_whl, wp_tru, sk_rt, sk_bk, sk_ct, lk_nx, lk_ct, lk_bk, lk_rt, ik_true, ik_false, ev, evs, evo, evi, evc, evd, keyK_str, keyK_int, retK_rt, retK_nx, iteK_true, iteK_false, truK0_bl, truK0_int, truK0_tup, truK0_frl, truK0_non, scK_bl, wp_callK, cmpO, cmp_eq, cmp_ne, cmp_lt, cmp_le, cmp_gt, cmp_ge, cmp_isN, cmp_notN, eqD_int, eqD_str, bin_int, binI_add, binI_sub, of_some, negK_int, setK_nm, setK_tp, setsK, asg, asgs, tgsOf, intK, rngK, srcK, subO, startE, newR, new, bi_int, bi_abs, bi_len_tup, bi_len_frl,  Option.map_some, Option.map_none, Option.bind_some, List.map_cons, List.map_nil, List.length_cons, List.length_nil, List.length_append, List.length_map, List.length_set, List.cons_append, List.nil_append, List.getElem?_cons_zero, List.getElem?_cons_succ, List.set_cons_zero, List.set_cons_succ, if_true, if_false, Bool.false_eq_true, Bool.true_eq_false, Bool.not_true, Bool.not_false, decide_true, decide_false, Nat.reduceEqDiff, Nat.zero_lt_succ, List.replicate_succ, List.replicate_zero, Nat.reduceSub, Nat.reduceAdd, Nat.reduceLT, Nat.reduceLeDiff, Nat.zero_le, id, lstK_ok, tupK_ok]
      exact ⟨by simp, by first | rfl | trivial⟩
  rintro w st6 ⟨rfl, rfl⟩
  try simp -implicitDefEqProofs only [wp_ok, wp_bind, wp_noexc, wp_seq, wp_skip, wp_brk, wp_cnt, wp_retN, wp_ret, wp_set, wp_par, wp_unp, wp_sto, wp_xpr, wp_ite, wp_for, wp_whl, wp_tru, sk_rt, sk_bk, sk_ct, lk_nx, lk_ct, lk_bk, lk_rt, ik_true, ik_false, ev, evs, evo, evi, evc, evd, keyK_str, keyK_int, retK_rt, retK_nx, iteK_true, iteK_false, truK0_bl, truK0_int, truK0_tup, truK0_frl, truK0_non, scK_bl, wp_callK, cmpO, cmp_eq, cmp_ne, cmp_lt, cmp_le, cmp_gt, cmp_ge, cmp_isN, cmp_notN, eqD_int, eqD_str, bin_int, binI_add, binI_sub, of_some, negK_int, setK_nm, setK_tp, setsK, asg, asgs, tgsOf, intK, rngK, srcK, subO, startE, newR, new, bi_int, bi_abs, bi_len_tup, bi_len_frl,  Option.map_some, Option.map_none, Option.bind_some, List.map_cons, List.map_nil, List.length_cons, List.length_nil, List.length_append, List.length_map, List.length_set, List.cons_append, List.nil_append, List.getElem?_cons_zero, List.getElem?_cons_succ, List.set_cons_zero, List.set_cons_succ, if_true, if_false, Bool.false_eq_true, Bool.true_eq_false, Bool.not_true, Bool.not_false, decide_true, decide_false, Nat.reduceEqDiff, Nat.zero_lt_succ, List.replicate_succ, List.replicate_zero, Nat.reduceSub, Nat.reduceAdd, Nat.reduceLT, Nat.reduceLeDiff, Nat.zero_le, id, lstK_ok, tupK_ok]
  rw [sk_nx]
  have hm := mulS1 (a := u) (b := qt s u) (by omega)
  try simp -implicitDefEqProofs only [wp_ok, wp_bind, wp_noexc, wp_seq, wp_skip, wp_brk, wp_cnt, wp_retN, wp_ret, wp_set, wp_par, wp_unp, wp_sto, wp_xpr, wp_ite, wp_for, wp_whl, wp_tru, sk_rt, sk_bk, sk_ct, lk_nx, lk_ct, lk_bk, lk_rt, ik_true, ik_false, ev, evs, evo, evi, evc, evd, keyK_str, keyK_int, retK_rt, retK_nx, iteK_true, iteK_false, truK0_bl, truK0_int, truK0_tup, truK0_frl, truK0_non, scK_bl, wp_callK, cmpO, cmp_eq, cmp_ne, cmp_lt, cmp_le, cmp_gt, cmp_ge, cmp_isN, cmp_notN, eqD_int, eqD_str, bin_int, binI_add, binI_sub, of_some, negK_int, setK_nm, setK_tp, setsK, asg, asgs, tgsOf, intK, rngK, srcK, subO, startE, newR, new, bi_int, bi_abs, bi_len_tup, bi_len_frl,  Option.map_some, Option.map_none, Option.bind_some, List.map_cons, List.map_nil, List.length_cons, List.length_nil, List.length_append, List.length_map, List.length_set, List.cons_append, List.nil_append, List.getElem?_cons_zero, List.getElem?_cons_succ, List.set_cons_zero, List.set_cons_succ, if_true, if_false, Bool.false_eq_true, Bool.true_eq_false, Bool.not_true, Bool.not_false, decide_true, decide_false, Nat.reduceEqDiff, Nat.zero_lt_succ, List.replicate_succ, List.replicate_zero, Nat.reduceSub, Nat.reduceAdd, Nat.reduceLT, Nat.reduceLeDiff, Nat.zero_le, id, lstK_ok, tupK_ok, c1, e2, hm]
  refine db_ok (n := n + 1) (show v + 1 ≤ 64 by omega) fun st7 x7 => ?_
  try simp -implicitDefEqProofs only [wp_ok, wp_bind, wp_noexc, wp_seq, wp_skip, wp_brk, wp_cnt, wp_retN, wp_ret, wp_set, wp_par, wp_unp, wp_sto, wp_xpr, wp_ite, wp_for, wp_whl, wp_tru, sk_rt, sk_bk, sk_ct, lk_nx, lk_ct, lk_bk, lk_rt, ik_true, ik_false, ev, evs, evo, evi, evc, evd, keyK_str, keyK_int, retK_rt, retK_nx, iteK_true, iteK_false, truK0_bl, truK0_int, truK0_tup, truK0_frl, truK0_non, scK_bl, wp_callK, cmpO, cmp_eq, cmp_ne, cmp_lt, cmp_le, cmp_gt, cmp_ge, cmp_isN, cmp_notN, eqD_int, eqD_str, bin_int, binI_add, binI_sub, of_some, negK_int, setK_nm, setK_tp, setsK, asg, asgs, tgsOf, intK, rngK, srcK, subO, startE, newR, new, bi_int, bi_abs, bi_len_tup, bi_len_frl,  Option.map_some, Option.map_none, Option.bind_some, List.map_cons, List.map_nil, List.length_cons, List.length_nil, List.length_append, List.length_map, List.length_set, List.cons_append, List.nil_append, List.getElem?_cons_zero, List.getElem?_cons_succ, List.set_cons_zero, List.set_cons_succ, if_true, if_false, Bool.false_eq_true, Bool.true_eq_false, Bool.not_true, Bool.not_false, decide_true, decide_false, Nat.reduceEqDiff, Nat.zero_lt_succ, List.replicate_succ, List.replicate_zero, Nat.reduceSub, Nat.reduceAdd, Nat.reduceLT, Nat.reduceLeDiff, Nat.zero_le, id, lstK_ok, tupK_ok]
  exact ⟨by first | rfl | trivial, x4.trans (x5.trans x7)⟩

theorem due_urem (h : Ab v a b) : Wp (Ci.run tab (n + 4) 21 [.str "urem", .int ((v + 1 : Nat) : Int), .int a, .int b] st) fun w st' => w = v_urem v a b ∧ Ext st st' := by
  refine wp_run (d := d21) rfl rfl ?_
  show Wp (ex _ c21 _ _) _
  unfold c21 v_urem
  have hv := h.hv
  have am : a % 2 ^ (v + 1) = a := Int.emod_eq_of_lt h.a0 h.a1
  have bm : b % 2 ^ (v + 1) = b := Int.emod_eq_of_lt h.b0 h.b1
  have hp := p64 h.hv
  try simp -implicitDefEqProofs only [wp_ok, wp_bind, wp_noexc, wp_seq, wp_skip, wp_brk, wp_cnt, wp_retN, wp_ret, wp_set, wp_par, wp_unp, wp_sto, wp_xpr, wp_ite, wp_for, wp_whl, wp_tru, sk_rt, sk_bk, sk_ct, lk_nx, lk_ct, lk_bk, lk_rt, ik_true, ik_false, ev, evs, evo, evi, evc, evd, keyK_str, keyK_int, retK_rt, retK_nx, iteK_true, iteK_false, truK0_bl, truK0_int, truK0_tup, truK0_frl, truK0_non, scK_bl, wp_callK, cmpO, cmp_eq, cmp_ne, cmp_lt, cmp_le, cmp_gt, cmp_ge, cmp_isN, cmp_notN, eqD_int, eqD_str, bin_int, binI_add, binI_sub, of_some, negK_int, setK_nm, setK_tp, setsK, asg, asgs, tgsOf, intK, rngK, srcK, subO, startE, newR, new, bi_int, bi_abs, bi_len_tup, bi_len_frl,  Option.map_some, Option.map_none, Option.bind_some, List.map_cons, List.map_nil, List.length_cons, List.length_nil, List.length_append, List.length_map, List.length_set, List.cons_append, List.nil_append, List.getElem?_cons_zero, List.getElem?_cons_succ, List.set_cons_zero, List.set_cons_succ, if_true, if_false, Bool.false_eq_true, Bool.true_eq_false, Bool.not_true, Bool.not_false, decide_true, decide_false, Nat.reduceEqDiff, Nat.zero_lt_succ, List.replicate_succ, List.replicate_zero, Nat.reduceSub, Nat.reduceAdd, Nat.reduceLT, Nat.reduceLeDiff, Nat.zero_le, id, lstK_ok, tupK_ok, d21]
  refine (digits_ok (n := n + 1) (show v + 1 ≤ 64 by omega)).mono ?_
  rintro w st1 ⟨p4, rfl, x1, l4, g4⟩
  try simp -implicitDefEqProofs only [wp_ok, wp_bind, wp_noexc, wp_seq, wp_skip, wp_brk, wp_cnt, wp_retN, wp_ret, wp_set, wp_par, wp_unp, wp_sto, wp_xpr, wp_ite, wp_for, wp_whl, wp_tru, sk_rt, sk_bk, sk_ct, lk_nx, lk_ct, lk_bk, lk_rt, ik_true, ik_false, ev, evs, evo, evi, evc, evd, keyK_str, keyK_int, retK_rt, retK_nx, iteK_true, iteK_false, truK0_bl, truK0_int, truK0_tup, truK0_frl, truK0_non, scK_bl, wp_callK, cmpO, cmp_eq, cmp_ne, cmp_lt, cmp_le, cmp_gt, cmp_ge, cmp_isN, cmp_notN, eqD_int, eqD_str, bin_int, binI_add, binI_sub, of_some, negK_int, setK_nm, setK_tp, setsK, asg, asgs, tgsOf, intK, rngK, srcK, subO, startE, newR, new, bi_int, bi_abs, bi_len_tup, bi_len_frl,  Option.map_some, Option.map_none, Option.bind_some, List.map_cons, List.map_nil, List.length_cons, List.length_nil, List.length_append, List.length_map, List.length_set, List.cons_append, List.nil_append, List.getElem?_cons_zero, List.getElem?_cons_succ, List.set_cons_zero, List.set_cons_succ, if_true, if_false, Bool.false_eq_true, Bool.true_eq_false, Bool.not_true, Bool.not_false, decide_true, decide_false, Nat.reduceEqDiff, Nat.zero_lt_succ, List.replicate_succ, List.replicate_zero, Nat.reduceSub, Nat.reduceAdd, Nat.reduceLT, Nat.reduceLeDiff, Nat.zero_le, id, lstK_ok, tupK_ok]
  refine (digits_ok (n := n + 1) (show v + 1 ≤ 64 by omega)).mono ?_
  rintro w st2 ⟨p5, rfl, x2, l5, g5⟩
  have g4 := x2.2 _ _ g4
  rw [am] at g4
  rw [bm] at g5
  have x2 := x1.trans x2
  try simp -implicitDefEqProofs only [wp_ok, wp_bind, wp_noexc, wp_seq, wp_skip, wp_brk, wp_cnt, wp_retN, wp_ret, wp_set, wp_par, wp_unp, wp_sto, wp_xpr, wp_ite, wp_for, wp_whl, wp_tru, sk_rt, sk_bk, sk_ct, lk_nx, lk_ct, lk_bk, lk_rt, ik_true, ik_false, ev, evs, evo, evi, evc, evd, keyK_str, keyK_int, retK_rt, retK_nx, iteK_true, iteK_false, truK0_bl, truK0_int, truK0_tup, truK0_frl, truK0_non, scK_bl, wp_callK, cmpO, cmp_eq, cmp_ne, cmp_lt, cmp_le, cmp_gt, cmp_ge, cmp_isN, cmp_notN, eqD_int, eqD_str, bin_int, binI_add, binI_sub, of_some, negK_int, setK_nm, setK_tp, setsK, asg, asgs, tgsOf, intK, rngK, srcK, subO, startE, newR, new, bi_int, bi_abs, bi_len_tup, bi_len_frl,  Option.map_some, Option.map_none, Option.bind_some, List.map_cons, List.map_nil, List.length_cons, List.length_nil, List.length_append, List.length_map, List.length_set, List.cons_append, List.nil_append, List.getElem?_cons_zero, List.getElem?_cons_succ, List.set_cons_zero, List.set_cons_succ, if_true, if_false, Bool.false_eq_true, Bool.true_eq_false, Bool.not_true, Bool.not_false, decide_true, decide_false, Nat.reduceEqDiff, Nat.zero_lt_succ, List.replicate_succ, List.replicate_zero, Nat.reduceSub, Nat.reduceAdd, Nat.reduceLT, Nat.reduceLeDiff, Nat.zero_le, id, lstK_ok, tupK_ok]
  rw [sk_nx]
  have i1 : inW (st2 ++ [Ob.lst [W.str "add", W.str "sub", W.str "mul"]]) (.str "urem") (.ref st2.length) = some false := (in_strs (ss := ["add", "sub", "mul"]) getLast (by decide +kernel) (by decide +kernel)).trans (by decide +kernel)
  try simp -implicitDefEqProofs only [wp_ok, wp_bind, wp_noexc, wp_seq, wp_skip, wp_brk, wp_cnt, wp_retN, wp_ret, wp_set, wp_par, wp_unp, wp_sto, wp_xpr, wp_ite, wp_for, wp_whl, wp_tru, sk_rt, sk_bk, sk_ct, lk_nx, lk_ct, lk_bk, lk_rt, ik_true, ik_false, ev, evs, evo, evi, evc, evd, keyK_str, keyK_int, retK_rt, retK_nx, iteK_true, iteK_false, truK0_bl, truK0_int, truK0_tup, truK0_frl, truK0_non, scK_bl, wp_callK, cmpO, cmp_eq, cmp_ne, cmp_lt, cmp_le, cmp_gt, cmp_ge, cmp_isN, cmp_notN, eqD_int, eqD_str, bin_int, binI_add, binI_sub, of_some, negK_int, setK_nm, setK_tp, setsK, asg, asgs, tgsOf, intK, rngK, srcK, subO, startE, newR, new, bi_int, bi_abs, bi_len_tup, bi_len_frl,  Option.map_some, Option.map_none, Option.bind_some, List.map_cons, List.map_nil, List.length_cons, List.length_nil, List.length_append, List.length_map, List.length_set, List.cons_append, List.nil_append, List.getElem?_cons_zero, List.getElem?_cons_succ, List.set_cons_zero, List.set_cons_succ, if_true, if_false, Bool.false_eq_true, Bool.true_eq_false, Bool.not_true, Bool.not_false, decide_true, decide_false, Nat.reduceEqDiff, Nat.zero_lt_succ, List.replicate_succ, List.replicate_zero, Nat.reduceSub, Nat.reduceAdd, Nat.reduceLT, Nat.reduceLeDiff, Nat.zero_le, id, lstK_ok, tupK_ok, cmp_in, i1]
  rw [sk_nx]
  obtain ⟨st3, hs3⟩ : ∃ x : Sto, x = st2 ++ [Ob.lst [W.str "add", W.str "sub", W.str "mul"]] := ⟨_, rfl⟩
  have x3 : Ext st2 st3 := by rw [hs3]; exact Ext.new
  rw [← hs3]
  have g4 := x3.2 _ _ g4
  have g5 := x3.2 _ _ g5
  have x3 := x2.trans x3
  have i2 : inW (st3 ++ [Ob.lst [W.str "udiv", W.str "urem", W.str "sdiv", W.str "srem"]]) (.str "urem") (.ref st3.length) = some true := (in_strs (ss := ["udiv", "urem", "sdiv", "srem"]) getLast (by decide +kernel) (by decide +kernel)).trans (by decide +kernel)
  try simp -implicitDefEqProofs only [wp_ok, wp_bind, wp_noexc, wp_seq, wp_skip, wp_brk, wp_cnt, wp_retN, wp_ret, wp_set, wp_par, wp_unp, wp_sto, wp_xpr, wp_ite, wp_for, wp_whl, wp_tru, sk_rt, sk_bk, sk_ct, lk_nx, lk_ct, lk_bk, lk_rt, ik_true, ik_false, ev, evs, evo, evi, evc, evd, keyK_str, keyK_int, retK_rt, retK_nx, iteK_true, iteK_false, truK0_bl, truK0_int, truK0_tup, truK0_frl, truK0_non, scK_bl, wp_callK, cmpO, cmp_eq, cmp_ne, cmp_lt, cmp_le, cmp_gt, cmp_ge, cmp_isN, cmp_notN, eqD_int, eqD_str, bin_int, binI_add, binI_sub, of_some, negK_int, setK_nm, setK_tp, setsK, asg, asgs, tgsOf, intK, rngK, srcK, subO, startE, newR, new, bi_int, bi_abs, bi_len_tup, bi_len_frl,  Option.map_some, Option.map_none, Option.bind_some, List.map_cons, List.map_nil, List.length_cons, List.length_nil, List.length_append, List.length_map, List.length_set, List.cons_append, List.nil_append, List.getElem?_cons_zero, List.getElem?_cons_succ, List.set_cons_zero, List.set_cons_succ, if_true, if_false, Bool.false_eq_true, Bool.true_eq_false, Bool.not_true, Bool.not_false, decide_true, decide_false, Nat.reduceEqDiff, Nat.zero_lt_succ, List.replicate_succ, List.replicate_zero, Nat.reduceSub, Nat.reduceAdd, Nat.reduceLT, Nat.reduceLeDiff, Nat.zero_le, id, lstK_ok, tupK_ok, cmp_in, i2]
  obtain ⟨st4, hs4⟩ : ∃ x : Sto, x = st3 ++ [Ob.lst [W.str "udiv", W.str "urem", W.str "sdiv", W.str "srem"]] := ⟨_, rfl⟩
  have x4 : Ext st3 st4 := by rw [hs4]; exact Ext.new
  rw [← hs4]
  have g4 := x4.2 _ _ g4
  have g5 := x4.2 _ _ g5
  have x4 := x3.trans x4
  have c0 : ∀ s : Sto, sub s (.str "urem") (.int 0) = some (.str "u") := fun _ => rfl
  have c1 : ∀ s : Sto, slW (.str "urem") (some 1) none s = some (.str "rem", s) := fun _ => rfl
  have e1 : (("u" : Str) == "u") = true := by decide +kernel
  have e2 : (("rem" : Str) == "div") = false := by decide +kernel
  by_cases z : b = 0
  · try simp -implicitDefEqProofs only [wp_ok, wp_bind, wp_noexc, wp_seq, wp_skip, wp_brk, wp_cnt, wp_retN, wp_ret, wp_set, wp_par, wp_unp, wp_sto, wp_xpr, wp_ite, wp_for, wp_whl, wp_tru, sk_rt, sk_bk, sk_ct, lk_nx, lk_ct, lk_bk, lk_rt, ik_true, ik_false, ev, evs, evo, evi, evc, evd, keyK_str, keyK_int, retK_rt, retK_nx, iteK_true, iteK_false, truK0_bl, truK0_int, truK0_tup, truK0_frl, truK0_non, scK_bl, wp_callK, cmpO, cmp_eq, cmp_ne, cmp_lt, cmp_le, cmp_gt, cmp_ge, cmp_isN, cmp_notN, eqD_int, eqD_str, bin_int, binI_add, binI_sub, of_some, negK_int, setK_nm, setK_tp, setsK, asg, asgs, tgsOf, intK, rngK, srcK, subO, startE, newR, new, bi_int, bi_abs, bi_len_tup, bi_len_frl,  Option.map_some, Option.map_none, Option.bind_some, List.map_cons, List.map_nil, List.length_cons, List.length_nil, List.length_append, List.length_map, List.length_set, List.cons_append, List.nil_append, List.getElem?_cons_zero, List.getElem?_cons_succ, List.set_cons_zero, List.set_cons_succ, if_true, if_false, Bool.false_eq_true, Bool.true_eq_false, Bool.not_true, Bool.not_false, decide_true, decide_false, Nat.reduceEqDiff, Nat.zero_lt_succ, List.replicate_succ, List.replicate_zero, Nat.reduceSub, Nat.reduceAdd, Nat.reduceLT, Nat.reduceLeDiff, Nat.zero_le, id, lstK_ok, tupK_ok, z, beq_self_eq_true, if_true]
    exact ⟨by first | rfl | trivial, x4⟩
  rw [if_neg z]
  try simp -implicitDefEqProofs only [wp_ok, wp_bind, wp_noexc, wp_seq, wp_skip, wp_brk, wp_cnt, wp_retN, wp_ret, wp_set, wp_par, wp_unp, wp_sto, wp_xpr, wp_ite, wp_for, wp_whl, wp_tru, sk_rt, sk_bk, sk_ct, lk_nx, lk_ct, lk_bk, lk_rt, ik_true, ik_false, ev, evs, evo, evi, evc, evd, keyK_str, keyK_int, retK_rt, retK_nx, iteK_true, iteK_false, truK0_bl, truK0_int, truK0_tup, truK0_frl, truK0_non, scK_bl, wp_callK, cmpO, cmp_eq, cmp_ne, cmp_lt, cmp_le, cmp_gt, cmp_ge, cmp_isN, cmp_notN, eqD_int, eqD_str, bin_int, binI_add, binI_sub, of_some, negK_int, setK_nm, setK_tp, setsK, asg, asgs, tgsOf, intK, rngK, srcK, subO, startE, newR, new, bi_int, bi_abs, bi_len_tup, bi_len_frl,  Option.map_some, Option.map_none, Option.bind_some, List.map_cons, List.map_nil, List.length_cons, List.length_nil, List.length_append, List.length_map, List.length_set, List.cons_append, List.nil_append, List.getElem?_cons_zero, List.getElem?_cons_succ, List.set_cons_zero, List.set_cons_succ, if_true, if_false, Bool.false_eq_true, Bool.true_eq_false, Bool.not_true, Bool.not_false, decide_true, decide_false, Nat.reduceEqDiff, Nat.zero_lt_succ, List.replicate_succ, List.replicate_zero, Nat.reduceSub, Nat.reduceAdd, Nat.reduceLT, Nat.reduceLeDiff, Nat.zero_le, id, lstK_ok, tupK_ok, beq_eq_false_iff_ne.mpr z]
  rw [sk_nx]
  have hb : 0 < b := by have := h.b0; omega
  have hs2 := p2s (v + 1)
  have aa : (if a < 0 then -a else a) = a := by have := h.a0; rw [if_neg (by omega)]
  have bb : (if b < 0 then -b else b) = b := by rw [if_neg (by omega)]
  try simp -implicitDefEqProofs only [wp_ok, wp_bind, wp_noexc, wp_seq, wp_skip, wp_brk, wp_cnt, wp_retN, wp_ret, wp_set, wp_par, wp_unp, wp_sto, wp_xpr, wp_ite, wp_for, wp_whl, wp_tru, sk_rt, sk_bk, sk_ct, lk_nx, lk_ct, lk_bk, lk_rt, ik_true, ik_false, ev, evs, evo, evi, evc, evd, keyK_str, keyK_int, retK_rt, retK_nx, iteK_true, iteK_false, truK0_bl, truK0_int, truK0_tup, truK0_frl, truK0_non, scK_bl, wp_callK, cmpO, cmp_eq, cmp_ne, cmp_lt, cmp_le, cmp_gt, cmp_ge, cmp_isN, cmp_notN, eqD_int, eqD_str, bin_int, binI_add, binI_sub, of_some, negK_int, setK_nm, setK_tp, setsK, asg, asgs, tgsOf, intK, rngK, srcK, subO, startE, newR, new, bi_int, bi_abs, bi_len_tup, bi_len_frl,  Option.map_some, Option.map_none, Option.bind_some, List.map_cons, List.map_nil, List.length_cons, List.length_nil, List.length_append, List.length_map, List.length_set, List.cons_append, List.nil_append, List.getElem?_cons_zero, List.getElem?_cons_succ, List.set_cons_zero, List.set_cons_succ, if_true, if_false, Bool.false_eq_true, Bool.true_eq_false, Bool.not_true, Bool.not_false, decide_true, decide_false, Nat.reduceEqDiff, Nat.zero_lt_succ, List.replicate_succ, List.replicate_zero, Nat.reduceSub, Nat.reduceAdd, Nat.reduceLT, Nat.reduceLeDiff, Nat.zero_le, id, lstK_ok, tupK_ok, c0, e1]
  rw [sk_nx]
  try simp -implicitDefEqProofs only [wp_ok, wp_bind, wp_noexc, wp_seq, wp_skip, wp_brk, wp_cnt, wp_retN, wp_ret, wp_set, wp_par, wp_unp, wp_sto, wp_xpr, wp_ite, wp_for, wp_whl, wp_tru, sk_rt, sk_bk, sk_ct, lk_nx, lk_ct, lk_bk, lk_rt, ik_true, ik_false, ev, evs, evo, evi, evc, evd, keyK_str, keyK_int, retK_rt, retK_nx, iteK_true, iteK_false, truK0_bl, truK0_int, truK0_tup, truK0_frl, truK0_non, scK_bl, wp_callK, cmpO, cmp_eq, cmp_ne, cmp_lt, cmp_le, cmp_gt, cmp_ge, cmp_isN, cmp_notN, eqD_int, eqD_str, bin_int, binI_add, binI_sub, of_some, negK_int, setK_nm, setK_tp, setsK, asg, asgs, tgsOf, intK, rngK, srcK, subO, startE, newR, new, bi_int, bi_abs, bi_len_tup, bi_len_frl,  Option.map_some, Option.map_none, Option.bind_some, List.map_cons, List.map_nil, List.length_cons, List.length_nil, List.length_append, List.length_map, List.length_set, List.cons_append, List.nil_append, List.getElem?_cons_zero, List.getElem?_cons_succ, List.set_cons_zero, List.set_cons_succ, if_true, if_false, Bool.false_eq_true, Bool.true_eq_false, Bool.not_true, Bool.not_false, decide_true, decide_false, Nat.reduceEqDiff, Nat.zero_lt_succ, List.replicate_succ, List.replicate_zero, Nat.reduceSub, Nat.reduceAdd, Nat.reduceLT, Nat.reduceLeDiff, Nat.zero_le, id, lstK_ok, tupK_ok, aa, bb]
  refine (times_ok (n := n + 1) (w := v + 1) (by omega) h.a0 (by have := h.a1; omega) hb).mono ?_
  rintro r st5 ⟨rfl, x5⟩
  try simp -implicitDefEqProofs only [wp_ok, wp_bind, wp_noexc, wp_seq, wp_skip, wp_brk, wp_cnt, wp_retN, wp_ret, wp_set, wp_par, wp_unp, wp_sto, wp_xpr, wp_ite, wp_for, wp_whl, wp_tru, sk_rt, sk_bk, sk_ct, lk_nx, lk_ct, lk_bk, lk_rt, ik_true, ik_false, ev, evs, evo, evi, evc, evd, keyK_str, keyK_int, retK_rt, retK_nx, iteK_true, iteK_false, truK0_bl, truK0_int, truK0_tup, truK0_frl, truK0_non, scK_bl, wp_callK, cmpO, cmp_eq, cmp_ne, cmp_lt, cmp_le, cmp_gt, cmp_ge, cmp_isN, cmp_notN, eqD_int, eqD_str, bin_int, binI_add, binI_sub, of_some, negK_int, setK_nm, setK_tp, setsK, asg, asgs, tgsOf, intK, rngK, srcK, subO, startE, newR, new, bi_int, bi_abs, bi_len_tup, bi_len_frl,  Option.map_some, Option.map_none, Option.bind_some, List.map_cons, List.map_nil, List.length_cons, List.length_nil, List.length_append, List.length_map, List.length_set, List.cons_append, List.nil_append, List.getElem?_cons_zero, List.getElem?_cons_succ, List.set_cons_zero, List.set_cons_succ, if_true, if_false, Bool.false_eq_true, Bool.true_eq_false, Bool.not_true, Bool.not_false, decide_true, decide_false, Nat.reduceEqDiff, Nat.zero_lt_succ, List.replicate_succ, List.replicate_zero, Nat.reduceSub, Nat.reduceAdd, Nat.reduceLT, Nat.reduceLeDiff, Nat.zero_le, id, lstK_ok, tupK_ok]
  rw [sk_nx]
  have d1 : decide (a < 0) = false := decide_eq_false (by have := h.a0; omega)
  have d2 : decide (b < 0) = false := decide_eq_false (by omega)
  try simp -implicitDefEqProofs only [wp_ok, wp_bind, wp_noexc, wp_seq, wp_skip, wp_brk, wp_cnt, wp_retN, wp_ret, wp_set, wp_par, wp_unp, wp_sto, wp_xpr, wp_ite, wp_for, wp_whl, wp_tru, sk_rt, sk_bk, sk_ct, lk_nx, lk_ct, lk_bk, lk_rt, ik_true, ik_false, ev, evs, evo, evi, evc, evd, keyK_str, keyK_int, retK_rt, retK_nx, iteK_true, iteK_false, truK0_bl, truK0_int, truK0_tup, truK0_frl, truK0_non, scK_bl, wp_callK, cmpO, cmp_eq, cmp_ne, cmp_lt, cmp_le, cmp_gt, cmp_ge, cmp_isN, cmp_notN, eqD_int, eqD_str, bin_int, binI_add, binI_sub, of_some, negK_int, setK_nm, setK_tp, setsK, asg, asgs, tgsOf, intK, rngK, srcK, subO, startE, newR, new, bi_int, bi_abs, bi_len_tup, bi_len_frl,  Option.map_some, Option.map_none, Option.bind_some, List.map_cons, List.map_nil, List.length_cons, List.length_nil, List.length_append, List.length_map, List.length_set, List.cons_append, List.nil_append, List.getElem?_cons_zero, List.getElem?_cons_succ, List.set_cons_zero, List.set_cons_succ, if_true, if_false, Bool.false_eq_true, Bool.true_eq_false, Bool.not_true, Bool.not_false, decide_true, decide_false, Nat.reduceEqDiff, Nat.zero_lt_succ, List.replicate_succ, List.replicate_zero, Nat.reduceSub, Nat.reduceAdd, Nat.reduceLT, Nat.reduceLeDiff, Nat.zero_le, id, lstK_ok, tupK_ok, d1, d2, eqb]
  rw [sk_nx]
  have hm := mulS1 (a := b) (b := a / b) (by have := h.b1; omega)
  try simp -implicitDefEqProofs only [wp_ok, wp_bind, wp_noexc, wp_seq, wp_skip, wp_brk, wp_cnt, wp_retN, wp_ret, wp_set, wp_par, wp_unp, wp_sto, wp_xpr, wp_ite, wp_for, wp_whl, wp_tru, sk_rt, sk_bk, sk_ct, lk_nx, lk_ct, lk_bk, lk_rt, ik_true, ik_false, ev, evs, evo, evi, evc, evd, keyK_str, keyK_int, retK_rt, retK_nx, iteK_true, iteK_false, truK0_bl, truK0_int, truK0_tup, truK0_frl, truK0_non, scK_bl, wp_callK, cmpO, cmp_eq, cmp_ne, cmp_lt, cmp_le, cmp_gt, cmp_ge, cmp_isN, cmp_notN, eqD_int, eqD_str, bin_int, binI_add, binI_sub, of_some, negK_int, setK_nm, setK_tp, setsK, asg, asgs, tgsOf, intK, rngK, srcK, subO, startE, newR, new, bi_int, bi_abs, bi_len_tup, bi_len_frl,  Option.map_some, Option.map_none, Option.bind_some, List.map_cons, List.map_nil, List.length_cons, List.length_nil, List.length_append, List.length_map, List.length_set, List.cons_append, List.nil_append, List.getElem?_cons_zero, List.getElem?_cons_succ, List.set_cons_zero, List.set_cons_succ, if_true, if_false, Bool.false_eq_true, Bool.true_eq_false, Bool.not_true, Bool.not_false, decide_true, decide_false, Nat.reduceEqDiff, Nat.zero_lt_succ, List.replicate_succ, List.replicate_zero, Nat.reduceSub, Nat.reduceAdd, Nat.reduceLT, Nat.reduceLeDiff, Nat.zero_le, id, lstK_ok, tupK_ok, c1, e2, hm]
  refine db_ok (n := n + 1) (show v + 1 ≤ 64 by omega) fun st6 x6 => ?_
  try simp -implicitDefEqProofs only [wp_ok, wp_bind, wp_noexc, wp_seq, wp_skip, wp_brk, wp_cnt, wp_retN, wp_ret, wp_set, wp_par, wp_unp, wp_sto, wp_xpr, wp_ite, wp_for, wp_whl, wp_tru, sk_rt, sk_bk, sk_ct, lk_nx, lk_ct, lk_bk, lk_rt, ik_true, ik_false, ev, evs, evo, evi, evc, evd, keyK_str, keyK_int, retK_rt, retK_nx, iteK_true, iteK_false, truK0_bl, truK0_int, truK0_tup, truK0_frl, truK0_non, scK_bl, wp_callK, cmpO, cmp_eq, cmp_ne, cmp_lt, cmp_le, cmp_gt, cmp_ge, cmp_isN, cmp_notN, eqD_int, eqD_str, bin_int, binI_add, binI_sub, of_some, negK_int, setK_nm, setK_tp, setsK, asg, asgs, tgsOf, intK, rngK, srcK, subO, startE, newR, new, bi_int, bi_abs, bi_len_tup, bi_len_frl,  Option.map_some, Option.map_none, Option.bind_some, List.map_cons, List.map_nil, List.length_cons, List.length_nil, List.length_append, List.length_map, List.length_set, List.cons_append, List.nil_append, List.getElem?_cons_zero, List.getElem?_cons_succ, List.set_cons_zero, List.set_cons_succ, if_true, if_false, Bool.false_eq_true, Bool.true_eq_false, Bool.not_true, Bool.not_false, decide_true, decide_false, Nat.reduceEqDiff, Nat.zero_lt_succ, List.replicate_succ, List.replicate_zero, Nat.reduceSub, Nat.reduceAdd, Nat.reduceLT, Nat.reduceLeDiff, Nat.zero_le, id, lstK_ok, tupK_ok]
  have q := Int.mul_ediv_add_emod a b
  have q0 := Int.emod_nonneg a z
  have q1 := Int.emod_lt_of_pos a hb
  refine ⟨?_, x4.trans (x5.trans x6)⟩
  rw [show a - b * (a / b) = a % b by omega, Int.emod_eq_of_lt q0 (by have := h.b1; omega)]

theorem due_srem (h : Ab v a b) : Wp (Ci.run tab (n + 4) 21 [.str "srem", .int ((v + 1 : Nat) : Int), .int a, .int b] st) fun w st' => w = v_srem v a b ∧ Ext st st' := by
  refine wp_run (d := d21) rfl rfl ?_
  show Wp (ex _ c21 _ _) _
  unfold c21 v_srem
  have hv := h.hv
  have am : a % 2 ^ (v + 1) = a := Int.emod_eq_of_lt h.a0 h.a1
  have bm : b % 2 ^ (v + 1) = b := Int.emod_eq_of_lt h.b0 h.b1
  have hp := p64 h.hv
  try simp -implicitDefEqProofs only [wp_ok, wp_bind, wp_noexc, wp_seq, wp_skip, wp_brk, wp_cnt, wp_retN, wp_ret, wp_set, wp_par, wp_unp, wp_sto, wp_xpr, wp_ite, wp_for, wp_whl, wp_tru, sk_rt, sk_bk, sk_ct, lk_nx, lk_ct, lk_bk, lk_rt, ik_true, ik_false, ev, evs, evo, evi, evc, evd, keyK_str, keyK_int, retK_rt, retK_nx, iteK_true, iteK_false, truK0_bl, truK0_int, truK0_tup, truK0_frl, truK0_non, scK_bl, wp_callK, cmpO, cmp_eq, cmp_ne, cmp_lt, cmp_le, cmp_gt, cmp_ge, cmp_isN, cmp_notN, eqD_int, eqD_str, bin_int, binI_add, binI_sub, of_some, negK_int, setK_nm, setK_tp, setsK, asg, asgs, tgsOf, intK, rngK, srcK, subO, startE, newR, new, bi_int, bi_abs, bi_len_tup, bi_len_frl,  Option.map_some, Option.map_none, Option.bind_some, List.map_cons, List.map_nil, List.length_cons, List.length_nil, List.length_append, List.length_map, List.length_set, List.cons_append, List.nil_append, List.getElem?_cons_zero, List.getElem?_cons_succ, List.set_cons_zero, List.set_cons_succ, if_true, if_false, Bool.false_eq_true, Bool.true_eq_false, Bool.not_true, Bool.not_false, decide_true, decide_false, Nat.reduceEqDiff, Nat.zero_lt_succ, List.replicate_succ, List.replicate_zero, Nat.reduceSub, Nat.reduceAdd, Nat.reduceLT, Nat.reduceLeDiff, Nat.zero_le, id, lstK_ok, tupK_ok, d21]
  refine (digits_ok (n := n + 1) (show v + 1 ≤ 64 by omega)).mono ?_
  rintro w st1 ⟨p4, rfl, x1, l4, g4⟩
  try simp -implicitDefEqProofs only [wp_ok, wp_bind, wp_noexc, wp_seq, wp_skip, wp_brk, wp_cnt, wp_retN, wp_ret, wp_set, wp_par, wp_unp, wp_sto, wp_xpr, wp_ite, wp_for, wp_whl, wp_tru, sk_rt, sk_bk, sk_ct, lk_nx, lk_ct, lk_bk, lk_rt, ik_true, ik_false, ev, evs, evo, evi, evc, evd, keyK_str, keyK_int, retK_rt, retK_nx, iteK_true, iteK_false, truK0_bl, truK0_int, truK0_tup, truK0_frl, truK0_non, scK_bl, wp_callK, cmpO, cmp_eq, cmp_ne, cmp_lt, cmp_le, cmp_gt, cmp_ge, cmp_isN, cmp_notN, eqD_int, eqD_str, bin_int, binI_add, binI_sub, of_some, negK_int, setK_nm, setK_tp, setsK, asg, asgs, tgsOf, intK, rngK, srcK, subO, startE, newR, new, bi_int, bi_abs, bi_len_tup, bi_len_frl,  Option.map_some, Option.map_none, Option.bind_some, List.map_cons, List.map_nil, List.length_cons, List.length_nil, List.length_append, List.length_map, List.length_set, List.cons_append, List.nil_append, List.getElem?_cons_zero, List.getElem?_cons_succ, List.set_cons_zero, List.set_cons_succ, if_true, if_false, Bool.false_eq_true, Bool.true_eq_false, Bool.not_true, Bool.not_false, decide_true, decide_false, Nat.reduceEqDiff, Nat.zero_lt_succ, List.replicate_succ, List.replicate_zero, Nat.reduceSub, Nat.reduceAdd, Nat.reduceLT, Nat.reduceLeDiff, Nat.zero_le, id, lstK_ok, tupK_ok]
  refine (digits_ok (n := n + 1) (show v + 1 ≤ 64 by omega)).mono ?_
  rintro w st2 ⟨p5, rfl, x2, l5, g5⟩
  have g4 := x2.2 _ _ g4
  rw [am] at g4
  rw [bm] at g5
  have x2 := x1.trans x2
  try simp -implicitDefEqProofs only [wp_ok, wp_bind, wp_noexc, wp_seq, wp_skip, wp_brk, wp_cnt, wp_retN, wp_ret, wp_set, wp_par, wp_unp, wp_sto, wp_xpr, wp_ite, wp_for, wp_whl, wp_tru, sk_rt, sk_bk, sk_ct, lk_nx, lk_ct, lk_bk, lk_rt, ik_true, ik_false, ev, evs, evo, evi, evc, evd, keyK_str, keyK_int, retK_rt, retK_nx, iteK_true, iteK_false, truK0_bl, truK0_int, truK0_tup, truK0_frl, truK0_non, scK_bl, wp_callK, cmpO, cmp_eq, cmp_ne, cmp_lt, cmp_le, cmp_gt, cmp_ge, cmp_isN, cmp_notN, eqD_int, eqD_str, bin_int, binI_add, binI_sub, of_some, negK_int, setK_nm, setK_tp, setsK, asg, asgs, tgsOf, intK, rngK, srcK, subO, startE, newR, new, bi_int, bi_abs, bi_len_tup, bi_len_frl,  Option.map_some, Option.map_none, Option.bind_some, List.map_cons, List.map_nil, List.length_cons, List.length_nil, List.length_append, List.length_map, List.length_set, List.cons_append, List.nil_append, List.getElem?_cons_zero, List.getElem?_cons_succ, List.set_cons_zero, List.set_cons_succ, if_true, if_false, Bool.false_eq_true, Bool.true_eq_false, Bool.not_true, Bool.not_false, decide_true, decide_false, Nat.reduceEqDiff, Nat.zero_lt_succ, List.replicate_succ, List.replicate_zero, Nat.reduceSub, Nat.reduceAdd, Nat.reduceLT, Nat.reduceLeDiff, Nat.zero_le, id, lstK_ok, tupK_ok]
  rw [sk_nx]
  have i1 : inW (st2 ++ [Ob.lst [W.str "add", W.str "sub", W.str "mul"]]) (.str "srem") (.ref st2.length) = some false := (in_strs (ss := ["add", "sub", "mul"]) getLast (by decide +kernel) (by decide +kernel)).trans (by decide +kernel)
  try simp -implicitDefEqProofs only [wp_ok, wp_bind, wp_noexc, wp_seq, wp_skip, wp_brk, wp_cnt, wp_retN, wp_ret, wp_set, wp_par, wp_unp, wp_sto, wp_xpr, wp_ite, wp_for, wp_whl, wp_tru, sk_rt, sk_bk, sk_ct, lk_nx, lk_ct, lk_bk, lk_rt, ik_true, ik_false, ev, evs, evo, evi, evc, evd, keyK_str, keyK_int, retK_rt, retK_nx, iteK_true, iteK_false, truK0_bl, truK0_int, truK0_tup, truK0_frl, truK0_non, scK_bl, wp_callK, cmpO, cmp_eq, cmp_ne, cmp_lt, cmp_le, cmp_gt, cmp_ge, cmp_isN, cmp_notN, eqD_int, eqD_str, bin_int, binI_add, binI_sub, of_some, negK_int, setK_nm, setK_tp, setsK, asg, asgs, tgsOf, intK, rngK, srcK, subO, startE, newR, new, bi_int, bi_abs, bi_len_tup, bi_len_frl,  Option.map_some, Option.map_none, Option.bind_some, List.map_cons, List.map_nil, List.length_cons, List.length_nil, List.length_append, List.length_map, List.length_set, List.cons_append, List.nil_append, List.getElem?_cons_zero, List.getElem?_cons_succ, List.set_cons_zero, List.set_cons_succ, if_true, if_false, Bool.false_eq_true, Bool.true_eq_false, Bool.not_true, Bool.not_false, decide_true, decide_false, Nat.reduceEqDiff, Nat.zero_lt_succ, List.replicate_succ, List.replicate_zero, Nat.reduceSub, Nat.reduceAdd, Nat.reduceLT, Nat.reduceLeDiff, Nat.zero_le, id, lstK_ok, tupK_ok, cmp_in, i1]
  rw [sk_nx]
  obtain ⟨st3, hs3⟩ : ∃ x : Sto, x = st2 ++ [Ob.lst [W.str "add", W.str "sub", W.str "mul"]] := ⟨_, rfl⟩
  have x3 : Ext st2 st3 := by rw [hs3]; exact Ext.new
  rw [← hs3]
  have g4 := x3.2 _ _ g4
  have g5 := x3.2 _ _ g5
  have x3 := x2.trans x3
  have i2 : inW (st3 ++ [Ob.lst [W.str "udiv", W.str "urem", W.str "sdiv", W.str "srem"]]) (.str "srem") (.ref st3.length) = some true := (in_strs (ss := ["udiv", "urem", "sdiv", "srem"]) getLast (by decide +kernel) (by decide +kernel)).trans (by decide +kernel)
  try simp -implicitDefEqProofs only [wp_ok, wp_bind, wp_noexc, wp_seq, wp_skip, wp_brk, wp_cnt, wp_retN, wp_ret, wp_set, wp_par, wp_unp, wp_sto, wp_xpr, wp_ite, wp_for, wp_whl, wp_tru, sk_rt, sk_bk, sk_ct, lk_nx, lk_ct, lk_bk, lk_rt, ik_true, ik_false, ev, evs, evo, evi, evc, evd, keyK_str, keyK_int, retK_rt, retK_nx, iteK_true, iteK_false, truK0_bl, truK0_int, truK0_tup, truK0_frl, truK0_non, scK_bl, wp_callK, cmpO, cmp_eq, cmp_ne, cmp_lt, cmp_le, cmp_gt, cmp_ge, cmp_isN, cmp_notN, eqD_int, eqD_str, bin_int, binI_add, binI_sub, of_some, negK_int, setK_nm, setK_tp, setsK, asg, asgs, tgsOf, intK, rngK, srcK, subO, startE, newR, new, bi_int, bi_abs, bi_len_tup, bi_len_frl,  Option.map_some, Option.map_none, Option.bind_some, List.map_cons, List.map_nil, List.length_cons, List.length_nil, List.length_append, List.length_map, List.length_set, List.cons_append, List.nil_append, List.getElem?_cons_zero, List.getElem?_cons_succ, List.set_cons_zero, List.set_cons_succ, if_true, if_false, Bool.false_eq_true, Bool.true_eq_false, Bool.not_true, Bool.not_false, decide_true, decide_false, Nat.reduceEqDiff, Nat.zero_lt_succ, List.replicate_succ, List.replicate_zero, Nat.reduceSub, Nat.reduceAdd, Nat.reduceLT, Nat.reduceLeDiff, Nat.zero_le, id, lstK_ok, tupK_ok, cmp_in, i2]
  obtain ⟨st4, hs4⟩ : ∃ x : Sto, x = st3 ++ [Ob.lst [W.str "udiv", W.str "urem", W.str "sdiv", W.str "srem"]] := ⟨_, rfl⟩
  have x4 : Ext st3 st4 := by rw [hs4]; exact Ext.new
  rw [← hs4]
  have g4 := x4.2 _ _ g4
  have g5 := x4.2 _ _ g5
  have x4 := x3.trans x4
  have c0 : ∀ s : Sto, sub s (.str "srem") (.int 0) = some (.str "s") := fun _ => rfl
  have c1 : ∀ s : Sto, slW (.str "srem") (some 1) none s = some (.str "rem", s) := fun _ => rfl
  have e1 : (("s" : Str) == "u") = false := by decide +kernel
  have e2 : (("rem" : Str) == "div") = false := by decide +kernel
  by_cases z : b = 0
  · try simp -implicitDefEqProofs only [wp_ok, wp_bind, wp_noexc, wp_seq, wp_skip, wp_brk, wp_cnt, wp_retN, wp_ret, wp_set, wp_par, wp_unp, wp_sto, wp_xpr, wp_ite, wp_for, wp_whl, wp_tru, sk_rt, sk_bk, sk_ct, lk_nx, lk_ct, lk_bk, lk_rt, ik_true, ik_false, ev, evs, evo, evi, evc, evd, keyK_str, keyK_int, retK_rt, retK_nx, iteK_true, iteK_false, truK0_bl, truK0_int, truK0_tup, truK0_frl, truK0_non, scK_bl, wp_callK, cmpO, cmp_eq, cmp_ne, cmp_lt, cmp_le, cmp_gt, cmp_ge, cmp_isN, cmp_notN, eqD_int, eqD_str, bin_int, binI_add, binI_sub, of_some, negK_int, setK_nm, setK_tp, setsK, asg, asgs, tgsOf, intK, rngK, srcK, subO, startE, newR, new, bi_int, bi_abs, bi_len_tup, bi_len_frl,  Option.map_some, Option.map_none, Option.bind_some, List.map_cons, List.map_nil, List.length_cons, List.length_nil, List.length_append, List.length_map, List.length_set, List.cons_append, List.nil_append, List.getElem?_cons_zero, List.getElem?_cons_succ, List.set_cons_zero, List.set_cons_succ, if_true, if_false, Bool.false_eq_true, Bool.true_eq_false, Bool.not_true, Bool.not_false, decide_true, decide_false, Nat.reduceEqDiff, Nat.zero_lt_succ, List.replicate_succ, List.replicate_zero, Nat.reduceSub, Nat.reduceAdd, Nat.reduceLT, Nat.reduceLeDiff, Nat.zero_le, id, lstK_ok, tupK_ok, z, beq_self_eq_true, if_true]
    exact ⟨by first | rfl | trivial, x4⟩
  rw [if_neg z]
  try simp -implicitDefEqProofs only [wp_ok, wp_bind, wp_noexc, wp_seq, wp_skip, wp_brk, wp_cnt, wp_retN, wp_ret, wp_set, wp_par, wp_unp, wp_sto, wp_xpr, wp_ite, wp_for, wp_whl, wp_tru, sk_rt, sk_bk, sk_ct, lk_nx, lk_ct, lk_bk, lk_rt, ik_true, ik_false, ev, evs, evo, evi, evc, evd, keyK_str, keyK_int, retK_rt, retK_nx, iteK_true, iteK_false, truK0_bl, truK0_int, truK0_tup, truK0_frl, truK0_non, scK_bl, wp_callK, cmpO, cmp_eq, cmp_ne, cmp_lt, cmp_le, cmp_gt, cmp_ge, cmp_isN, cmp_notN, eqD_int, eqD_str, bin_int, binI_add, binI_sub, of_some, negK_int, setK_nm, setK_tp, setsK, asg, asgs, tgsOf, intK, rngK, srcK, subO, startE, newR, new, bi_int, bi_abs, bi_len_tup, bi_len_frl,  Option.map_some, Option.map_none, Option.bind_some, List.map_cons, List.map_nil, List.length_cons, List.length_nil, List.length_append, List.length_map, List.length_set, List.cons_append, List.nil_append, List.getElem?_cons_zero, List.getElem?_cons_succ, List.set_cons_zero, List.set_cons_succ, if_true, if_false, Bool.false_eq_true, Bool.true_eq_false, Bool.not_true, Bool.not_false, decide_true, decide_false, Nat.reduceEqDiff, Nat.zero_lt_succ, List.replicate_succ, List.replicate_zero, Nat.reduceSub, Nat.reduceAdd, Nat.reduceLT, Nat.reduceLeDiff, Nat.zero_le, id, lstK_ok, tupK_ok, beq_eq_false_iff_ne.mpr z]
  rw [sk_nx]
  have hb : 0 < b := by have := h.b0; omega
  have hs2 := p2s (v + 1)
  try simp -implicitDefEqProofs only [wp_ok, wp_bind, wp_noexc, wp_seq, wp_skip, wp_brk, wp_cnt, wp_retN, wp_ret, wp_set, wp_par, wp_unp, wp_sto, wp_xpr, wp_ite, wp_for, wp_whl, wp_tru, sk_rt, sk_bk, sk_ct, lk_nx, lk_ct, lk_bk, lk_rt, ik_true, ik_false, ev, evs, evo, evi, evc, evd, keyK_str, keyK_int, retK_rt, retK_nx, iteK_true, iteK_false, truK0_bl, truK0_int, truK0_tup, truK0_frl, truK0_non, scK_bl, wp_callK, cmpO, cmp_eq, cmp_ne, cmp_lt, cmp_le, cmp_gt, cmp_ge, cmp_isN, cmp_notN, eqD_int, eqD_str, bin_int, binI_add, binI_sub, of_some, negK_int, setK_nm, setK_tp, setsK, asg, asgs, tgsOf, intK, rngK, srcK, subO, startE, newR, new, bi_int, bi_abs, bi_len_tup, bi_len_frl,  Option.map_some, Option.map_none, Option.bind_some, List.map_cons, List.map_nil, List.length_cons, List.length_nil, List.length_append, List.length_map, List.length_set, List.cons_append, List.nil_append, List.getElem?_cons_zero, List.getElem?_cons_succ, List.set_cons_zero, List.set_cons_succ, if_true, if_false, Bool.false_eq_true, Bool.true_eq_false, Bool.not_true, Bool.not_false, decide_true, decide_false, Nat.reduceEqDiff, Nat.zero_lt_succ, List.replicate_succ, List.replicate_zero, Nat.reduceSub, Nat.reduceAdd, Nat.reduceLT, Nat.reduceLeDiff, Nat.zero_le, id, lstK_ok, tupK_ok, c0, e1]
  refine (read_ok (n := n + 2) h.hv h.a0 h.a1 g4).mono ?_
  rintro r st5 ⟨rfl, rfl⟩
  try simp -implicitDefEqProofs only [wp_ok, wp_bind, wp_noexc, wp_seq, wp_skip, wp_brk, wp_cnt, wp_retN, wp_ret, wp_set, wp_par, wp_unp, wp_sto, wp_xpr, wp_ite, wp_for, wp_whl, wp_tru, sk_rt, sk_bk, sk_ct, lk_nx, lk_ct, lk_bk, lk_rt, ik_true, ik_false, ev, evs, evo, evi, evc, evd, keyK_str, keyK_int, retK_rt, retK_nx, iteK_true, iteK_false, truK0_bl, truK0_int, truK0_tup, truK0_frl, truK0_non, scK_bl, wp_callK, cmpO, cmp_eq, cmp_ne, cmp_lt, cmp_le, cmp_gt, cmp_ge, cmp_isN, cmp_notN, eqD_int, eqD_str, bin_int, binI_add, binI_sub, of_some, negK_int, setK_nm, setK_tp, setsK, asg, asgs, tgsOf, intK, rngK, srcK, subO, startE, newR, new, bi_int, bi_abs, bi_len_tup, bi_len_frl,  Option.map_some, Option.map_none, Option.bind_some, List.map_cons, List.map_nil, List.length_cons, List.length_nil, List.length_append, List.length_map, List.length_set, List.cons_append, List.nil_append, List.getElem?_cons_zero, List.getElem?_cons_succ, List.set_cons_zero, List.set_cons_succ, if_true, if_false, Bool.false_eq_true, Bool.true_eq_false, Bool.not_true, Bool.not_false, decide_true, decide_false, Nat.reduceEqDiff, Nat.zero_lt_succ, List.replicate_succ, List.replicate_zero, Nat.reduceSub, Nat.reduceAdd, Nat.reduceLT, Nat.reduceLeDiff, Nat.zero_le, id, lstK_ok, tupK_ok]
  refine (read_ok (n := n + 2) h.hv h.b0 h.b1 g5).mono ?_
  rintro r st6 ⟨rfl, rfl⟩
  have sa := sgn_ab h.hv h.a0 h.a1
  have sb := sgn_ab h.hv h.b0 h.b1
  have sz := sgn_ne h.b0 h.b1 z
  have bd := sgn_bd h.b0 h.b1
  have pv : (2 : Int) ^ v ≤ 2 ^ 63 := p2_le (by omega)
  have pv2 : (2 : Int) ^ v ≤ 2 ^ (v + 1) := p2_le (by omega)
  have hq : qt (sgn a (v + 1)) (sgn b (v + 1)) = if (decide (sgn a (v + 1) < 0) == decide (sgn b (v + 1) < 0)) = true then ab (sgn a (v + 1)) / ab (sgn b (v + 1)) else -(ab (sgn a (v + 1)) / ab (sgn b (v + 1))) := rfl
  generalize sgn a (v + 1) = s at *
  generalize sgn b (v + 1) = u at *
  try simp -implicitDefEqProofs only [wp_ok, wp_bind, wp_noexc, wp_seq, wp_skip, wp_brk, wp_cnt, wp_retN, wp_ret, wp_set, wp_par, wp_unp, wp_sto, wp_xpr, wp_ite, wp_for, wp_whl, wp_tru, sk_rt, sk_bk, sk_ct, lk_nx, lk_ct, lk_bk, lk_rt, ik_true, ik_false, ev, evs, evo, evi, evc, evd, keyK_str, keyK_int, retK_rt, retK_nx, iteK_true, iteK_false, truK0_bl, truK0_int, truK0_tup, truK0_frl, truK0_non, scK_bl, wp_callK, cmpO, cmp_eq, cmp_ne, cmp_lt, cmp_le, cmp_gt, cmp_ge, cmp_isN, cmp_notN, eqD_int, eqD_str, bin_int, binI_add, binI_sub, of_some, negK_int, setK_nm, setK_tp, setsK, asg, asgs, tgsOf, intK, rngK, srcK, subO, startE, newR, new, bi_int, bi_abs, bi_len_tup, bi_len_frl,  Option.map_some, Option.map_none, Option.bind_some, List.map_cons, List.map_nil, List.length_cons, List.length_nil, List.length_append, List.length_map, List.length_set, List.cons_append, List.nil_append, List.getElem?_cons_zero, List.getElem?_cons_succ, List.set_cons_zero, List.set_cons_succ, if_true, if_false, Bool.false_eq_true, Bool.true_eq_false, Bool.not_true, Bool.not_false, decide_true, decide_false, Nat.reduceEqDiff, Nat.zero_lt_succ, List.replicate_succ, List.replicate_zero, Nat.reduceSub, Nat.reduceAdd, Nat.reduceLT, Nat.reduceLeDiff, Nat.zero_le, id, lstK_ok, tupK_ok]
  rw [sk_nx]
  try simp -implicitDefEqProofs only [wp_ok, wp_bind, wp_noexc, wp_seq, wp_skip, wp_brk, wp_cnt, wp_retN, wp_ret, wp_set, wp_par, wp_unp, wp_sto, wp_xpr, wp_ite, wp_for, wp_whl, wp_tru, sk_rt, sk_bk, sk_ct, lk_nx, lk_ct, lk_bk, lk_rt, ik_true, ik_false, ev, evs, evo, evi, evc, evd, keyK_str, keyK_int, retK_rt, retK_nx, iteK_true, iteK_false, truK0_bl, truK0_int, truK0_tup, truK0_frl, truK0_non, scK_bl, wp_callK, cmpO, cmp_eq, cmp_ne, cmp_lt, cmp_le, cmp_gt, cmp_ge, cmp_isN, cmp_notN, eqD_int, eqD_str, bin_int, binI_add, binI_sub, of_some, negK_int, setK_nm, setK_tp, setsK, asg, asgs, tgsOf, intK, rngK, srcK, subO, startE, newR, new, bi_int, bi_abs, bi_len_tup, bi_len_frl,  Option.map_some, Option.map_none, Option.bind_some, List.map_cons, List.map_nil, List.length_cons, List.length_nil, List.length_append, List.length_map, List.length_set, List.cons_append, List.nil_append, List.getElem?_cons_zero, List.getElem?_cons_succ, List.set_cons_zero, List.set_cons_succ, if_true, if_false, Bool.false_eq_true, Bool.true_eq_false, Bool.not_true, Bool.not_false, decide_true, decide_false, Nat.reduceEqDiff, Nat.zero_lt_succ, List.replicate_succ, List.replicate_zero, Nat.reduceSub, Nat.reduceAdd, Nat.reduceLT, Nat.reduceLeDiff, Nat.zero_le, id, lstK_ok, tupK_ok]
  have p0 := p2 (v + 1)
  refine (times_ok (n := n + 1) (a := ab s) (b := ab u) (w := v + 1) (by omega) ab_nn (by omega) (ab_pos sz)).mono ?_
  rintro r st5 ⟨rfl, x5⟩
  try simp -implicitDefEqProofs only [wp_ok, wp_bind, wp_noexc, wp_seq, wp_skip, wp_brk, wp_cnt, wp_retN, wp_ret, wp_set, wp_par, wp_unp, wp_sto, wp_xpr, wp_ite, wp_for, wp_whl, wp_tru, sk_rt, sk_bk, sk_ct, lk_nx, lk_ct, lk_bk, lk_rt, ik_true, ik_false, ev, evs, evo, evi, evc, evd, keyK_str, keyK_int, retK_rt, retK_nx, iteK_true, iteK_false, truK0_bl, truK0_int, truK0_tup, truK0_frl, truK0_non, scK_bl, wp_callK, cmpO, cmp_eq, cmp_ne, cmp_lt, cmp_le, cmp_gt, cmp_ge, cmp_isN, cmp_notN, eqD_int, eqD_str, bin_int, binI_add, binI_sub, of_some, negK_int, setK_nm, setK_tp, setsK, asg, asgs, tgsOf, intK, rngK, srcK, subO, startE, newR, new, bi_int, bi_abs, bi_len_tup, bi_len_frl,  Option.map_some, Option.map_none, Option.bind_some, List.map_cons, List.map_nil, List.length_cons, List.length_nil, List.length_append, List.length_map, List.length_set, List.cons_append, List.nil_append, List.getElem?_cons_zero, List.getElem?_cons_succ, List.set_cons_zero, List.set_cons_succ, if_true, if_false, Bool.false_eq_true, Bool.true_eq_false, Bool.not_true, Bool.not_false, decide_true, decide_false, Nat.reduceEqDiff, Nat.zero_lt_succ, List.replicate_succ, List.replicate_zero, Nat.reduceSub, Nat.reduceAdd, Nat.reduceLT, Nat.reduceLeDiff, Nat.zero_le, id, lstK_ok, tupK_ok]
  rw [sk_nx, wp_seq, wp_set]
  refine Wp.mono (Q := fun w st' => w = .int (qt s u) ∧ st' = st5) ?_ ?_
  · try simp -implicitDefEqProofs only [wp_ok, wp_bind, wp_noexc, wp_seq, wp_skip, wp_brk, wp_cnt, wp_retN, wp_ret, wp_set, wp_par, wp_unp, wp_sto, wp_xpr, wp_ite, wp_for, wp_whl, wp_tru, sk_rt, sk_bk, sk_ct, lk_nx, lk_ct, lk_bk, lk_rt, ik_true, ik_false, ev, evs, evo, evi, evc, evd, keyK_str, keyK_int, retK_rt, retK_nx, iteK_true, iteK_false, truK0_bl, truK0_int, truK0_tup, truK0_frl, truK0_non, scK_bl, wp_callK, cmpO, cmp_eq, cmp_ne, cmp_lt, cmp_le, cmp_gt, cmp_ge, cmp_isN, cmp_notN, eqD_int, eqD_str, bin_int, binI_add, binI_sub, of_some, negK_int, setK_nm, setK_tp, setsK, asg, asgs, tgsOf, intK, rngK, srcK, subO, startE, newR, new, bi_int, bi_abs, bi_len_tup, bi_len_frl,  Option.map_some, Option.map_none, Option.bind_some, List.map_cons, List.map_nil, List.length_cons, List.length_nil, List.length_append, List.length_map, List.length_set, List.cons_append, List.nil_append, List.getElem?_cons_zero, List.getElem?_cons_succ, List.set_cons_zero, List.set_cons_succ, if_true, if_false, Bool.false_eq_true, Bool.true_eq_false, Bool.not_true, Bool.not_false, decide_true, decide_false, Nat.reduceEqDiff, Nat.zero_lt_succ, List.replicate_succ, List.replicate_zero, Nat.reduceSub, Nat.reduceAdd, Nat.reduceLT, Nat.reduceLeDiff, Nat.zero_le, id, lstK_ok, tupK_ok, eqD_bl]
    rw [hq]
    cases (decide (s < 0) == decide (u < 0)) with
    | true =>
      try simp -implicitDefEqProofs only [wp_ok, wp_bind, wp_noexc, wp_seq, wp_skip, wp_brk, wp_cnt, wp_retN, wp_ret, wp_set, wp_par, wp_unp, wp_sto, wp_xpr, wp_ite, wp_for, wp_whl, wp_tru, sk_rt, sk_bk, sk_ct, lk_nx, lk_ct, lk_bk, lk_rt, ik_true, ik_false, ev, evs, evo, evi, evc, evd, keyK_str, keyK_int, retK_rt, retK_nx, iteK_true, iteK_false, truK0_bl, truK0_int, truK0_tup, truK0_frl, truK0_non, scK_bl, wp_callK, cmpO, cmp_eq, cmp_ne, cmp_lt, cmp_le, cmp_gt, cmp_ge, cmp_isN, cmp_notN, eqD_int, eqD_str, bin_int, binI_add, binI_sub, of_some, negK_int, setK_nm, setK_tp, setsK, asg, asgs, tgsOf, intK, rngK, srcK, subO, startE, newR, new, bi_int, bi_abs, bi_len_tup, bi_len_frl,  Option.map_some, Option.map_none, Option.bind_some, List.map_cons, List.map_nil, List.length_cons, List.length_nil, List.length_append, List.length_map, List.length_set, List.cons_append, List.nil_append, List.getElem?_cons_zero, List.getElem?_cons_succ, List.set_cons_zero, List.set_cons_succ, if_true, if_false, Bool.false_eq_true, Bool.true_eq_false, Bool.not_true, Bool.not_false, decide_true, decide_false, Nat.reduceEqDiff, Nat.zero_lt_succ, List.replicate_succ, List.replicate_zero, Nat.reduceSub, Nat.reduceAdd, Nat.reduceLT, Nat.reduceLeDiff, Nat.zero_le, id, lstK_ok, tupK_ok]
      exact ⟨by first | rfl | trivial, by first | rfl | trivial⟩
    | false =>
      try simp -implicitDefEqProofs only [wp_ok, wp_bind, wp_noexc, wp_seq, wp_skip, wp_brk, wp_cnt, wp_retN, wp_ret, wp_set, wp_par, wp_unp, wp_sto, wp_xpr, wp_ite, wp_for, wp_whl, wp_tru, sk_rt, sk_bk, sk_ct, lk_nx, lk_ct, lk_bk, lk_rt, ik_true, ik_false, ev, evs, evo, evi, evc, evd, keyK_str, keyK_int, retK_rt, retK_nx, iteK_true, iteK_false, truK0_bl, truK0_int, truK0_tup, truK0_frl, truK0_non, scK_bl, wp_callK, cmpO, cmp_eq, cmp_ne, cmp_lt, cmp_le, cmp_gt, cmp_ge, cmp_isN, cmp_notN, eqD_int, eqD_str, bin_int, binI_add, binI_sub, of_some, negK_int, setK_nm, setK_tp, setsK, asg, asgs, tgsOf, intK, rngK, srcK, subO, startE, newR, new, bi_int, bi_abs, bi_len_tup, bi_len_frl,  Option.map_some, Option.map_none, Option.bind_some, List.map_cons, List.map_nil, List.length_cons, List.length_nil, List.length_append, List.length_map, List.length_set, List.cons_append, List.nil_append, List.getElem?_cons_zero, List.getElem?_cons_succ, List.set_cons_zero, List.set_cons_succ, if_true, if_false, Bool.false_eq_true, Bool.true_eq_false, Bool.not_true, Bool.not_false, decide_true, decide_false, Nat.reduceEqDiff, Nat.zero_lt_succ, List.replicate_succ, List.replicate_zero, Nat.reduceSub, Nat.reduceAdd, Nat.reduceLT, Nat.reduceLeDiff, Nat.zero_le, id, lstK_ok, tupK_ok]
      exact ⟨by simp, by first | rfl | trivial⟩
  rintro w st6 ⟨rfl, rfl⟩
  try simp -implicitDefEqProofs only [wp_ok, wp_bind, wp_noexc, wp_seq, wp_skip, wp_brk, wp_cnt, wp_retN, wp_ret, wp_set, wp_par, wp_unp, wp_sto, wp_xpr, wp_ite, wp_for, wp_whl, wp_tru, sk_rt, sk_bk, sk_ct, lk_nx, lk_ct, lk_bk, lk_rt, ik_true, ik_false, ev, evs, evo, evi, evc, evd, keyK_str, keyK_int, retK_rt, retK_nx, iteK_true, iteK_false, truK0_bl, truK0_int, truK0_tup, truK0_frl, truK0_non, scK_bl, wp_callK, cmpO, cmp_eq, cmp_ne, cmp_lt, cmp_le, cmp_gt, cmp_ge, cmp_isN, cmp_notN, eqD_int, eqD_str, bin_int, binI_add, binI_sub, of_some, negK_int, setK_nm, setK_tp, setsK, asg, asgs, tgsOf, intK, rngK, srcK, subO, startE, newR, new, bi_int, bi_abs, bi_len_tup, bi_len_frl,  Option.map_some, Option.map_none, Option.bind_some, List.map_cons, List.map_nil, List.length_cons, List.length_nil, List.length_append, List.length_map, List.length_set, List.cons_append, List.nil_append, List.getElem?_cons_zero, List.getElem?_cons_succ, List.set_cons_zero, List.set_cons_succ, if_true, if_false, Bool.false_eq_true, Bool.true_eq_false, Bool.not_true, Bool.not_false, decide_true, decide_false, Nat.reduceEqDiff, Nat.zero_lt_succ, List.replicate_succ, List.replicate_zero, Nat.reduceSub, Nat.reduceAdd, Nat.reduceLT, Nat.reduceLeDiff, Nat.zero_le, id, lstK_ok, tupK_ok]
  rw [sk_nx]
  have hm := mulS1 (a := u) (b := qt s u) (by omega)
  try simp -implicitDefEqProofs only [wp_ok, wp_bind, wp_noexc, wp_seq, wp_skip, wp_brk, wp_cnt, wp_retN, wp_ret, wp_set, wp_par, wp_unp, wp_sto, wp_xpr, wp_ite, wp_for, wp_whl, wp_tru, sk_rt, sk_bk, sk_ct, lk_nx, lk_ct, lk_bk, lk_rt, ik_true, ik_false, ev, evs, evo, evi, evc, evd, keyK_str, keyK_int, retK_rt, retK_nx, iteK_true, iteK_false, truK0_bl, truK0_int, truK0_tup, truK0_frl, truK0_non, scK_bl, wp_callK, cmpO, cmp_eq, cmp_ne, cmp_lt, cmp_le, cmp_gt, cmp_ge, cmp_isN, cmp_notN, eqD_int, eqD_str, bin_int, binI_add, binI_sub, of_some, negK_int, setK_nm, setK_tp, setsK, asg, asgs, tgsOf, intK, rngK, srcK, subO, startE, newR, new, bi_int, bi_abs, bi_len_tup, bi_len_frl,  Option.map_some, Option.map_none, Option.bind_some, List.map_cons, List.map_nil, List.length_cons, List.length_nil, List.length_append, List.length_map, List.length_set, List.cons_append, List.nil_append, List.getElem?_cons_zero, List.getElem?_cons_succ, List.set_cons_zero, List.set_cons_succ, if_true, if_false, Bool.false_eq_true, Bool.true_eq_false, Bool.not_true, Bool.not_false, decide_true, decide_false, Nat.reduceEqDiff, Nat.zero_lt_succ, List.replicate_succ, List.replicate_zero, Nat.reduceSub, Nat.reduceAdd, Nat.reduceLT, Nat.reduceLeDiff, Nat.zero_le, id, lstK_ok, tupK_ok, c1, e2, hm]
  refine db_ok (n := n + 1) (show v + 1 ≤ 64 by omega) fun st7 x7 => ?_
  try simp -implicitDefEqProofs only [wp_ok, wp_bind, wp_noexc, wp_seq, wp_skip, wp_brk, wp_cnt, wp_retN, wp_ret, wp_set, wp_par, wp_unp, wp_sto, wp_xpr, wp_ite, wp_for, wp_whl, wp_tru, sk_rt, sk_bk, sk_ct, lk_nx, lk_ct, lk_bk, lk_rt, ik_true, ik_false, ev, evs, evo, evi, evc, evd, keyK_str, keyK_int, retK_rt, retK_nx, iteK_true, iteK_false, truK0_bl, truK0_int, truK0_tup, truK0_frl, truK0_non, scK_bl, wp_callK, cmpO, cmp_eq, cmp_ne, cmp_lt, cmp_le, cmp_gt, cmp_ge, cmp_isN, cmp_notN, eqD_int, eqD_str, bin_int, binI_add, binI_sub, of_some, negK_int, setK_nm, setK_tp, setsK, asg, asgs, tgsOf, intK, rngK, srcK, subO, startE, newR, new, bi_int, bi_abs, bi_len_tup, bi_len_frl,  Option.map_some, Option.map_none, Option.bind_some, List.map_cons, List.map_nil, List.length_cons, List.length_nil, List.length_append, List.length_map, List.length_set, List.cons_append, List.nil_append, List.getElem?_cons_zero, List.getElem?_cons_succ, List.set_cons_zero, List.set_cons_succ, if_true, if_false, Bool.false_eq_true, Bool.true_eq_false, Bool.not_true, Bool.not_false, decide_true, decide_false, Nat.reduceEqDiff, Nat.zero_lt_succ, List.replicate_succ, List.replicate_zero, Nat.reduceSub, Nat.reduceAdd, Nat.reduceLT, Nat.reduceLeDiff, Nat.zero_le, id, lstK_ok, tupK_ok]
  exact ⟨by first | rfl | trivial, x4.trans (x5.trans x7)⟩

theorem due_and (h : Ab v a b) : Wp (Ci.run tab (n + 4) 21 [.str "and", .int ((v + 1 : Nat) : Int), .int a, .int b] st) fun w st' => w = v_and v a b ∧ Ext st st' := by
  refine wp_run (d := d21) rfl rfl ?_
  show Wp (ex _ c21 _ _) _
  unfold c21 v_and
  have hv := h.hv
  have am : a % 2 ^ (v + 1) = a := Int.emod_eq_of_lt h.a0 h.a1
  have bm : b % 2 ^ (v + 1) = b := Int.emod_eq_of_lt h.b0 h.b1
  have hp := p64 h.hv
  try simp -implicitDefEqProofs only [wp_ok, wp_bind, wp_noexc, wp_seq, wp_skip, wp_brk, wp_cnt, wp_retN, wp_ret, wp_set, wp_par, wp_unp, wp_sto, wp_xpr, wp_ite, wp_for, wp_whl, wp_tru, sk_rt, sk_bk, sk_ct, lk_nx, lk_ct, lk_bk, lk_rt, ik_true, ik_false, ev, evs, evo, evi, evc, evd, keyK_str, keyK_int, retK_rt, retK_nx, iteK_true, iteK_false, truK0_bl, truK0_int, truK0_tup, truK0_frl, truK0_non, scK_bl, wp_callK, cmpO, cmp_eq, cmp_ne, cmp_lt, cmp_le, cmp_gt, cmp_ge, cmp_isN, cmp_notN, eqD_int, eqD_str, bin_int, binI_add, binI_sub, of_some, negK_int, setK_nm, setK_tp, setsK, asg, asgs, tgsOf, intK, rngK, srcK, subO, startE, newR, new, bi_int, bi_abs, bi_len_tup, bi_len_frl,  Option.map_some, Option.map_none, Option.bind_some, List.map_cons, List.map_nil, List.length_cons, List.length_nil, List.length_append, List.length_map, List.length_set, List.cons_append, List.nil_append, List.getElem?_cons_zero, List.getElem?_cons_succ, List.set_cons_zero, List.set_cons_succ, if_true, if_false, Bool.false_eq_true, Bool.true_eq_false, Bool.not_true, Bool.not_false, decide_true, decide_false, Nat.reduceEqDiff, Nat.zero_lt_succ, List.replicate_succ, List.replicate_zero, Nat.reduceSub, Nat.reduceAdd, Nat.reduceLT, Nat.reduceLeDiff, Nat.zero_le, id, lstK_ok, tupK_ok, d21]
  refine (digits_ok (n := n + 1) (show v + 1 ≤ 64 by omega)).mono ?_
  rintro w st1 ⟨p4, rfl, x1, l4, g4⟩
  try simp -implicitDefEqProofs only [wp_ok, wp_bind, wp_noexc, wp_seq, wp_skip, wp_brk, wp_cnt, wp_retN, wp_ret, wp_set, wp_par, wp_unp, wp_sto, wp_xpr, wp_ite, wp_for, wp_whl, wp_tru, sk_rt, sk_bk, sk_ct, lk_nx, lk_ct, lk_bk, lk_rt, ik_true, ik_false, ev, evs, evo, evi, evc, evd, keyK_str, keyK_int, retK_rt, retK_nx, iteK_true, iteK_false, truK0_bl, truK0_int, truK0_tup, truK0_frl, truK0_non, scK_bl, wp_callK, cmpO, cmp_eq, cmp_ne, cmp_lt, cmp_le, cmp_gt, cmp_ge, cmp_isN, cmp_notN, eqD_int, eqD_str, bin_int, binI_add, binI_sub, of_some, negK_int, setK_nm, setK_tp, setsK, asg, asgs, tgsOf, intK, rngK, srcK, subO, startE, newR, new, bi_int, bi_abs, bi_len_tup, bi_len_frl,  Option.map_some, Option.map_none, Option.bind_some, List.map_cons, List.map_nil, List.length_cons, List.length_nil, List.length_append, List.length_map, List.length_set, List.cons_append, List.nil_append, List.getElem?_cons_zero, List.getElem?_cons_succ, List.set_cons_zero, List.set_cons_succ, if_true, if_false, Bool.false_eq_true, Bool.true_eq_false, Bool.not_true, Bool.not_false, decide_true, decide_false, Nat.reduceEqDiff, Nat.zero_lt_succ, List.replicate_succ, List.replicate_zero, Nat.reduceSub, Nat.reduceAdd, Nat.reduceLT, Nat.reduceLeDiff, Nat.zero_le, id, lstK_ok, tupK_ok]
  refine (digits_ok (n := n + 1) (show v + 1 ≤ 64 by omega)).mono ?_
  rintro w st2 ⟨p5, rfl, x2, l5, g5⟩
  have g4 := x2.2 _ _ g4
  rw [am] at g4
  rw [bm] at g5
  have x2 := x1.trans x2
  try simp -implicitDefEqProofs only [wp_ok, wp_bind, wp_noexc, wp_seq, wp_skip, wp_brk, wp_cnt, wp_retN, wp_ret, wp_set, wp_par, wp_unp, wp_sto, wp_xpr, wp_ite, wp_for, wp_whl, wp_tru, sk_rt, sk_bk, sk_ct, lk_nx, lk_ct, lk_bk, lk_rt, ik_true, ik_false, ev, evs, evo, evi, evc, evd, keyK_str, keyK_int, retK_rt, retK_nx, iteK_true, iteK_false, truK0_bl, truK0_int, truK0_tup, truK0_frl, truK0_non, scK_bl, wp_callK, cmpO, cmp_eq, cmp_ne, cmp_lt, cmp_le, cmp_gt, cmp_ge, cmp_isN, cmp_notN, eqD_int, eqD_str, bin_int, binI_add, binI_sub, of_some, negK_int, setK_nm, setK_tp, setsK, asg, asgs, tgsOf, intK, rngK, srcK, subO, startE, newR, new, bi_int, bi_abs, bi_len_tup, bi_len_frl,  Option.map_some, Option.map_none, Option.bind_some, List.map_cons, List.map_nil, List.length_cons, List.length_nil, List.length_append, List.length_map, List.length_set, List.cons_append, List.nil_append, List.getElem?_cons_zero, List.getElem?_cons_succ, List.set_cons_zero, List.set_cons_succ, if_true, if_false, Bool.false_eq_true, Bool.true_eq_false, Bool.not_true, Bool.not_false, decide_true, decide_false, Nat.reduceEqDiff, Nat.zero_lt_succ, List.replicate_succ, List.replicate_zero, Nat.reduceSub, Nat.reduceAdd, Nat.reduceLT, Nat.reduceLeDiff, Nat.zero_le, id, lstK_ok, tupK_ok]
  rw [sk_nx]
  have i1 : inW (st2 ++ [Ob.lst [W.str "add", W.str "sub", W.str "mul"]]) (.str "and") (.ref st2.length) = some false := (in_strs (ss := ["add", "sub", "mul"]) getLast (by decide +kernel) (by decide +kernel)).trans (by decide +kernel)
  try simp -implicitDefEqProofs only [wp_ok, wp_bind, wp_noexc, wp_seq, wp_skip, wp_brk, wp_cnt, wp_retN, wp_ret, wp_set, wp_par, wp_unp, wp_sto, wp_xpr, wp_ite, wp_for, wp_whl, wp_tru, sk_rt, sk_bk, sk_ct, lk_nx, lk_ct, lk_bk, lk_rt, ik_true, ik_false, ev, evs, evo, evi, evc, evd, keyK_str, keyK_int, retK_rt, retK_nx, iteK_true, iteK_false, truK0_bl, truK0_int, truK0_tup, truK0_frl, truK0_non, scK_bl, wp_callK, cmpO, cmp_eq, cmp_ne, cmp_lt, cmp_le, cmp_gt, cmp_ge, cmp_isN, cmp_notN, eqD_int, eqD_str, bin_int, binI_add, binI_sub, of_some, negK_int, setK_nm, setK_tp, setsK, asg, asgs, tgsOf, intK, rngK, srcK, subO, startE, newR, new, bi_int, bi_abs, bi_len_tup, bi_len_frl,  Option.map_some, Option.map_none, Option.bind_some, List.map_cons, List.map_nil, List.length_cons, List.length_nil, List.length_append, List.length_map, List.length_set, List.cons_append, List.nil_append, List.getElem?_cons_zero, List.getElem?_cons_succ, List.set_cons_zero, List.set_cons_succ, if_true, if_false, Bool.false_eq_true, Bool.true_eq_false, Bool.not_true, Bool.not_false, decide_true, decide_false, Nat.reduceEqDiff, Nat.zero_lt_succ, List.replicate_succ, List.replicate_zero, Nat.reduceSub, Nat.reduceAdd, Nat.reduceLT, Nat.reduceLeDiff, Nat.zero_le, id, lstK_ok, tupK_ok, cmp_in, i1]
  rw [sk_nx]
  obtain ⟨st3, hs3⟩ : ∃ x : Sto, x = st2 ++ [Ob.lst [W.str "add", W.str "sub", W.str "mul"]] := ⟨_, rfl⟩
  have x3 : Ext st2 st3 := by rw [hs3]; exact Ext.new
  rw [← hs3]
  have g4 := x3.2 _ _ g4
  have g5 := x3.2 _ _ g5
  have x3 := x2.trans x3
  have i2 : inW (st3 ++ [Ob.lst [W.str "udiv", W.str "urem", W.str "sdiv", W.str "srem"]]) (.str "and") (.ref st3.length) = some false := (in_strs (ss := ["udiv", "urem", "sdiv", "srem"]) getLast (by decide +kernel) (by decide +kernel)).trans (by decide +kernel)
  try simp -implicitDefEqProofs only [wp_ok, wp_bind, wp_noexc, wp_seq, wp_skip, wp_brk, wp_cnt, wp_retN, wp_ret, wp_set, wp_par, wp_unp, wp_sto, wp_xpr, wp_ite, wp_for, wp_whl, wp_tru, sk_rt, sk_bk, sk_ct, lk_nx, lk_ct, lk_bk, lk_rt, ik_true, ik_false, ev, evs, evo, evi, evc, evd, keyK_str, keyK_int, retK_rt, retK_nx, iteK_true, iteK_false, truK0_bl, truK0_int, truK0_tup, truK0_frl, truK0_non, scK_bl, wp_callK, cmpO, cmp_eq, cmp_ne, cmp_lt, cmp_le, cmp_gt, cmp_ge, cmp_isN, cmp_notN, eqD_int, eqD_str, bin_int, binI_add, binI_sub, of_some, negK_int, setK_nm, setK_tp, setsK, asg, asgs, tgsOf, intK, rngK, srcK, subO, startE, newR, new, bi_int, bi_abs, bi_len_tup, bi_len_frl,  Option.map_some, Option.map_none, Option.bind_some, List.map_cons, List.map_nil, List.length_cons, List.length_nil, List.length_append, List.length_map, List.length_set, List.cons_append, List.nil_append, List.getElem?_cons_zero, List.getElem?_cons_succ, List.set_cons_zero, List.set_cons_succ, if_true, if_false, Bool.false_eq_true, Bool.true_eq_false, Bool.not_true, Bool.not_false, decide_true, decide_false, Nat.reduceEqDiff, Nat.zero_lt_succ, List.replicate_succ, List.replicate_zero, Nat.reduceSub, Nat.reduceAdd, Nat.reduceLT, Nat.reduceLeDiff, Nat.zero_le, id, lstK_ok, tupK_ok, cmp_in, i2]
  rw [sk_nx]
  obtain ⟨st4, hs4⟩ : ∃ x : Sto, x = st3 ++ [Ob.lst [W.str "udiv", W.str "urem", W.str "sdiv", W.str "srem"]] := ⟨_, rfl⟩
  have x4 : Ext st3 st4 := by rw [hs4]; exact Ext.new
  rw [← hs4]
  have g4 := x4.2 _ _ g4
  have g5 := x4.2 _ _ g5
  have x4 := x3.trans x4
  have i3 : inW (st4 ++ [Ob.lst [W.str "and", W.str "or", W.str "xor"]]) (.str "and") (.ref st4.length) = some true := (in_strs (ss := ["and", "or", "xor"]) getLast (by decide +kernel) (by decide +kernel)).trans (by decide +kernel)
  try simp -implicitDefEqProofs only [wp_ok, wp_bind, wp_noexc, wp_seq, wp_skip, wp_brk, wp_cnt, wp_retN, wp_ret, wp_set, wp_par, wp_unp, wp_sto, wp_xpr, wp_ite, wp_for, wp_whl, wp_tru, sk_rt, sk_bk, sk_ct, lk_nx, lk_ct, lk_bk, lk_rt, ik_true, ik_false, ev, evs, evo, evi, evc, evd, keyK_str, keyK_int, retK_rt, retK_nx, iteK_true, iteK_false, truK0_bl, truK0_int, truK0_tup, truK0_frl, truK0_non, scK_bl, wp_callK, cmpO, cmp_eq, cmp_ne, cmp_lt, cmp_le, cmp_gt, cmp_ge, cmp_isN, cmp_notN, eqD_int, eqD_str, bin_int, binI_add, binI_sub, of_some, negK_int, setK_nm, setK_tp, setsK, asg, asgs, tgsOf, intK, rngK, srcK, subO, startE, newR, new, bi_int, bi_abs, bi_len_tup, bi_len_frl,  Option.map_some, Option.map_none, Option.bind_some, List.map_cons, List.map_nil, List.length_cons, List.length_nil, List.length_append, List.length_map, List.length_set, List.cons_append, List.nil_append, List.getElem?_cons_zero, List.getElem?_cons_succ, List.set_cons_zero, List.set_cons_succ, if_true, if_false, Bool.false_eq_true, Bool.true_eq_false, Bool.not_true, Bool.not_false, decide_true, decide_false, Nat.reduceEqDiff, Nat.zero_lt_succ, List.replicate_succ, List.replicate_zero, Nat.reduceSub, Nat.reduceAdd, Nat.reduceLT, Nat.reduceLeDiff, Nat.zero_le, id, lstK_ok, tupK_ok, cmp_in, i3]
  obtain ⟨st5, hs5⟩ : ∃ x : Sto, x = st4 ++ [Ob.lst [W.str "and", W.str "or", W.str "xor"]] := ⟨_, rfl⟩
  have x5 : Ext st4 st5 := by rw [hs5]; exact Ext.new
  have ln5 : st4.length + 1 = st5.length := by rw [hs5]; simp
  simp only [← hs5, ln5]
  have g4 := x5.2 _ _ g4
  have g5 := x5.2 _ _ g5
  have x5 := x4.trans x5
  have hd : (st5 ++ [Ob.dct []] ++ [Ob.lst [W.int 2]] ++ [Ob.lst [W.int 1, W.int 2]] ++ [Ob.lst [W.int 1]])[st5.length]? = some (.dct []) := getNew (getNew (getNew getLast))
  have n1 : (st5 ++ [Ob.dct []]).length = st5.length + 1 := by simp
  have n2 : (st5 ++ [Ob.dct []] ++ [Ob.lst [W.int 2]]).length = st5.length + 1 + 1 := by simp
  have n3 : (st5 ++ [Ob.dct []] ++ [Ob.lst [W.int 2]] ++ [Ob.lst [W.int 1, W.int 2]]).length = st5.length + 1 + 1 + 1 := by simp
  have w1 : (st5 ++ [Ob.dct []] ++ [Ob.lst [W.int 2]] ++ [Ob.lst [W.int 1, W.int 2]] ++ [Ob.lst [W.int 1]])[st5.length + 1]? = some (.lst [W.int 2]) := by rw [← n1]; exact getNew (getNew getLast)
  have w2 : (st5 ++ [Ob.dct []] ++ [Ob.lst [W.int 2]] ++ [Ob.lst [W.int 1, W.int 2]] ++ [Ob.lst [W.int 1]])[st5.length + 1 + 1]? = some (.lst [W.int 1, W.int 2]) := by rw [← n2]; exact getNew getLast
  have w3 : (st5 ++ [Ob.dct []] ++ [Ob.lst [W.int 2]] ++ [Ob.lst [W.int 1, W.int 2]] ++ [Ob.lst [W.int 1]])[st5.length + 1 + 1 + 1]? = some (.lst [W.int 1]) := by rw [← n3]; exact getLast
  have xX : Ext st5 (st5 ++ [Ob.dct []] ++ [Ob.lst [W.int 2]] ++ [Ob.lst [W.int 1, W.int 2]] ++ [Ob.lst [W.int 1]]) := ((Ext.new.trans Ext.new).trans Ext.new).trans Ext.new
  try simp -implicitDefEqProofs only [wp_ok, wp_bind, wp_noexc, wp_seq, wp_skip, wp_brk, wp_cnt, wp_retN, wp_ret, wp_set, wp_par, wp_unp, wp_sto, wp_xpr, wp_ite, wp_for, wp_whl, wp_tru, sk_rt, sk_bk, sk_ct, lk_nx, lk_ct, lk_bk, lk_rt, ik_true, ik_false, ev, evs, evo, evi, evc, evd, keyK_str, keyK_int, retK_rt, retK_nx, iteK_true, iteK_false, truK0_bl, truK0_int, truK0_tup, truK0_frl, truK0_non, scK_bl, wp_callK, cmpO, cmp_eq, cmp_ne, cmp_lt, cmp_le, cmp_gt, cmp_ge, cmp_isN, cmp_notN, eqD_int, eqD_str, bin_int, binI_add, binI_sub, of_some, negK_int, setK_nm, setK_tp, setsK, asg, asgs, tgsOf, intK, rngK, srcK, subO, startE, newR, new, bi_int, bi_abs, bi_len_tup, bi_len_frl,  Option.map_some, Option.map_none, Option.bind_some, List.map_cons, List.map_nil, List.length_cons, List.length_nil, List.length_append, List.length_map, List.length_set, List.cons_append, List.nil_append, List.getElem?_cons_zero, List.getElem?_cons_succ, List.set_cons_zero, List.set_cons_succ, if_true, if_false, Bool.false_eq_true, Bool.true_eq_false, Bool.not_true, Bool.not_false, decide_true, decide_false, Nat.reduceEqDiff, Nat.zero_lt_succ, List.replicate_succ, List.replicate_zero, Nat.reduceSub, Nat.reduceAdd, Nat.reduceLT, Nat.reduceLeDiff, Nat.zero_le, id, lstK_ok, tupK_ok]
  generalize (st5 ++ [Ob.dct []] ++ [Ob.lst [W.int 2]] ++ [Ob.lst [W.int 1, W.int 2]] ++ [Ob.lst [W.int 1]]) = X at *
  try simp -implicitDefEqProofs only [wp_ok, wp_bind, wp_noexc, wp_seq, wp_skip, wp_brk, wp_cnt, wp_retN, wp_ret, wp_set, wp_par, wp_unp, wp_sto, wp_xpr, wp_ite, wp_for, wp_whl, wp_tru, sk_rt, sk_bk, sk_ct, lk_nx, lk_ct, lk_bk, lk_rt, ik_true, ik_false, ev, evs, evo, evi, evc, evd, keyK_str, keyK_int, retK_rt, retK_nx, iteK_true, iteK_false, truK0_bl, truK0_int, truK0_tup, truK0_frl, truK0_non, scK_bl, wp_callK, cmpO, cmp_eq, cmp_ne, cmp_lt, cmp_le, cmp_gt, cmp_ge, cmp_isN, cmp_notN, eqD_int, eqD_str, bin_int, binI_add, binI_sub, of_some, negK_int, setK_nm, setK_tp, setsK, asg, asgs, tgsOf, intK, rngK, srcK, subO, startE, newR, new, bi_int, bi_abs, bi_len_tup, bi_len_frl,  Option.map_some, Option.map_none, Option.bind_some, List.map_cons, List.map_nil, List.length_cons, List.length_nil, List.length_append, List.length_map, List.length_set, List.cons_append, List.nil_append, List.getElem?_cons_zero, List.getElem?_cons_succ, List.set_cons_zero, List.set_cons_succ, if_true, if_false, Bool.false_eq_true, Bool.true_eq_false, Bool.not_true, Bool.not_false, decide_true, decide_false, Nat.reduceEqDiff, Nat.zero_lt_succ, List.replicate_succ, List.replicate_zero, Nat.reduceSub, Nat.reduceAdd, Nat.reduceLT, Nat.reduceLeDiff, Nat.zero_le, id, lstK_ok, tupK_ok, dspK_ok hd]
  have sx : sub (X.set st5.length (.dct (mergeW [(Sum.inr (Str.ofString "and"), W.ref (st5.length + 1)), (Sum.inr (Str.ofString "or"), W.ref (st5.length + 1 + 1)), (Sum.inr (Str.ofString "xor"), W.ref (st5.length + 1 + 1 + 1))]))) (.ref st5.length) (.str "and") = some (.ref (st5.length + 1)) := by
    have e : (X.set st5.length (Ob.dct (mergeW [(Sum.inr (Str.ofString "and"), W.ref (st5.length + 1)), (Sum.inr (Str.ofString "or"), W.ref (st5.length + 1 + 1)), (Sum.inr (Str.ofString "xor"), W.ref (st5.length + 1 + 1 + 1))])))[st5.length]? = some (.dct (mergeW [(Sum.inr (Str.ofString "and"), W.ref (st5.length + 1)), (Sum.inr (Str.ofString "or"), W.ref (st5.length + 1 + 1)), (Sum.inr (Str.ofString "xor"), W.ref (st5.length + 1 + 1 + 1))])) := by rw [List.getElem?_set_self (List.getElem?_eq_some_iff.mp hd).1]
    simp only [sub, dctOf, e]
    rfl
  have xS : Ext st5 (X.set st5.length (.dct (mergeW [(Sum.inr (Str.ofString "and"), W.ref (st5.length + 1)), (Sum.inr (Str.ofString "or"), W.ref (st5.length + 1 + 1)), (Sum.inr (Str.ofString "xor"), W.ref (st5.length + 1 + 1 + 1))]))) := xX.set (Nat.le_refl _)
  have wS : (X.set st5.length (Ob.dct (mergeW [(Sum.inr (Str.ofString "and"), W.ref (st5.length + 1)), (Sum.inr (Str.ofString "or"), W.ref (st5.length + 1 + 1)), (Sum.inr (Str.ofString "xor"), W.ref (st5.length + 1 + 1 + 1))])))[st5.length + 1]? = some (.lst (([2] : List Int).map .int)) := by
    rw [List.getElem?_set_ne (by omega)]
    first | exact w1 | exact w2 | exact w3
  generalize (X.set st5.length (Ob.dct (mergeW [(Sum.inr (Str.ofString "and"), W.ref (st5.length + 1)), (Sum.inr (Str.ofString "or"), W.ref (st5.length + 1 + 1)), (Sum.inr (Str.ofString "xor"), W.ref (st5.length + 1 + 1 + 1))]))) = S at *
  try simp -implicitDefEqProofs only [wp_ok, wp_bind, wp_noexc, wp_seq, wp_skip, wp_brk, wp_cnt, wp_retN, wp_ret, wp_set, wp_par, wp_unp, wp_sto, wp_xpr, wp_ite, wp_for, wp_whl, wp_tru, sk_rt, sk_bk, sk_ct, lk_nx, lk_ct, lk_bk, lk_rt, ik_true, ik_false, ev, evs, evo, evi, evc, evd, keyK_str, keyK_int, retK_rt, retK_nx, iteK_true, iteK_false, truK0_bl, truK0_int, truK0_tup, truK0_frl, truK0_non, scK_bl, wp_callK, cmpO, cmp_eq, cmp_ne, cmp_lt, cmp_le, cmp_gt, cmp_ge, cmp_isN, cmp_notN, eqD_int, eqD_str, bin_int, binI_add, binI_sub, of_some, negK_int, setK_nm, setK_tp, setsK, asg, asgs, tgsOf, intK, rngK, srcK, subO, startE, newR, new, bi_int, bi_abs, bi_len_tup, bi_len_frl,  Option.map_some, Option.map_none, Option.bind_some, List.map_cons, List.map_nil, List.length_cons, List.length_nil, List.length_append, List.length_map, List.length_set, List.cons_append, List.nil_append, List.getElem?_cons_zero, List.getElem?_cons_succ, List.set_cons_zero, List.set_cons_succ, if_true, if_false, Bool.false_eq_true, Bool.true_eq_false, Bool.not_true, Bool.not_false, decide_true, decide_false, Nat.reduceEqDiff, Nat.zero_lt_succ, List.replicate_succ, List.replicate_zero, Nat.reduceSub, Nat.reduceAdd, Nat.reduceLT, Nat.reduceLeDiff, Nat.zero_le, id, lstK_ok, tupK_ok, sx]
  rw [sk_nx]
  have g4 := xS.2 _ _ g4
  have g5 := xS.2 _ _ g5
  try simp -implicitDefEqProofs only [wp_ok, wp_bind, wp_noexc, wp_seq, wp_skip, wp_brk, wp_cnt, wp_retN, wp_ret, wp_set, wp_par, wp_unp, wp_sto, wp_xpr, wp_ite, wp_for, wp_whl, wp_tru, sk_rt, sk_bk, sk_ct, lk_nx, lk_ct, lk_bk, lk_rt, ik_true, ik_false, ev, evs, evo, evi, evc, evd, keyK_str, keyK_int, retK_rt, retK_nx, iteK_true, iteK_false, truK0_bl, truK0_int, truK0_tup, truK0_frl, truK0_non, scK_bl, wp_callK, cmpO, cmp_eq, cmp_ne, cmp_lt, cmp_le, cmp_gt, cmp_ge, cmp_isN, cmp_notN, eqD_int, eqD_str, bin_int, binI_add, binI_sub, of_some, negK_int, setK_nm, setK_tp, setsK, asg, asgs, tgsOf, intK, rngK, srcK, subO, startE, newR, new, bi_int, bi_abs, bi_len_tup, bi_len_frl,  Option.map_some, Option.map_none, Option.bind_some, List.map_cons, List.map_nil, List.length_cons, List.length_nil, List.length_append, List.length_map, List.length_set, List.cons_append, List.nil_append, List.getElem?_cons_zero, List.getElem?_cons_succ, List.set_cons_zero, List.set_cons_succ, if_true, if_false, Bool.false_eq_true, Bool.true_eq_false, Bool.not_true, Bool.not_false, decide_true, decide_false, Nat.reduceEqDiff, Nat.zero_lt_succ, List.replicate_succ, List.replicate_zero, Nat.reduceSub, Nat.reduceAdd, Nat.reduceLT, Nat.reduceLeDiff, Nat.zero_le, id, lstK_ok, tupK_ok, src2K_lst g4 g5]
  have lws : ((List.range (v + 1)).map fun i : Nat => W.tup [W.int (a / 2 ^ i % 2), W.int (b / 2 ^ i % 2)]).length = v + 1 := by simp
  refine wp_lcL ((List.range (v + 1)).map fun i : Nat => W.tup [W.int (a / 2 ^ i % 2), W.int (b / 2 ^ i % 2)]) (fun k st' => st' = S ++ [Ob.lst (((List.range k).map fun i : Nat => gAnd (a / 2 ^ i % 2) (b / 2 ^ i % 2)).map .int)]) ?_ ?_ ?_ FU 0 _ (Nat.zero_le _) (by rw [lws]; unfold FU; omega) rfl
  · rintro k st' rfl
    simp only [Src.get, getNew g4, getNew g5]
    rcases Nat.lt_or_ge k (v + 1) with hk | hk
    · rw [List.getElem?_map, lo_get hk, List.getElem?_map, lo_get hk, List.getElem?_map, List.getElem?_range hk]
      rfl
    · rw [List.getElem?_eq_none (by rw [List.length_map, lo_len]; exact hk), List.getElem?_eq_none (by rw [List.length_map, lo_len]; exact hk), List.getElem?_eq_none (by rw [lws]; exact hk)]
  · rintro k w st' hw rfl
    have hk : k < v + 1 := by have := (List.getElem?_eq_some_iff.mp hw).1; rw [lws] at this; exact this
    rw [List.getElem?_map, List.getElem?_range hk] at hw
    cases hw
    refine ⟨_, rfl, ?_⟩
    obtain ⟨q1, q2⟩ := wantAnd _ _ (bit2 a k) (bit2 b k)
    have q3 := in_ints (i := a / 2 ^ k % 2 + b / 2 ^ k % 2) (getNew (u := Ob.lst (((List.range k).map fun i : Nat => gAnd (a / 2 ^ i % 2) (b / 2 ^ i % 2)).map W.int)) wS)
    rw [q1] at q3
    try simp -implicitDefEqProofs only [wp_ok, wp_bind, wp_noexc, wp_seq, wp_skip, wp_brk, wp_cnt, wp_retN, wp_ret, wp_set, wp_par, wp_unp, wp_sto, wp_xpr, wp_ite, wp_for, wp_whl, wp_tru, sk_rt, sk_bk, sk_ct, lk_nx, lk_ct, lk_bk, lk_rt, ik_true, ik_false, ev, evs, evo, evi, evc, evd, keyK_str, keyK_int, retK_rt, retK_nx, iteK_true, iteK_false, truK0_bl, truK0_int, truK0_tup, truK0_frl, truK0_non, scK_bl, wp_callK, cmpO, cmp_eq, cmp_ne, cmp_lt, cmp_le, cmp_gt, cmp_ge, cmp_isN, cmp_notN, eqD_int, eqD_str, bin_int, binI_add, binI_sub, of_some, negK_int, setK_nm, setK_tp, setsK, asg, asgs, tgsOf, intK, rngK, srcK, subO, startE, newR, new, bi_int, bi_abs, bi_len_tup, bi_len_frl,  Option.map_some, Option.map_none, Option.bind_some, List.map_cons, List.map_nil, List.length_cons, List.length_nil, List.length_append, List.length_map, List.length_set, List.cons_append, List.nil_append, List.getElem?_cons_zero, List.getElem?_cons_succ, List.set_cons_zero, List.set_cons_succ, if_true, if_false, Bool.false_eq_true, Bool.true_eq_false, Bool.not_true, Bool.not_false, decide_true, decide_false, Nat.reduceEqDiff, Nat.zero_lt_succ, List.replicate_succ, List.replicate_zero, Nat.reduceSub, Nat.reduceAdd, Nat.reduceLT, Nat.reduceLeDiff, Nat.zero_le, id, lstK_ok, tupK_ok, wipeE, cmp_in, q3]
    have fin : ∀ y : Int, y = gAnd (a / 2 ^ k % 2) (b / 2 ^ k % 2) → ∃ acc, (S ++ [Ob.lst (((List.range k).map fun i : Nat => gAnd (a / 2 ^ i % 2) (b / 2 ^ i % 2)).map W.int)])[S.length]? = some (.lst acc) ∧ acc.length < sizeLine ∧ (S ++ [Ob.lst (((List.range k).map fun i : Nat => gAnd (a / 2 ^ i % 2) (b / 2 ^ i % 2)).map W.int)]).set S.length (.lst (acc ++ [W.int y])) = S ++ [Ob.lst (((List.range (k + 1)).map fun i : Nat => gAnd (a / 2 ^ i % 2) (b / 2 ^ i % 2)).map W.int)] := by
      rintro y rfl
      refine ⟨_, getLast, by simp only [List.length_map, List.length_range]; unfold sizeLine; omega, ?_⟩
      rw [set_last, List.range_succ]
      simp
    rcases q2 with q2 | q2
    · rw [q2, show decide ((0 : Int) = 1) = false from rfl]
      try simp -implicitDefEqProofs only [wp_ok, wp_bind, wp_noexc, wp_seq, wp_skip, wp_brk, wp_cnt, wp_retN, wp_ret, wp_set, wp_par, wp_unp, wp_sto, wp_xpr, wp_ite, wp_for, wp_whl, wp_tru, sk_rt, sk_bk, sk_ct, lk_nx, lk_ct, lk_bk, lk_rt, ik_true, ik_false, ev, evs, evo, evi, evc, evd, keyK_str, keyK_int, retK_rt, retK_nx, iteK_true, iteK_false, truK0_bl, truK0_int, truK0_tup, truK0_frl, truK0_non, scK_bl, wp_callK, cmpO, cmp_eq, cmp_ne, cmp_lt, cmp_le, cmp_gt, cmp_ge, cmp_isN, cmp_notN, eqD_int, eqD_str, bin_int, binI_add, binI_sub, of_some, negK_int, setK_nm, setK_tp, setsK, asg, asgs, tgsOf, intK, rngK, srcK, subO, startE, newR, new, bi_int, bi_abs, bi_len_tup, bi_len_frl,  Option.map_some, Option.map_none, Option.bind_some, List.map_cons, List.map_nil, List.length_cons, List.length_nil, List.length_append, List.length_map, List.length_set, List.cons_append, List.nil_append, List.getElem?_cons_zero, List.getElem?_cons_succ, List.set_cons_zero, List.set_cons_succ, if_true, if_false, Bool.false_eq_true, Bool.true_eq_false, Bool.not_true, Bool.not_false, decide_true, decide_false, Nat.reduceEqDiff, Nat.zero_lt_succ, List.replicate_succ, List.replicate_zero, Nat.reduceSub, Nat.reduceAdd, Nat.reduceLT, Nat.reduceLeDiff, Nat.zero_le, id, lstK_ok, tupK_ok]
      exact fin 0 q2.symm
    · rw [q2, decide_eq_true rfl]
      try simp -implicitDefEqProofs only [wp_ok, wp_bind, wp_noexc, wp_seq, wp_skip, wp_brk, wp_cnt, wp_retN, wp_ret, wp_set, wp_par, wp_unp, wp_sto, wp_xpr, wp_ite, wp_for, wp_whl, wp_tru, sk_rt, sk_bk, sk_ct, lk_nx, lk_ct, lk_bk, lk_rt, ik_true, ik_false, ev, evs, evo, evi, evc, evd, keyK_str, keyK_int, retK_rt, retK_nx, iteK_true, iteK_false, truK0_bl, truK0_int, truK0_tup, truK0_frl, truK0_non, scK_bl, wp_callK, cmpO, cmp_eq, cmp_ne, cmp_lt, cmp_le, cmp_gt, cmp_ge, cmp_isN, cmp_notN, eqD_int, eqD_str, bin_int, binI_add, binI_sub, of_some, negK_int, setK_nm, setK_tp, setsK, asg, asgs, tgsOf, intK, rngK, srcK, subO, startE, newR, new, bi_int, bi_abs, bi_len_tup, bi_len_frl,  Option.map_some, Option.map_none, Option.bind_some, List.map_cons, List.map_nil, List.length_cons, List.length_nil, List.length_append, List.length_map, List.length_set, List.cons_append, List.nil_append, List.getElem?_cons_zero, List.getElem?_cons_succ, List.set_cons_zero, List.set_cons_succ, if_true, if_false, Bool.false_eq_true, Bool.true_eq_false, Bool.not_true, Bool.not_false, decide_true, decide_false, Nat.reduceEqDiff, Nat.zero_lt_succ, List.replicate_succ, List.replicate_zero, Nat.reduceSub, Nat.reduceAdd, Nat.reduceLT, Nat.reduceLeDiff, Nat.zero_le, id, lstK_ok, tupK_ok]
      exact fin 1 q2.symm
  · rintro st' rfl
    rw [lws]
    try simp -implicitDefEqProofs only [wp_ok, wp_bind, wp_noexc, wp_seq, wp_skip, wp_brk, wp_cnt, wp_retN, wp_ret, wp_set, wp_par, wp_unp, wp_sto, wp_xpr, wp_ite, wp_for, wp_whl, wp_tru, sk_rt, sk_bk, sk_ct, lk_nx, lk_ct, lk_bk, lk_rt, ik_true, ik_false, ev, evs, evo, evi, evc, evd, keyK_str, keyK_int, retK_rt, retK_nx, iteK_true, iteK_false, truK0_bl, truK0_int, truK0_tup, truK0_frl, truK0_non, scK_bl, wp_callK, cmpO, cmp_eq, cmp_ne, cmp_lt, cmp_le, cmp_gt, cmp_ge, cmp_isN, cmp_notN, eqD_int, eqD_str, bin_int, binI_add, binI_sub, of_some, negK_int, setK_nm, setK_tp, setsK, asg, asgs, tgsOf, intK, rngK, srcK, subO, startE, newR, new, bi_int, bi_abs, bi_len_tup, bi_len_frl,  Option.map_some, Option.map_none, Option.bind_some, List.map_cons, List.map_nil, List.length_cons, List.length_nil, List.length_append, List.length_map, List.length_set, List.cons_append, List.nil_append, List.getElem?_cons_zero, List.getElem?_cons_succ, List.set_cons_zero, List.set_cons_succ, if_true, if_false, Bool.false_eq_true, Bool.true_eq_false, Bool.not_true, Bool.not_false, decide_true, decide_false, Nat.reduceEqDiff, Nat.zero_lt_succ, List.replicate_succ, List.replicate_zero, Nat.reduceSub, Nat.reduceAdd, Nat.reduceLT, Nat.reduceLeDiff, Nat.zero_le, id, lstK_ok, tupK_ok]
    refine (back_ok (n := n + 2) getLast (fun d hd => ?_) (by simp; omega)).mono ?_
    · obtain ⟨i, _, rfl⟩ := List.mem_map.mp hd
      exact (wantAnd _ _ (bit2 a i) (bit2 b i)).2
    rintro r st9 ⟨rfl, rfl⟩
    try simp -implicitDefEqProofs only [wp_ok, wp_bind, wp_noexc, wp_seq, wp_skip, wp_brk, wp_cnt, wp_retN, wp_ret, wp_set, wp_par, wp_unp, wp_sto, wp_xpr, wp_ite, wp_for, wp_whl, wp_tru, sk_rt, sk_bk, sk_ct, lk_nx, lk_ct, lk_bk, lk_rt, ik_true, ik_false, ev, evs, evo, evi, evc, evd, keyK_str, keyK_int, retK_rt, retK_nx, iteK_true, iteK_false, truK0_bl, truK0_int, truK0_tup, truK0_frl, truK0_non, scK_bl, wp_callK, cmpO, cmp_eq, cmp_ne, cmp_lt, cmp_le, cmp_gt, cmp_ge, cmp_isN, cmp_notN, eqD_int, eqD_str, bin_int, binI_add, binI_sub, of_some, negK_int, setK_nm, setK_tp, setsK, asg, asgs, tgsOf, intK, rngK, srcK, subO, startE, newR, new, bi_int, bi_abs, bi_len_tup, bi_len_frl,  Option.map_some, Option.map_none, Option.bind_some, List.map_cons, List.map_nil, List.length_cons, List.length_nil, List.length_append, List.length_map, List.length_set, List.cons_append, List.nil_append, List.getElem?_cons_zero, List.getElem?_cons_succ, List.set_cons_zero, List.set_cons_succ, if_true, if_false, Bool.false_eq_true, Bool.true_eq_false, Bool.not_true, Bool.not_false, decide_true, decide_false, Nat.reduceEqDiff, Nat.zero_lt_succ, List.replicate_succ, List.replicate_zero, Nat.reduceSub, Nat.reduceAdd, Nat.reduceLT, Nat.reduceLeDiff, Nat.zero_le, id, lstK_ok, tupK_ok]
    rw [← zip_range, and_val h.a0 h.a1 h.b0 h.b1]
    exact ⟨by first | rfl | trivial, x5.trans (xS.trans Ext.new)⟩

theorem due_or (h : Ab v a b) : Wp (Ci.run tab (n + 4) 21 [.str "or", .int ((v + 1 : Nat) : Int), .int a, .int b] st) fun w st' => w = v_or v a b ∧ Ext st st' := by
  refine wp_run (d := d21) rfl rfl ?_
  show Wp (ex _ c21 _ _) _
  unfold c21 v_or
  have hv := h.hv
  have am : a % 2 ^ (v + 1) = a := Int.emod_eq_of_lt h.a0 h.a1
  have bm : b % 2 ^ (v + 1) = b := Int.emod_eq_of_lt h.b0 h.b1
  have hp := p64 h.hv
  try simp -implicitDefEqProofs only [wp_ok, wp_bind, wp_noexc, wp_seq, wp_skip, wp_brk, wp_cnt, wp_retN, wp_ret, wp_set, wp_par, wp_unp, wp_sto, wp_xpr, wp_ite, wp_for, wp_whl, wp_tru, sk_rt, sk_bk, sk_ct, lk_nx, lk_ct, lk_bk, lk_rt, ik_true, ik_false, ev, evs, evo, evi, evc, evd, keyK_str, keyK_int, retK_rt, retK_nx, iteK_true, iteK_false, truK0_bl, truK0_int, truK0_tup, truK0_frl, truK0_non, scK_bl, wp_callK, cmpO, cmp_eq, cmp_ne, cmp_lt, cmp_le, cmp_gt, cmp_ge, cmp_isN, cmp_notN, eqD_int, eqD_str, bin_int, binI_add, binI_sub, of_some, negK_int, setK_nm, setK_tp, setsK, asg, asgs, tgsOf, intK, rngK, srcK, subO, startE, newR, new, bi_int, bi_abs, bi_len_tup, bi_len_frl,  Option.map_some, Option.map_none, Option.bind_some, List.map_cons, List.map_nil, List.length_cons, List.length_nil, List.length_append, List.length_map, List.length_set, List.cons_append, List.nil_append, List.getElem?_cons_zero, List.getElem?_cons_succ, List.set_cons_zero, List.set_cons_succ, if_true, if_false, Bool.false_eq_true, Bool.true_eq_false, Bool.not_true, Bool.not_false, decide_true, decide_false, Nat.reduceEqDiff, Nat.zero_lt_succ, List.replicate_succ, List.replicate_zero, Nat.reduceSub, Nat.reduceAdd, Nat.reduceLT, Nat.reduceLeDiff, Nat.zero_le, id, lstK_ok, tupK_ok, d21]
  refine (digits_ok (n := n + 1) (show v + 1 ≤ 64 by omega)).mono ?_
  rintro w st1 ⟨p4, rfl, x1, l4, g4⟩
  try simp -implicitDefEqProofs only [wp_ok, wp_bind, wp_noexc, wp_seq, wp_skip, wp_brk, wp_cnt, wp_retN, wp_ret, wp_set, wp_par, wp_unp, wp_sto, wp_xpr, wp_ite, wp_for, wp_whl, wp_tru, sk_rt, sk_bk, sk_ct, lk_nx, lk_ct, lk_bk, lk_rt, ik_true, ik_false, ev, evs, evo, evi, evc, evd, keyK_str, keyK_int, retK_rt, retK_nx, iteK_true, iteK_false, truK0_bl, truK0_int, truK0_tup, truK0_frl, truK0_non, scK_bl, wp_callK, cmpO, cmp_eq, cmp_ne, cmp_lt, cmp_le, cmp_gt, cmp_ge, cmp_isN, cmp_notN, eqD_int, eqD_str, bin_int, binI_add, binI_sub, of_some, negK_int, setK_nm, setK_tp, setsK, asg, asgs, tgsOf, intK, rngK, srcK, subO, startE, newR, new, bi_int, bi_abs, bi_len_tup, bi_len_frl,  Option.map_some, Option.map_none, Option.bind_some, List.map_cons, List.map_nil, List.length_cons, List.length_nil, List.length_append, List.length_map, List.length_set, List.cons_append, List.nil_append, List.getElem?_cons_zero, List.getElem?_cons_succ, List.set_cons_zero, List.set_cons_succ, if_true, if_false, Bool.false_eq_true, Bool.true_eq_false, Bool.not_true, Bool.not_false, decide_true, decide_false, Nat.reduceEqDiff, Nat.zero_lt_succ, List.replicate_succ, List.replicate_zero, Nat.reduceSub, Nat.reduceAdd, Nat.reduceLT, Nat.reduceLeDiff, Nat.zero_le, id, lstK_ok, tupK_ok]
  refine (digits_ok (n := n + 1) (show v + 1 ≤ 64 by omega)).mono ?_
  rintro w st2 ⟨p5, rfl, x2, l5, g5⟩
  have g4 := x2.2 _ _ g4
  rw [am] at g4
  rw [bm] at g5
  have x2 := x1.trans x2
  try simp -implicitDefEqProofs only [wp_ok, wp_bind, wp_noexc, wp_seq, wp_skip, wp_brk, wp_cnt, wp_retN, wp_ret, wp_set, wp_par, wp_unp, wp_sto, wp_xpr, wp_ite, wp_for, wp_whl, wp_tru, sk_rt, sk_bk, sk_ct, lk_nx, lk_ct, lk_bk, lk_rt, ik_true, ik_false, ev, evs, evo, evi, evc, evd, keyK_str, keyK_int, retK_rt, retK_nx, iteK_true, iteK_false, truK0_bl, truK0_int, truK0_tup, truK0_frl, truK0_non, scK_bl, wp_callK, cmpO, cmp_eq, cmp_ne, cmp_lt, cmp_le, cmp_gt, cmp_ge, cmp_isN, cmp_notN, eqD_int, eqD_str, bin_int, binI_add, binI_sub, of_some, negK_int, setK_nm, setK_tp, setsK, asg, asgs, tgsOf, intK, rngK, srcK, subO, startE, newR, new, bi_int, bi_abs, bi_len_tup, bi_len_frl,  Option.map_some, Option.map_none, Option.bind_some, List.map_cons, List.map_nil, List.length_cons, List.length_nil, List.length_append, List.length_map, List.length_set, List.cons_append, List.nil_append, List.getElem?_cons_zero, List.getElem?_cons_succ, List.set_cons_zero, List.set_cons_succ, if_true, if_false, Bool.false_eq_true, Bool.true_eq_false, Bool.not_true, Bool.not_false, decide_true, decide_false, Nat.reduceEqDiff, Nat.zero_lt_succ, List.replicate_succ, List.replicate_zero, Nat.reduceSub, Nat.reduceAdd, Nat.reduceLT, Nat.reduceLeDiff, Nat.zero_le, id, lstK_ok, tupK_ok]
  rw [sk_nx]
  have i1 : inW (st2 ++ [Ob.lst [W.str "add", W.str "sub", W.str "mul"]]) (.str "or") (.ref st2.length) = some false := (in_strs (ss := ["add", "sub", "mul"]) getLast (by decide +kernel) (by decide +kernel)).trans (by decide +kernel)
  try simp -implicitDefEqProofs only [wp_ok, wp_bind, wp_noexc, wp_seq, wp_skip, wp_brk, wp_cnt, wp_retN, wp_ret, wp_set, wp_par, wp_unp, wp_sto, wp_xpr, wp_ite, wp_for, wp_whl, wp_tru, sk_rt, sk_bk, sk_ct, lk_nx, lk_ct, lk_bk, lk_rt, ik_true, ik_false, ev, evs, evo, evi, evc, evd, keyK_str, keyK_int, retK_rt, retK_nx, iteK_true, iteK_false, truK0_bl, truK0_int, truK0_tup, truK0_frl, truK0_non, scK_bl, wp_callK, cmpO, cmp_eq, cmp_ne, cmp_lt, cmp_le, cmp_gt, cmp_ge, cmp_isN, cmp_notN, eqD_int, eqD_str, bin_int, binI_add, binI_sub, of_some, negK_int, setK_nm, setK_tp, setsK, asg, asgs, tgsOf, intK, rngK, srcK, subO, startE, newR, new, bi_int, bi_abs, bi_len_tup, bi_len_frl,  Option.map_some, Option.map_none, Option.bind_some, List.map_cons, List.map_nil, List.length_cons, List.length_nil, List.length_append, List.length_map, List.length_set, List.cons_append, List.nil_append, List.getElem?_cons_zero, List.getElem?_cons_succ, List.set_cons_zero, List.set_cons_succ, if_true, if_false, Bool.false_eq_true, Bool.true_eq_false, Bool.not_true, Bool.not_false, decide_true, decide_false, Nat.reduceEqDiff, Nat.zero_lt_succ, List.replicate_succ, List.replicate_zero, Nat.reduceSub, Nat.reduceAdd, Nat.reduceLT, Nat.reduceLeDiff, Nat.zero_le, id, lstK_ok, tupK_ok, cmp_in, i1]
  rw [sk_nx]
  obtain ⟨st3, hs3⟩ : ∃ x : Sto, x = st2 ++ [Ob.lst [W.str "add", W.str "sub", W.str "mul"]] := ⟨_, rfl⟩
  have x3 : Ext st2 st3 := by rw [hs3]; exact Ext.new
  rw [← hs3]
  have g4 := x3.2 _ _ g4
  have g5 := x3.2 _ _ g5
  have x3 := x2.trans x3
  have i2 : inW (st3 ++ [Ob.lst [W.str "udiv", W.str "urem", W.str "sdiv", W.str "srem"]]) (.str "or") (.ref st3.length) = some false := (in_strs (ss := ["udiv", "urem", "sdiv", "srem"]) getLast (by decide +kernel) (by decide +kernel)).trans (by decide +kernel)
  try simp -implicitDefEqProofs only [wp_ok, wp_bind, wp_noexc, wp_seq, wp_skip, wp_brk, wp_cnt, wp_retN, wp_ret, wp_set, wp_par, wp_unp, wp_sto, wp_xpr, wp_ite, wp_for, wp_whl, wp_tru, sk_rt, sk_bk, sk_ct, lk_nx, lk_ct, lk_bk, lk_rt, ik_true, ik_false, ev, evs, evo, evi, evc, evd, keyK_str, keyK_int, retK_rt, retK_nx, iteK_true, iteK_false, truK0_bl, truK0_int, truK0_tup, truK0_frl, truK0_non, scK_bl, wp_callK, cmpO, cmp_eq, cmp_ne, cmp_lt, cmp_le, cmp_gt, cmp_ge, cmp_isN, cmp_notN, eqD_int, eqD_str, bin_int, binI_add, binI_sub, of_some, negK_int, setK_nm, setK_tp, setsK, asg, asgs, tgsOf, intK, rngK, srcK, subO, startE, newR, new, bi_int, bi_abs, bi_len_tup, bi_len_frl,  Option.map_some, Option.map_none, Option.bind_some, List.map_cons, List.map_nil, List.length_cons, List.length_nil, List.length_append, List.length_map, List.length_set, List.cons_append, List.nil_append, List.getElem?_cons_zero, List.getElem?_cons_succ, List.set_cons_zero, List.set_cons_succ, if_true, if_false, Bool.false_eq_true, Bool.true_eq_false, Bool.not_true, Bool.not_false, decide_true, decide_false, Nat.reduceEqDiff, Nat.zero_lt_succ, List.replicate_succ, List.replicate_zero, Nat.reduceSub, Nat.reduceAdd, Nat.reduceLT, Nat.reduceLeDiff, Nat.zero_le, id, lstK_ok, tupK_ok, cmp_in, i2]
  rw [sk_nx]
  obtain ⟨st4, hs4⟩ : ∃ x : Sto, x = st3 ++ [Ob.lst [W.str "udiv", W.str "urem", W.str "sdiv", W.str "srem"]] := ⟨_, rfl⟩
  have x4 : Ext st3 st4 := by rw [hs4]; exact Ext.new
  rw [← hs4]
  have g4 := x4.2 _ _ g4
  have g5 := x4.2 _ _ g5
  have x4 := x3.trans x4
  have i3 : inW (st4 ++ [Ob.lst [W.str "and", W.str "or", W.str "xor"]]) (.str "or") (.ref st4.length) = some true := (in_strs (ss := ["and", "or", "xor"]) getLast (by decide +kernel) (by decide +kernel)).trans (by decide +kernel)
  try simp -implicitDefEqProofs only [wp_ok, wp_bind, wp_noexc, wp_seq, wp_skip, wp_brk, wp_cnt, wp_retN, wp_ret, wp_set, wp_par, wp_unp, wp_sto, wp_xpr, wp_ite, wp_for, wp_whl, wp_tru, sk_rt, sk_bk, sk_ct, lk_nx, lk_ct, lk_bk, lk_rt, ik_true, ik_false, ev, evs, evo, evi, evc, evd, keyK_str, keyK_int, retK_rt, retK_nx, iteK_true, iteK_false, truK0_bl, truK0_int, truK0_tup, truK0_frl, truK0_non, scK_bl, wp_callK, cmpO, cmp_eq, cmp_ne, cmp_lt, cmp_le, cmp_gt, cmp_ge, cmp_isN, cmp_notN, eqD_int, eqD_str, bin_int, binI_add, binI_sub, of_some, negK_int, setK_nm, setK_tp, setsK, asg, asgs, tgsOf, intK, rngK, srcK, subO, startE, newR, new, bi_int, bi_abs, bi_len_tup, bi_len_frl,  Option.map_some, Option.map_none, Option.bind_some, List.map_cons, List.map_nil, List.length_cons, List.length_nil, List.length_append, List.length_map, List.length_set, List.cons_append, List.nil_append, List.getElem?_cons_zero, List.getElem?_cons_succ, List.set_cons_zero, List.set_cons_succ, if_true, if_false, Bool.false_eq_true, Bool.true_eq_false, Bool.not_true, Bool.not_false, decide_true, decide_false, Nat.reduceEqDiff, Nat.zero_lt_succ, List.replicate_succ, List.replicate_zero, Nat.reduceSub, Nat.reduceAdd, Nat.reduceLT, Nat.reduceLeDiff, Nat.zero_le, id, lstK_ok, tupK_ok, cmp_in, i3]
  obtain ⟨st5, hs5⟩ : ∃ x : Sto, x = st4 ++ [Ob.lst [W.str "and", W.str "or", W.str "xor"]] := ⟨_, rfl⟩
  have x5 : Ext st4 st5 := by rw [hs5]; exact Ext.new
  have ln5 : st4.length + 1 = st5.length := by rw [hs5]; simp
  simp only [← hs5, ln5]
  have g4 := x5.2 _ _ g4
  have g5 := x5.2 _ _ g5
  have x5 := x4.trans x5
  have hd : (st5 ++ [Ob.dct []] ++ [Ob.lst [W.int 2]] ++ [Ob.lst [W.int 1, W.int 2]] ++ [Ob.lst [W.int 1]])[st5.length]? = some (.dct []) := getNew (getNew (getNew getLast))
  have n1 : (st5 ++ [Ob.dct []]).length = st5.length + 1 := by simp
  have n2 : (st5 ++ [Ob.dct []] ++ [Ob.lst [W.int 2]]).length = st5.length + 1 + 1 := by simp
  have n3 : (st5 ++ [Ob.dct []] ++ [Ob.lst [W.int 2]] ++ [Ob.lst [W.int 1, W.int 2]]).length = st5.length + 1 + 1 + 1 := by simp
  have w1 : (st5 ++ [Ob.dct []] ++ [Ob.lst [W.int 2]] ++ [Ob.lst [W.int 1, W.int 2]] ++ [Ob.lst [W.int 1]])[st5.length + 1]? = some (.lst [W.int 2]) := by rw [← n1]; exact getNew (getNew getLast)
  have w2 : (st5 ++ [Ob.dct []] ++ [Ob.lst [W.int 2]] ++ [Ob.lst [W.int 1, W.int 2]] ++ [Ob.lst [W.int 1]])[st5.length + 1 + 1]? = some (.lst [W.int 1, W.int 2]) := by rw [← n2]; exact getNew getLast
  have w3 : (st5 ++ [Ob.dct []] ++ [Ob.lst [W.int 2]] ++ [Ob.lst [W.int 1, W.int 2]] ++ [Ob.lst [W.int 1]])[st5.length + 1 + 1 + 1]? = some (.lst [W.int 1]) := by rw [← n3]; exact getLast
  have xX : Ext st5 (st5 ++ [Ob.dct []] ++ [Ob.lst [W.int 2]] ++ [Ob.lst [W.int 1, W.int 2]] ++ [Ob.lst [W.int 1]]) := ((Ext.new.trans Ext.new).trans Ext.new).trans Ext.new
  try simp -implicitDefEqProofs only [wp_ok, wp_bind, wp_noexc, wp_seq, wp_skip, wp_brk, wp_cnt, wp_retN, wp_ret, wp_set, wp_par, wp_unp, wp_sto, wp_xpr, wp_ite, wp_for, wp_whl, wp_tru, sk_rt, sk_bk, sk_ct, lk_nx, lk_ct, lk_bk, lk_rt, ik_true, ik_false, ev, evs, evo, evi, evc, evd, keyK_str, keyK_int, retK_rt, retK_nx, iteK_true, iteK_false, truK0_bl, truK0_int, truK0_tup, truK0_frl, truK0_non, scK_bl, wp_callK, cmpO, cmp_eq, cmp_ne, cmp_lt, cmp_le, cmp_gt, cmp_ge, cmp_isN, cmp_notN, eqD_int, eqD_str, bin_int, binI_add, binI_sub, of_some, negK_int, setK_nm, setK_tp, setsK, asg, asgs, tgsOf, intK, rngK, srcK, subO, startE, newR, new, bi_int, bi_abs, bi_len_tup, bi_len_frl,  Option.map_some, Option.map_none, Option.bind_some, List.map_cons, List.map_nil, List.length_cons, List.length_nil, List.length_append, List.length_map, List.length_set, List.cons_append, List.nil_append, List.getElem?_cons_zero, List.getElem?_cons_succ, List.set_cons_zero, List.set_cons_succ, if_true, if_false, Bool.false_eq_true, Bool.true_eq_false, Bool.not_true, Bool.not_false, decide_true, decide_false, Nat.reduceEqDiff, Nat.zero_lt_succ, List.replicate_succ, List.replicate_zero, Nat.reduceSub, Nat.reduceAdd, Nat.reduceLT, Nat.reduceLeDiff, Nat.zero_le, id, lstK_ok, tupK_ok]
  generalize (st5 ++ [Ob.dct []] ++ [Ob.lst [W.int 2]] ++ [Ob.lst [W.int 1, W.int 2]] ++ [Ob.lst [W.int 1]]) = X at *
  try simp -implicitDefEqProofs only [wp_ok, wp_bind, wp_noexc, wp_seq, wp_skip, wp_brk, wp_cnt, wp_retN, wp_ret, wp_set, wp_par, wp_unp, wp_sto, wp_xpr, wp_ite, wp_for, wp_whl, wp_tru, sk_rt, sk_bk, sk_ct, lk_nx, lk_ct, lk_bk, lk_rt, ik_true, ik_false, ev, evs, evo, evi, evc, evd, keyK_str, keyK_int, retK_rt, retK_nx, iteK_true, iteK_false, truK0_bl, truK0_int, truK0_tup, truK0_frl, truK0_non, scK_bl, wp_callK, cmpO, cmp_eq, cmp_ne, cmp_lt, cmp_le, cmp_gt, cmp_ge, cmp_isN, cmp_notN, eqD_int, eqD_str, bin_int, binI_add, binI_sub, of_some, negK_int, setK_nm, setK_tp, setsK, asg, asgs, tgsOf, intK, rngK, srcK, subO, startE, newR, new, bi_int, bi_abs, bi_len_tup, bi_len_frl,  Option.map_some, Option.map_none, Option.bind_some, List.map_cons, List.map_nil, List.length_cons, List.length_nil, List.length_append, List.length_map, List.length_set, List.cons_append, List.nil_append, List.getElem?_cons_zero, List.getElem?_cons_succ, List.set_cons_zero, List.set_cons_succ, if_true, if_false, Bool.false_eq_true, Bool.true_eq_false, Bool.not_true, Bool.not_false, decide_true, decide_false, Nat.reduceEqDiff, Nat.zero_lt_succ, List.replicate_succ, List.replicate_zero, Nat.reduceSub, Nat.reduceAdd, Nat.reduceLT, Nat.reduceLeDiff, Nat.zero_le, id, lstK_ok, tupK_ok, dspK_ok hd]
  have sx : sub (X.set st5.length (.dct (mergeW [(Sum.inr (Str.ofString "and"), W.ref (st5.length + 1)), (Sum.inr (Str.ofString "or"), W.ref (st5.length + 1 + 1)), (Sum.inr (Str.ofString "xor"), W.ref (st5.length + 1 + 1 + 1))]))) (.ref st5.length) (.str "or") = some (.ref (st5.length + 1 + 1)) := by
    have e : (X.set st5.length (Ob.dct (mergeW [(Sum.inr (Str.ofString "and"), W.ref (st5.length + 1)), (Sum.inr (Str.ofString "or"), W.ref (st5.length + 1 + 1)), (Sum.inr (Str.ofString "xor"), W.ref (st5.length + 1 + 1 + 1))])))[st5.length]? = some (.dct (mergeW [(Sum.inr (Str.ofString "and"), W.ref (st5.length + 1)), (Sum.inr (Str.ofString "or"), W.ref (st5.length + 1 + 1)), (Sum.inr (Str.ofString "xor"), W.ref (st5.length + 1 + 1 + 1))])) := by rw [List.getElem?_set_self (List.getElem?_eq_some_iff.mp hd).1]
    simp only [sub, dctOf, e]
    rfl
  have xS : Ext st5 (X.set st5.length (.dct (mergeW [(Sum.inr (Str.ofString "and"), W.ref (st5.length + 1)), (Sum.inr (Str.ofString "or"), W.ref (st5.length + 1 + 1)), (Sum.inr (Str.ofString "xor"), W.ref (st5.length + 1 + 1 + 1))]))) := xX.set (Nat.le_refl _)
  have wS : (X.set st5.length (Ob.dct (mergeW [(Sum.inr (Str.ofString "and"), W.ref (st5.length + 1)), (Sum.inr (Str.ofString "or"), W.ref (st5.length + 1 + 1)), (Sum.inr (Str.ofString "xor"), W.ref (st5.length + 1 + 1 + 1))])))[st5.length + 1 + 1]? = some (.lst (([1, 2] : List Int).map .int)) := by
    rw [List.getElem?_set_ne (by omega)]
    first | exact w1 | exact w2 | exact w3
  generalize (X.set st5.length (Ob.dct (mergeW [(Sum.inr (Str.ofString "and"), W.ref (st5.length + 1)), (Sum.inr (Str.ofString "or"), W.ref (st5.length + 1 + 1)), (Sum.inr (Str.ofString "xor"), W.ref (st5.length + 1 + 1 + 1))]))) = S at *
  try simp -implicitDefEqProofs only [wp_ok, wp_bind, wp_noexc, wp_seq, wp_skip, wp_brk, wp_cnt, wp_retN, wp_ret, wp_set, wp_par, wp_unp, wp_sto, wp_xpr, wp_ite, wp_for, wp_whl, wp_tru, sk_rt, sk_bk, sk_ct, lk_nx, lk_ct, lk_bk, lk_rt, ik_true, ik_false, ev, evs, evo, evi, evc, evd, keyK_str, keyK_int, retK_rt, retK_nx, iteK_true, iteK_false, truK0_bl, truK0_int, truK0_tup, truK0_frl, truK0_non, scK_bl, wp_callK, cmpO, cmp_eq, cmp_ne, cmp_lt, cmp_le, cmp_gt, cmp_ge, cmp_isN, cmp_notN, eqD_int, eqD_str, bin_int, binI_add, binI_sub, of_some, negK_int, setK_nm, setK_tp, setsK, asg, asgs, tgsOf, intK, rngK, srcK, subO, startE, newR, new, bi_int, bi_abs, bi_len_tup, bi_len_frl,  Option.map_some, Option.map_none, Option.bind_some, List.map_cons, List.map_nil, List.length_cons, List.length_nil, List.length_append, List.length_map, List.length_set, List.cons_append, List.nil_append, List.getElem?_cons_zero, List.getElem?_cons_succ, List.set_cons_zero, List.set_cons_succ, if_true, if_false, Bool.false_eq_true, Bool.true_eq_false, Bool.not_true, Bool.not_false, decide_true, decide_false, Nat.reduceEqDiff, Nat.zero_lt_succ, List.replicate_succ, List.replicate_zero, Nat.reduceSub, Nat.reduceAdd, Nat.reduceLT, Nat.reduceLeDiff, Nat.zero_le, id, lstK_ok, tupK_ok, sx]
  rw [sk_nx]
  have g4 := xS.2 _ _ g4
  have g5 := xS.2 _ _ g5
  try simp -implicitDefEqProofs only [wp_ok, wp_bind, wp_noexc, wp_seq, wp_skip, wp_brk, wp_cnt, wp_retN, wp_ret, wp_set, wp_par, wp_unp, wp_sto, wp_xpr, wp_ite, wp_for, wp_whl, wp_tru, sk_rt, sk_bk, sk_ct, lk_nx, lk_ct, lk_bk, lk_rt, ik_true, ik_false, ev, evs, evo, evi, evc, evd, keyK_str, keyK_int, retK_rt, retK_nx, iteK_true, iteK_false, truK0_bl, truK0_int, truK0_tup, truK0_frl, truK0_non, scK_bl, wp_callK, cmpO, cmp_eq, cmp_ne, cmp_lt, cmp_le, cmp_gt, cmp_ge, cmp_isN, cmp_notN, eqD_int, eqD_str, bin_int, binI_add, binI_sub, of_some, negK_int, setK_nm, setK_tp, setsK, asg, asgs, tgsOf, intK, rngK, srcK, subO, startE, newR, new, bi_int, bi_abs, bi_len_tup, bi_len_frl,  Option.map_some, Option.map_none, Option.bind_some, List.map_cons, List.map_nil, List.length_cons, List.length_nil, List.length_append, List.length_map, List.length_set, List.cons_append, List.nil_append, List.getElem?_cons_zero, List.getElem?_cons_succ, List.set_cons_zero, List.set_cons_succ, if_true, if_false, Bool.false_eq_true, Bool.true_eq_false, Bool.not_true, Bool.not_false, decide_true, decide_false, Nat.reduceEqDiff, Nat.zero_lt_succ, List.replicate_succ, List.replicate_zero, Nat.reduceSub, Nat.reduceAdd, Nat.reduceLT, Nat.reduceLeDiff, Nat.zero_le, id, lstK_ok, tupK_ok, src2K_lst g4 g5]
  have lws : ((List.range (v + 1)).map fun i : Nat => W.tup [W.int (a / 2 ^ i % 2), W.int (b / 2 ^ i % 2)]).length = v + 1 := by simp
  refine wp_lcL ((List.range (v + 1)).map fun i : Nat => W.tup [W.int (a / 2 ^ i % 2), W.int (b / 2 ^ i % 2)]) (fun k st' => st' = S ++ [Ob.lst (((List.range k).map fun i : Nat => gOr (a / 2 ^ i % 2) (b / 2 ^ i % 2)).map .int)]) ?_ ?_ ?_ FU 0 _ (Nat.zero_le _) (by rw [lws]; unfold FU; omega) rfl
  · rintro k st' rfl
    simp only [Src.get, getNew g4, getNew g5]
    rcases Nat.lt_or_ge k (v + 1) with hk | hk
    · rw [List.getElem?_map, lo_get hk, List.getElem?_map, lo_get hk, List.getElem?_map, List.getElem?_range hk]
      rfl
    · rw [List.getElem?_eq_none (by rw [List.length_map, lo_len]; exact hk), List.getElem?_eq_none (by rw [List.length_map, lo_len]; exact hk), List.getElem?_eq_none (by rw [lws]; exact hk)]
  · rintro k w st' hw rfl
    have hk : k < v + 1 := by have := (List.getElem?_eq_some_iff.mp hw).1; rw [lws] at this; exact this
    rw [List.getElem?_map, List.getElem?_range hk] at hw
    cases hw
    refine ⟨_, rfl, ?_⟩
    obtain ⟨q1, q2⟩ := wantOr _ _ (bit2 a k) (bit2 b k)
    have q3 := in_ints (i := a / 2 ^ k % 2 + b / 2 ^ k % 2) (getNew (u := Ob.lst (((List.range k).map fun i : Nat => gOr (a / 2 ^ i % 2) (b / 2 ^ i % 2)).map W.int)) wS)
    rw [q1] at q3
    try simp -implicitDefEqProofs only [wp_ok, wp_bind, wp_noexc, wp_seq, wp_skip, wp_brk, wp_cnt, wp_retN, wp_ret, wp_set, wp_par, wp_unp, wp_sto, wp_xpr, wp_ite, wp_for, wp_whl, wp_tru, sk_rt, sk_bk, sk_ct, lk_nx, lk_ct, lk_bk, lk_rt, ik_true, ik_false, ev, evs, evo, evi, evc, evd, keyK_str, keyK_int, retK_rt, retK_nx, iteK_true, iteK_false, truK0_bl, truK0_int, truK0_tup, truK0_frl, truK0_non, scK_bl, wp_callK, cmpO, cmp_eq, cmp_ne, cmp_lt, cmp_le, cmp_gt, cmp_ge, cmp_isN, cmp_notN, eqD_int, eqD_str, bin_int, binI_add, binI_sub, of_some, negK_int, setK_nm, setK_tp, setsK, asg, asgs, tgsOf, intK, rngK, srcK, subO, startE, newR, new, bi_int, bi_abs, bi_len_tup, bi_len_frl,  Option.map_some, Option.map_none, Option.bind_some, List.map_cons, List.map_nil, List.length_cons, List.length_nil, List.length_append, List.length_map, List.length_set, List.cons_append, List.nil_append, List.getElem?_cons_zero, List.getElem?_cons_succ, List.set_cons_zero, List.set_cons_succ, if_true, if_false, Bool.false_eq_true, Bool.true_eq_false, Bool.not_true, Bool.not_false, decide_true, decide_false, Nat.reduceEqDiff, Nat.zero_lt_succ, List.replicate_succ, List.replicate_zero, Nat.reduceSub, Nat.reduceAdd, Nat.reduceLT, Nat.reduceLeDiff, Nat.zero_le, id, lstK_ok, tupK_ok, wipeE, cmp_in, q3]
    have fin : ∀ y : Int, y = gOr (a / 2 ^ k % 2) (b / 2 ^ k % 2) → ∃ acc, (S ++ [Ob.lst (((List.range k).map fun i : Nat => gOr (a / 2 ^ i % 2) (b / 2 ^ i % 2)).map W.int)])[S.length]? = some (.lst acc) ∧ acc.length < sizeLine ∧ (S ++ [Ob.lst (((List.range k).map fun i : Nat => gOr (a / 2 ^ i % 2) (b / 2 ^ i % 2)).map W.int)]).set S.length (.lst (acc ++ [W.int y])) = S ++ [Ob.lst (((List.range (k + 1)).map fun i : Nat => gOr (a / 2 ^ i % 2) (b / 2 ^ i % 2)).map W.int)] := by
      rintro y rfl
      refine ⟨_, getLast, by simp only [List.length_map, List.length_range]; unfold sizeLine; omega, ?_⟩
      rw [set_last, List.range_succ]
      simp
    rcases q2 with q2 | q2
    · rw [q2, show decide ((0 : Int) = 1) = false from rfl]
      try simp -implicitDefEqProofs only [wp_ok, wp_bind, wp_noexc, wp_seq, wp_skip, wp_brk, wp_cnt, wp_retN, wp_ret, wp_set, wp_par, wp_unp, wp_sto, wp_xpr, wp_ite, wp_for, wp_whl, wp_tru, sk_rt, sk_bk, sk_ct, lk_nx, lk_ct, lk_bk, lk_rt, ik_true, ik_false, ev, evs, evo, evi, evc, evd, keyK_str, keyK_int, retK_rt, retK_nx, iteK_true, iteK_false, truK0_bl, truK0_int, truK0_tup, truK0_frl, truK0_non, scK_bl, wp_callK, cmpO, cmp_eq, cmp_ne, cmp_lt, cmp_le, cmp_gt, cmp_ge, cmp_isN, cmp_notN, eqD_int, eqD_str, bin_int, binI_add, binI_sub, of_some, negK_int, setK_nm, setK_tp, setsK, asg, asgs, tgsOf, intK, rngK, srcK, subO, startE, newR, new, bi_int, bi_abs, bi_len_tup, bi_len_frl,  Option.map_some, Option.map_none, Option.bind_some, List.map_cons, List.map_nil, List.length_cons, List.length_nil, List.length_append, List.length_map, List.length_set, List.cons_append, List.nil_append, List.getElem?_cons_zero, List.getElem?_cons_succ, List.set_cons_zero, List.set_cons_succ, if_true, if_false, Bool.false_eq_true, Bool.true_eq_false, Bool.not_true, Bool.not_false, decide_true, decide_false, Nat.reduceEqDiff, Nat.zero_lt_succ, List.replicate_succ, List.replicate_zero, Nat.reduceSub, Nat.reduceAdd, Nat.reduceLT, Nat.reduceLeDiff, Nat.zero_le, id, lstK_ok, tupK_ok]
      exact fin 0 q2.symm
    · rw [q2, decide_eq_true rfl]
      try simp -implicitDefEqProofs only [wp_ok, wp_bind, wp_noexc, wp_seq, wp_skip, wp_brk, wp_cnt, wp_retN, wp_ret, wp_set, wp_par, wp_unp, wp_sto, wp_xpr, wp_ite, wp_for, wp_whl, wp_tru, sk_rt, sk_bk, sk_ct, lk_nx, lk_ct, lk_bk, lk_rt, ik_true, ik_false, ev, evs, evo, evi, evc, evd, keyK_str, keyK_int, retK_rt, retK_nx, iteK_true, iteK_false, truK0_bl, truK0_int, truK0_tup, truK0_frl, truK0_non, scK_bl, wp_callK, cmpO, cmp_eq, cmp_ne, cmp_lt, cmp_le, cmp_gt, cmp_ge, cmp_isN, cmp_notN, eqD_int, eqD_str, bin_int, binI_add, binI_sub, of_some, negK_int, setK_nm, setK_tp, setsK, asg, asgs, tgsOf, intK, rngK, srcK, subO, startE, newR, new, bi_int, bi_abs, bi_len_tup, bi_len_frl,  Option.map_some, Option.map_none, Option.bind_some, List.map_cons, List.map_nil, List.length_cons, List.length_nil, List.length_append, List.length_map, List.length_set, List.cons_append, List.nil_append, List.getElem?_cons_zero, List.getElem?_cons_succ, List.set_cons_zero, List.set_cons_succ, if_true, if_false, Bool.false_eq_true, Bool.true_eq_false, Bool.not_true, Bool.not_false, decide_true, decide_false, Nat.reduceEqDiff, Nat.zero_lt_succ, List.replicate_succ, List.replicate_zero, Nat.reduceSub, Nat.reduceAdd, Nat.reduceLT, Nat.reduceLeDiff, Nat.zero_le, id, lstK_ok, tupK_ok]
      exact fin 1 q2.symm
  · rintro st' rfl
    rw [lws]
    try simp -implicitDefEqProofs only [wp_ok, wp_bind, wp_noexc, wp_seq, wp_skip, wp_brk, wp_cnt, wp_retN, wp_ret, wp_set, wp_par, wp_unp, wp_sto, wp_xpr, wp_ite, wp_for, wp_whl, wp_tru, sk_rt, sk_bk, sk_ct, lk_nx, lk_ct, lk_bk, lk_rt, ik_true, ik_false, ev, evs, evo, evi, evc, evd, keyK_str, keyK_int, retK_rt, retK_nx, iteK_true, iteK_false, truK0_bl, truK0_int, truK0_tup, truK0_frl, truK0_non, scK_bl, wp_callK, cmpO, cmp_eq, cmp_ne, cmp_lt, cmp_le, cmp_gt, cmp_ge, cmp_isN, cmp_notN, eqD_int, eqD_str, bin_int, binI_add, binI_sub, of_some, negK_int, setK_nm, setK_tp, setsK, asg, asgs, tgsOf, intK, rngK, srcK, subO, startE, newR, new, bi_int, bi_abs, bi_len_tup, bi_len_frl,  Option.map_some, Option.map_none, Option.bind_some, List.map_cons, List.map_nil, List.length_cons, List.length_nil, List.length_append, List.length_map, List.length_set, List.cons_append, List.nil_append, List.getElem?_cons_zero, List.getElem?_cons_succ, List.set_cons_zero, List.set_cons_succ, if_true, if_false, Bool.false_eq_true, Bool.true_eq_false, Bool.not_true, Bool.not_false, decide_true, decide_false, Nat.reduceEqDiff, Nat.zero_lt_succ, List.replicate_succ, List.replicate_zero, Nat.reduceSub, Nat.reduceAdd, Nat.reduceLT, Nat.reduceLeDiff, Nat.zero_le, id, lstK_ok, tupK_ok]
    refine (back_ok (n := n + 2) getLast (fun d hd => ?_) (by simp; omega)).mono ?_
    · obtain ⟨i, _, rfl⟩ := List.mem_map.mp hd
      exact (wantOr _ _ (bit2 a i) (bit2 b i)).2
    rintro r st9 ⟨rfl, rfl⟩
    try simp -implicitDefEqProofs only [wp_ok, wp_bind, wp_noexc, wp_seq, wp_skip, wp_brk, wp_cnt, wp_retN, wp_ret, wp_set, wp_par, wp_unp, wp_sto, wp_xpr, wp_ite, wp_for, wp_whl, wp_tru, sk_rt, sk_bk, sk_ct, lk_nx, lk_ct, lk_bk, lk_rt, ik_true, ik_false, ev, evs, evo, evi, evc, evd, keyK_str, keyK_int, retK_rt, retK_nx, iteK_true, iteK_false, truK0_bl, truK0_int, truK0_tup, truK0_frl, truK0_non, scK_bl, wp_callK, cmpO, cmp_eq, cmp_ne, cmp_lt, cmp_le, cmp_gt, cmp_ge, cmp_isN, cmp_notN, eqD_int, eqD_str, bin_int, binI_add, binI_sub, of_some, negK_int, setK_nm, setK_tp, setsK, asg, asgs, tgsOf, intK, rngK, srcK, subO, startE, newR, new, bi_int, bi_abs, bi_len_tup, bi_len_frl,  Option.map_some, Option.map_none, Option.bind_some, List.map_cons, List.map_nil, List.length_cons, List.length_nil, List.length_append, List.length_map, List.length_set, List.cons_append, List.nil_append, List.getElem?_cons_zero, List.getElem?_cons_succ, List.set_cons_zero, List.set_cons_succ, if_true, if_false, Bool.false_eq_true, Bool.true_eq_false, Bool.not_true, Bool.not_false, decide_true, decide_false, Nat.reduceEqDiff, Nat.zero_lt_succ, List.replicate_succ, List.replicate_zero, Nat.reduceSub, Nat.reduceAdd, Nat.reduceLT, Nat.reduceLeDiff, Nat.zero_le, id, lstK_ok, tupK_ok]
    rw [← zip_range, or_val h.a0 h.a1 h.b0 h.b1]
    exact ⟨by first | rfl | trivial, x5.trans (xS.trans Ext.new)⟩

theorem due_xor (h : Ab v a b) : Wp (Ci.run tab (n + 4) 21 [.str "xor", .int ((v + 1 : Nat) : Int), .int a, .int b] st) fun w st' => w = v_xor v a b ∧ Ext st st' := by
  refine wp_run (d := d21) rfl rfl ?_
  show Wp (ex _ c21 _ _) _
  unfold c21 v_xor
  have hv := h.hv
  have am : a % 2 ^ (v + 1) = a := Int.emod_eq_of_lt h.a0 h.a1
  have bm : b % 2 ^ (v + 1) = b := Int.emod_eq_of_lt h.b0 h.b1
  have hp := p64 h.hv
  try simp -implicitDefEqProofs only [wp_ok, wp_bind, wp_noexc, wp_seq, wp_skip, wp_brk, wp_cnt, wp_retN, wp_ret, wp_set, wp_par, wp_unp, wp_sto, wp_xpr, wp_ite, wp_for, wp_whl, wp_tru, sk_rt, sk_bk, sk_ct, lk_nx, lk_ct, lk_bk, lk_rt, ik_true, ik_false, ev, evs, evo, evi, evc, evd, keyK_str, keyK_int, retK_rt, retK_nx, iteK_true, iteK_false, truK0_bl, truK0_int, truK0_tup, truK0_frl, truK0_non, scK_bl, wp_callK, cmpO, cmp_eq, cmp_ne, cmp_lt, cmp_le, cmp_gt, cmp_ge, cmp_isN, cmp_notN, eqD_int, eqD_str, bin_int, binI_add, binI_sub, of_some, negK_int, setK_nm, setK_tp, setsK, asg, asgs, tgsOf, intK, rngK, srcK, subO, startE, newR, new, bi_int, bi_abs, bi_len_tup, bi_len_frl,  Option.map_some, Option.map_none, Option.bind_some, List.map_cons, List.map_nil, List.length_cons, List.length_nil, List.length_append, List.length_map, List.length_set, List.cons_append, List.nil_append, List.getElem?_cons_zero, List.getElem?_cons_succ, List.set_cons_zero, List.set_cons_succ, if_true, if_false, Bool.false_eq_true, Bool.true_eq_false, Bool.not_true, Bool.not_false, decide_true, decide_false, Nat.reduceEqDiff, Nat.zero_lt_succ, List.replicate_succ, List.replicate_zero, Nat.reduceSub, Nat.reduceAdd, Nat.reduceLT, Nat.reduceLeDiff, Nat.zero_le, id, lstK_ok, tupK_ok, d21]
  refine (digits_ok (n := n + 1) (show v + 1 ≤ 64 by omega)).mono ?_
  rintro w st1 ⟨p4, rfl, x1, l4, g4⟩
  try simp -implicitDefEqProofs only [wp_ok, wp_bind, wp_noexc, wp_seq, wp_skip, wp_brk, wp_cnt, wp_retN, wp_ret, wp_set, wp_par, wp_unp, wp_sto, wp_xpr, wp_ite, wp_for, wp_whl, wp_tru, sk_rt, sk_bk, sk_ct, lk_nx, lk_ct, lk_bk, lk_rt, ik_true, ik_false, ev, evs, evo, evi, evc, evd, keyK_str, keyK_int, retK_rt, retK_nx, iteK_true, iteK_false, truK0_bl, truK0_int, truK0_tup, truK0_frl, truK0_non, scK_bl, wp_callK, cmpO, cmp_eq, cmp_ne, cmp_lt, cmp_le, cmp_gt, cmp_ge, cmp_isN, cmp_notN, eqD_int, eqD_str, bin_int, binI_add, binI_sub, of_some, negK_int, setK_nm, setK_tp, setsK, asg, asgs, tgsOf, intK, rngK, srcK, subO, startE, newR, new, bi_int, bi_abs, bi_len_tup, bi_len_frl,  Option.map_some, Option.map_none, Option.bind_some, List.map_cons, List.map_nil, List.length_cons, List.length_nil, List.length_append, List.length_map, List.length_set, List.cons_append, List.nil_append, List.getElem?_cons_zero, List.getElem?_cons_succ, List.set_cons_zero, List.set_cons_succ, if_true, if_false, Bool.false_eq_true, Bool.true_eq_false, Bool.not_true, Bool.not_false, decide_true, decide_false, Nat.reduceEqDiff, Nat.zero_lt_succ, List.replicate_succ, List.replicate_zero, Nat.reduceSub, Nat.reduceAdd, Nat.reduceLT, Nat.reduceLeDiff, Nat.zero_le, id, lstK_ok, tupK_ok]
  refine (digits_ok (n := n + 1) (show v + 1 ≤ 64 by omega)).mono ?_
  rintro w st2 ⟨p5, rfl, x2, l5, g5⟩
  have g4 := x2.2 _ _ g4
  rw [am] at g4
  rw [bm] at g5
  have x2 := x1.trans x2
  try simp -implicitDefEqProofs only [wp_ok, wp_bind, wp_noexc, wp_seq, wp_skip, wp_brk, wp_cnt, wp_retN, wp_ret, wp_set, wp_par, wp_unp, wp_sto, wp_xpr, wp_ite, wp_for, wp_whl, wp_tru, sk_rt, sk_bk, sk_ct, lk_nx, lk_ct, lk_bk, lk_rt, ik_true, ik_false, ev, evs, evo, evi, evc, evd, keyK_str, keyK_int, retK_rt, retK_nx, iteK_true, iteK_false, truK0_bl, truK0_int, truK0_tup, truK0_frl, truK0_non, scK_bl, wp_callK, cmpO, cmp_eq, cmp_ne, cmp_lt, cmp_le, cmp_gt, cmp_ge, cmp_isN, cmp_notN, eqD_int, eqD_str, bin_int, binI_add, binI_sub, of_some, negK_int, setK_nm, setK_tp, setsK, asg, asgs, tgsOf, intK, rngK, srcK, subO, startE, newR, new, bi_int, bi_abs, bi_len_tup, bi_len_frl,  Option.map_some, Option.map_none, Option.bind_some, List.map_cons, List.map_nil, List.length_cons, List.length_nil, List.length_append, List.length_map, List.length_set, List.cons_append, List.nil_append, List.getElem?_cons_zero, List.getElem?_cons_succ, List.set_cons_zero, List.set_cons_succ, if_true, if_false, Bool.false_eq_true, Bool.true_eq_false, Bool.not_true, Bool.not_false, decide_true, decide_false, Nat.reduceEqDiff, Nat.zero_lt_succ, List.replicate_succ, List.replicate_zero, Nat.reduceSub, Nat.reduceAdd, Nat.reduceLT, Nat.reduceLeDiff, Nat.zero_le, id, lstK_ok, tupK_ok]
  rw [sk_nx]
  have i1 : inW (st2 ++ [Ob.lst [W.str "add", W.str "sub", W.str "mul"]]) (.str "xor") (.ref st2.length) = some false := (in_strs (ss := ["add", "sub", "mul"]) getLast (by decide +kernel) (by decide +kernel)).trans (by decide +kernel)
  try simp -implicitDefEqProofs only [wp_ok, wp_bind, wp_noexc, wp_seq, wp_skip, wp_brk, wp_cnt, wp_retN, wp_ret, wp_set, wp_par, wp_unp, wp_sto, wp_xpr, wp_ite, wp_for, wp_whl, wp_tru, sk_rt, sk_bk, sk_ct, lk_nx, lk_ct, lk_bk, lk_rt, ik_true, ik_false, ev, evs, evo, evi, evc, evd, keyK_str, keyK_int, retK_rt, retK_nx, iteK_true, iteK_false, truK0_bl, truK0_int, truK0_tup, truK0_frl, truK0_non, scK_bl, wp_callK, cmpO, cmp_eq, cmp_ne, cmp_lt, cmp_le, cmp_gt, cmp_ge, cmp_isN, cmp_notN, eqD_int, eqD_str, bin_int, binI_add, binI_sub, of_some, negK_int, setK_nm, setK_tp, setsK, asg, asgs, tgsOf, intK, rngK, srcK, subO, startE, newR, new, bi_int, bi_abs, bi_len_tup, bi_len_frl,  Option.map_some, Option.map_none, Option.bind_some, List.map_cons, List.map_nil, List.length_cons, List.length_nil, List.length_append, List.length_map, List.length_set, List.cons_append, List.nil_append, List.getElem?_cons_zero, List.getElem?_cons_succ, List.set_cons_zero, List.set_cons_succ, if_true, if_false, Bool.false_eq_true, Bool.true_eq_false, Bool.not_true, Bool.not_false, decide_true, decide_false, Nat.reduceEqDiff, Nat.zero_lt_succ, List.replicate_succ, List.replicate_zero, Nat.reduceSub, Nat.reduceAdd, Nat.reduceLT, Nat.reduceLeDiff, Nat.zero_le, id, lstK_ok, tupK_ok, cmp_in, i1]
  rw [sk_nx]
  obtain ⟨st3, hs3⟩ : ∃ x : Sto, x = st2 ++ [Ob.lst [W.str "add", W.str "sub", W.str "mul"]] := ⟨_, rfl⟩
  have x3 : Ext st2 st3 := by rw [hs3]; exact Ext.new
  rw [← hs3]
  have g4 := x3.2 _ _ g4
  have g5 := x3.2 _ _ g5
  have x3 := x2.trans x3
  have i2 : inW (st3 ++ [Ob.lst [W.str "udiv", W.str "urem", W.str "sdiv", W.str "srem"]]) (.str "xor") (.ref st3.length) = some false := (in_strs (ss := ["udiv", "urem", "sdiv", "srem"]) getLast (by decide +kernel) (by decide +kernel)).trans (by decide +kernel)
  try simp -implicitDefEqProofs only [wp_ok, wp_bind, wp_noexc, wp_seq, wp_skip, wp_brk, wp_cnt, wp_retN, wp_ret, wp_set, wp_par, wp_unp, wp_sto, wp_xpr, wp_ite, wp_for, wp_whl, wp_tru, sk_rt, sk_bk, sk_ct, lk_nx, lk_ct, lk_bk, lk_rt, ik_true, ik_false, ev, evs, evo, evi, evc, evd, keyK_str, keyK_int, retK_rt, retK_nx, iteK_true, iteK_false, truK0_bl, truK0_int, truK0_tup, truK0_frl, truK0_non, scK_bl, wp_callK, cmpO, cmp_eq, cmp_ne, cmp_lt, cmp_le, cmp_gt, cmp_ge, cmp_isN, cmp_notN, eqD_int, eqD_str, bin_int, binI_add, binI_sub, of_some, negK_int, setK_nm, setK_tp, setsK, asg, asgs, tgsOf, intK, rngK, srcK, subO, startE, newR, new, bi_int, bi_abs, bi_len_tup, bi_len_frl,  Option.map_some, Option.map_none, Option.bind_some, List.map_cons, List.map_nil, List.length_cons, List.length_nil, List.length_append, List.length_map, List.length_set, List.cons_append, List.nil_append, List.getElem?_cons_zero, List.getElem?_cons_succ, List.set_cons_zero, List.set_cons_succ, if_true, if_false, Bool.false_eq_true, Bool.true_eq_false, Bool.not_true, Bool.not_false, decide_true, decide_false, Nat.reduceEqDiff, Nat.zero_lt_succ, List.replicate_succ, List.replicate_zero, Nat.reduceSub, Nat.reduceAdd, Nat.reduceLT, Nat.reduceLeDiff, Nat.zero_le, id, lstK_ok, tupK_ok, cmp_in, i2]
  rw [sk_nx]
  obtain ⟨st4, hs4⟩ : ∃ x : Sto, x = st3 ++ [Ob.lst [W.str "udiv", W.str "urem", W.str "sdiv", W.str "srem"]] := ⟨_, rfl⟩
  have x4 : Ext st3 st4 := by rw [hs4]; exact Ext.new
  rw [← hs4]
  have g4 := x4.2 _ _ g4
  have g5 := x4.2 _ _ g5
  have x4 := x3.trans x4
  have i3 : inW (st4 ++ [Ob.lst [W.str "and", W.str "or", W.str "xor"]]) (.str "xor") (.ref st4.length) = some true := (in_strs (ss := ["and", "or", "xor"]) getLast (by decide +kernel) (by decide +kernel)).trans (by decide +kernel)
  try simp -implicitDefEqProofs only [wp_ok, wp_bind, wp_noexc, wp_seq, wp_skip, wp_brk, wp_cnt, wp_retN, wp_ret, wp_set, wp_par, wp_unp, wp_sto, wp_xpr, wp_ite, wp_for, wp_whl, wp_tru, sk_rt, sk_bk, sk_ct, lk_nx, lk_ct, lk_bk, lk_rt, ik_true, ik_false, ev, evs, evo, evi, evc, evd, keyK_str, keyK_int, retK_rt, retK_nx, iteK_true, iteK_false, truK0_bl, truK0_int, truK0_tup, truK0_frl, truK0_non, scK_bl, wp_callK, cmpO, cmp_eq, cmp_ne, cmp_lt, cmp_le, cmp_gt, cmp_ge, cmp_isN, cmp_notN, eqD_int, eqD_str, bin_int, binI_add, binI_sub, of_some, negK_int, setK_nm, setK_tp, setsK, asg, asgs, tgsOf, intK, rngK, srcK, subO, startE, newR, new, bi_int, bi_abs, bi_len_tup, bi_len_frl,  Option.map_some, Option.map_none, Option.bind_some, List.map_cons, List.map_nil, List.length_cons, List.length_nil, List.length_append, List.length_map, List.length_set, List.cons_append, List.nil_append, List.getElem?_cons_zero, List.getElem?_cons_succ, List.set_cons_zero, List.set_cons_succ, if_true, if_false, Bool.false_eq_true, Bool.true_eq_false, Bool.not_true, Bool.not_false, decide_true, decide_false, Nat.reduceEqDiff, Nat.zero_lt_succ, List.replicate_succ, List.replicate_zero, Nat.reduceSub, Nat.reduceAdd, Nat.reduceLT, Nat.reduceLeDiff, Nat.zero_le, id, lstK_ok, tupK_ok, cmp_in, i3]
  obtain ⟨st5, hs5⟩ : ∃ x : Sto, x = st4 ++ [Ob.lst [W.str "and", W.str "or", W.str "xor"]] := ⟨_, rfl⟩
  have x5 : Ext st4 st5 := by rw [hs5]; exact Ext.new
  have ln5 : st4.length + 1 = st5.length := by rw [hs5]; simp
  simp only [← hs5, ln5]
  have g4 := x5.2 _ _ g4
  have g5 := x5.2 _ _ g5
  have x5 := x4.trans x5
  have hd : (st5 ++ [Ob.dct []] ++ [Ob.lst [W.int 2]] ++ [Ob.lst [W.int 1, W.int 2]] ++ [Ob.lst [W.int 1]])[st5.length]? = some (.dct []) := getNew (getNew (getNew getLast))
  have n1 : (st5 ++ [Ob.dct []]).length = st5.length + 1 := by simp
  have n2 : (st5 ++ [Ob.dct []] ++ [Ob.lst [W.int 2]]).length = st5.length + 1 + 1 := by simp
  have n3 : (st5 ++ [Ob.dct []] ++ [Ob.lst [W.int 2]] ++ [Ob.lst [W.int 1, W.int 2]]).length = st5.length + 1 + 1 + 1 := by simp
  have w1 : (st5 ++ [Ob.dct []] ++ [Ob.lst [W.int 2]] ++ [Ob.lst [W.int 1, W.int 2]] ++ [Ob.lst [W.int 1]])[st5.length + 1]? = some (.lst [W.int 2]) := by rw [← n1]; exact getNew (getNew getLast)
  have w2 : (st5 ++ [Ob.dct []] ++ [Ob.lst [W.int 2]] ++ [Ob.lst [W.int 1, W.int 2]] ++ [Ob.lst [W.int 1]])[st5.length + 1 + 1]? = some (.lst [W.int 1, W.int 2]) := by rw [← n2]; exact getNew getLast
  have w3 : (st5 ++ [Ob.dct []] ++ [Ob.lst [W.int 2]] ++ [Ob.lst [W.int 1, W.int 2]] ++ [Ob.lst [W.int 1]])[st5.length + 1 + 1 + 1]? = some (.lst [W.int 1]) := by rw [← n3]; exact getLast
  have xX : Ext st5 (st5 ++ [Ob.dct []] ++ [Ob.lst [W.int 2]] ++ [Ob.lst [W.int 1, W.int 2]] ++ [Ob.lst [W.int 1]]) := ((Ext.new.trans Ext.new).trans Ext.new).trans Ext.new
  try simp -implicitDefEqProofs only [wp_ok, wp_bind, wp_noexc, wp_seq, wp_skip, wp_brk, wp_cnt, wp_retN, wp_ret, wp_set, wp_par, wp_unp, wp_sto, wp_xpr, wp_ite, wp_for, wp_whl, wp_tru, sk_rt, sk_bk, sk_ct, lk_nx, lk_ct, lk_bk, lk_rt, ik_true, ik_false, ev, evs, evo, evi, evc, evd, keyK_str, keyK_int, retK_rt, retK_nx, iteK_true, iteK_false, truK0_bl, truK0_int, truK0_tup, truK0_frl, truK0_non, scK_bl, wp_callK, cmpO, cmp_eq, cmp_ne, cmp_lt, cmp_le, cmp_gt, cmp_ge, cmp_isN, cmp_notN, eqD_int, eqD_str, bin_int, binI_add, binI_sub, of_some, negK_int, setK_nm, setK_tp, setsK, asg, asgs, tgsOf, intK, rngK, srcK, subO, startE, newR, new, bi_int, bi_abs, bi_len_tup, bi_len_frl,  Option.map_some, Option.map_none, Option.bind_some, List.map_cons, List.map_nil, List.length_cons, List.length_nil, List.length_append, List.length_map, List.length_set, List.cons_append, List.nil_append, List.getElem?_cons_zero, List.getElem?_cons_succ, List.set_cons_zero, List.set_cons_succ, if_true, if_false, Bool.false_eq_true, Bool.true_eq_false, Bool.not_true, Bool.not_false, decide_true, decide_false, Nat.reduceEqDiff, Nat.zero_lt_succ, List.replicate_succ, List.replicate_zero, Nat.reduceSub, Nat.reduceAdd, Nat.reduceLT, Nat.reduceLeDiff, Nat.zero_le, id, lstK_ok, tupK_ok]
  generalize (st5 ++ [Ob.dct []] ++ [Ob.lst [W.int 2]] ++ [Ob.lst [W.int 1, W.int 2]] ++ [Ob.lst [W.int 1]]) = X at *
  try simp -implicitDefEqProofs only [wp_ok, wp_bind, wp_noexc, wp_seq, wp_skip, wp_brk, wp_cnt, wp_retN, wp_ret, wp_set, wp_par, wp_unp, wp_sto, wp_xpr, wp_ite, wp_for, wp_whl, wp_tru, sk_rt, sk_bk, sk_ct, lk_nx, lk_ct, lk_bk, lk_rt, ik_true, ik_false, ev, evs, evo, evi, evc, evd, keyK_str, keyK_int, retK_rt, retK_nx, iteK_true, iteK_false, truK0_bl, truK0_int, truK0_tup, truK0_frl, truK0_non, scK_bl, wp_callK, cmpO, cmp_eq, cmp_ne, cmp_lt, cmp_le, cmp_gt, cmp_ge, cmp_isN, cmp_notN, eqD_int, eqD_str, bin_int, binI_add, binI_sub, of_some, negK_int, setK_nm, setK_tp, setsK, asg, asgs, tgsOf, intK, rngK, srcK, subO, startE, newR, new, bi_int, bi_abs, bi_len_tup, bi_len_frl,  Option.map_some, Option.map_none, Option.bind_some, List.map_cons, List.map_nil, List.length_cons, List.length_nil, List.length_append, List.length_map, List.length_set, List.cons_append, List.nil_append, List.getElem?_cons_zero, List.getElem?_cons_succ, List.set_cons_zero, List.set_cons_succ, if_true, if_false, Bool.false_eq_true, Bool.true_eq_false, Bool.not_true, Bool.not_false, decide_true, decide_false, Nat.reduceEqDiff, Nat.zero_lt_succ, List.replicate_succ, List.replicate_zero, Nat.reduceSub, Nat.reduceAdd, Nat.reduceLT, Nat.reduceLeDiff, Nat.zero_le, id, lstK_ok, tupK_ok, dspK_ok hd]
  have sx : sub (X.set st5.length (.dct (mergeW [(Sum.inr (Str.ofString "and"), W.ref (st5.length + 1)), (Sum.inr (Str.ofString "or"), W.ref (st5.length + 1 + 1)), (Sum.inr (Str.ofString "xor"), W.ref (st5.length + 1 + 1 + 1))]))) (.ref st5.length) (.str "xor") = some (.ref (st5.length + 1 + 1 + 1)) := by
    have e : (X.set st5.length (Ob.dct (mergeW [(Sum.inr (Str.ofString "and"), W.ref (st5.length + 1)), (Sum.inr (Str.ofString "or"), W.ref (st5.length + 1 + 1)), (Sum.inr (Str.ofString "xor"), W.ref (st5.length + 1 + 1 + 1))])))[st5.length]? = some (.dct (mergeW [(Sum.inr (Str.ofString "and"), W.ref (st5.length + 1)), (Sum.inr (Str.ofString "or"), W.ref (st5.length + 1 + 1)), (Sum.inr (Str.ofString "xor"), W.ref (st5.length + 1 + 1 + 1))])) := by rw [List.getElem?_set_self (List.getElem?_eq_some_iff.mp hd).1]
    simp only [sub, dctOf, e]
    rfl
  have xS : Ext st5 (X.set st5.length (.dct (mergeW [(Sum.inr (Str.ofString "and"), W.ref (st5.length + 1)), (Sum.inr (Str.ofString "or"), W.ref (st5.length + 1 + 1)), (Sum.inr (Str.ofString "xor"), W.ref (st5.length + 1 + 1 + 1))]))) := xX.set (Nat.le_refl _)
  have wS : (X.set st5.length (Ob.dct (mergeW [(Sum.inr (Str.ofString "and"), W.ref (st5.length + 1)), (Sum.inr (Str.ofString "or"), W.ref (st5.length + 1 + 1)), (Sum.inr (Str.ofString "xor"), W.ref (st5.length + 1 + 1 + 1))])))[st5.length + 1 + 1 + 1]? = some (.lst (([1] : List Int).map .int)) := by
    rw [List.getElem?_set_ne (by omega)]
    first | exact w1 | exact w2 | exact w3
  generalize (X.set st5.length (Ob.dct (mergeW [(Sum.inr (Str.ofString "and"), W.ref (st5.length + 1)), (Sum.inr (Str.ofString "or"), W.ref (st5.length + 1 + 1)), (Sum.inr (Str.ofString "xor"), W.ref (st5.length + 1 + 1 + 1))]))) = S at *
  try simp -implicitDefEqProofs only [wp_ok, wp_bind, wp_noexc, wp_seq, wp_skip, wp_brk, wp_cnt, wp_retN, wp_ret, wp_set, wp_par, wp_unp, wp_sto, wp_xpr, wp_ite, wp_for, wp_whl, wp_tru, sk_rt, sk_bk, sk_ct, lk_nx, lk_ct, lk_bk, lk_rt, ik_true, ik_false, ev, evs, evo, evi, evc, evd, keyK_str, keyK_int, retK_rt, retK_nx, iteK_true, iteK_false, truK0_bl, truK0_int, truK0_tup, truK0_frl, truK0_non, scK_bl, wp_callK, cmpO, cmp_eq, cmp_ne, cmp_lt, cmp_le, cmp_gt, cmp_ge, cmp_isN, cmp_notN, eqD_int, eqD_str, bin_int, binI_add, binI_sub, of_some, negK_int, setK_nm, setK_tp, setsK, asg, asgs, tgsOf, intK, rngK, srcK, subO, startE, newR, new, bi_int, bi_abs, bi_len_tup, bi_len_frl,  Option.map_some, Option.map_none, Option.bind_some, List.map_cons, List.map_nil, List.length_cons, List.length_nil, List.length_append, List.length_map, List.length_set, List.cons_append, List.nil_append, List.getElem?_cons_zero, List.getElem?_cons_succ, List.set_cons_zero, List.set_cons_succ, if_true, if_false, Bool.false_eq_true, Bool.true_eq_false, Bool.not_true, Bool.not_false, decide_true, decide_false, Nat.reduceEqDiff, Nat.zero_lt_succ, List.replicate_succ, List.replicate_zero, Nat.reduceSub, Nat.reduceAdd, Nat.reduceLT, Nat.reduceLeDiff, Nat.zero_le, id, lstK_ok, tupK_ok, sx]
  rw [sk_nx]
  have g4 := xS.2 _ _ g4
  have g5 := xS.2 _ _ g5
  try simp -implicitDefEqProofs only [wp_ok, wp_bind, wp_noexc, wp_seq, wp_skip, wp_brk, wp_cnt, wp_retN, wp_ret, wp_set, wp_par, wp_unp, wp_sto, wp_xpr, wp_ite, wp_for, wp_whl, wp_tru, sk_rt, sk_bk, sk_ct, lk_nx, lk_ct, lk_bk, lk_rt, ik_true, ik_false, ev, evs, evo, evi, evc, evd, keyK_str, keyK_int, retK_rt, retK_nx, iteK_true, iteK_false, truK0_bl, truK0_int, truK0_tup, truK0_frl, truK0_non, scK_bl, wp_callK, cmpO, cmp_eq, cmp_ne, cmp_lt, cmp_le, cmp_gt, cmp_ge, cmp_isN, cmp_notN, eqD_int, eqD_str, bin_int, binI_add, binI_sub, of_some, negK_int, setK_nm, setK_tp, setsK, asg, asgs, tgsOf, intK, rngK, srcK, subO, startE, newR, new, bi_int, bi_abs, bi_len_tup, bi_len_frl,  Option.map_some, Option.map_none, Option.bind_some, List.map_cons, List.map_nil, List.length_cons, List.length_nil, List.length_append, List.length_map, List.length_set, List.cons_append, List.nil_append, List.getElem?_cons_zero, List.getElem?_cons_succ, List.set_cons_zero, List.set_cons_succ, if_true, if_false, Bool.false_eq_true, Bool.true_eq_false, Bool.not_true, Bool.not_false, decide_true, decide_false, Nat.reduceEqDiff, Nat.zero_lt_succ, List.replicate_succ, List.replicate_zero, Nat.reduceSub, Nat.reduceAdd, Nat.reduceLT, Nat.reduceLeDiff, Nat.zero_le, id, lstK_ok, tupK_ok, src2K_lst g4 g5]
  have lws : ((List.range (v + 1)).map fun i : Nat => W.tup [W.int (a / 2 ^ i % 2), W.int (b / 2 ^ i % 2)]).length = v + 1 := by simp
  refine wp_lcL ((List.range (v + 1)).map fun i : Nat => W.tup [W.int (a / 2 ^ i % 2), W.int (b / 2 ^ i % 2)]) (fun k st' => st' = S ++ [Ob.lst (((List.range k).map fun i : Nat => gXor (a / 2 ^ i % 2) (b / 2 ^ i % 2)).map .int)]) ?_ ?_ ?_ FU 0 _ (Nat.zero_le _) (by rw [lws]; unfold FU; omega) rfl
  · rintro k st' rfl
    simp only [Src.get, getNew g4, getNew g5]
    rcases Nat.lt_or_ge k (v + 1) with hk | hk
    · rw [List.getElem?_map, lo_get hk, List.getElem?_map, lo_get hk, List.getElem?_map, List.getElem?_range hk]
      rfl
    · rw [List.getElem?_eq_none (by rw [List.length_map, lo_len]; exact hk), List.getElem?_eq_none (by rw [List.length_map, lo_len]; exact hk), List.getElem?_eq_none (by rw [lws]; exact hk)]
  · rintro k w st' hw rfl
    have hk : k < v + 1 := by have := (List.getElem?_eq_some_iff.mp hw).1; rw [lws] at this; exact this
    rw [List.getElem?_map, List.getElem?_range hk] at hw
    cases hw
    refine ⟨_, rfl, ?_⟩
    obtain ⟨q1, q2⟩ := wantXor _ _ (bit2 a k) (bit2 b k)
    have q3 := in_ints (i := a / 2 ^ k % 2 + b / 2 ^ k % 2) (getNew (u := Ob.lst (((List.range k).map fun i : Nat => gXor (a / 2 ^ i % 2) (b / 2 ^ i % 2)).map W.int)) wS)
    rw [q1] at q3
    try simp -implicitDefEqProofs only [wp_ok, wp_bind, wp_noexc, wp_seq, wp_skip, wp_brk, wp_cnt, wp_retN, wp_ret, wp_set, wp_par, wp_unp, wp_sto, wp_xpr, wp_ite, wp_for, wp_whl, wp_tru, sk_rt, sk_bk, sk_ct, lk_nx, lk_ct, lk_bk, lk_rt, ik_true, ik_false, ev, evs, evo, evi, evc, evd, keyK_str, keyK_int, retK_rt, retK_nx, iteK_true, iteK_false, truK0_bl, truK0_int, truK0_tup, truK0_frl, truK0_non, scK_bl, wp_callK, cmpO, cmp_eq, cmp_ne, cmp_lt, cmp_le, cmp_gt, cmp_ge, cmp_isN, cmp_notN, eqD_int, eqD_str, bin_int, binI_add, binI_sub, of_some, negK_int, setK_nm, setK_tp, setsK, asg, asgs, tgsOf, intK, rngK, srcK, subO, startE, newR, new, bi_int, bi_abs, bi_len_tup, bi_len_frl,  Option.map_some, Option.map_none, Option.bind_some, List.map_cons, List.map_nil, List.length_cons, List.length_nil, List.length_append, List.length_map, List.length_set, List.cons_append, List.nil_append, List.getElem?_cons_zero, List.getElem?_cons_succ, List.set_cons_zero, List.set_cons_succ, if_true, if_false, Bool.false_eq_true, Bool.true_eq_false, Bool.not_true, Bool.not_false, decide_true, decide_false, Nat.reduceEqDiff, Nat.zero_lt_succ, List.replicate_succ, List.replicate_zero, Nat.reduceSub, Nat.reduceAdd, Nat.reduceLT, Nat.reduceLeDiff, Nat.zero_le, id, lstK_ok, tupK_ok, wipeE, cmp_in, q3]
    have fin : ∀ y : Int, y = gXor (a / 2 ^ k % 2) (b / 2 ^ k % 2) → ∃ acc, (S ++ [Ob.lst (((List.range k).map fun i : Nat => gXor (a / 2 ^ i % 2) (b / 2 ^ i % 2)).map W.int)])[S.length]? = some (.lst acc) ∧ acc.length < sizeLine ∧ (S ++ [Ob.lst (((List.range k).map fun i : Nat => gXor (a / 2 ^ i % 2) (b / 2 ^ i % 2)).map W.int)]).set S.length (.lst (acc ++ [W.int y])) = S ++ [Ob.lst (((List.range (k + 1)).map fun i : Nat => gXor (a / 2 ^ i % 2) (b / 2 ^ i % 2)).map W.int)] := by
      rintro y rfl
      refine ⟨_, getLast, by simp only [List.length_map, List.length_range]; unfold sizeLine; omega, ?_⟩
      rw [set_last, List.range_succ]
      simp
    rcases q2 with q2 | q2
    · rw [q2, show decide ((0 : Int) = 1) = false from rfl]
      try simp -implicitDefEqProofs only [wp_ok, wp_bind, wp_noexc, wp_seq, wp_skip, wp_brk, wp_cnt, wp_retN, wp_ret, wp_set, wp_par, wp_unp, wp_sto, wp_xpr, wp_ite, wp_for, wp_whl, wp_tru, sk_rt, sk_bk, sk_ct, lk_nx, lk_ct, lk_bk, lk_rt, ik_true, ik_false, ev, evs, evo, evi, evc, evd, keyK_str, keyK_int, retK_rt, retK_nx, iteK_true, iteK_false, truK0_bl, truK0_int, truK0_tup, truK0_frl, truK0_non, scK_bl, wp_callK, cmpO, cmp_eq, cmp_ne, cmp_lt, cmp_le, cmp_gt, cmp_ge, cmp_isN, cmp_notN, eqD_int, eqD_str, bin_int, binI_add, binI_sub, of_some, negK_int, setK_nm, setK_tp, setsK, asg, asgs, tgsOf, intK, rngK, srcK, subO, startE, newR, new, bi_int, bi_abs, bi_len_tup, bi_len_frl,  Option.map_some, Option.map_none, Option.bind_some, List.map_cons, List.map_nil, List.length_cons, List.length_nil, List.length_append, List.length_map, List.length_set, List.cons_append, List.nil_append, List.getElem?_cons_zero, List.getElem?_cons_succ, List.set_cons_zero, List.set_cons_succ, if_true, if_false, Bool.false_eq_true, Bool.true_eq_false, Bool.not_true, Bool.not_false, decide_true, decide_false, Nat.reduceEqDiff, Nat.zero_lt_succ, List.replicate_succ, List.replicate_zero, Nat.reduceSub, Nat.reduceAdd, Nat.reduceLT, Nat.reduceLeDiff, Nat.zero_le, id, lstK_ok, tupK_ok]
      exact fin 0 q2.symm
    · rw [q2, decide_eq_true rfl]
      try simp -implicitDefEqProofs only [wp_ok, wp_bind, wp_noexc, wp_seq, wp_skip, wp_brk, wp_cnt, wp_retN, wp_ret, wp_set, wp_par, wp_unp, wp_sto, wp_xpr, wp_ite, wp_for, wp_whl, wp_tru, sk_rt, sk_bk, sk_ct, lk_nx, lk_ct, lk_bk, lk_rt, ik_true, ik_false, ev, evs, evo, evi, evc, evd, keyK_str, keyK_int, retK_rt, retK_nx, iteK_true, iteK_false, truK0_bl, truK0_int, truK0_tup, truK0_frl, truK0_non, scK_bl, wp_callK, cmpO, cmp_eq, cmp_ne, cmp_lt, cmp_le, cmp_gt, cmp_ge, cmp_isN, cmp_notN, eqD_int, eqD_str, bin_int, binI_add, binI_sub, of_some, negK_int, setK_nm, setK_tp, setsK, asg, asgs, tgsOf, intK, rngK, srcK, subO, startE, newR, new, bi_int, bi_abs, bi_len_tup, bi_len_frl,  Option.map_some, Option.map_none, Option.bind_some, List.map_cons, List.map_nil, List.length_cons, List.length_nil, List.length_append, List.length_map, List.length_set, List.cons_append, List.nil_append, List.getElem?_cons_zero, List.getElem?_cons_succ, List.set_cons_zero, List.set_cons_succ, if_true, if_false, Bool.false_eq_true, Bool.true_eq_false, Bool.not_true, Bool.not_false, decide_true, decide_false, Nat.reduceEqDiff, Nat.zero_lt_succ, List.replicate_succ, List.replicate_zero, Nat.reduceSub, Nat.reduceAdd, Nat.reduceLT, Nat.reduceLeDiff, Nat.zero_le, id, lstK_ok, tupK_ok]
      exact fin 1 q2.symm
  · rintro st' rfl
    rw [lws]
    try simp -implicitDefEqProofs only [wp_ok, wp_bind, wp_noexc, wp_seq, wp_skip, wp_brk, wp_cnt, wp_retN, wp_ret, wp_set, wp_par, wp_unp, wp_sto, wp_xpr, wp_ite, wp_for, wp_whl, wp_tru, sk_rt, sk_bk, sk_ct, lk_nx, lk_ct, lk_bk, lk_rt, ik_true, ik_false, ev, evs, evo, evi, evc, evd, keyK_str, keyK_int, retK_rt, retK_nx, iteK_true, iteK_false, truK0_bl, truK0_int, truK0_tup, truK0_frl, truK0_non, scK_bl, wp_callK, cmpO, cmp_eq, cmp_ne, cmp_lt, cmp_le, cmp_gt, cmp_ge, cmp_isN, cmp_notN, eqD_int, eqD_str, bin_int, binI_add, binI_sub, of_some, negK_int, setK_nm, setK_tp, setsK, asg, asgs, tgsOf, intK, rngK, srcK, subO, startE, newR, new, bi_int, bi_abs, bi_len_tup, bi_len_frl,  Option.map_some, Option.map_none, Option.bind_some, List.map_cons, List.map_nil, List.length_cons, List.length_nil, List.length_append, List.length_map, List.length_set, List.cons_append, List.nil_append, List.getElem?_cons_zero, List.getElem?_cons_succ, List.set_cons_zero, List.set_cons_succ, if_true, if_false, Bool.false_eq_true, Bool.true_eq_false, Bool.not_true, Bool.not_false, decide_true, decide_false, Nat.reduceEqDiff, Nat.zero_lt_succ, List.replicate_succ, List.replicate_zero, Nat.reduceSub, Nat.reduceAdd, Nat.reduceLT, Nat.reduceLeDiff, Nat.zero_le, id, lstK_ok, tupK_ok]
    refine (back_ok (n := n + 2) getLast (fun d hd => ?_) (by simp; omega)).mono ?_
    · obtain ⟨i, _, rfl⟩ := List.mem_map.mp hd
      exact (wantXor _ _ (bit2 a i) (bit2 b i)).2
    rintro r st9 ⟨rfl, rfl⟩
    try simp -implicitDefEqProofs only [wp_ok, wp_bind, wp_noexc, wp_seq, wp_skip, wp_brk, wp_cnt, wp_retN, wp_ret, wp_set, wp_par, wp_unp, wp_sto, wp_xpr, wp_ite, wp_for, wp_whl, wp_tru, sk_rt, sk_bk, sk_ct, lk_nx, lk_ct, lk_bk, lk_rt, ik_true, ik_false, ev, evs, evo, evi, evc, evd, keyK_str, keyK_int, retK_rt, retK_nx, iteK_true, iteK_false, truK0_bl, truK0_int, truK0_tup, truK0_frl, truK0_non, scK_bl, wp_callK, cmpO, cmp_eq, cmp_ne, cmp_lt, cmp_le, cmp_gt, cmp_ge, cmp_isN, cmp_notN, eqD_int, eqD_str, bin_int, binI_add, binI_sub, of_some, negK_int, setK_nm, setK_tp, setsK, asg, asgs, tgsOf, intK, rngK, srcK, subO, startE, newR, new, bi_int, bi_abs, bi_len_tup, bi_len_frl,  Option.map_some, Option.map_none, Option.bind_some, List.map_cons, List.map_nil, List.length_cons, List.length_nil, List.length_append, List.length_map, List.length_set, List.cons_append, List.nil_append, List.getElem?_cons_zero, List.getElem?_cons_succ, List.set_cons_zero, List.set_cons_succ, if_true, if_false, Bool.false_eq_true, Bool.true_eq_false, Bool.not_true, Bool.not_false, decide_true, decide_false, Nat.reduceEqDiff, Nat.zero_lt_succ, List.replicate_succ, List.replicate_zero, Nat.reduceSub, Nat.reduceAdd, Nat.reduceLT, Nat.reduceLeDiff, Nat.zero_le, id, lstK_ok, tupK_ok]
    rw [← zip_range, xor_val h.a0 h.a1 h.b0 h.b1]
    exact ⟨by first | rfl | trivial, x5.trans (xS.trans Ext.new)⟩

theorem due_shl (h : Ab v a b) : Wp (Ci.run tab (n + 4) 21 [.str "shl", .int ((v + 1 : Nat) : Int), .int a, .int b] st) fun w st' => w = v_shl v a b ∧ Ext st st' := by
  refine wp_run (d := d21) rfl rfl ?_
  show Wp (ex _ c21 _ _) _
  unfold c21 v_shl
  have hv := h.hv
  have am : a % 2 ^ (v + 1) = a := Int.emod_eq_of_lt h.a0 h.a1
  have bm : b % 2 ^ (v + 1) = b := Int.emod_eq_of_lt h.b0 h.b1
  have hp := p64 h.hv
  try simp -implicitDefEqProofs only [wp_ok, wp_bind, wp_noexc, wp_seq, wp_skip, wp_brk, wp_cnt, wp_retN, wp_ret, wp_set, wp_par, wp_unp, wp_sto, wp_xpr, wp_ite, wp_for, wp_whl, wp_tru, sk_rt, sk_bk, sk_ct, lk_nx, lk_ct, lk_bk, lk_rt, ik_true, ik_false, ev, evs, evo, evi, evc, evd, keyK_str, keyK_int, retK_rt, retK_nx, iteK_true, iteK_false, truK0_bl, truK0_int, truK0_tup, truK0_frl, truK0_non, scK_bl, wp_callK, cmpO, cmp_eq, cmp_ne, cmp_lt, cmp_le, cmp_gt, cmp_ge, cmp_isN, cmp_notN, eqD_int, eqD_str, bin_int, binI_add, binI_sub, of_some, negK_int, setK_nm, setK_tp, setsK, asg, asgs, tgsOf, intK, rngK, srcK, subO, startE, newR, new, bi_int, bi_abs, bi_len_tup, bi_len_frl,  Option.map_some, Option.map_none, Option.bind_some, List.map_cons, List.map_nil, List.length_cons, List.length_nil, List.length_append, List.length_map, List.length_set, List.cons_append, List.nil_append, List.getElem?_cons_zero, List.getElem?_cons_succ, List.set_cons_zero, List.set_cons_succ, if_true, if_false, Bool.false_eq_true, Bool.true_eq_false, Bool.not_true, Bool.not_false, decide_true, decide_false, Nat.reduceEqDiff, Nat.zero_lt_succ, List.replicate_succ, List.replicate_zero, Nat.reduceSub, Nat.reduceAdd, Nat.reduceLT, Nat.reduceLeDiff, Nat.zero_le, id, lstK_ok, tupK_ok, d21]
  refine (digits_ok (n := n + 1) (show v + 1 ≤ 64 by omega)).mono ?_
  rintro w st1 ⟨p4, rfl, x1, l4, g4⟩
  try simp -implicitDefEqProofs only [wp_ok, wp_bind, wp_noexc, wp_seq, wp_skip, wp_brk, wp_cnt, wp_retN, wp_ret, wp_set, wp_par, wp_unp, wp_sto, wp_xpr, wp_ite, wp_for, wp_whl, wp_tru, sk_rt, sk_bk, sk_ct, lk_nx, lk_ct, lk_bk, lk_rt, ik_true, ik_false, ev, evs, evo, evi, evc, evd, keyK_str, keyK_int, retK_rt, retK_nx, iteK_true, iteK_false, truK0_bl, truK0_int, truK0_tup, truK0_frl, truK0_non, scK_bl, wp_callK, cmpO, cmp_eq, cmp_ne, cmp_lt, cmp_le, cmp_gt, cmp_ge, cmp_isN, cmp_notN, eqD_int, eqD_str, bin_int, binI_add, binI_sub, of_some, negK_int, setK_nm, setK_tp, setsK, asg, asgs, tgsOf, intK, rngK, srcK, subO, startE, newR, new, bi_int, bi_abs, bi_len_tup, bi_len_frl,  Option.map_some, Option.map_none, Option.bind_some, List.map_cons, List.map_nil, List.length_cons, List.length_nil, List.length_append, List.length_map, List.length_set, List.cons_append, List.nil_append, List.getElem?_cons_zero, List.getElem?_cons_succ, List.set_cons_zero, List.set_cons_succ, if_true, if_false, Bool.false_eq_true, Bool.true_eq_false, Bool.not_true, Bool.not_false, decide_true, decide_false, Nat.reduceEqDiff, Nat.zero_lt_succ, List.replicate_succ, List.replicate_zero, Nat.reduceSub, Nat.reduceAdd, Nat.reduceLT, Nat.reduceLeDiff, Nat.zero_le, id, lstK_ok, tupK_ok]
  refine (digits_ok (n := n + 1) (show v + 1 ≤ 64 by omega)).mono ?_
  rintro w st2 ⟨p5, rfl, x2, l5, g5⟩
  have g4 := x2.2 _ _ g4
  rw [am] at g4
  rw [bm] at g5
  have x2 := x1.trans x2
  try simp -implicitDefEqProofs only [wp_ok, wp_bind, wp_noexc, wp_seq, wp_skip, wp_brk, wp_cnt, wp_retN, wp_ret, wp_set, wp_par, wp_unp, wp_sto, wp_xpr, wp_ite, wp_for, wp_whl, wp_tru, sk_rt, sk_bk, sk_ct, lk_nx, lk_ct, lk_bk, lk_rt, ik_true, ik_false, ev, evs, evo, evi, evc, evd, keyK_str, keyK_int, retK_rt, retK_nx, iteK_true, iteK_false, truK0_bl, truK0_int, truK0_tup, truK0_frl, truK0_non, scK_bl, wp_callK, cmpO, cmp_eq, cmp_ne, cmp_lt, cmp_le, cmp_gt, cmp_ge, cmp_isN, cmp_notN, eqD_int, eqD_str, bin_int, binI_add, binI_sub, of_some, negK_int, setK_nm, setK_tp, setsK, asg, asgs, tgsOf, intK, rngK, srcK, subO, startE, newR, new, bi_int, bi_abs, bi_len_tup, bi_len_frl,  Option.map_some, Option.map_none, Option.bind_some, List.map_cons, List.map_nil, List.length_cons, List.length_nil, List.length_append, List.length_map, List.length_set, List.cons_append, List.nil_append, List.getElem?_cons_zero, List.getElem?_cons_succ, List.set_cons_zero, List.set_cons_succ, if_true, if_false, Bool.false_eq_true, Bool.true_eq_false, Bool.not_true, Bool.not_false, decide_true, decide_false, Nat.reduceEqDiff, Nat.zero_lt_succ, List.replicate_succ, List.replicate_zero, Nat.reduceSub, Nat.reduceAdd, Nat.reduceLT, Nat.reduceLeDiff, Nat.zero_le, id, lstK_ok, tupK_ok]
  rw [sk_nx]
  have i1 : inW (st2 ++ [Ob.lst [W.str "add", W.str "sub", W.str "mul"]]) (.str "shl") (.ref st2.length) = some false := (in_strs (ss := ["add", "sub", "mul"]) getLast (by decide +kernel) (by decide +kernel)).trans (by decide +kernel)
  try simp -implicitDefEqProofs only [wp_ok, wp_bind, wp_noexc, wp_seq, wp_skip, wp_brk, wp_cnt, wp_retN, wp_ret, wp_set, wp_par, wp_unp, wp_sto, wp_xpr, wp_ite, wp_for, wp_whl, wp_tru, sk_rt, sk_bk, sk_ct, lk_nx, lk_ct, lk_bk, lk_rt, ik_true, ik_false, ev, evs, evo, evi, evc, evd, keyK_str, keyK_int, retK_rt, retK_nx, iteK_true, iteK_false, truK0_bl, truK0_int, truK0_tup, truK0_frl, truK0_non, scK_bl, wp_callK, cmpO, cmp_eq, cmp_ne, cmp_lt, cmp_le, cmp_gt, cmp_ge, cmp_isN, cmp_notN, eqD_int, eqD_str, bin_int, binI_add, binI_sub, of_some, negK_int, setK_nm, setK_tp, setsK, asg, asgs, tgsOf, intK, rngK, srcK, subO, startE, newR, new, bi_int, bi_abs, bi_len_tup, bi_len_frl,  Option.map_some, Option.map_none, Option.bind_some, List.map_cons, List.map_nil, List.length_cons, List.length_nil, List.length_append, List.length_map, List.length_set, List.cons_append, List.nil_append, List.getElem?_cons_zero, List.getElem?_cons_succ, List.set_cons_zero, List.set_cons_succ, if_true, if_false, Bool.false_eq_true, Bool.true_eq_false, Bool.not_true, Bool.not_false, decide_true, decide_false, Nat.reduceEqDiff, Nat.zero_lt_succ, List.replicate_succ, List.replicate_zero, Nat.reduceSub, Nat.reduceAdd, Nat.reduceLT, Nat.reduceLeDiff, Nat.zero_le, id, lstK_ok, tupK_ok, cmp_in, i1]
  rw [sk_nx]
  obtain ⟨st3, hs3⟩ : ∃ x : Sto, x = st2 ++ [Ob.lst [W.str "add", W.str "sub", W.str "mul"]] := ⟨_, rfl⟩
  have x3 : Ext st2 st3 := by rw [hs3]; exact Ext.new
  rw [← hs3]
  have g4 := x3.2 _ _ g4
  have g5 := x3.2 _ _ g5
  have x3 := x2.trans x3
  have i2 : inW (st3 ++ [Ob.lst [W.str "udiv", W.str "urem", W.str "sdiv", W.str "srem"]]) (.str "shl") (.ref st3.length) = some false := (in_strs (ss := ["udiv", "urem", "sdiv", "srem"]) getLast (by decide +kernel) (by decide +kernel)).trans (by decide +kernel)
  try simp -implicitDefEqProofs only [wp_ok, wp_bind, wp_noexc, wp_seq, wp_skip, wp_brk, wp_cnt, wp_retN, wp_ret, wp_set, wp_par, wp_unp, wp_sto, wp_xpr, wp_ite, wp_for, wp_whl, wp_tru, sk_rt, sk_bk, sk_ct, lk_nx, lk_ct, lk_bk, lk_rt, ik_true, ik_false, ev, evs, evo, evi, evc, evd, keyK_str, keyK_int, retK_rt, retK_nx, iteK_true, iteK_false, truK0_bl, truK0_int, truK0_tup, truK0_frl, truK0_non, scK_bl, wp_callK, cmpO, cmp_eq, cmp_ne, cmp_lt, cmp_le, cmp_gt, cmp_ge, cmp_isN, cmp_notN, eqD_int, eqD_str, bin_int, binI_add, binI_sub, of_some, negK_int, setK_nm, setK_tp, setsK, asg, asgs, tgsOf, intK, rngK, srcK, subO, startE, newR, new, bi_int, bi_abs, bi_len_tup, bi_len_frl,  Option.map_some, Option.map_none, Option.bind_some, List.map_cons, List.map_nil, List.length_cons, List.length_nil, List.length_append, List.length_map, List.length_set, List.cons_append, List.nil_append, List.getElem?_cons_zero, List.getElem?_cons_succ, List.set_cons_zero, List.set_cons_succ, if_true, if_false, Bool.false_eq_true, Bool.true_eq_false, Bool.not_true, Bool.not_false, decide_true, decide_false, Nat.reduceEqDiff, Nat.zero_lt_succ, List.replicate_succ, List.replicate_zero, Nat.reduceSub, Nat.reduceAdd, Nat.reduceLT, Nat.reduceLeDiff, Nat.zero_le, id, lstK_ok, tupK_ok, cmp_in, i2]
  rw [sk_nx]
  obtain ⟨st4, hs4⟩ : ∃ x : Sto, x = st3 ++ [Ob.lst [W.str "udiv", W.str "urem", W.str "sdiv", W.str "srem"]] := ⟨_, rfl⟩
  have x4 : Ext st3 st4 := by rw [hs4]; exact Ext.new
  rw [← hs4]
  have g4 := x4.2 _ _ g4
  have g5 := x4.2 _ _ g5
  have x4 := x3.trans x4
  have i3 : inW (st4 ++ [Ob.lst [W.str "and", W.str "or", W.str "xor"]]) (.str "shl") (.ref st4.length) = some false := (in_strs (ss := ["and", "or", "xor"]) getLast (by decide +kernel) (by decide +kernel)).trans (by decide +kernel)
  try simp -implicitDefEqProofs only [wp_ok, wp_bind, wp_noexc, wp_seq, wp_skip, wp_brk, wp_cnt, wp_retN, wp_ret, wp_set, wp_par, wp_unp, wp_sto, wp_xpr, wp_ite, wp_for, wp_whl, wp_tru, sk_rt, sk_bk, sk_ct, lk_nx, lk_ct, lk_bk, lk_rt, ik_true, ik_false, ev, evs, evo, evi, evc, evd, keyK_str, keyK_int, retK_rt, retK_nx, iteK_true, iteK_false, truK0_bl, truK0_int, truK0_tup, truK0_frl, truK0_non, scK_bl, wp_callK, cmpO, cmp_eq, cmp_ne, cmp_lt, cmp_le, cmp_gt, cmp_ge, cmp_isN, cmp_notN, eqD_int, eqD_str, bin_int, binI_add, binI_sub, of_some, negK_int, setK_nm, setK_tp, setsK, asg, asgs, tgsOf, intK, rngK, srcK, subO, startE, newR, new, bi_int, bi_abs, bi_len_tup, bi_len_frl,  Option.map_some, Option.map_none, Option.bind_some, List.map_cons, List.map_nil, List.length_cons, List.length_nil, List.length_append, List.length_map, List.length_set, List.cons_append, List.nil_append, List.getElem?_cons_zero, List.getElem?_cons_succ, List.set_cons_zero, List.set_cons_succ, if_true, if_false, Bool.false_eq_true, Bool.true_eq_false, Bool.not_true, Bool.not_false, decide_true, decide_false, Nat.reduceEqDiff, Nat.zero_lt_succ, List.replicate_succ, List.replicate_zero, Nat.reduceSub, Nat.reduceAdd, Nat.reduceLT, Nat.reduceLeDiff, Nat.zero_le, id, lstK_ok, tupK_ok, cmp_in, i3]
  rw [sk_nx]
  obtain ⟨st5, hs5⟩ : ∃ x : Sto, x = st4 ++ [Ob.lst [W.str "and", W.str "or", W.str "xor"]] := ⟨_, rfl⟩
  have x5 : Ext st4 st5 := by rw [hs5]; exact Ext.new
  rw [← hs5]
  have g4 := x5.2 _ _ g4
  have x5 := x4.trans x5
  obtain ⟨k, hk, hk2⟩ := by_ok (b := b) h.hv
  have hm : binI .mod b ((v + 1 : Nat) : Int) = some (k : Int) := by rw [binI_mod_pos (by omega), hk]
  rw [hk, Int.toNat_natCast]
  have e1 : (("shl" : Str) == "shl") = true := by decide +kernel
  have e2 : (("shl" : Str) == "ashr") = false := by decide +kernel
  try simp -implicitDefEqProofs only [wp_ok, wp_bind, wp_noexc, wp_seq, wp_skip, wp_brk, wp_cnt, wp_retN, wp_ret, wp_set, wp_par, wp_unp, wp_sto, wp_xpr, wp_ite, wp_for, wp_whl, wp_tru, sk_rt, sk_bk, sk_ct, lk_nx, lk_ct, lk_bk, lk_rt, ik_true, ik_false, ev, evs, evo, evi, evc, evd, keyK_str, keyK_int, retK_rt, retK_nx, iteK_true, iteK_false, truK0_bl, truK0_int, truK0_tup, truK0_frl, truK0_non, scK_bl, wp_callK, cmpO, cmp_eq, cmp_ne, cmp_lt, cmp_le, cmp_gt, cmp_ge, cmp_isN, cmp_notN, eqD_int, eqD_str, bin_int, binI_add, binI_sub, of_some, negK_int, setK_nm, setK_tp, setsK, asg, asgs, tgsOf, intK, rngK, srcK, subO, startE, newR, new, bi_int, bi_abs, bi_len_tup, bi_len_frl,  Option.map_some, Option.map_none, Option.bind_some, List.map_cons, List.map_nil, List.length_cons, List.length_nil, List.length_append, List.length_map, List.length_set, List.cons_append, List.nil_append, List.getElem?_cons_zero, List.getElem?_cons_succ, List.set_cons_zero, List.set_cons_succ, if_true, if_false, Bool.false_eq_true, Bool.true_eq_false, Bool.not_true, Bool.not_false, decide_true, decide_false, Nat.reduceEqDiff, Nat.zero_lt_succ, List.replicate_succ, List.replicate_zero, Nat.reduceSub, Nat.reduceAdd, Nat.reduceLT, Nat.reduceLeDiff, Nat.zero_le, id, lstK_ok, tupK_ok, hm]
  rw [sk_nx]
  have b1 := bin_rep (k := k) (getLast (st := st5) (u := Ob.lst [W.int 0])) (by omega)
  obtain ⟨st6, hs6⟩ : ∃ x : Sto, x = st5 ++ [Ob.lst [W.int 0]] := ⟨_, rfl⟩
  have x6 : Ext st5 st6 := by rw [hs6]; exact Ext.new
  rw [← hs6] at b1
  try simp -implicitDefEqProofs only [wp_ok, wp_bind, wp_noexc, wp_seq, wp_skip, wp_brk, wp_cnt, wp_retN, wp_ret, wp_set, wp_par, wp_unp, wp_sto, wp_xpr, wp_ite, wp_for, wp_whl, wp_tru, sk_rt, sk_bk, sk_ct, lk_nx, lk_ct, lk_bk, lk_rt, ik_true, ik_false, ev, evs, evo, evi, evc, evd, keyK_str, keyK_int, retK_rt, retK_nx, iteK_true, iteK_false, truK0_bl, truK0_int, truK0_tup, truK0_frl, truK0_non, scK_bl, wp_callK, cmpO, cmp_eq, cmp_ne, cmp_lt, cmp_le, cmp_gt, cmp_ge, cmp_isN, cmp_notN, eqD_int, eqD_str, bin_int, binI_add, binI_sub, of_some, negK_int, setK_nm, setK_tp, setsK, asg, asgs, tgsOf, intK, rngK, srcK, subO, startE, newR, new, bi_int, bi_abs, bi_len_tup, bi_len_frl,  Option.map_some, Option.map_none, Option.bind_some, List.map_cons, List.map_nil, List.length_cons, List.length_nil, List.length_append, List.length_map, List.length_set, List.cons_append, List.nil_append, List.getElem?_cons_zero, List.getElem?_cons_succ, List.set_cons_zero, List.set_cons_succ, if_true, if_false, Bool.false_eq_true, Bool.true_eq_false, Bool.not_true, Bool.not_false, decide_true, decide_false, Nat.reduceEqDiff, Nat.zero_lt_succ, List.replicate_succ, List.replicate_zero, Nat.reduceSub, Nat.reduceAdd, Nat.reduceLT, Nat.reduceLeDiff, Nat.zero_le, id, lstK_ok, tupK_ok, e1]
  rw [← hs6]
  try simp -implicitDefEqProofs only [wp_ok, wp_bind, wp_noexc, wp_seq, wp_skip, wp_brk, wp_cnt, wp_retN, wp_ret, wp_set, wp_par, wp_unp, wp_sto, wp_xpr, wp_ite, wp_for, wp_whl, wp_tru, sk_rt, sk_bk, sk_ct, lk_nx, lk_ct, lk_bk, lk_rt, ik_true, ik_false, ev, evs, evo, evi, evc, evd, keyK_str, keyK_int, retK_rt, retK_nx, iteK_true, iteK_false, truK0_bl, truK0_int, truK0_tup, truK0_frl, truK0_non, scK_bl, wp_callK, cmpO, cmp_eq, cmp_ne, cmp_lt, cmp_le, cmp_gt, cmp_ge, cmp_isN, cmp_notN, eqD_int, eqD_str, bin_int, binI_add, binI_sub, of_some, negK_int, setK_nm, setK_tp, setsK, asg, asgs, tgsOf, intK, rngK, srcK, subO, startE, newR, new, bi_int, bi_abs, bi_len_tup, bi_len_frl,  Option.map_some, Option.map_none, Option.bind_some, List.map_cons, List.map_nil, List.length_cons, List.length_nil, List.length_append, List.length_map, List.length_set, List.cons_append, List.nil_append, List.getElem?_cons_zero, List.getElem?_cons_succ, List.set_cons_zero, List.set_cons_succ, if_true, if_false, Bool.false_eq_true, Bool.true_eq_false, Bool.not_true, Bool.not_false, decide_true, decide_false, Nat.reduceEqDiff, Nat.zero_lt_succ, List.replicate_succ, List.replicate_zero, Nat.reduceSub, Nat.reduceAdd, Nat.reduceLT, Nat.reduceLeDiff, Nat.zero_le, id, lstK_ok, tupK_ok, b1]
  obtain ⟨st7, hs7⟩ : ∃ x : Sto, x = st6 ++ [Ob.lst (List.replicate k (W.int 0))] := ⟨_, rfl⟩
  have x7 : Ext st6 st7 := by rw [hs7]; exact Ext.new
  have g7 : st7[st6.length]? = some (.lst (List.replicate k (W.int 0))) := by rw [hs7]; exact getLast
  rw [← hs7]
  have g4 := (x6.trans x7).2 _ _ g4
  have b2 := bin_cat g7 g4 (by rw [List.length_replicate, List.length_map, lo_len]; omega)
  try simp -implicitDefEqProofs only [wp_ok, wp_bind, wp_noexc, wp_seq, wp_skip, wp_brk, wp_cnt, wp_retN, wp_ret, wp_set, wp_par, wp_unp, wp_sto, wp_xpr, wp_ite, wp_for, wp_whl, wp_tru, sk_rt, sk_bk, sk_ct, lk_nx, lk_ct, lk_bk, lk_rt, ik_true, ik_false, ev, evs, evo, evi, evc, evd, keyK_str, keyK_int, retK_rt, retK_nx, iteK_true, iteK_false, truK0_bl, truK0_int, truK0_tup, truK0_frl, truK0_non, scK_bl, wp_callK, cmpO, cmp_eq, cmp_ne, cmp_lt, cmp_le, cmp_gt, cmp_ge, cmp_isN, cmp_notN, eqD_int, eqD_str, bin_int, binI_add, binI_sub, of_some, negK_int, setK_nm, setK_tp, setsK, asg, asgs, tgsOf, intK, rngK, srcK, subO, startE, newR, new, bi_int, bi_abs, bi_len_tup, bi_len_frl,  Option.map_some, Option.map_none, Option.bind_some, List.map_cons, List.map_nil, List.length_cons, List.length_nil, List.length_append, List.length_map, List.length_set, List.cons_append, List.nil_append, List.getElem?_cons_zero, List.getElem?_cons_succ, List.set_cons_zero, List.set_cons_succ, if_true, if_false, Bool.false_eq_true, Bool.true_eq_false, Bool.not_true, Bool.not_false, decide_true, decide_false, Nat.reduceEqDiff, Nat.zero_lt_succ, List.replicate_succ, List.replicate_zero, Nat.reduceSub, Nat.reduceAdd, Nat.reduceLT, Nat.reduceLeDiff, Nat.zero_le, id, lstK_ok, tupK_ok, b2]
  obtain ⟨st8, hs8⟩ : ∃ x : Sto, x = st7 ++ [Ob.lst (List.replicate k (W.int 0) ++ (lo (v + 1) a).map W.int)] := ⟨_, rfl⟩
  have x8 : Ext st7 st8 := by rw [hs8]; exact Ext.new
  have g8 : st8[st7.length]? = some (.lst ((List.replicate k 0 ++ lo (v + 1) a).map W.int)) := by rw [hs8, List.map_append, List.map_replicate]; exact getLast
  rw [← hs8]
  try simp -implicitDefEqProofs only [wp_ok, wp_bind, wp_noexc, wp_seq, wp_skip, wp_brk, wp_cnt, wp_retN, wp_ret, wp_set, wp_par, wp_unp, wp_sto, wp_xpr, wp_ite, wp_for, wp_whl, wp_tru, sk_rt, sk_bk, sk_ct, lk_nx, lk_ct, lk_bk, lk_rt, ik_true, ik_false, ev, evs, evo, evi, evc, evd, keyK_str, keyK_int, retK_rt, retK_nx, iteK_true, iteK_false, truK0_bl, truK0_int, truK0_tup, truK0_frl, truK0_non, scK_bl, wp_callK, cmpO, cmp_eq, cmp_ne, cmp_lt, cmp_le, cmp_gt, cmp_ge, cmp_isN, cmp_notN, eqD_int, eqD_str, bin_int, binI_add, binI_sub, of_some, negK_int, setK_nm, setK_tp, setsK, asg, asgs, tgsOf, intK, rngK, srcK, subO, startE, newR, new, bi_int, bi_abs, bi_len_tup, bi_len_frl,  Option.map_some, Option.map_none, Option.bind_some, List.map_cons, List.map_nil, List.length_cons, List.length_nil, List.length_append, List.length_map, List.length_set, List.cons_append, List.nil_append, List.getElem?_cons_zero, List.getElem?_cons_succ, List.set_cons_zero, List.set_cons_succ, if_true, if_false, Bool.false_eq_true, Bool.true_eq_false, Bool.not_true, Bool.not_false, decide_true, decide_false, Nat.reduceEqDiff, Nat.zero_lt_succ, List.replicate_succ, List.replicate_zero, Nat.reduceSub, Nat.reduceAdd, Nat.reduceLT, Nat.reduceLeDiff, Nat.zero_le, id, lstK_ok, tupK_ok, slW_lst g8, cut_take]
  rw [← List.map_take]
  refine (back_ok (n := n + 2) getLast (fun d hd => ?_) (by rw [List.length_take]; omega)).mono ?_
  · rcases List.mem_append.mp (List.mem_of_mem_take hd) with hd | hd
    · exact .inl (List.eq_of_mem_replicate hd)
    · exact bit_lo _ _ d hd
  rintro r st9 ⟨rfl, rfl⟩
  try simp -implicitDefEqProofs only [wp_ok, wp_bind, wp_noexc, wp_seq, wp_skip, wp_brk, wp_cnt, wp_retN, wp_ret, wp_set, wp_par, wp_unp, wp_sto, wp_xpr, wp_ite, wp_for, wp_whl, wp_tru, sk_rt, sk_bk, sk_ct, lk_nx, lk_ct, lk_bk, lk_rt, ik_true, ik_false, ev, evs, evo, evi, evc, evd, keyK_str, keyK_int, retK_rt, retK_nx, iteK_true, iteK_false, truK0_bl, truK0_int, truK0_tup, truK0_frl, truK0_non, scK_bl, wp_callK, cmpO, cmp_eq, cmp_ne, cmp_lt, cmp_le, cmp_gt, cmp_ge, cmp_isN, cmp_notN, eqD_int, eqD_str, bin_int, binI_add, binI_sub, of_some, negK_int, setK_nm, setK_tp, setsK, asg, asgs, tgsOf, intK, rngK, srcK, subO, startE, newR, new, bi_int, bi_abs, bi_len_tup, bi_len_frl,  Option.map_some, Option.map_none, Option.bind_some, List.map_cons, List.map_nil, List.length_cons, List.length_nil, List.length_append, List.length_map, List.length_set, List.cons_append, List.nil_append, List.getElem?_cons_zero, List.getElem?_cons_succ, List.set_cons_zero, List.set_cons_succ, if_true, if_false, Bool.false_eq_true, Bool.true_eq_false, Bool.not_true, Bool.not_false, decide_true, decide_false, Nat.reduceEqDiff, Nat.zero_lt_succ, List.replicate_succ, List.replicate_zero, Nat.reduceSub, Nat.reduceAdd, Nat.reduceLT, Nat.reduceLeDiff, Nat.zero_le, id, lstK_ok, tupK_ok]
  rw [shl_val (by omega)]
  exact ⟨by first | rfl | trivial, x5.trans (x6.trans (x7.trans (x8.trans Ext.new)))⟩

theorem due_lshr (h : Ab v a b) : Wp (Ci.run tab (n + 4) 21 [.str "lshr", .int ((v + 1 : Nat) : Int), .int a, .int b] st) fun w st' => w = v_lshr v a b ∧ Ext st st' := by
  refine wp_run (d := d21) rfl rfl ?_
  show Wp (ex _ c21 _ _) _
  unfold c21 v_lshr
  have hv := h.hv
  have am : a % 2 ^ (v + 1) = a := Int.emod_eq_of_lt h.a0 h.a1
  have bm : b % 2 ^ (v + 1) = b := Int.emod_eq_of_lt h.b0 h.b1
  have hp := p64 h.hv
  try simp -implicitDefEqProofs only [wp_ok, wp_bind, wp_noexc, wp_seq, wp_skip, wp_brk, wp_cnt, wp_retN, wp_ret, wp_set, wp_par, wp_unp, wp_sto, wp_xpr, wp_ite, wp_for, wp_whl, wp_tru, sk_rt, sk_bk, sk_ct, lk_nx, lk_ct, lk_bk, lk_rt, ik_true, ik_false, ev, evs, evo, evi, evc, evd, keyK_str, keyK_int, retK_rt, retK_nx, iteK_true, iteK_false, truK0_bl, truK0_int, truK0_tup, truK0_frl, truK0_non, scK_bl, wp_callK, cmpO, cmp_eq, cmp_ne, cmp_lt, cmp_le, cmp_gt, cmp_ge, cmp_isN, cmp_notN, eqD_int, eqD_str, bin_int, binI_add, binI_sub, of_some, negK_int, setK_nm, setK_tp, setsK, asg, asgs, tgsOf, intK, rngK, srcK, subO, startE, newR, new, bi_int, bi_abs, bi_len_tup, bi_len_frl,  Option.map_some, Option.map_none, Option.bind_some, List.map_cons, List.map_nil, List.length_cons, List.length_nil, List.length_append, List.length_map, List.length_set, List.cons_append, List.nil_append, List.getElem?_cons_zero, List.getElem?_cons_succ, List.set_cons_zero, List.set_cons_succ, if_true, if_false, Bool.false_eq_true, Bool.true_eq_false, Bool.not_true, Bool.not_false, decide_true, decide_false, Nat.reduceEqDiff, Nat.zero_lt_succ, List.replicate_succ, List.replicate_zero, Nat.reduceSub, Nat.reduceAdd, Nat.reduceLT, Nat.reduceLeDiff, Nat.zero_le, id, lstK_ok, tupK_ok, d21]
  refine (digits_ok (n := n + 1) (show v + 1 ≤ 64 by omega)).mono ?_
  rintro w st1 ⟨p4, rfl, x1, l4, g4⟩
  try simp -implicitDefEqProofs only [wp_ok, wp_bind, wp_noexc, wp_seq, wp_skip, wp_brk, wp_cnt, wp_retN, wp_ret, wp_set, wp_par, wp_unp, wp_sto, wp_xpr, wp_ite, wp_for, wp_whl, wp_tru, sk_rt, sk_bk, sk_ct, lk_nx, lk_ct, lk_bk, lk_rt, ik_true, ik_false, ev, evs, evo, evi, evc, evd, keyK_str, keyK_int, retK_rt, retK_nx, iteK_true, iteK_false, truK0_bl, truK0_int, truK0_tup, truK0_frl, truK0_non, scK_bl, wp_callK, cmpO, cmp_eq, cmp_ne, cmp_lt, cmp_le, cmp_gt, cmp_ge, cmp_isN, cmp_notN, eqD_int, eqD_str, bin_int, binI_add, binI_sub, of_some, negK_int, setK_nm, setK_tp, setsK, asg, asgs, tgsOf, intK, rngK, srcK, subO, startE, newR, new, bi_int, bi_abs, bi_len_tup, bi_len_frl,  Option.map_some, Option.map_none, Option.bind_some, List.map_cons, List.map_nil, List.length_cons, List.length_nil, List.length_append, List.length_map, List.length_set, List.cons_append, List.nil_append, List.getElem?_cons_zero, List.getElem?_cons_succ, List.set_cons_zero, List.set_cons_succ, if_true, if_false, Bool.false_eq_true, Bool.true_eq_false, Bool.not_true, Bool.not_false, decide_true, decide_false, Nat.reduceEqDiff, Nat.zero_lt_succ, List.replicate_succ, List.replicate_zero, Nat.reduceSub, Nat.reduceAdd, Nat.reduceLT, Nat.reduceLeDiff, Nat.zero_le, id, lstK_ok, tupK_ok]
  refine (digits_ok (n := n + 1) (show v + 1 ≤ 64 by omega)).mono ?_
  rintro w st2 ⟨p5, rfl, x2, l5, g5⟩
  have g4 := x2.2 _ _ g4
  rw [am] at g4
  rw [bm] at g5
  have x2 := x1.trans x2
  try simp -implicitDefEqProofs only [wp_ok, wp_bind, wp_noexc, wp_seq, wp_skip, wp_brk, wp_cnt, wp_retN, wp_ret, wp_set, wp_par, wp_unp, wp_sto, wp_xpr, wp_ite, wp_for, wp_whl, wp_tru, sk_rt, sk_bk, sk_ct, lk_nx, lk_ct, lk_bk, lk_rt, ik_true, ik_false, ev, evs, evo, evi, evc, evd, keyK_str, keyK_int, retK_rt, retK_nx, iteK_true, iteK_false, truK0_bl, truK0_int, truK0_tup, truK0_frl, truK0_non, scK_bl, wp_callK, cmpO, cmp_eq, cmp_ne, cmp_lt, cmp_le, cmp_gt, cmp_ge, cmp_isN, cmp_notN, eqD_int, eqD_str, bin_int, binI_add, binI_sub, of_some, negK_int, setK_nm, setK_tp, setsK, asg, asgs, tgsOf, intK, rngK, srcK, subO, startE, newR, new, bi_int, bi_abs, bi_len_tup, bi_len_frl,  Option.map_some, Option.map_none, Option.bind_some, List.map_cons, List.map_nil, List.length_cons, List.length_nil, List.length_append, List.length_map, List.length_set, List.cons_append, List.nil_append, List.getElem?_cons_zero, List.getElem?_cons_succ, List.set_cons_zero, List.set_cons_succ, if_true, if_false, Bool.false_eq_true, Bool.true_eq_false, Bool.not_true, Bool.not_false, decide_true, decide_false, Nat.reduceEqDiff, Nat.zero_lt_succ, List.replicate_succ, List.replicate_zero, Nat.reduceSub, Nat.reduceAdd, Nat.reduceLT, Nat.reduceLeDiff, Nat.zero_le, id, lstK_ok, tupK_ok]
  rw [sk_nx]
  have i1 : inW (st2 ++ [Ob.lst [W.str "add", W.str "sub", W.str "mul"]]) (.str "lshr") (.ref st2.length) = some false := (in_strs (ss := ["add", "sub", "mul"]) getLast (by decide +kernel) (by decide +kernel)).trans (by decide +kernel)
  try simp -implicitDefEqProofs only [wp_ok, wp_bind, wp_noexc, wp_seq, wp_skip, wp_brk, wp_cnt, wp_retN, wp_ret, wp_set, wp_par, wp_unp, wp_sto, wp_xpr, wp_ite, wp_for, wp_whl, wp_tru, sk_rt, sk_bk, sk_ct, lk_nx, lk_ct, lk_bk, lk_rt, ik_true, ik_false, ev, evs, evo, evi, evc, evd, keyK_str, keyK_int, retK_rt, retK_nx, iteK_true, iteK_false, truK0_bl, truK0_int, truK0_tup, truK0_frl, truK0_non, scK_bl, wp_callK, cmpO, cmp_eq, cmp_ne, cmp_lt, cmp_le, cmp_gt, cmp_ge, cmp_isN, cmp_notN, eqD_int, eqD_str, bin_int, binI_add, binI_sub, of_some, negK_int, setK_nm, setK_tp, setsK, asg, asgs, tgsOf, intK, rngK, srcK, subO, startE, newR, new, bi_int, bi_abs, bi_len_tup, bi_len_frl,  Option.map_some, Option.map_none, Option.bind_some, List.map_cons, List.map_nil, List.length_cons, List.length_nil, List.length_append, List.length_map, List.length_set, List.cons_append, List.nil_append, List.getElem?_cons_zero, List.getElem?_cons_succ, List.set_cons_zero, List.set_cons_succ, if_true, if_false, Bool.false_eq_true, Bool.true_eq_false, Bool.not_true, Bool.not_false, decide_true, decide_false, Nat.reduceEqDiff, Nat.zero_lt_succ, List.replicate_succ, List.replicate_zero, Nat.reduceSub, Nat.reduceAdd, Nat.reduceLT, Nat.reduceLeDiff, Nat.zero_le, id, lstK_ok, tupK_ok, cmp_in, i1]
  rw [sk_nx]
  obtain ⟨st3, hs3⟩ : ∃ x : Sto, x = st2 ++ [Ob.lst [W.str "add", W.str "sub", W.str "mul"]] := ⟨_, rfl⟩
  have x3 : Ext st2 st3 := by rw [hs3]; exact Ext.new
  rw [← hs3]
  have g4 := x3.2 _ _ g4
  have g5 := x3.2 _ _ g5
  have x3 := x2.trans x3
  have i2 : inW (st3 ++ [Ob.lst [W.str "udiv", W.str "urem", W.str "sdiv", W.str "srem"]]) (.str "lshr") (.ref st3.length) = some false := (in_strs (ss := ["udiv", "urem", "sdiv", "srem"]) getLast (by decide +kernel) (by decide +kernel)).trans (by decide +kernel)
  try simp -implicitDefEqProofs only [wp_ok, wp_bind, wp_noexc, wp_seq, wp_skip, wp_brk, wp_cnt, wp_retN, wp_ret, wp_set, wp_par, wp_unp, wp_sto, wp_xpr, wp_ite, wp_for, wp_whl, wp_tru, sk_rt, sk_bk, sk_ct, lk_nx, lk_ct, lk_bk, lk_rt, ik_true, ik_false, ev, evs, evo, evi, evc, evd, keyK_str, keyK_int, retK_rt, retK_nx, iteK_true, iteK_false, truK0_bl, truK0_int, truK0_tup, truK0_frl, truK0_non, scK_bl, wp_callK, cmpO, cmp_eq, cmp_ne, cmp_lt, cmp_le, cmp_gt, cmp_ge, cmp_isN, cmp_notN, eqD_int, eqD_str, bin_int, binI_add, binI_sub, of_some, negK_int, setK_nm, setK_tp, setsK, asg, asgs, tgsOf, intK, rngK, srcK, subO, startE, newR, new, bi_int, bi_abs, bi_len_tup, bi_len_frl,  Option.map_some, Option.map_none, Option.bind_some, List.map_cons, List.map_nil, List.length_cons, List.length_nil, List.length_append, List.length_map, List.length_set, List.cons_append, List.nil_append, List.getElem?_cons_zero, List.getElem?_cons_succ, List.set_cons_zero, List.set_cons_succ, if_true, if_false, Bool.false_eq_true, Bool.true_eq_false, Bool.not_true, Bool.not_false, decide_true, decide_false, Nat.reduceEqDiff, Nat.zero_lt_succ, List.replicate_succ, List.replicate_zero, Nat.reduceSub, Nat.reduceAdd, Nat.reduceLT, Nat.reduceLeDiff, Nat.zero_le, id, lstK_ok, tupK_ok, cmp_in, i2]
  rw [sk_nx]
  obtain ⟨st4, hs4⟩ : ∃ x : Sto, x = st3 ++ [Ob.lst [W.str "udiv", W.str "urem", W.str "sdiv", W.str "srem"]] := ⟨_, rfl⟩
  have x4 : Ext st3 st4 := by rw [hs4]; exact Ext.new
  rw [← hs4]
  have g4 := x4.2 _ _ g4
  have g5 := x4.2 _ _ g5
  have x4 := x3.trans x4
  have i3 : inW (st4 ++ [Ob.lst [W.str "and", W.str "or", W.str "xor"]]) (.str "lshr") (.ref st4.length) = some false := (in_strs (ss := ["and", "or", "xor"]) getLast (by decide +kernel) (by decide +kernel)).trans (by decide +kernel)
  try simp -implicitDefEqProofs only [wp_ok, wp_bind, wp_noexc, wp_seq, wp_skip, wp_brk, wp_cnt, wp_retN, wp_ret, wp_set, wp_par, wp_unp, wp_sto, wp_xpr, wp_ite, wp_for, wp_whl, wp_tru, sk_rt, sk_bk, sk_ct, lk_nx, lk_ct, lk_bk, lk_rt, ik_true, ik_false, ev, evs, evo, evi, evc, evd, keyK_str, keyK_int, retK_rt, retK_nx, iteK_true, iteK_false, truK0_bl, truK0_int, truK0_tup, truK0_frl, truK0_non, scK_bl, wp_callK, cmpO, cmp_eq, cmp_ne, cmp_lt, cmp_le, cmp_gt, cmp_ge, cmp_isN, cmp_notN, eqD_int, eqD_str, bin_int, binI_add, binI_sub, of_some, negK_int, setK_nm, setK_tp, setsK, asg, asgs, tgsOf, intK, rngK, srcK, subO, startE, newR, new, bi_int, bi_abs, bi_len_tup, bi_len_frl,  Option.map_some, Option.map_none, Option.bind_some, List.map_cons, List.map_nil, List.length_cons, List.length_nil, List.length_append, List.length_map, List.length_set, List.cons_append, List.nil_append, List.getElem?_cons_zero, List.getElem?_cons_succ, List.set_cons_zero, List.set_cons_succ, if_true, if_false, Bool.false_eq_true, Bool.true_eq_false, Bool.not_true, Bool.not_false, decide_true, decide_false, Nat.reduceEqDiff, Nat.zero_lt_succ, List.replicate_succ, List.replicate_zero, Nat.reduceSub, Nat.reduceAdd, Nat.reduceLT, Nat.reduceLeDiff, Nat.zero_le, id, lstK_ok, tupK_ok, cmp_in, i3]
  rw [sk_nx]
  obtain ⟨st5, hs5⟩ : ∃ x : Sto, x = st4 ++ [Ob.lst [W.str "and", W.str "or", W.str "xor"]] := ⟨_, rfl⟩
  have x5 : Ext st4 st5 := by rw [hs5]; exact Ext.new
  rw [← hs5]
  have g4 := x5.2 _ _ g4
  have x5 := x4.trans x5
  obtain ⟨k, hk, hk2⟩ := by_ok (b := b) h.hv
  have hm : binI .mod b ((v + 1 : Nat) : Int) = some (k : Int) := by rw [binI_mod_pos (by omega), hk]
  rw [hk, Int.toNat_natCast]
  have e1 : (("lshr" : Str) == "shl") = false := by decide +kernel
  have e2 : (("lshr" : Str) == "ashr") = false := by decide +kernel
  try simp -implicitDefEqProofs only [wp_ok, wp_bind, wp_noexc, wp_seq, wp_skip, wp_brk, wp_cnt, wp_retN, wp_ret, wp_set, wp_par, wp_unp, wp_sto, wp_xpr, wp_ite, wp_for, wp_whl, wp_tru, sk_rt, sk_bk, sk_ct, lk_nx, lk_ct, lk_bk, lk_rt, ik_true, ik_false, ev, evs, evo, evi, evc, evd, keyK_str, keyK_int, retK_rt, retK_nx, iteK_true, iteK_false, truK0_bl, truK0_int, truK0_tup, truK0_frl, truK0_non, scK_bl, wp_callK, cmpO, cmp_eq, cmp_ne, cmp_lt, cmp_le, cmp_gt, cmp_ge, cmp_isN, cmp_notN, eqD_int, eqD_str, bin_int, binI_add, binI_sub, of_some, negK_int, setK_nm, setK_tp, setsK, asg, asgs, tgsOf, intK, rngK, srcK, subO, startE, newR, new, bi_int, bi_abs, bi_len_tup, bi_len_frl,  Option.map_some, Option.map_none, Option.bind_some, List.map_cons, List.map_nil, List.length_cons, List.length_nil, List.length_append, List.length_map, List.length_set, List.cons_append, List.nil_append, List.getElem?_cons_zero, List.getElem?_cons_succ, List.set_cons_zero, List.set_cons_succ, if_true, if_false, Bool.false_eq_true, Bool.true_eq_false, Bool.not_true, Bool.not_false, decide_true, decide_false, Nat.reduceEqDiff, Nat.zero_lt_succ, List.replicate_succ, List.replicate_zero, Nat.reduceSub, Nat.reduceAdd, Nat.reduceLT, Nat.reduceLeDiff, Nat.zero_le, id, lstK_ok, tupK_ok, hm]
  rw [sk_nx]
  have tp : sub st5 (.ref p4) (.int (-1)) = some (.int (a / 2 ^ v % 2)) := by
    rw [sub_lst g4, atW_last, List.length_map, lo_len, Nat.add_sub_cancel, List.getElem?_map, lo_get (by omega)]
    rfl
  have b1 := bin_rep (k := k) (getLast (st := st5) (u := Ob.lst [W.int 0])) (by omega)
  obtain ⟨st6, hs6⟩ : ∃ x : Sto, x = st5 ++ [Ob.lst [W.int 0]] := ⟨_, rfl⟩
  have x6 : Ext st5 st6 := by rw [hs6]; exact Ext.new
  rw [← hs6] at b1
  try simp -implicitDefEqProofs only [wp_ok, wp_bind, wp_noexc, wp_seq, wp_skip, wp_brk, wp_cnt, wp_retN, wp_ret, wp_set, wp_par, wp_unp, wp_sto, wp_xpr, wp_ite, wp_for, wp_whl, wp_tru, sk_rt, sk_bk, sk_ct, lk_nx, lk_ct, lk_bk, lk_rt, ik_true, ik_false, ev, evs, evo, evi, evc, evd, keyK_str, keyK_int, retK_rt, retK_nx, iteK_true, iteK_false, truK0_bl, truK0_int, truK0_tup, truK0_frl, truK0_non, scK_bl, wp_callK, cmpO, cmp_eq, cmp_ne, cmp_lt, cmp_le, cmp_gt, cmp_ge, cmp_isN, cmp_notN, eqD_int, eqD_str, bin_int, binI_add, binI_sub, of_some, negK_int, setK_nm, setK_tp, setsK, asg, asgs, tgsOf, intK, rngK, srcK, subO, startE, newR, new, bi_int, bi_abs, bi_len_tup, bi_len_frl,  Option.map_some, Option.map_none, Option.bind_some, List.map_cons, List.map_nil, List.length_cons, List.length_nil, List.length_append, List.length_map, List.length_set, List.cons_append, List.nil_append, List.getElem?_cons_zero, List.getElem?_cons_succ, List.set_cons_zero, List.set_cons_succ, if_true, if_false, Bool.false_eq_true, Bool.true_eq_false, Bool.not_true, Bool.not_false, decide_true, decide_false, Nat.reduceEqDiff, Nat.zero_lt_succ, List.replicate_succ, List.replicate_zero, Nat.reduceSub, Nat.reduceAdd, Nat.reduceLT, Nat.reduceLeDiff, Nat.zero_le, id, lstK_ok, tupK_ok, e1]
  rw [sk_nx]
  try simp -implicitDefEqProofs only [wp_ok, wp_bind, wp_noexc, wp_seq, wp_skip, wp_brk, wp_cnt, wp_retN, wp_ret, wp_set, wp_par, wp_unp, wp_sto, wp_xpr, wp_ite, wp_for, wp_whl, wp_tru, sk_rt, sk_bk, sk_ct, lk_nx, lk_ct, lk_bk, lk_rt, ik_true, ik_false, ev, evs, evo, evi, evc, evd, keyK_str, keyK_int, retK_rt, retK_nx, iteK_true, iteK_false, truK0_bl, truK0_int, truK0_tup, truK0_frl, truK0_non, scK_bl, wp_callK, cmpO, cmp_eq, cmp_ne, cmp_lt, cmp_le, cmp_gt, cmp_ge, cmp_isN, cmp_notN, eqD_int, eqD_str, bin_int, binI_add, binI_sub, of_some, negK_int, setK_nm, setK_tp, setsK, asg, asgs, tgsOf, intK, rngK, srcK, subO, startE, newR, new, bi_int, bi_abs, bi_len_tup, bi_len_frl,  Option.map_some, Option.map_none, Option.bind_some, List.map_cons, List.map_nil, List.length_cons, List.length_nil, List.length_append, List.length_map, List.length_set, List.cons_append, List.nil_append, List.getElem?_cons_zero, List.getElem?_cons_succ, List.set_cons_zero, List.set_cons_succ, if_true, if_false, Bool.false_eq_true, Bool.true_eq_false, Bool.not_true, Bool.not_false, decide_true, decide_false, Nat.reduceEqDiff, Nat.zero_lt_succ, List.replicate_succ, List.replicate_zero, Nat.reduceSub, Nat.reduceAdd, Nat.reduceLT, Nat.reduceLeDiff, Nat.zero_le, id, lstK_ok, tupK_ok, e2, tp]
  rw [← hs6]
  try simp -implicitDefEqProofs only [wp_ok, wp_bind, wp_noexc, wp_seq, wp_skip, wp_brk, wp_cnt, wp_retN, wp_ret, wp_set, wp_par, wp_unp, wp_sto, wp_xpr, wp_ite, wp_for, wp_whl, wp_tru, sk_rt, sk_bk, sk_ct, lk_nx, lk_ct, lk_bk, lk_rt, ik_true, ik_false, ev, evs, evo, evi, evc, evd, keyK_str, keyK_int, retK_rt, retK_nx, iteK_true, iteK_false, truK0_bl, truK0_int, truK0_tup, truK0_frl, truK0_non, scK_bl, wp_callK, cmpO, cmp_eq, cmp_ne, cmp_lt, cmp_le, cmp_gt, cmp_ge, cmp_isN, cmp_notN, eqD_int, eqD_str, bin_int, binI_add, binI_sub, of_some, negK_int, setK_nm, setK_tp, setsK, asg, asgs, tgsOf, intK, rngK, srcK, subO, startE, newR, new, bi_int, bi_abs, bi_len_tup, bi_len_frl,  Option.map_some, Option.map_none, Option.bind_some, List.map_cons, List.map_nil, List.length_cons, List.length_nil, List.length_append, List.length_map, List.length_set, List.cons_append, List.nil_append, List.getElem?_cons_zero, List.getElem?_cons_succ, List.set_cons_zero, List.set_cons_succ, if_true, if_false, Bool.false_eq_true, Bool.true_eq_false, Bool.not_true, Bool.not_false, decide_true, decide_false, Nat.reduceEqDiff, Nat.zero_lt_succ, List.replicate_succ, List.replicate_zero, Nat.reduceSub, Nat.reduceAdd, Nat.reduceLT, Nat.reduceLeDiff, Nat.zero_le, id, lstK_ok, tupK_ok, b1]
  obtain ⟨st7, hs7⟩ : ∃ x : Sto, x = st6 ++ [Ob.lst (List.replicate k (W.int 0))] := ⟨_, rfl⟩
  have x7 : Ext st6 st7 := by rw [hs7]; exact Ext.new
  have g7 : st7[st6.length]? = some (.lst (List.replicate k (W.int 0))) := by rw [hs7]; exact getLast
  rw [← hs7]
  have g4 := (x6.trans x7).2 _ _ g4
  have b2 := bin_cat g4 g7 (by rw [List.length_replicate, List.length_map, lo_len]; omega)
  try simp -implicitDefEqProofs only [wp_ok, wp_bind, wp_noexc, wp_seq, wp_skip, wp_brk, wp_cnt, wp_retN, wp_ret, wp_set, wp_par, wp_unp, wp_sto, wp_xpr, wp_ite, wp_for, wp_whl, wp_tru, sk_rt, sk_bk, sk_ct, lk_nx, lk_ct, lk_bk, lk_rt, ik_true, ik_false, ev, evs, evo, evi, evc, evd, keyK_str, keyK_int, retK_rt, retK_nx, iteK_true, iteK_false, truK0_bl, truK0_int, truK0_tup, truK0_frl, truK0_non, scK_bl, wp_callK, cmpO, cmp_eq, cmp_ne, cmp_lt, cmp_le, cmp_gt, cmp_ge, cmp_isN, cmp_notN, eqD_int, eqD_str, bin_int, binI_add, binI_sub, of_some, negK_int, setK_nm, setK_tp, setsK, asg, asgs, tgsOf, intK, rngK, srcK, subO, startE, newR, new, bi_int, bi_abs, bi_len_tup, bi_len_frl,  Option.map_some, Option.map_none, Option.bind_some, List.map_cons, List.map_nil, List.length_cons, List.length_nil, List.length_append, List.length_map, List.length_set, List.cons_append, List.nil_append, List.getElem?_cons_zero, List.getElem?_cons_succ, List.set_cons_zero, List.set_cons_succ, if_true, if_false, Bool.false_eq_true, Bool.true_eq_false, Bool.not_true, Bool.not_false, decide_true, decide_false, Nat.reduceEqDiff, Nat.zero_lt_succ, List.replicate_succ, List.replicate_zero, Nat.reduceSub, Nat.reduceAdd, Nat.reduceLT, Nat.reduceLeDiff, Nat.zero_le, id, lstK_ok, tupK_ok, b2]
  obtain ⟨st8, hs8⟩ : ∃ x : Sto, x = st7 ++ [Ob.lst ((lo (v + 1) a).map W.int ++ List.replicate k (W.int 0))] := ⟨_, rfl⟩
  have x8 : Ext st7 st8 := by rw [hs8]; exact Ext.new
  have g8 : st8[st7.length]? = some (.lst ((lo (v + 1) a ++ List.replicate k 0).map W.int)) := by rw [hs8, List.map_append, List.map_replicate]; exact getLast
  rw [← hs8]
  try simp -implicitDefEqProofs only [wp_ok, wp_bind, wp_noexc, wp_seq, wp_skip, wp_brk, wp_cnt, wp_retN, wp_ret, wp_set, wp_par, wp_unp, wp_sto, wp_xpr, wp_ite, wp_for, wp_whl, wp_tru, sk_rt, sk_bk, sk_ct, lk_nx, lk_ct, lk_bk, lk_rt, ik_true, ik_false, ev, evs, evo, evi, evc, evd, keyK_str, keyK_int, retK_rt, retK_nx, iteK_true, iteK_false, truK0_bl, truK0_int, truK0_tup, truK0_frl, truK0_non, scK_bl, wp_callK, cmpO, cmp_eq, cmp_ne, cmp_lt, cmp_le, cmp_gt, cmp_ge, cmp_isN, cmp_notN, eqD_int, eqD_str, bin_int, binI_add, binI_sub, of_some, negK_int, setK_nm, setK_tp, setsK, asg, asgs, tgsOf, intK, rngK, srcK, subO, startE, newR, new, bi_int, bi_abs, bi_len_tup, bi_len_frl,  Option.map_some, Option.map_none, Option.bind_some, List.map_cons, List.map_nil, List.length_cons, List.length_nil, List.length_append, List.length_map, List.length_set, List.cons_append, List.nil_append, List.getElem?_cons_zero, List.getElem?_cons_succ, List.set_cons_zero, List.set_cons_succ, if_true, if_false, Bool.false_eq_true, Bool.true_eq_false, Bool.not_true, Bool.not_false, decide_true, decide_false, Nat.reduceEqDiff, Nat.zero_lt_succ, List.replicate_succ, List.replicate_zero, Nat.reduceSub, Nat.reduceAdd, Nat.reduceLT, Nat.reduceLeDiff, Nat.zero_le, id, lstK_ok, tupK_ok, slW_lst g8, cut_drop]
  rw [← List.map_drop]
  refine (back_ok (n := n + 2) getLast (fun d hd => ?_) (by rw [List.length_drop, List.length_append, lo_len, List.length_replicate]; omega)).mono ?_
  · rcases List.mem_append.mp (List.mem_of_mem_drop hd) with hd | hd
    · exact bit_lo _ _ d hd
    · rw [List.eq_of_mem_replicate hd]
      exact .inl rfl
  rintro r st9 ⟨rfl, rfl⟩
  try simp -implicitDefEqProofs only [wp_ok, wp_bind, wp_noexc, wp_seq, wp_skip, wp_brk, wp_cnt, wp_retN, wp_ret, wp_set, wp_par, wp_unp, wp_sto, wp_xpr, wp_ite, wp_for, wp_whl, wp_tru, sk_rt, sk_bk, sk_ct, lk_nx, lk_ct, lk_bk, lk_rt, ik_true, ik_false, ev, evs, evo, evi, evc, evd, keyK_str, keyK_int, retK_rt, retK_nx, iteK_true, iteK_false, truK0_bl, truK0_int, truK0_tup, truK0_frl, truK0_non, scK_bl, wp_callK, cmpO, cmp_eq, cmp_ne, cmp_lt, cmp_le, cmp_gt, cmp_ge, cmp_isN, cmp_notN, eqD_int, eqD_str, bin_int, binI_add, binI_sub, of_some, negK_int, setK_nm, setK_tp, setsK, asg, asgs, tgsOf, intK, rngK, srcK, subO, startE, newR, new, bi_int, bi_abs, bi_len_tup, bi_len_frl,  Option.map_some, Option.map_none, Option.bind_some, List.map_cons, List.map_nil, List.length_cons, List.length_nil, List.length_append, List.length_map, List.length_set, List.cons_append, List.nil_append, List.getElem?_cons_zero, List.getElem?_cons_succ, List.set_cons_zero, List.set_cons_succ, if_true, if_false, Bool.false_eq_true, Bool.true_eq_false, Bool.not_true, Bool.not_false, decide_true, decide_false, Nat.reduceEqDiff, Nat.zero_lt_succ, List.replicate_succ, List.replicate_zero, Nat.reduceSub, Nat.reduceAdd, Nat.reduceLT, Nat.reduceLeDiff, Nat.zero_le, id, lstK_ok, tupK_ok]
  rw [shr_val (by omega) h.a0 h.a1]
  refine ⟨?_, x5.trans (x6.trans (x7.trans (x8.trans Ext.new)))⟩
  simp

theorem due_ashr (h : Ab v a b) : Wp (Ci.run tab (n + 4) 21 [.str "ashr", .int ((v + 1 : Nat) : Int), .int a, .int b] st) fun w st' => w = v_ashr v a b ∧ Ext st st' := by
  refine wp_run (d := d21) rfl rfl ?_
  show Wp (ex _ c21 _ _) _
  unfold c21 v_ashr
  have hv := h.hv
  have am : a % 2 ^ (v + 1) = a := Int.emod_eq_of_lt h.a0 h.a1
  have bm : b % 2 ^ (v + 1) = b := Int.emod_eq_of_lt h.b0 h.b1
  have hp := p64 h.hv
  try simp -implicitDefEqProofs only [wp_ok, wp_bind, wp_noexc, wp_seq, wp_skip, wp_brk, wp_cnt, wp_retN, wp_ret, wp_set, wp_par, wp_unp, wp_sto, wp_xpr, wp_ite, wp_for, wp_whl, wp_tru, sk_rt, sk_bk, sk_ct, lk_nx, lk_ct, lk_bk, lk_rt, ik_true, ik_false, ev, evs, evo, evi, evc, evd, keyK_str, keyK_int, retK_rt, retK_nx, iteK_true, iteK_false, truK0_bl, truK0_int, truK0_tup, truK0_frl, truK0_non, scK_bl, wp_callK, cmpO, cmp_eq, cmp_ne, cmp_lt, cmp_le, cmp_gt, cmp_ge, cmp_isN, cmp_notN, eqD_int, eqD_str, bin_int, binI_add, binI_sub, of_some, negK_int, setK_nm, setK_tp, setsK, asg, asgs, tgsOf, intK, rngK, srcK, subO, startE, newR, new, bi_int, bi_abs, bi_len_tup, bi_len_frl,  Option.map_some, Option.map_none, Option.bind_some, List.map_cons, List.map_nil, List.length_cons, List.length_nil, List.length_append, List.length_map, List.length_set, List.cons_append, List.nil_append, List.getElem?_cons_zero, List.getElem?_cons_succ, List.set_cons_zero, List.set_cons_succ, if_true, if_false, Bool.false_eq_true, Bool.true_eq_false, Bool.not_true, Bool.not_false, decide_true, decide_false, Nat.reduceEqDiff, Nat.zero_lt_succ, List.replicate_succ, List.replicate_zero, Nat.reduceSub, Nat.reduceAdd, Nat.reduceLT, Nat.reduceLeDiff, Nat.zero_le, id, lstK_ok, tupK_ok, d21]
  refine (digits_ok (n := n + 1) (show v + 1 ≤ 64 by omega)).mono ?_
  rintro w st1 ⟨p4, rfl, x1, l4, g4⟩
  try simp -implicitDefEqProofs only [wp_ok, wp_bind, wp_noexc, wp_seq, wp_skip, wp_brk, wp_cnt, wp_retN, wp_ret, wp_set, wp_par, wp_unp, wp_sto, wp_xpr, wp_ite, wp_for, wp_whl, wp_tru, sk_rt, sk_bk, sk_ct, lk_nx, lk_ct, lk_bk, lk_rt, ik_true, ik_false, ev, evs, evo, evi, evc, evd, keyK_str, keyK_int, retK_rt, retK_nx, iteK_true, iteK_false, truK0_bl, truK0_int, truK0_tup, truK0_frl, truK0_non, scK_bl, wp_callK, cmpO, cmp_eq, cmp_ne, cmp_lt, cmp_le, cmp_gt, cmp_ge, cmp_isN, cmp_notN, eqD_int, eqD_str, bin_int, binI_add, binI_sub, of_some, negK_int, setK_nm, setK_tp, setsK, asg, asgs, tgsOf, intK, rngK, srcK, subO, startE, newR, new, bi_int, bi_abs, bi_len_tup, bi_len_frl,  Option.map_some, Option.map_none, Option.bind_some, List.map_cons, List.map_nil, List.length_cons, List.length_nil, List.length_append, List.length_map, List.length_set, List.cons_append, List.nil_append, List.getElem?_cons_zero, List.getElem?_cons_succ, List.set_cons_zero, List.set_cons_succ, if_true, if_false, Bool.false_eq_true, Bool.true_eq_false, Bool.not_true, Bool.not_false, decide_true, decide_false, Nat.reduceEqDiff, Nat.zero_lt_succ, List.replicate_succ, List.replicate_zero, Nat.reduceSub, Nat.reduceAdd, Nat.reduceLT, Nat.reduceLeDiff, Nat.zero_le, id, lstK_ok, tupK_ok]
  refine (digits_ok (n := n + 1) (show v + 1 ≤ 64 by omega)).mono ?_
  rintro w st2 ⟨p5, rfl, x2, l5, g5⟩
  have g4 := x2.2 _ _ g4
  rw [am] at g4
  rw [bm] at g5
  have x2 := x1.trans x2
  try simp -implicitDefEqProofs only [wp_ok, wp_bind, wp_noexc, wp_seq, wp_skip, wp_brk, wp_cnt, wp_retN, wp_ret, wp_set, wp_par, wp_unp, wp_sto, wp_xpr, wp_ite, wp_for, wp_whl, wp_tru, sk_rt, sk_bk, sk_ct, lk_nx, lk_ct, lk_bk, lk_rt, ik_true, ik_false, ev, evs, evo, evi, evc, evd, keyK_str, keyK_int, retK_rt, retK_nx, iteK_true, iteK_false, truK0_bl, truK0_int, truK0_tup, truK0_frl, truK0_non, scK_bl, wp_callK, cmpO, cmp_eq, cmp_ne, cmp_lt, cmp_le, cmp_gt, cmp_ge, cmp_isN, cmp_notN, eqD_int, eqD_str, bin_int, binI_add, binI_sub, of_some, negK_int, setK_nm, setK_tp, setsK, asg, asgs, tgsOf, intK, rngK, srcK, subO, startE, newR, new, bi_int, bi_abs, bi_len_tup, bi_len_frl,  Option.map_some, Option.map_none, Option.bind_some, List.map_cons, List.map_nil, List.length_cons, List.length_nil, List.length_append, List.length_map, List.length_set, List.cons_append, List.nil_append, List.getElem?_cons_zero, List.getElem?_cons_succ, List.set_cons_zero, List.set_cons_succ, if_true, if_false, Bool.false_eq_true, Bool.true_eq_false, Bool.not_true, Bool.not_false, decide_true, decide_false, Nat.reduceEqDiff, Nat.zero_lt_succ, List.replicate_succ, List.replicate_zero, Nat.reduceSub, Nat.reduceAdd, Nat.reduceLT, Nat.reduceLeDiff, Nat.zero_le, id, lstK_ok, tupK_ok]
  rw [sk_nx]
  have i1 : inW (st2 ++ [Ob.lst [W.str "add", W.str "sub", W.str "mul"]]) (.str "ashr") (.ref st2.length) = some false := (in_strs (ss := ["add", "sub", "mul"]) getLast (by decide +kernel) (by decide +kernel)).trans (by decide +kernel)
  try simp -implicitDefEqProofs only [wp_ok, wp_bind, wp_noexc, wp_seq, wp_skip, wp_brk, wp_cnt, wp_retN, wp_ret, wp_set, wp_par, wp_unp, wp_sto, wp_xpr, wp_ite, wp_for, wp_whl, wp_tru, sk_rt, sk_bk, sk_ct, lk_nx, lk_ct, lk_bk, lk_rt, ik_true, ik_false, ev, evs, evo, evi, evc, evd, keyK_str, keyK_int, retK_rt, retK_nx, iteK_true, iteK_false, truK0_bl, truK0_int, truK0_tup, truK0_frl, truK0_non, scK_bl, wp_callK, cmpO, cmp_eq, cmp_ne, cmp_lt, cmp_le, cmp_gt, cmp_ge, cmp_isN, cmp_notN, eqD_int, eqD_str, bin_int, binI_add, binI_sub, of_some, negK_int, setK_nm, setK_tp, setsK, asg, asgs, tgsOf, intK, rngK, srcK, subO, startE, newR, new, bi_int, bi_abs, bi_len_tup, bi_len_frl,  Option.map_some, Option.map_none, Option.bind_some, List.map_cons, List.map_nil, List.length_cons, List.length_nil, List.length_append, List.length_map, List.length_set, List.cons_append, List.nil_append, List.getElem?_cons_zero, List.getElem?_cons_succ, List.set_cons_zero, List.set_cons_succ, if_true, if_false, Bool.false_eq_true, Bool.true_eq_false, Bool.not_true, Bool.not_false, decide_true, decide_false, Nat.reduceEqDiff, Nat.zero_lt_succ, List.replicate_succ, List.replicate_zero, Nat.reduceSub, Nat.reduceAdd, Nat.reduceLT, Nat.reduceLeDiff, Nat.zero_le, id, lstK_ok, tupK_ok, cmp_in, i1]
  rw [sk_nx]
  obtain ⟨st3, hs3⟩ : ∃ x : Sto, x = st2 ++ [Ob.lst [W.str "add", W.str "sub", W.str "mul"]] := ⟨_, rfl⟩
  have x3 : Ext st2 st3 := by rw [hs3]; exact Ext.new
  rw [← hs3]
  have g4 := x3.2 _ _ g4
  have g5 := x3.2 _ _ g5
  have x3 := x2.trans x3
  have i2 : inW (st3 ++ [Ob.lst [W.str "udiv", W.str "urem", W.str "sdiv", W.str "srem"]]) (.str "ashr") (.ref st3.length) = some false := (in_strs (ss := ["udiv", "urem", "sdiv", "srem"]) getLast (by decide +kernel) (by decide +kernel)).trans (by decide +kernel)
  try simp -implicitDefEqProofs only [wp_ok, wp_bind, wp_noexc, wp_seq, wp_skip, wp_brk, wp_cnt, wp_retN, wp_ret, wp_set, wp_par, wp_unp, wp_sto, wp_xpr, wp_ite, wp_for, wp_whl, wp_tru, sk_rt, sk_bk, sk_ct, lk_nx, lk_ct, lk_bk, lk_rt, ik_true, ik_false, ev, evs, evo, evi, evc, evd, keyK_str, keyK_int, retK_rt, retK_nx, iteK_true, iteK_false, truK0_bl, truK0_int, truK0_tup, truK0_frl, truK0_non, scK_bl, wp_callK, cmpO, cmp_eq, cmp_ne, cmp_lt, cmp_le, cmp_gt, cmp_ge, cmp_isN, cmp_notN, eqD_int, eqD_str, bin_int, binI_add, binI_sub, of_some, negK_int, setK_nm, setK_tp, setsK, asg, asgs, tgsOf, intK, rngK, srcK, subO, startE, newR, new, bi_int, bi_abs, bi_len_tup, bi_len_frl,  Option.map_some, Option.map_none, Option.bind_some, List.map_cons, List.map_nil, List.length_cons, List.length_nil, List.length_append, List.length_map, List.length_set, List.cons_append, List.nil_append, List.getElem?_cons_zero, List.getElem?_cons_succ, List.set_cons_zero, List.set_cons_succ, if_true, if_false, Bool.false_eq_true, Bool.true_eq_false, Bool.not_true, Bool.not_false, decide_true, decide_false, Nat.reduceEqDiff, Nat.zero_lt_succ, List.replicate_succ, List.replicate_zero, Nat.reduceSub, Nat.reduceAdd, Nat.reduceLT, Nat.reduceLeDiff, Nat.zero_le, id, lstK_ok, tupK_ok, cmp_in, i2]
  rw [sk_nx]
  obtain ⟨st4, hs4⟩ : ∃ x : Sto, x = st3 ++ [Ob.lst [W.str "udiv", W.str "urem", W.str "sdiv", W.str "srem"]] := ⟨_, rfl⟩
  have x4 : Ext st3 st4 := by rw [hs4]; exact Ext.new
  rw [← hs4]
  have g4 := x4.2 _ _ g4
  have g5 := x4.2 _ _ g5
  have x4 := x3.trans x4
  have i3 : inW (st4 ++ [Ob.lst [W.str "and", W.str "or", W.str "xor"]]) (.str "ashr") (.ref st4.length) = some false := (in_strs (ss := ["and", "or", "xor"]) getLast (by decide +kernel) (by decide +kernel)).trans (by decide +kernel)
  try simp -implicitDefEqProofs only [wp_ok, wp_bind, wp_noexc, wp_seq, wp_skip, wp_brk, wp_cnt, wp_retN, wp_ret, wp_set, wp_par, wp_unp, wp_sto, wp_xpr, wp_ite, wp_for, wp_whl, wp_tru, sk_rt, sk_bk, sk_ct, lk_nx, lk_ct, lk_bk, lk_rt, ik_true, ik_false, ev, evs, evo, evi, evc, evd, keyK_str, keyK_int, retK_rt, retK_nx, iteK_true, iteK_false, truK0_bl, truK0_int, truK0_tup, truK0_frl, truK0_non, scK_bl, wp_callK, cmpO, cmp_eq, cmp_ne, cmp_lt, cmp_le, cmp_gt, cmp_ge, cmp_isN, cmp_notN, eqD_int, eqD_str, bin_int, binI_add, binI_sub, of_some, negK_int, setK_nm, setK_tp, setsK, asg, asgs, tgsOf, intK, rngK, srcK, subO, startE, newR, new, bi_int, bi_abs, bi_len_tup, bi_len_frl,  Option.map_some, Option.map_none, Option.bind_some, List.map_cons, List.map_nil, List.length_cons, List.length_nil, List.length_append, List.length_map, List.length_set, List.cons_append, List.nil_append, List.getElem?_cons_zero, List.getElem?_cons_succ, List.set_cons_zero, List.set_cons_succ, if_true, if_false, Bool.false_eq_true, Bool.true_eq_false, Bool.not_true, Bool.not_false, decide_true, decide_false, Nat.reduceEqDiff, Nat.zero_lt_succ, List.replicate_succ, List.replicate_zero, Nat.reduceSub, Nat.reduceAdd, Nat.reduceLT, Nat.reduceLeDiff, Nat.zero_le, id, lstK_ok, tupK_ok, cmp_in, i3]
  rw [sk_nx]
  obtain ⟨st5, hs5⟩ : ∃ x : Sto, x = st4 ++ [Ob.lst [W.str "and", W.str "or", W.str "xor"]] := ⟨_, rfl⟩
  have x5 : Ext st4 st5 := by rw [hs5]; exact Ext.new
  rw [← hs5]
  have g4 := x5.2 _ _ g4
  have x5 := x4.trans x5
  obtain ⟨k, hk, hk2⟩ := by_ok (b := b) h.hv
  have hm : binI .mod b ((v + 1 : Nat) : Int) = some (k : Int) := by rw [binI_mod_pos (by omega), hk]
  rw [hk, Int.toNat_natCast]
  have e1 : (("ashr" : Str) == "shl") = false := by decide +kernel
  have e2 : (("ashr" : Str) == "ashr") = true := by decide +kernel
  try simp -implicitDefEqProofs only [wp_ok, wp_bind, wp_noexc, wp_seq, wp_skip, wp_brk, wp_cnt, wp_retN, wp_ret, wp_set, wp_par, wp_unp, wp_sto, wp_xpr, wp_ite, wp_for, wp_whl, wp_tru, sk_rt, sk_bk, sk_ct, lk_nx, lk_ct, lk_bk, lk_rt, ik_true, ik_false, ev, evs, evo, evi, evc, evd, keyK_str, keyK_int, retK_rt, retK_nx, iteK_true, iteK_false, truK0_bl, truK0_int, truK0_tup, truK0_frl, truK0_non, scK_bl, wp_callK, cmpO, cmp_eq, cmp_ne, cmp_lt, cmp_le, cmp_gt, cmp_ge, cmp_isN, cmp_notN, eqD_int, eqD_str, bin_int, binI_add, binI_sub, of_some, negK_int, setK_nm, setK_tp, setsK, asg, asgs, tgsOf, intK, rngK, srcK, subO, startE, newR, new, bi_int, bi_abs, bi_len_tup, bi_len_frl,  Option.map_some, Option.map_none, Option.bind_some, List.map_cons, List.map_nil, List.length_cons, List.length_nil, List.length_append, List.length_map, List.length_set, List.cons_append, List.nil_append, List.getElem?_cons_zero, List.getElem?_cons_succ, List.set_cons_zero, List.set_cons_succ, if_true, if_false, Bool.false_eq_true, Bool.true_eq_false, Bool.not_true, Bool.not_false, decide_true, decide_false, Nat.reduceEqDiff, Nat.zero_lt_succ, List.replicate_succ, List.replicate_zero, Nat.reduceSub, Nat.reduceAdd, Nat.reduceLT, Nat.reduceLeDiff, Nat.zero_le, id, lstK_ok, tupK_ok, hm]
  rw [sk_nx]
  have tp : sub st5 (.ref p4) (.int (-1)) = some (.int (a / 2 ^ v % 2)) := by
    rw [sub_lst g4, atW_last, List.length_map, lo_len, Nat.add_sub_cancel, List.getElem?_map, lo_get (by omega)]
    rfl
  have b1 := bin_rep (k := k) (getLast (st := st5) (u := Ob.lst [W.int (a / 2 ^ v % 2)])) (by omega)
  obtain ⟨st6, hs6⟩ : ∃ x : Sto, x = st5 ++ [Ob.lst [W.int (a / 2 ^ v % 2)]] := ⟨_, rfl⟩
  have x6 : Ext st5 st6 := by rw [hs6]; exact Ext.new
  rw [← hs6] at b1
  try simp -implicitDefEqProofs only [wp_ok, wp_bind, wp_noexc, wp_seq, wp_skip, wp_brk, wp_cnt, wp_retN, wp_ret, wp_set, wp_par, wp_unp, wp_sto, wp_xpr, wp_ite, wp_for, wp_whl, wp_tru, sk_rt, sk_bk, sk_ct, lk_nx, lk_ct, lk_bk, lk_rt, ik_true, ik_false, ev, evs, evo, evi, evc, evd, keyK_str, keyK_int, retK_rt, retK_nx, iteK_true, iteK_false, truK0_bl, truK0_int, truK0_tup, truK0_frl, truK0_non, scK_bl, wp_callK, cmpO, cmp_eq, cmp_ne, cmp_lt, cmp_le, cmp_gt, cmp_ge, cmp_isN, cmp_notN, eqD_int, eqD_str, bin_int, binI_add, binI_sub, of_some, negK_int, setK_nm, setK_tp, setsK, asg, asgs, tgsOf, intK, rngK, srcK, subO, startE, newR, new, bi_int, bi_abs, bi_len_tup, bi_len_frl,  Option.map_some, Option.map_none, Option.bind_some, List.map_cons, List.map_nil, List.length_cons, List.length_nil, List.length_append, List.length_map, List.length_set, List.cons_append, List.nil_append, List.getElem?_cons_zero, List.getElem?_cons_succ, List.set_cons_zero, List.set_cons_succ, if_true, if_false, Bool.false_eq_true, Bool.true_eq_false, Bool.not_true, Bool.not_false, decide_true, decide_false, Nat.reduceEqDiff, Nat.zero_lt_succ, List.replicate_succ, List.replicate_zero, Nat.reduceSub, Nat.reduceAdd, Nat.reduceLT, Nat.reduceLeDiff, Nat.zero_le, id, lstK_ok, tupK_ok, e1]
  rw [sk_nx]
  try simp -implicitDefEqProofs only [wp_ok, wp_bind, wp_noexc, wp_seq, wp_skip, wp_brk, wp_cnt, wp_retN, wp_ret, wp_set, wp_par, wp_unp, wp_sto, wp_xpr, wp_ite, wp_for, wp_whl, wp_tru, sk_rt, sk_bk, sk_ct, lk_nx, lk_ct, lk_bk, lk_rt, ik_true, ik_false, ev, evs, evo, evi, evc, evd, keyK_str, keyK_int, retK_rt, retK_nx, iteK_true, iteK_false, truK0_bl, truK0_int, truK0_tup, truK0_frl, truK0_non, scK_bl, wp_callK, cmpO, cmp_eq, cmp_ne, cmp_lt, cmp_le, cmp_gt, cmp_ge, cmp_isN, cmp_notN, eqD_int, eqD_str, bin_int, binI_add, binI_sub, of_some, negK_int, setK_nm, setK_tp, setsK, asg, asgs, tgsOf, intK, rngK, srcK, subO, startE, newR, new, bi_int, bi_abs, bi_len_tup, bi_len_frl,  Option.map_some, Option.map_none, Option.bind_some, List.map_cons, List.map_nil, List.length_cons, List.length_nil, List.length_append, List.length_map, List.length_set, List.cons_append, List.nil_append, List.getElem?_cons_zero, List.getElem?_cons_succ, List.set_cons_zero, List.set_cons_succ, if_true, if_false, Bool.false_eq_true, Bool.true_eq_false, Bool.not_true, Bool.not_false, decide_true, decide_false, Nat.reduceEqDiff, Nat.zero_lt_succ, List.replicate_succ, List.replicate_zero, Nat.reduceSub, Nat.reduceAdd, Nat.reduceLT, Nat.reduceLeDiff, Nat.zero_le, id, lstK_ok, tupK_ok, e2, tp]
  rw [← hs6]
  try simp -implicitDefEqProofs only [wp_ok, wp_bind, wp_noexc, wp_seq, wp_skip, wp_brk, wp_cnt, wp_retN, wp_ret, wp_set, wp_par, wp_unp, wp_sto, wp_xpr, wp_ite, wp_for, wp_whl, wp_tru, sk_rt, sk_bk, sk_ct, lk_nx, lk_ct, lk_bk, lk_rt, ik_true, ik_false, ev, evs, evo, evi, evc, evd, keyK_str, keyK_int, retK_rt, retK_nx, iteK_true, iteK_false, truK0_bl, truK0_int, truK0_tup, truK0_frl, truK0_non, scK_bl, wp_callK, cmpO, cmp_eq, cmp_ne, cmp_lt, cmp_le, cmp_gt, cmp_ge, cmp_isN, cmp_notN, eqD_int, eqD_str, bin_int, binI_add, binI_sub, of_some, negK_int, setK_nm, setK_tp, setsK, asg, asgs, tgsOf, intK, rngK, srcK, subO, startE, newR, new, bi_int, bi_abs, bi_len_tup, bi_len_frl,  Option.map_some, Option.map_none, Option.bind_some, List.map_cons, List.map_nil, List.length_cons, List.length_nil, List.length_append, List.length_map, List.length_set, List.cons_append, List.nil_append, List.getElem?_cons_zero, List.getElem?_cons_succ, List.set_cons_zero, List.set_cons_succ, if_true, if_false, Bool.false_eq_true, Bool.true_eq_false, Bool.not_true, Bool.not_false, decide_true, decide_false, Nat.reduceEqDiff, Nat.zero_lt_succ, List.replicate_succ, List.replicate_zero, Nat.reduceSub, Nat.reduceAdd, Nat.reduceLT, Nat.reduceLeDiff, Nat.zero_le, id, lstK_ok, tupK_ok, b1]
  obtain ⟨st7, hs7⟩ : ∃ x : Sto, x = st6 ++ [Ob.lst (List.replicate k (W.int (a / 2 ^ v % 2)))] := ⟨_, rfl⟩
  have x7 : Ext st6 st7 := by rw [hs7]; exact Ext.new
  have g7 : st7[st6.length]? = some (.lst (List.replicate k (W.int (a / 2 ^ v % 2)))) := by rw [hs7]; exact getLast
  rw [← hs7]
  have g4 := (x6.trans x7).2 _ _ g4
  have b2 := bin_cat g4 g7 (by rw [List.length_replicate, List.length_map, lo_len]; omega)
  try simp -implicitDefEqProofs only [wp_ok, wp_bind, wp_noexc, wp_seq, wp_skip, wp_brk, wp_cnt, wp_retN, wp_ret, wp_set, wp_par, wp_unp, wp_sto, wp_xpr, wp_ite, wp_for, wp_whl, wp_tru, sk_rt, sk_bk, sk_ct, lk_nx, lk_ct, lk_bk, lk_rt, ik_true, ik_false, ev, evs, evo, evi, evc, evd, keyK_str, keyK_int, retK_rt, retK_nx, iteK_true, iteK_false, truK0_bl, truK0_int, truK0_tup, truK0_frl, truK0_non, scK_bl, wp_callK, cmpO, cmp_eq, cmp_ne, cmp_lt, cmp_le, cmp_gt, cmp_ge, cmp_isN, cmp_notN, eqD_int, eqD_str, bin_int, binI_add, binI_sub, of_some, negK_int, setK_nm, setK_tp, setsK, asg, asgs, tgsOf, intK, rngK, srcK, subO, startE, newR, new, bi_int, bi_abs, bi_len_tup, bi_len_frl,  Option.map_some, Option.map_none, Option.bind_some, List.map_cons, List.map_nil, List.length_cons, List.length_nil, List.length_append, List.length_map, List.length_set, List.cons_append, List.nil_append, List.getElem?_cons_zero, List.getElem?_cons_succ, List.set_cons_zero, List.set_cons_succ, if_true, if_false, Bool.false_eq_true, Bool.true_eq_false, Bool.not_true, Bool.not_false, decide_true, decide_false, Nat.reduceEqDiff, Nat.zero_lt_succ, List.replicate_succ, List.replicate_zero, Nat.reduceSub, Nat.reduceAdd, Nat.reduceLT, Nat.reduceLeDiff, Nat.zero_le, id, lstK_ok, tupK_ok, b2]
  obtain ⟨st8, hs8⟩ : ∃ x : Sto, x = st7 ++ [Ob.lst ((lo (v + 1) a).map W.int ++ List.replicate k (W.int (a / 2 ^ v % 2)))] := ⟨_, rfl⟩
  have x8 : Ext st7 st8 := by rw [hs8]; exact Ext.new
  have g8 : st8[st7.length]? = some (.lst ((lo (v + 1) a ++ List.replicate k (a / 2 ^ v % 2)).map W.int)) := by rw [hs8, List.map_append, List.map_replicate]; exact getLast
  rw [← hs8]
  try simp -implicitDefEqProofs only [wp_ok, wp_bind, wp_noexc, wp_seq, wp_skip, wp_brk, wp_cnt, wp_retN, wp_ret, wp_set, wp_par, wp_unp, wp_sto, wp_xpr, wp_ite, wp_for, wp_whl, wp_tru, sk_rt, sk_bk, sk_ct, lk_nx, lk_ct, lk_bk, lk_rt, ik_true, ik_false, ev, evs, evo, evi, evc, evd, keyK_str, keyK_int, retK_rt, retK_nx, iteK_true, iteK_false, truK0_bl, truK0_int, truK0_tup, truK0_frl, truK0_non, scK_bl, wp_callK, cmpO, cmp_eq, cmp_ne, cmp_lt, cmp_le, cmp_gt, cmp_ge, cmp_isN, cmp_notN, eqD_int, eqD_str, bin_int, binI_add, binI_sub, of_some, negK_int, setK_nm, setK_tp, setsK, asg, asgs, tgsOf, intK, rngK, srcK, subO, startE, newR, new, bi_int, bi_abs, bi_len_tup, bi_len_frl,  Option.map_some, Option.map_none, Option.bind_some, List.map_cons, List.map_nil, List.length_cons, List.length_nil, List.length_append, List.length_map, List.length_set, List.cons_append, List.nil_append, List.getElem?_cons_zero, List.getElem?_cons_succ, List.set_cons_zero, List.set_cons_succ, if_true, if_false, Bool.false_eq_true, Bool.true_eq_false, Bool.not_true, Bool.not_false, decide_true, decide_false, Nat.reduceEqDiff, Nat.zero_lt_succ, List.replicate_succ, List.replicate_zero, Nat.reduceSub, Nat.reduceAdd, Nat.reduceLT, Nat.reduceLeDiff, Nat.zero_le, id, lstK_ok, tupK_ok, slW_lst g8, cut_drop]
  rw [← List.map_drop]
  refine (back_ok (n := n + 2) getLast (fun d hd => ?_) (by rw [List.length_drop, List.length_append, lo_len, List.length_replicate]; omega)).mono ?_
  · rcases List.mem_append.mp (List.mem_of_mem_drop hd) with hd | hd
    · exact bit_lo _ _ d hd
    · rw [List.eq_of_mem_replicate hd]
      exact bit2 _ _
  rintro r st9 ⟨rfl, rfl⟩
  try simp -implicitDefEqProofs only [wp_ok, wp_bind, wp_noexc, wp_seq, wp_skip, wp_brk, wp_cnt, wp_retN, wp_ret, wp_set, wp_par, wp_unp, wp_sto, wp_xpr, wp_ite, wp_for, wp_whl, wp_tru, sk_rt, sk_bk, sk_ct, lk_nx, lk_ct, lk_bk, lk_rt, ik_true, ik_false, ev, evs, evo, evi, evc, evd, keyK_str, keyK_int, retK_rt, retK_nx, iteK_true, iteK_false, truK0_bl, truK0_int, truK0_tup, truK0_frl, truK0_non, scK_bl, wp_callK, cmpO, cmp_eq, cmp_ne, cmp_lt, cmp_le, cmp_gt, cmp_ge, cmp_isN, cmp_notN, eqD_int, eqD_str, bin_int, binI_add, binI_sub, of_some, negK_int, setK_nm, setK_tp, setsK, asg, asgs, tgsOf, intK, rngK, srcK, subO, startE, newR, new, bi_int, bi_abs, bi_len_tup, bi_len_frl,  Option.map_some, Option.map_none, Option.bind_some, List.map_cons, List.map_nil, List.length_cons, List.length_nil, List.length_append, List.length_map, List.length_set, List.cons_append, List.nil_append, List.getElem?_cons_zero, List.getElem?_cons_succ, List.set_cons_zero, List.set_cons_succ, if_true, if_false, Bool.false_eq_true, Bool.true_eq_false, Bool.not_true, Bool.not_false, decide_true, decide_false, Nat.reduceEqDiff, Nat.zero_lt_succ, List.replicate_succ, List.replicate_zero, Nat.reduceSub, Nat.reduceAdd, Nat.reduceLT, Nat.reduceLeDiff, Nat.zero_le, id, lstK_ok, tupK_ok]
  rw [shr_val (by omega) h.a0 h.a1]
  refine ⟨?_, x5.trans (x6.trans (x7.trans (x8.trans Ext.new)))⟩
  rw [ashr_val (by omega) h.a0 h.a1]

end
end K01
/-! K01e: the law holds. -/
namespace K01
open PySem Ci Law K02

section
variable {n v : Nat} {st : Sto} {a b : Int}
def isI : W → Bool
  | .int _ => true
  | _ => false
def Atom1 : W → Prop
  | .ref _ => False
  | .frl _ => False
  | _ => True
theorem int_ok {w : W} (h : Atom1 w) : Wp (Ci.run tab (n + 1) 0 [w] st) fun r st' => r = .bl (isI w) ∧ st' = st := by
  refine wp_run (d := d0) rfl rfl ?_
  show Wp (ex _ c0 _ _) _
  unfold c0
  cases w with
  | ref _ => exact h.elim
  | frl _ => exact h.elim
  | bl _ => try simp -implicitDefEqProofs only [wp_ok, wp_bind, wp_noexc, wp_seq, wp_skip, wp_brk, wp_cnt, wp_retN, wp_ret, wp_set, wp_par, wp_unp, wp_sto, wp_xpr, wp_ite, wp_for, wp_whl, wp_tru, sk_nx, sk_rt, sk_bk, sk_ct, lk_nx, lk_ct, lk_bk, lk_rt, ik_true, ik_false, ev, evs, evo, evi, evc, evd, keyK_str, keyK_int, retK_rt, retK_nx, iteK_true, iteK_false, truK0_bl, truK0_int, truK0_tup, truK0_frl, truK0_non, scK_bl, wp_callK, cmpO, cmp_eq, cmp_ne, cmp_lt, cmp_le, cmp_gt, cmp_ge, cmp_isN, cmp_notN, eqD_int, eqD_str, bin_int, binI_add, binI_sub, of_some, negK_int, setK_nm, setK_tp, setsK, asg, asgs, tgsOf, intK, rngK, srcK, subO, startE, newR, new, bi_int, bi_abs, bi_len_tup, bi_len_frl,  Option.map_some, Option.map_none, Option.bind_some, List.map_cons, List.map_nil, List.length_cons, List.length_nil, List.length_append, List.length_map, List.length_set, List.cons_append, List.nil_append, List.getElem?_cons_zero, List.getElem?_cons_succ, List.set_cons_zero, List.set_cons_succ, if_true, if_false, Bool.false_eq_true, Bool.true_eq_false, Bool.not_true, Bool.not_false, decide_true, decide_false, Nat.reduceEqDiff, Nat.zero_lt_succ, List.replicate_succ, List.replicate_zero, Nat.reduceSub, Nat.reduceAdd, Nat.reduceLT, Nat.reduceLeDiff, Nat.zero_le, id, lstK_ok, tupK_ok, d0, isi_int_int, isi_int_bl, isi_int_non, isi_int_str, isi_int_tup, isi_bool_int, isi_bool_bl, isi_tuple_tup, isi_tuple_non, isi_tuple_int, isi_tuple_bl, isi_tuple_str, isi_str_str, isi_str_non, isi_str_int, isi_str_tup]; exact ⟨by first | rfl | trivial, by first | rfl | trivial⟩
  | non => try simp -implicitDefEqProofs only [wp_ok, wp_bind, wp_noexc, wp_seq, wp_skip, wp_brk, wp_cnt, wp_retN, wp_ret, wp_set, wp_par, wp_unp, wp_sto, wp_xpr, wp_ite, wp_for, wp_whl, wp_tru, sk_nx, sk_rt, sk_bk, sk_ct, lk_nx, lk_ct, lk_bk, lk_rt, ik_true, ik_false, ev, evs, evo, evi, evc, evd, keyK_str, keyK_int, retK_rt, retK_nx, iteK_true, iteK_false, truK0_bl, truK0_int, truK0_tup, truK0_frl, truK0_non, scK_bl, wp_callK, cmpO, cmp_eq, cmp_ne, cmp_lt, cmp_le, cmp_gt, cmp_ge, cmp_isN, cmp_notN, eqD_int, eqD_str, bin_int, binI_add, binI_sub, of_some, negK_int, setK_nm, setK_tp, setsK, asg, asgs, tgsOf, intK, rngK, srcK, subO, startE, newR, new, bi_int, bi_abs, bi_len_tup, bi_len_frl,  Option.map_some, Option.map_none, Option.bind_some, List.map_cons, List.map_nil, List.length_cons, List.length_nil, List.length_append, List.length_map, List.length_set, List.cons_append, List.nil_append, List.getElem?_cons_zero, List.getElem?_cons_succ, List.set_cons_zero, List.set_cons_succ, if_true, if_false, Bool.false_eq_true, Bool.true_eq_false, Bool.not_true, Bool.not_false, decide_true, decide_false, Nat.reduceEqDiff, Nat.zero_lt_succ, List.replicate_succ, List.replicate_zero, Nat.reduceSub, Nat.reduceAdd, Nat.reduceLT, Nat.reduceLeDiff, Nat.zero_le, id, lstK_ok, tupK_ok, d0, isi_int_int, isi_int_bl, isi_int_non, isi_int_str, isi_int_tup, isi_bool_int, isi_bool_bl, isi_tuple_tup, isi_tuple_non, isi_tuple_int, isi_tuple_bl, isi_tuple_str, isi_str_str, isi_str_non, isi_str_int, isi_str_tup]; exact ⟨by first | rfl | trivial, by first | rfl | trivial⟩
  | str _ => try simp -implicitDefEqProofs only [wp_ok, wp_bind, wp_noexc, wp_seq, wp_skip, wp_brk, wp_cnt, wp_retN, wp_ret, wp_set, wp_par, wp_unp, wp_sto, wp_xpr, wp_ite, wp_for, wp_whl, wp_tru, sk_nx, sk_rt, sk_bk, sk_ct, lk_nx, lk_ct, lk_bk, lk_rt, ik_true, ik_false, ev, evs, evo, evi, evc, evd, keyK_str, keyK_int, retK_rt, retK_nx, iteK_true, iteK_false, truK0_bl, truK0_int, truK0_tup, truK0_frl, truK0_non, scK_bl, wp_callK, cmpO, cmp_eq, cmp_ne, cmp_lt, cmp_le, cmp_gt, cmp_ge, cmp_isN, cmp_notN, eqD_int, eqD_str, bin_int, binI_add, binI_sub, of_some, negK_int, setK_nm, setK_tp, setsK, asg, asgs, tgsOf, intK, rngK, srcK, subO, startE, newR, new, bi_int, bi_abs, bi_len_tup, bi_len_frl,  Option.map_some, Option.map_none, Option.bind_some, List.map_cons, List.map_nil, List.length_cons, List.length_nil, List.length_append, List.length_map, List.length_set, List.cons_append, List.nil_append, List.getElem?_cons_zero, List.getElem?_cons_succ, List.set_cons_zero, List.set_cons_succ, if_true, if_false, Bool.false_eq_true, Bool.true_eq_false, Bool.not_true, Bool.not_false, decide_true, decide_false, Nat.reduceEqDiff, Nat.zero_lt_succ, List.replicate_succ, List.replicate_zero, Nat.reduceSub, Nat.reduceAdd, Nat.reduceLT, Nat.reduceLeDiff, Nat.zero_le, id, lstK_ok, tupK_ok, d0, isi_int_int, isi_int_bl, isi_int_non, isi_int_str, isi_int_tup, isi_bool_int, isi_bool_bl, isi_tuple_tup, isi_tuple_non, isi_tuple_int, isi_tuple_bl, isi_tuple_str, isi_str_str, isi_str_non, isi_str_int, isi_str_tup]; exact ⟨by first | rfl | trivial, by first | rfl | trivial⟩
  | int _ => try simp -implicitDefEqProofs only [wp_ok, wp_bind, wp_noexc, wp_seq, wp_skip, wp_brk, wp_cnt, wp_retN, wp_ret, wp_set, wp_par, wp_unp, wp_sto, wp_xpr, wp_ite, wp_for, wp_whl, wp_tru, sk_nx, sk_rt, sk_bk, sk_ct, lk_nx, lk_ct, lk_bk, lk_rt, ik_true, ik_false, ev, evs, evo, evi, evc, evd, keyK_str, keyK_int, retK_rt, retK_nx, iteK_true, iteK_false, truK0_bl, truK0_int, truK0_tup, truK0_frl, truK0_non, scK_bl, wp_callK, cmpO, cmp_eq, cmp_ne, cmp_lt, cmp_le, cmp_gt, cmp_ge, cmp_isN, cmp_notN, eqD_int, eqD_str, bin_int, binI_add, binI_sub, of_some, negK_int, setK_nm, setK_tp, setsK, asg, asgs, tgsOf, intK, rngK, srcK, subO, startE, newR, new, bi_int, bi_abs, bi_len_tup, bi_len_frl,  Option.map_some, Option.map_none, Option.bind_some, List.map_cons, List.map_nil, List.length_cons, List.length_nil, List.length_append, List.length_map, List.length_set, List.cons_append, List.nil_append, List.getElem?_cons_zero, List.getElem?_cons_succ, List.set_cons_zero, List.set_cons_succ, if_true, if_false, Bool.false_eq_true, Bool.true_eq_false, Bool.not_true, Bool.not_false, decide_true, decide_false, Nat.reduceEqDiff, Nat.zero_lt_succ, List.replicate_succ, List.replicate_zero, Nat.reduceSub, Nat.reduceAdd, Nat.reduceLT, Nat.reduceLeDiff, Nat.zero_le, id, lstK_ok, tupK_ok, d0, isi_int_int, isi_int_bl, isi_int_non, isi_int_str, isi_int_tup, isi_bool_int, isi_bool_bl, isi_tuple_tup, isi_tuple_non, isi_tuple_int, isi_tuple_bl, isi_tuple_str, isi_str_str, isi_str_non, isi_str_int, isi_str_tup]; exact ⟨by first | rfl | trivial, by first | rfl | trivial⟩
  | tup _ => try simp -implicitDefEqProofs only [wp_ok, wp_bind, wp_noexc, wp_seq, wp_skip, wp_brk, wp_cnt, wp_retN, wp_ret, wp_set, wp_par, wp_unp, wp_sto, wp_xpr, wp_ite, wp_for, wp_whl, wp_tru, sk_nx, sk_rt, sk_bk, sk_ct, lk_nx, lk_ct, lk_bk, lk_rt, ik_true, ik_false, ev, evs, evo, evi, evc, evd, keyK_str, keyK_int, retK_rt, retK_nx, iteK_true, iteK_false, truK0_bl, truK0_int, truK0_tup, truK0_frl, truK0_non, scK_bl, wp_callK, cmpO, cmp_eq, cmp_ne, cmp_lt, cmp_le, cmp_gt, cmp_ge, cmp_isN, cmp_notN, eqD_int, eqD_str, bin_int, binI_add, binI_sub, of_some, negK_int, setK_nm, setK_tp, setsK, asg, asgs, tgsOf, intK, rngK, srcK, subO, startE, newR, new, bi_int, bi_abs, bi_len_tup, bi_len_frl,  Option.map_some, Option.map_none, Option.bind_some, List.map_cons, List.map_nil, List.length_cons, List.length_nil, List.length_append, List.length_map, List.length_set, List.cons_append, List.nil_append, List.getElem?_cons_zero, List.getElem?_cons_succ, List.set_cons_zero, List.set_cons_succ, if_true, if_false, Bool.false_eq_true, Bool.true_eq_false, Bool.not_true, Bool.not_false, decide_true, decide_false, Nat.reduceEqDiff, Nat.zero_lt_succ, List.replicate_succ, List.replicate_zero, Nat.reduceSub, Nat.reduceAdd, Nat.reduceLT, Nat.reduceLeDiff, Nat.zero_le, id, lstK_ok, tupK_ok, d0, isi_int_int, isi_int_bl, isi_int_non, isi_int_str, isi_int_tup, isi_bool_int, isi_bool_bl, isi_tuple_tup, isi_tuple_non, isi_tuple_int, isi_tuple_bl, isi_tuple_str, isi_str_str, isi_str_non, isi_str_int, isi_str_tup]; exact ⟨by first | rfl | trivial, by first | rfl | trivial⟩
theorem ow_int {x : Int} {t : Nat} (ht : t ≤ 64) : Wp (Ci.run tab (n + 4) 4 [.int x, .int (t : Int)] st) fun r st' => r = .bl (decide (0 ≤ x) && decide (x < 2 ^ t)) ∧ st' = st := by
  refine wp_run (d := d4) rfl rfl ?_
  show Wp (ex _ c4 _ _) _
  unfold c4
  try simp -implicitDefEqProofs only [wp_ok, wp_bind, wp_noexc, wp_seq, wp_skip, wp_brk, wp_cnt, wp_retN, wp_ret, wp_set, wp_par, wp_unp, wp_sto, wp_xpr, wp_ite, wp_for, wp_whl, wp_tru, sk_nx, sk_rt, sk_bk, sk_ct, lk_nx, lk_ct, lk_bk, lk_rt, ik_true, ik_false, ev, evs, evo, evi, evc, evd, keyK_str, keyK_int, retK_rt, retK_nx, iteK_true, iteK_false, truK0_bl, truK0_int, truK0_tup, truK0_frl, truK0_non, scK_bl, wp_callK, cmpO, cmp_eq, cmp_ne, cmp_lt, cmp_le, cmp_gt, cmp_ge, cmp_isN, cmp_notN, eqD_int, eqD_str, bin_int, binI_add, binI_sub, of_some, negK_int, setK_nm, setK_tp, setsK, asg, asgs, tgsOf, intK, rngK, srcK, subO, startE, newR, new, bi_int, bi_abs, bi_len_tup, bi_len_frl,  Option.map_some, Option.map_none, Option.bind_some, List.map_cons, List.map_nil, List.length_cons, List.length_nil, List.length_append, List.length_map, List.length_set, List.cons_append, List.nil_append, List.getElem?_cons_zero, List.getElem?_cons_succ, List.set_cons_zero, List.set_cons_succ, if_true, if_false, Bool.false_eq_true, Bool.true_eq_false, Bool.not_true, Bool.not_false, decide_true, decide_false, Nat.reduceEqDiff, Nat.zero_lt_succ, List.replicate_succ, List.replicate_zero, Nat.reduceSub, Nat.reduceAdd, Nat.reduceLT, Nat.reduceLeDiff, Nat.zero_le, id, lstK_ok, tupK_ok, d4, shl_1 (show t ≤ 1000 by omega)]
  refine wp_run (d := d2) rfl rfl ?_
  show Wp (ex _ c2 _ _) _
  unfold c2
  try simp -implicitDefEqProofs only [wp_ok, wp_bind, wp_noexc, wp_seq, wp_skip, wp_brk, wp_cnt, wp_retN, wp_ret, wp_set, wp_par, wp_unp, wp_sto, wp_xpr, wp_ite, wp_for, wp_whl, wp_tru, sk_nx, sk_rt, sk_bk, sk_ct, lk_nx, lk_ct, lk_bk, lk_rt, ik_true, ik_false, ev, evs, evo, evi, evc, evd, keyK_str, keyK_int, retK_rt, retK_nx, iteK_true, iteK_false, truK0_bl, truK0_int, truK0_tup, truK0_frl, truK0_non, scK_bl, wp_callK, cmpO, cmp_eq, cmp_ne, cmp_lt, cmp_le, cmp_gt, cmp_ge, cmp_isN, cmp_notN, eqD_int, eqD_str, bin_int, binI_add, binI_sub, of_some, negK_int, setK_nm, setK_tp, setsK, asg, asgs, tgsOf, intK, rngK, srcK, subO, startE, newR, new, bi_int, bi_abs, bi_len_tup, bi_len_frl,  Option.map_some, Option.map_none, Option.bind_some, List.map_cons, List.map_nil, List.length_cons, List.length_nil, List.length_append, List.length_map, List.length_set, List.cons_append, List.nil_append, List.getElem?_cons_zero, List.getElem?_cons_succ, List.set_cons_zero, List.set_cons_succ, if_true, if_false, Bool.false_eq_true, Bool.true_eq_false, Bool.not_true, Bool.not_false, decide_true, decide_false, Nat.reduceEqDiff, Nat.zero_lt_succ, List.replicate_succ, List.replicate_zero, Nat.reduceSub, Nat.reduceAdd, Nat.reduceLT, Nat.reduceLeDiff, Nat.zero_le, id, lstK_ok, tupK_ok, d2]
  refine wp_run (d := d1) rfl rfl ?_
  show Wp (ex _ c1 _ _) _
  unfold c1
  try simp -implicitDefEqProofs only [wp_ok, wp_bind, wp_noexc, wp_seq, wp_skip, wp_brk, wp_cnt, wp_retN, wp_ret, wp_set, wp_par, wp_unp, wp_sto, wp_xpr, wp_ite, wp_for, wp_whl, wp_tru, sk_nx, sk_rt, sk_bk, sk_ct, lk_nx, lk_ct, lk_bk, lk_rt, ik_true, ik_false, ev, evs, evo, evi, evc, evd, keyK_str, keyK_int, retK_rt, retK_nx, iteK_true, iteK_false, truK0_bl, truK0_int, truK0_tup, truK0_frl, truK0_non, scK_bl, wp_callK, cmpO, cmp_eq, cmp_ne, cmp_lt, cmp_le, cmp_gt, cmp_ge, cmp_isN, cmp_notN, eqD_int, eqD_str, bin_int, binI_add, binI_sub, of_some, negK_int, setK_nm, setK_tp, setsK, asg, asgs, tgsOf, intK, rngK, srcK, subO, startE, newR, new, bi_int, bi_abs, bi_len_tup, bi_len_frl,  Option.map_some, Option.map_none, Option.bind_some, List.map_cons, List.map_nil, List.length_cons, List.length_nil, List.length_append, List.length_map, List.length_set, List.cons_append, List.nil_append, List.getElem?_cons_zero, List.getElem?_cons_succ, List.set_cons_zero, List.set_cons_succ, if_true, if_false, Bool.false_eq_true, Bool.true_eq_false, Bool.not_true, Bool.not_false, decide_true, decide_false, Nat.reduceEqDiff, Nat.zero_lt_succ, List.replicate_succ, List.replicate_zero, Nat.reduceSub, Nat.reduceAdd, Nat.reduceLT, Nat.reduceLeDiff, Nat.zero_le, id, lstK_ok, tupK_ok, d1]
  refine (int_ok (w := .int x) trivial).mono ?_
  rintro r st' ⟨rfl, rfl⟩
  simp only [isI]
  by_cases h : 0 ≤ x
  · try simp -implicitDefEqProofs only [wp_ok, wp_bind, wp_noexc, wp_seq, wp_skip, wp_brk, wp_cnt, wp_retN, wp_ret, wp_set, wp_par, wp_unp, wp_sto, wp_xpr, wp_ite, wp_for, wp_whl, wp_tru, sk_nx, sk_rt, sk_bk, sk_ct, lk_nx, lk_ct, lk_bk, lk_rt, ik_true, ik_false, ev, evs, evo, evi, evc, evd, keyK_str, keyK_int, retK_rt, retK_nx, iteK_true, iteK_false, truK0_bl, truK0_int, truK0_tup, truK0_frl, truK0_non, scK_bl, wp_callK, cmpO, cmp_eq, cmp_ne, cmp_lt, cmp_le, cmp_gt, cmp_ge, cmp_isN, cmp_notN, eqD_int, eqD_str, bin_int, binI_add, binI_sub, of_some, negK_int, setK_nm, setK_tp, setsK, asg, asgs, tgsOf, intK, rngK, srcK, subO, startE, newR, new, bi_int, bi_abs, bi_len_tup, bi_len_frl,  Option.map_some, Option.map_none, Option.bind_some, List.map_cons, List.map_nil, List.length_cons, List.length_nil, List.length_append, List.length_map, List.length_set, List.cons_append, List.nil_append, List.getElem?_cons_zero, List.getElem?_cons_succ, List.set_cons_zero, List.set_cons_succ, if_true, if_false, Bool.false_eq_true, Bool.true_eq_false, Bool.not_true, Bool.not_false, decide_true, decide_false, Nat.reduceEqDiff, Nat.zero_lt_succ, List.replicate_succ, List.replicate_zero, Nat.reduceSub, Nat.reduceAdd, Nat.reduceLT, Nat.reduceLeDiff, Nat.zero_le, id, lstK_ok, tupK_ok, decide_eq_true h, Bool.true_and]
    exact ⟨by first | rfl | trivial, by first | rfl | trivial⟩
  · try simp -implicitDefEqProofs only [wp_ok, wp_bind, wp_noexc, wp_seq, wp_skip, wp_brk, wp_cnt, wp_retN, wp_ret, wp_set, wp_par, wp_unp, wp_sto, wp_xpr, wp_ite, wp_for, wp_whl, wp_tru, sk_nx, sk_rt, sk_bk, sk_ct, lk_nx, lk_ct, lk_bk, lk_rt, ik_true, ik_false, ev, evs, evo, evi, evc, evd, keyK_str, keyK_int, retK_rt, retK_nx, iteK_true, iteK_false, truK0_bl, truK0_int, truK0_tup, truK0_frl, truK0_non, scK_bl, wp_callK, cmpO, cmp_eq, cmp_ne, cmp_lt, cmp_le, cmp_gt, cmp_ge, cmp_isN, cmp_notN, eqD_int, eqD_str, bin_int, binI_add, binI_sub, of_some, negK_int, setK_nm, setK_tp, setsK, asg, asgs, tgsOf, intK, rngK, srcK, subO, startE, newR, new, bi_int, bi_abs, bi_len_tup, bi_len_frl,  Option.map_some, Option.map_none, Option.bind_some, List.map_cons, List.map_nil, List.length_cons, List.length_nil, List.length_append, List.length_map, List.length_set, List.cons_append, List.nil_append, List.getElem?_cons_zero, List.getElem?_cons_succ, List.set_cons_zero, List.set_cons_succ, if_true, if_false, Bool.false_eq_true, Bool.true_eq_false, Bool.not_true, Bool.not_false, decide_true, decide_false, Nat.reduceEqDiff, Nat.zero_lt_succ, List.replicate_succ, List.replicate_zero, Nat.reduceSub, Nat.reduceAdd, Nat.reduceLT, Nat.reduceLeDiff, Nat.zero_le, id, lstK_ok, tupK_ok, decide_eq_false h, Bool.false_and]
    exact ⟨by first | rfl | trivial, by first | rfl | trivial⟩
theorem ow_no {w : W} {t : Nat} (ht : t ≤ 64) (h : Atom1 w) (hi : isI w = false) : Wp (Ci.run tab (n + 4) 4 [w, .int (t : Int)] st) fun r st' => r = .bl false ∧ st' = st := by
  refine wp_run (d := d4) rfl rfl ?_
  show Wp (ex _ c4 _ _) _
  unfold c4
  try simp -implicitDefEqProofs only [wp_ok, wp_bind, wp_noexc, wp_seq, wp_skip, wp_brk, wp_cnt, wp_retN, wp_ret, wp_set, wp_par, wp_unp, wp_sto, wp_xpr, wp_ite, wp_for, wp_whl, wp_tru, sk_nx, sk_rt, sk_bk, sk_ct, lk_nx, lk_ct, lk_bk, lk_rt, ik_true, ik_false, ev, evs, evo, evi, evc, evd, keyK_str, keyK_int, retK_rt, retK_nx, iteK_true, iteK_false, truK0_bl, truK0_int, truK0_tup, truK0_frl, truK0_non, scK_bl, wp_callK, cmpO, cmp_eq, cmp_ne, cmp_lt, cmp_le, cmp_gt, cmp_ge, cmp_isN, cmp_notN, eqD_int, eqD_str, bin_int, binI_add, binI_sub, of_some, negK_int, setK_nm, setK_tp, setsK, asg, asgs, tgsOf, intK, rngK, srcK, subO, startE, newR, new, bi_int, bi_abs, bi_len_tup, bi_len_frl,  Option.map_some, Option.map_none, Option.bind_some, List.map_cons, List.map_nil, List.length_cons, List.length_nil, List.length_append, List.length_map, List.length_set, List.cons_append, List.nil_append, List.getElem?_cons_zero, List.getElem?_cons_succ, List.set_cons_zero, List.set_cons_succ, if_true, if_false, Bool.false_eq_true, Bool.true_eq_false, Bool.not_true, Bool.not_false, decide_true, decide_false, Nat.reduceEqDiff, Nat.zero_lt_succ, List.replicate_succ, List.replicate_zero, Nat.reduceSub, Nat.reduceAdd, Nat.reduceLT, Nat.reduceLeDiff, Nat.zero_le, id, lstK_ok, tupK_ok, d4, shl_1 (show t ≤ 1000 by omega)]
  refine wp_run (d := d2) rfl rfl ?_
  show Wp (ex _ c2 _ _) _
  unfold c2
  try simp -implicitDefEqProofs only [wp_ok, wp_bind, wp_noexc, wp_seq, wp_skip, wp_brk, wp_cnt, wp_retN, wp_ret, wp_set, wp_par, wp_unp, wp_sto, wp_xpr, wp_ite, wp_for, wp_whl, wp_tru, sk_nx, sk_rt, sk_bk, sk_ct, lk_nx, lk_ct, lk_bk, lk_rt, ik_true, ik_false, ev, evs, evo, evi, evc, evd, keyK_str, keyK_int, retK_rt, retK_nx, iteK_true, iteK_false, truK0_bl, truK0_int, truK0_tup, truK0_frl, truK0_non, scK_bl, wp_callK, cmpO, cmp_eq, cmp_ne, cmp_lt, cmp_le, cmp_gt, cmp_ge, cmp_isN, cmp_notN, eqD_int, eqD_str, bin_int, binI_add, binI_sub, of_some, negK_int, setK_nm, setK_tp, setsK, asg, asgs, tgsOf, intK, rngK, srcK, subO, startE, newR, new, bi_int, bi_abs, bi_len_tup, bi_len_frl,  Option.map_some, Option.map_none, Option.bind_some, List.map_cons, List.map_nil, List.length_cons, List.length_nil, List.length_append, List.length_map, List.length_set, List.cons_append, List.nil_append, List.getElem?_cons_zero, List.getElem?_cons_succ, List.set_cons_zero, List.set_cons_succ, if_true, if_false, Bool.false_eq_true, Bool.true_eq_false, Bool.not_true, Bool.not_false, decide_true, decide_false, Nat.reduceEqDiff, Nat.zero_lt_succ, List.replicate_succ, List.replicate_zero, Nat.reduceSub, Nat.reduceAdd, Nat.reduceLT, Nat.reduceLeDiff, Nat.zero_le, id, lstK_ok, tupK_ok, d2]
  refine wp_run (d := d1) rfl rfl ?_
  show Wp (ex _ c1 _ _) _
  unfold c1
  try simp -implicitDefEqProofs only [wp_ok, wp_bind, wp_noexc, wp_seq, wp_skip, wp_brk, wp_cnt, wp_retN, wp_ret, wp_set, wp_par, wp_unp, wp_sto, wp_xpr, wp_ite, wp_for, wp_whl, wp_tru, sk_nx, sk_rt, sk_bk, sk_ct, lk_nx, lk_ct, lk_bk, lk_rt, ik_true, ik_false, ev, evs, evo, evi, evc, evd, keyK_str, keyK_int, retK_rt, retK_nx, iteK_true, iteK_false, truK0_bl, truK0_int, truK0_tup, truK0_frl, truK0_non, scK_bl, wp_callK, cmpO, cmp_eq, cmp_ne, cmp_lt, cmp_le, cmp_gt, cmp_ge, cmp_isN, cmp_notN, eqD_int, eqD_str, bin_int, binI_add, binI_sub, of_some, negK_int, setK_nm, setK_tp, setsK, asg, asgs, tgsOf, intK, rngK, srcK, subO, startE, newR, new, bi_int, bi_abs, bi_len_tup, bi_len_frl,  Option.map_some, Option.map_none, Option.bind_some, List.map_cons, List.map_nil, List.length_cons, List.length_nil, List.length_append, List.length_map, List.length_set, List.cons_append, List.nil_append, List.getElem?_cons_zero, List.getElem?_cons_succ, List.set_cons_zero, List.set_cons_succ, if_true, if_false, Bool.false_eq_true, Bool.true_eq_false, Bool.not_true, Bool.not_false, decide_true, decide_false, Nat.reduceEqDiff, Nat.zero_lt_succ, List.replicate_succ, List.replicate_zero, Nat.reduceSub, Nat.reduceAdd, Nat.reduceLT, Nat.reduceLeDiff, Nat.zero_le, id, lstK_ok, tupK_ok, d1]
  refine (int_ok h).mono ?_
  rintro r st' ⟨rfl, rfl⟩
  rw [hi]
  try simp -implicitDefEqProofs only [wp_ok, wp_bind, wp_noexc, wp_seq, wp_skip, wp_brk, wp_cnt, wp_retN, wp_ret, wp_set, wp_par, wp_unp, wp_sto, wp_xpr, wp_ite, wp_for, wp_whl, wp_tru, sk_nx, sk_rt, sk_bk, sk_ct, lk_nx, lk_ct, lk_bk, lk_rt, ik_true, ik_false, ev, evs, evo, evi, evc, evd, keyK_str, keyK_int, retK_rt, retK_nx, iteK_true, iteK_false, truK0_bl, truK0_int, truK0_tup, truK0_frl, truK0_non, scK_bl, wp_callK, cmpO, cmp_eq, cmp_ne, cmp_lt, cmp_le, cmp_gt, cmp_ge, cmp_isN, cmp_notN, eqD_int, eqD_str, bin_int, binI_add, binI_sub, of_some, negK_int, setK_nm, setK_tp, setsK, asg, asgs, tgsOf, intK, rngK, srcK, subO, startE, newR, new, bi_int, bi_abs, bi_len_tup, bi_len_frl,  Option.map_some, Option.map_none, Option.bind_some, List.map_cons, List.map_nil, List.length_cons, List.length_nil, List.length_append, List.length_map, List.length_set, List.cons_append, List.nil_append, List.getElem?_cons_zero, List.getElem?_cons_succ, List.set_cons_zero, List.set_cons_succ, if_true, if_false, Bool.false_eq_true, Bool.true_eq_false, Bool.not_true, Bool.not_false, decide_true, decide_false, Nat.reduceEqDiff, Nat.zero_lt_succ, List.replicate_succ, List.replicate_zero, Nat.reduceSub, Nat.reduceAdd, Nat.reduceLT, Nat.reduceLeDiff, Nat.zero_le, id, lstK_ok, tupK_ok]
  exact ⟨by first | rfl | trivial, by first | rfl | trivial⟩
theorem wid_int {x : Int} : Wp (Ci.run tab (n + 2) 3 [.int x] st) fun r st' => r = .bl ([(1 : Int), 8, 16, 32, 64].any fun y => y == x) ∧ st' = st := by
  refine wp_run (d := d3) rfl rfl ?_
  show Wp (ex _ c3 _ _) _
  unfold c3
  try simp -implicitDefEqProofs only [wp_ok, wp_bind, wp_noexc, wp_seq, wp_skip, wp_brk, wp_cnt, wp_retN, wp_ret, wp_set, wp_par, wp_unp, wp_sto, wp_xpr, wp_ite, wp_for, wp_whl, wp_tru, sk_nx, sk_rt, sk_bk, sk_ct, lk_nx, lk_ct, lk_bk, lk_rt, ik_true, ik_false, ev, evs, evo, evi, evc, evd, keyK_str, keyK_int, retK_rt, retK_nx, iteK_true, iteK_false, truK0_bl, truK0_int, truK0_tup, truK0_frl, truK0_non, scK_bl, wp_callK, cmpO, cmp_eq, cmp_ne, cmp_lt, cmp_le, cmp_gt, cmp_ge, cmp_isN, cmp_notN, eqD_int, eqD_str, bin_int, binI_add, binI_sub, of_some, negK_int, setK_nm, setK_tp, setsK, asg, asgs, tgsOf, intK, rngK, srcK, subO, startE, newR, new, bi_int, bi_abs, bi_len_tup, bi_len_frl,  Option.map_some, Option.map_none, Option.bind_some, List.map_cons, List.map_nil, List.length_cons, List.length_nil, List.length_append, List.length_map, List.length_set, List.cons_append, List.nil_append, List.getElem?_cons_zero, List.getElem?_cons_succ, List.set_cons_zero, List.set_cons_succ, if_true, if_false, Bool.false_eq_true, Bool.true_eq_false, Bool.not_true, Bool.not_false, decide_true, decide_false, Nat.reduceEqDiff, Nat.zero_lt_succ, List.replicate_succ, List.replicate_zero, Nat.reduceSub, Nat.reduceAdd, Nat.reduceLT, Nat.reduceLeDiff, Nat.zero_le, id, lstK_ok, tupK_ok, d3]
  refine (int_ok (w := .int x) trivial).mono ?_
  rintro r st' ⟨rfl, rfl⟩
  have e : inW st' (.int x) k_WIDTHS = some ([(1 : Int), 8, 16, 32, 64].any fun y => y == x) := rfl
  try simp -implicitDefEqProofs only [wp_ok, wp_bind, wp_noexc, wp_seq, wp_skip, wp_brk, wp_cnt, wp_retN, wp_ret, wp_set, wp_par, wp_unp, wp_sto, wp_xpr, wp_ite, wp_for, wp_whl, wp_tru, sk_nx, sk_rt, sk_bk, sk_ct, lk_nx, lk_ct, lk_bk, lk_rt, ik_true, ik_false, ev, evs, evo, evi, evc, evd, keyK_str, keyK_int, retK_rt, retK_nx, iteK_true, iteK_false, truK0_bl, truK0_int, truK0_tup, truK0_frl, truK0_non, scK_bl, wp_callK, cmpO, cmp_eq, cmp_ne, cmp_lt, cmp_le, cmp_gt, cmp_ge, cmp_isN, cmp_notN, eqD_int, eqD_str, bin_int, binI_add, binI_sub, of_some, negK_int, setK_nm, setK_tp, setsK, asg, asgs, tgsOf, intK, rngK, srcK, subO, startE, newR, new, bi_int, bi_abs, bi_len_tup, bi_len_frl,  Option.map_some, Option.map_none, Option.bind_some, List.map_cons, List.map_nil, List.length_cons, List.length_nil, List.length_append, List.length_map, List.length_set, List.cons_append, List.nil_append, List.getElem?_cons_zero, List.getElem?_cons_succ, List.set_cons_zero, List.set_cons_succ, if_true, if_false, Bool.false_eq_true, Bool.true_eq_false, Bool.not_true, Bool.not_false, decide_true, decide_false, Nat.reduceEqDiff, Nat.zero_lt_succ, List.replicate_succ, List.replicate_zero, Nat.reduceSub, Nat.reduceAdd, Nat.reduceLT, Nat.reduceLeDiff, Nat.zero_le, id, lstK_ok, tupK_ok, isI, cmp_in, e]
  exact ⟨by first | rfl | trivial, by first | rfl | trivial⟩
theorem wid_no {w : W} (h : Atom1 w) (hi : isI w = false) : Wp (Ci.run tab (n + 2) 3 [w] st) fun r st' => r = .bl false ∧ st' = st := by
  refine wp_run (d := d3) rfl rfl ?_
  show Wp (ex _ c3 _ _) _
  unfold c3
  try simp -implicitDefEqProofs only [wp_ok, wp_bind, wp_noexc, wp_seq, wp_skip, wp_brk, wp_cnt, wp_retN, wp_ret, wp_set, wp_par, wp_unp, wp_sto, wp_xpr, wp_ite, wp_for, wp_whl, wp_tru, sk_nx, sk_rt, sk_bk, sk_ct, lk_nx, lk_ct, lk_bk, lk_rt, ik_true, ik_false, ev, evs, evo, evi, evc, evd, keyK_str, keyK_int, retK_rt, retK_nx, iteK_true, iteK_false, truK0_bl, truK0_int, truK0_tup, truK0_frl, truK0_non, scK_bl, wp_callK, cmpO, cmp_eq, cmp_ne, cmp_lt, cmp_le, cmp_gt, cmp_ge, cmp_isN, cmp_notN, eqD_int, eqD_str, bin_int, binI_add, binI_sub, of_some, negK_int, setK_nm, setK_tp, setsK, asg, asgs, tgsOf, intK, rngK, srcK, subO, startE, newR, new, bi_int, bi_abs, bi_len_tup, bi_len_frl,  Option.map_some, Option.map_none, Option.bind_some, List.map_cons, List.map_nil, List.length_cons, List.length_nil, List.length_append, List.length_map, List.length_set, List.cons_append, List.nil_append, List.getElem?_cons_zero, List.getElem?_cons_succ, List.set_cons_zero, List.set_cons_succ, if_true, if_false, Bool.false_eq_true, Bool.true_eq_false, Bool.not_true, Bool.not_false, decide_true, decide_false, Nat.reduceEqDiff, Nat.zero_lt_succ, List.replicate_succ, List.replicate_zero, Nat.reduceSub, Nat.reduceAdd, Nat.reduceLT, Nat.reduceLeDiff, Nat.zero_le, id, lstK_ok, tupK_ok, d3]
  refine (int_ok h).mono ?_
  rintro r st' ⟨rfl, rfl⟩
  rw [hi]
  try simp -implicitDefEqProofs only [wp_ok, wp_bind, wp_noexc, wp_seq, wp_skip, wp_brk, wp_cnt, wp_retN, wp_ret, wp_set, wp_par, wp_unp, wp_sto, wp_xpr, wp_ite, wp_for, wp_whl, wp_tru, sk_nx, sk_rt, sk_bk, sk_ct, lk_nx, lk_ct, lk_bk, lk_rt, ik_true, ik_false, ev, evs, evo, evi, evc, evd, keyK_str, keyK_int, retK_rt, retK_nx, iteK_true, iteK_false, truK0_bl, truK0_int, truK0_tup, truK0_frl, truK0_non, scK_bl, wp_callK, cmpO, cmp_eq, cmp_ne, cmp_lt, cmp_le, cmp_gt, cmp_ge, cmp_isN, cmp_notN, eqD_int, eqD_str, bin_int, binI_add, binI_sub, of_some, negK_int, setK_nm, setK_tp, setsK, asg, asgs, tgsOf, intK, rngK, srcK, subO, startE, newR, new, bi_int, bi_abs, bi_len_tup, bi_len_frl,  Option.map_some, Option.map_none, Option.bind_some, List.map_cons, List.map_nil, List.length_cons, List.length_nil, List.length_append, List.length_map, List.length_set, List.cons_append, List.nil_append, List.getElem?_cons_zero, List.getElem?_cons_succ, List.set_cons_zero, List.set_cons_succ, if_true, if_false, Bool.false_eq_true, Bool.true_eq_false, Bool.not_true, Bool.not_false, decide_true, decide_false, Nat.reduceEqDiff, Nat.zero_lt_succ, List.replicate_succ, List.replicate_zero, Nat.reduceSub, Nat.reduceAdd, Nat.reduceLT, Nat.reduceLeDiff, Nat.zero_le, id, lstK_ok, tupK_ok]
  exact ⟨by first | rfl | trivial, by first | rfl | trivial⟩
theorem number_ok {d c : Nat} (D : Deal st d c) (hv : v < 64) : Wp (Ci.run tab (n + 4) 15 [.ref d, .int ((v + 1 : Nat) : Int)] st) fun w st' => ∃ a : Int, w = .int a ∧ 0 ≤ a ∧ a < 2 ^ (v + 1) ∧ Deal st' d c := by
  refine wp_run (d := d15) rfl rfl ?_
  show Wp (ex _ c15 _ _) _
  unfold c15
  have hP := p2 (v + 1)
  have hdP := divOk_pow (show v + 1 < 9000 by omega)
  have hf2 : ∀ x : Int, binI .fdiv x 2 = some (x / 2) := fun x => by rw [binI_fdiv, if_pos (by decide)]
  have hf4 : ∀ x : Int, binI .fdiv x 4 = some (x / 4) := fun x => by rw [binI_fdiv, if_pos (by decide)]
  have h2 : (2 : Int) ≤ 2 ^ (v + 1) := by have := p2s v; have := p2 v; omega
  try simp -implicitDefEqProofs only [wp_ok, wp_bind, wp_noexc, wp_seq, wp_skip, wp_brk, wp_cnt, wp_retN, wp_ret, wp_set, wp_par, wp_unp, wp_sto, wp_xpr, wp_ite, wp_for, wp_whl, wp_tru, sk_rt, sk_bk, sk_ct, lk_nx, lk_ct, lk_bk, lk_rt, ik_true, ik_false, ev, evs, evo, evi, evc, evd, keyK_str, keyK_int, retK_rt, retK_nx, iteK_true, iteK_false, truK0_bl, truK0_int, truK0_tup, truK0_frl, truK0_non, scK_bl, wp_callK, cmpO, cmp_eq, cmp_ne, cmp_lt, cmp_le, cmp_gt, cmp_ge, cmp_isN, cmp_notN, eqD_int, eqD_str, bin_int, binI_add, binI_sub, of_some, negK_int, setK_nm, setK_tp, setsK, asg, asgs, tgsOf, intK, rngK, srcK, subO, startE, newR, new, bi_int, bi_abs, bi_len_tup, bi_len_frl,  Option.map_some, Option.map_none, Option.bind_some, List.map_cons, List.map_nil, List.length_cons, List.length_nil, List.length_append, List.length_map, List.length_set, List.cons_append, List.nil_append, List.getElem?_cons_zero, List.getElem?_cons_succ, List.set_cons_zero, List.set_cons_succ, if_true, if_false, Bool.false_eq_true, Bool.true_eq_false, Bool.not_true, Bool.not_false, decide_true, decide_false, Nat.reduceEqDiff, Nat.zero_lt_succ, List.replicate_succ, List.replicate_zero, Nat.reduceSub, Nat.reduceAdd, Nat.reduceLT, Nat.reduceLeDiff, Nat.zero_le, id, lstK_ok, tupK_ok, d15]
  refine Wp.mono (power_ok (n := n + 2) (show v + 1 ≤ 64 by omega)) ?_
  rintro w st1 ⟨rfl, rfl⟩
  try simp -implicitDefEqProofs only [wp_ok, wp_bind, wp_noexc, wp_seq, wp_skip, wp_brk, wp_cnt, wp_retN, wp_ret, wp_set, wp_par, wp_unp, wp_sto, wp_xpr, wp_ite, wp_for, wp_whl, wp_tru, sk_rt, sk_bk, sk_ct, lk_nx, lk_ct, lk_bk, lk_rt, ik_true, ik_false, ev, evs, evo, evi, evc, evd, keyK_str, keyK_int, retK_rt, retK_nx, iteK_true, iteK_false, truK0_bl, truK0_int, truK0_tup, truK0_frl, truK0_non, scK_bl, wp_callK, cmpO, cmp_eq, cmp_ne, cmp_lt, cmp_le, cmp_gt, cmp_ge, cmp_isN, cmp_notN, eqD_int, eqD_str, bin_int, binI_add, binI_sub, of_some, negK_int, setK_nm, setK_tp, setsK, asg, asgs, tgsOf, intK, rngK, srcK, subO, startE, newR, new, bi_int, bi_abs, bi_len_tup, bi_len_frl,  Option.map_some, Option.map_none, Option.bind_some, List.map_cons, List.map_nil, List.length_cons, List.length_nil, List.length_append, List.length_map, List.length_set, List.cons_append, List.nil_append, List.getElem?_cons_zero, List.getElem?_cons_succ, List.set_cons_zero, List.set_cons_succ, if_true, if_false, Bool.false_eq_true, Bool.true_eq_false, Bool.not_true, Bool.not_false, decide_true, decide_false, Nat.reduceEqDiff, Nat.zero_lt_succ, List.replicate_succ, List.replicate_zero, Nat.reduceSub, Nat.reduceAdd, Nat.reduceLT, Nat.reduceLeDiff, Nat.zero_le, id, lstK_ok, tupK_ok]
  rw [sk_nx]
  try simp -implicitDefEqProofs only [wp_ok, wp_bind, wp_noexc, wp_seq, wp_skip, wp_brk, wp_cnt, wp_retN, wp_ret, wp_set, wp_par, wp_unp, wp_sto, wp_xpr, wp_ite, wp_for, wp_whl, wp_tru, sk_rt, sk_bk, sk_ct, lk_nx, lk_ct, lk_bk, lk_rt, ik_true, ik_false, ev, evs, evo, evi, evc, evd, keyK_str, keyK_int, retK_rt, retK_nx, iteK_true, iteK_false, truK0_bl, truK0_int, truK0_tup, truK0_frl, truK0_non, scK_bl, wp_callK, cmpO, cmp_eq, cmp_ne, cmp_lt, cmp_le, cmp_gt, cmp_ge, cmp_isN, cmp_notN, eqD_int, eqD_str, bin_int, binI_add, binI_sub, of_some, negK_int, setK_nm, setK_tp, setsK, asg, asgs, tgsOf, intK, rngK, srcK, subO, startE, newR, new, bi_int, bi_abs, bi_len_tup, bi_len_frl,  Option.map_some, Option.map_none, Option.bind_some, List.map_cons, List.map_nil, List.length_cons, List.length_nil, List.length_append, List.length_map, List.length_set, List.cons_append, List.nil_append, List.getElem?_cons_zero, List.getElem?_cons_succ, List.set_cons_zero, List.set_cons_succ, if_true, if_false, Bool.false_eq_true, Bool.true_eq_false, Bool.not_true, Bool.not_false, decide_true, decide_false, Nat.reduceEqDiff, Nat.zero_lt_succ, List.replicate_succ, List.replicate_zero, Nat.reduceSub, Nat.reduceAdd, Nat.reduceLT, Nat.reduceLeDiff, Nat.zero_le, id, lstK_ok, tupK_ok]
  refine Wp.mono (any_ok (n := n + 2) (i := 12) rfl D (by decide) (by decide)) ?_
  rintro w st2 ⟨f, rfl, -, -, D2, -⟩
  try simp -implicitDefEqProofs only [wp_ok, wp_bind, wp_noexc, wp_seq, wp_skip, wp_brk, wp_cnt, wp_retN, wp_ret, wp_set, wp_par, wp_unp, wp_sto, wp_xpr, wp_ite, wp_for, wp_whl, wp_tru, sk_rt, sk_bk, sk_ct, lk_nx, lk_ct, lk_bk, lk_rt, ik_true, ik_false, ev, evs, evo, evi, evc, evd, keyK_str, keyK_int, retK_rt, retK_nx, iteK_true, iteK_false, truK0_bl, truK0_int, truK0_tup, truK0_frl, truK0_non, scK_bl, wp_callK, cmpO, cmp_eq, cmp_ne, cmp_lt, cmp_le, cmp_gt, cmp_ge, cmp_isN, cmp_notN, eqD_int, eqD_str, bin_int, binI_add, binI_sub, of_some, negK_int, setK_nm, setK_tp, setsK, asg, asgs, tgsOf, intK, rngK, srcK, subO, startE, newR, new, bi_int, bi_abs, bi_len_tup, bi_len_frl,  Option.map_some, Option.map_none, Option.bind_some, List.map_cons, List.map_nil, List.length_cons, List.length_nil, List.length_append, List.length_map, List.length_set, List.cons_append, List.nil_append, List.getElem?_cons_zero, List.getElem?_cons_succ, List.set_cons_zero, List.set_cons_succ, if_true, if_false, Bool.false_eq_true, Bool.true_eq_false, Bool.not_true, Bool.not_false, decide_true, decide_false, Nat.reduceEqDiff, Nat.zero_lt_succ, List.replicate_succ, List.replicate_zero, Nat.reduceSub, Nat.reduceAdd, Nat.reduceLT, Nat.reduceLeDiff, Nat.zero_le, id, lstK_ok, tupK_ok]
  rw [sk_nx]
  have rem : ∀ x : Int, 0 ≤ x % 2 ^ (v + 1) ∧ x % 2 ^ (v + 1) < 2 ^ (v + 1) := fun x => ⟨Int.emod_nonneg _ (by omega), Int.emod_lt_of_pos _ hP⟩
  by_cases e0 : f = 0
  · subst e0
    try simp -implicitDefEqProofs only [wp_ok, wp_bind, wp_noexc, wp_seq, wp_skip, wp_brk, wp_cnt, wp_retN, wp_ret, wp_set, wp_par, wp_unp, wp_sto, wp_xpr, wp_ite, wp_for, wp_whl, wp_tru, sk_rt, sk_bk, sk_ct, lk_nx, lk_ct, lk_bk, lk_rt, ik_true, ik_false, ev, evs, evo, evi, evc, evd, keyK_str, keyK_int, retK_rt, retK_nx, iteK_true, iteK_false, truK0_bl, truK0_int, truK0_tup, truK0_frl, truK0_non, scK_bl, wp_callK, cmpO, cmp_eq, cmp_ne, cmp_lt, cmp_le, cmp_gt, cmp_ge, cmp_isN, cmp_notN, eqD_int, eqD_str, bin_int, binI_add, binI_sub, of_some, negK_int, setK_nm, setK_tp, setsK, asg, asgs, tgsOf, intK, rngK, srcK, subO, startE, newR, new, bi_int, bi_abs, bi_len_tup, bi_len_frl,  Option.map_some, Option.map_none, Option.bind_some, List.map_cons, List.map_nil, List.length_cons, List.length_nil, List.length_append, List.length_map, List.length_set, List.cons_append, List.nil_append, List.getElem?_cons_zero, List.getElem?_cons_succ, List.set_cons_zero, List.set_cons_succ, if_true, if_false, Bool.false_eq_true, Bool.true_eq_false, Bool.not_true, Bool.not_false, decide_true, decide_false, Nat.reduceEqDiff, Nat.zero_lt_succ, List.replicate_succ, List.replicate_zero, Nat.reduceSub, Nat.reduceAdd, Nat.reduceLT, Nat.reduceLeDiff, Nat.zero_le, id, lstK_ok, tupK_ok, show ((0 : Int) == 0) = true from rfl, hf2, hf4, binI_mod_pos hP]
    refine Wp.mono (of_ok (n := n + 1) (f := 12) (i := 13) rfl rfl D2.new D2.own (by show 0 < 8; decide) (by show 8 < 1073741824; decide)) ?_
    rintro w st3 ⟨hw, D3, -⟩
    simp only [List.mem_cons, List.mem_nil_iff, or_false] at hw
    try simp -implicitDefEqProofs only [wp_ok, wp_bind, wp_noexc, wp_seq, wp_skip, wp_brk, wp_cnt, wp_retN, wp_ret, wp_set, wp_par, wp_unp, wp_sto, wp_xpr, wp_ite, wp_for, wp_whl, wp_tru, sk_rt, sk_bk, sk_ct, lk_nx, lk_ct, lk_bk, lk_rt, ik_true, ik_false, ev, evs, evo, evi, evc, evd, keyK_str, keyK_int, retK_rt, retK_nx, iteK_true, iteK_false, truK0_bl, truK0_int, truK0_tup, truK0_frl, truK0_non, scK_bl, wp_callK, cmpO, cmp_eq, cmp_ne, cmp_lt, cmp_le, cmp_gt, cmp_ge, cmp_isN, cmp_notN, eqD_int, eqD_str, bin_int, binI_add, binI_sub, of_some, negK_int, setK_nm, setK_tp, setsK, asg, asgs, tgsOf, intK, rngK, srcK, subO, startE, newR, new, bi_int, bi_abs, bi_len_tup, bi_len_frl,  Option.map_some, Option.map_none, Option.bind_some, List.map_cons, List.map_nil, List.length_cons, List.length_nil, List.length_append, List.length_map, List.length_set, List.cons_append, List.nil_append, List.getElem?_cons_zero, List.getElem?_cons_succ, List.set_cons_zero, List.set_cons_succ, if_true, if_false, Bool.false_eq_true, Bool.true_eq_false, Bool.not_true, Bool.not_false, decide_true, decide_false, Nat.reduceEqDiff, Nat.zero_lt_succ, List.replicate_succ, List.replicate_zero, Nat.reduceSub, Nat.reduceAdd, Nat.reduceLT, Nat.reduceLeDiff, Nat.zero_le, id, lstK_ok, tupK_ok]
    rcases hw with rfl | rfl | rfl | rfl | rfl | rfl | rfl | rfl
    · exact ⟨_, rfl, by omega, by omega, D3⟩
    · exact ⟨_, rfl, by omega, by omega, D3⟩
    · exact ⟨_, rfl, by omega, by omega, D3⟩
    · exact ⟨_, rfl, by omega, by omega, D3⟩
    · exact ⟨_, rfl, by omega, by omega, D3⟩
    · exact ⟨_, rfl, (rem _).1, (rem _).2, D3⟩
    · exact ⟨_, rfl, (rem _).1, (rem _).2, D3⟩
    · exact ⟨_, rfl, by omega, by omega, D3⟩
  · try simp -implicitDefEqProofs only [wp_ok, wp_bind, wp_noexc, wp_seq, wp_skip, wp_brk, wp_cnt, wp_retN, wp_ret, wp_set, wp_par, wp_unp, wp_sto, wp_xpr, wp_ite, wp_for, wp_whl, wp_tru, sk_rt, sk_bk, sk_ct, lk_nx, lk_ct, lk_bk, lk_rt, ik_true, ik_false, ev, evs, evo, evi, evc, evd, keyK_str, keyK_int, retK_rt, retK_nx, iteK_true, iteK_false, truK0_bl, truK0_int, truK0_tup, truK0_frl, truK0_non, scK_bl, wp_callK, cmpO, cmp_eq, cmp_ne, cmp_lt, cmp_le, cmp_gt, cmp_ge, cmp_isN, cmp_notN, eqD_int, eqD_str, bin_int, binI_add, binI_sub, of_some, negK_int, setK_nm, setK_tp, setsK, asg, asgs, tgsOf, intK, rngK, srcK, subO, startE, newR, new, bi_int, bi_abs, bi_len_tup, bi_len_frl,  Option.map_some, Option.map_none, Option.bind_some, List.map_cons, List.map_nil, List.length_cons, List.length_nil, List.length_append, List.length_map, List.length_set, List.cons_append, List.nil_append, List.getElem?_cons_zero, List.getElem?_cons_succ, List.set_cons_zero, List.set_cons_succ, if_true, if_false, Bool.false_eq_true, Bool.true_eq_false, Bool.not_true, Bool.not_false, decide_true, decide_false, Nat.reduceEqDiff, Nat.zero_lt_succ, List.replicate_succ, List.replicate_zero, Nat.reduceSub, Nat.reduceAdd, Nat.reduceLT, Nat.reduceLeDiff, Nat.zero_le, id, lstK_ok, tupK_ok, show (f == 0) = false from beq_eq_false_iff_ne.mpr e0]
    rw [sk_nx]
    by_cases e1 : f = 1
    · subst e1
      try simp -implicitDefEqProofs only [wp_ok, wp_bind, wp_noexc, wp_seq, wp_skip, wp_brk, wp_cnt, wp_retN, wp_ret, wp_set, wp_par, wp_unp, wp_sto, wp_xpr, wp_ite, wp_for, wp_whl, wp_tru, sk_rt, sk_bk, sk_ct, lk_nx, lk_ct, lk_bk, lk_rt, ik_true, ik_false, ev, evs, evo, evi, evc, evd, keyK_str, keyK_int, retK_rt, retK_nx, iteK_true, iteK_false, truK0_bl, truK0_int, truK0_tup, truK0_frl, truK0_non, scK_bl, wp_callK, cmpO, cmp_eq, cmp_ne, cmp_lt, cmp_le, cmp_gt, cmp_ge, cmp_isN, cmp_notN, eqD_int, eqD_str, bin_int, binI_add, binI_sub, of_some, negK_int, setK_nm, setK_tp, setsK, asg, asgs, tgsOf, intK, rngK, srcK, subO, startE, newR, new, bi_int, bi_abs, bi_len_tup, bi_len_frl,  Option.map_some, Option.map_none, Option.bind_some, List.map_cons, List.map_nil, List.length_cons, List.length_nil, List.length_append, List.length_map, List.length_set, List.cons_append, List.nil_append, List.getElem?_cons_zero, List.getElem?_cons_succ, List.set_cons_zero, List.set_cons_succ, if_true, if_false, Bool.false_eq_true, Bool.true_eq_false, Bool.not_true, Bool.not_false, decide_true, decide_false, Nat.reduceEqDiff, Nat.zero_lt_succ, List.replicate_succ, List.replicate_zero, Nat.reduceSub, Nat.reduceAdd, Nat.reduceLT, Nat.reduceLeDiff, Nat.zero_le, id, lstK_ok, tupK_ok, show ((1 : Int) == 1) = true from rfl]
      refine Wp.mono (any_ok (n := n + 2) (i := 12) rfl D2 hP hdP) ?_
      rintro w st3 ⟨r, rfl, r0, r1, D3, -⟩
      try simp -implicitDefEqProofs only [wp_ok, wp_bind, wp_noexc, wp_seq, wp_skip, wp_brk, wp_cnt, wp_retN, wp_ret, wp_set, wp_par, wp_unp, wp_sto, wp_xpr, wp_ite, wp_for, wp_whl, wp_tru, sk_rt, sk_bk, sk_ct, lk_nx, lk_ct, lk_bk, lk_rt, ik_true, ik_false, ev, evs, evo, evi, evc, evd, keyK_str, keyK_int, retK_rt, retK_nx, iteK_true, iteK_false, truK0_bl, truK0_int, truK0_tup, truK0_frl, truK0_non, scK_bl, wp_callK, cmpO, cmp_eq, cmp_ne, cmp_lt, cmp_le, cmp_gt, cmp_ge, cmp_isN, cmp_notN, eqD_int, eqD_str, bin_int, binI_add, binI_sub, of_some, negK_int, setK_nm, setK_tp, setsK, asg, asgs, tgsOf, intK, rngK, srcK, subO, startE, newR, new, bi_int, bi_abs, bi_len_tup, bi_len_frl,  Option.map_some, Option.map_none, Option.bind_some, List.map_cons, List.map_nil, List.length_cons, List.length_nil, List.length_append, List.length_map, List.length_set, List.cons_append, List.nil_append, List.getElem?_cons_zero, List.getElem?_cons_succ, List.set_cons_zero, List.set_cons_succ, if_true, if_false, Bool.false_eq_true, Bool.true_eq_false, Bool.not_true, Bool.not_false, decide_true, decide_false, Nat.reduceEqDiff, Nat.zero_lt_succ, List.replicate_succ, List.replicate_zero, Nat.reduceSub, Nat.reduceAdd, Nat.reduceLT, Nat.reduceLeDiff, Nat.zero_le, id, lstK_ok, tupK_ok]
      exact ⟨_, rfl, r0, r1, D3⟩
    · try simp -implicitDefEqProofs only [wp_ok, wp_bind, wp_noexc, wp_seq, wp_skip, wp_brk, wp_cnt, wp_retN, wp_ret, wp_set, wp_par, wp_unp, wp_sto, wp_xpr, wp_ite, wp_for, wp_whl, wp_tru, sk_rt, sk_bk, sk_ct, lk_nx, lk_ct, lk_bk, lk_rt, ik_true, ik_false, ev, evs, evo, evi, evc, evd, keyK_str, keyK_int, retK_rt, retK_nx, iteK_true, iteK_false, truK0_bl, truK0_int, truK0_tup, truK0_frl, truK0_non, scK_bl, wp_callK, cmpO, cmp_eq, cmp_ne, cmp_lt, cmp_le, cmp_gt, cmp_ge, cmp_isN, cmp_notN, eqD_int, eqD_str, bin_int, binI_add, binI_sub, of_some, negK_int, setK_nm, setK_tp, setsK, asg, asgs, tgsOf, intK, rngK, srcK, subO, startE, newR, new, bi_int, bi_abs, bi_len_tup, bi_len_frl,  Option.map_some, Option.map_none, Option.bind_some, List.map_cons, List.map_nil, List.length_cons, List.length_nil, List.length_append, List.length_map, List.length_set, List.cons_append, List.nil_append, List.getElem?_cons_zero, List.getElem?_cons_succ, List.set_cons_zero, List.set_cons_succ, if_true, if_false, Bool.false_eq_true, Bool.true_eq_false, Bool.not_true, Bool.not_false, decide_true, decide_false, Nat.reduceEqDiff, Nat.zero_lt_succ, List.replicate_succ, List.replicate_zero, Nat.reduceSub, Nat.reduceAdd, Nat.reduceLT, Nat.reduceLeDiff, Nat.zero_le, id, lstK_ok, tupK_ok, show (f == 1) = false from beq_eq_false_iff_ne.mpr e1]
      refine Wp.mono (any_ok (n := n + 2) (i := 12) rfl D2 (by decide) (by decide)) ?_
      rintro w st3 ⟨r, rfl, r0, r1, D3, -⟩
      try simp -implicitDefEqProofs only [wp_ok, wp_bind, wp_noexc, wp_seq, wp_skip, wp_brk, wp_cnt, wp_retN, wp_ret, wp_set, wp_par, wp_unp, wp_sto, wp_xpr, wp_ite, wp_for, wp_whl, wp_tru, sk_rt, sk_bk, sk_ct, lk_nx, lk_ct, lk_bk, lk_rt, ik_true, ik_false, ev, evs, evo, evi, evc, evd, keyK_str, keyK_int, retK_rt, retK_nx, iteK_true, iteK_false, truK0_bl, truK0_int, truK0_tup, truK0_frl, truK0_non, scK_bl, wp_callK, cmpO, cmp_eq, cmp_ne, cmp_lt, cmp_le, cmp_gt, cmp_ge, cmp_isN, cmp_notN, eqD_int, eqD_str, bin_int, binI_add, binI_sub, of_some, negK_int, setK_nm, setK_tp, setsK, asg, asgs, tgsOf, intK, rngK, srcK, subO, startE, newR, new, bi_int, bi_abs, bi_len_tup, bi_len_frl,  Option.map_some, Option.map_none, Option.bind_some, List.map_cons, List.map_nil, List.length_cons, List.length_nil, List.length_append, List.length_map, List.length_set, List.cons_append, List.nil_append, List.getElem?_cons_zero, List.getElem?_cons_succ, List.set_cons_zero, List.set_cons_succ, if_true, if_false, Bool.false_eq_true, Bool.true_eq_false, Bool.not_true, Bool.not_false, decide_true, decide_false, Nat.reduceEqDiff, Nat.zero_lt_succ, List.replicate_succ, List.replicate_zero, Nat.reduceSub, Nat.reduceAdd, Nat.reduceLT, Nat.reduceLeDiff, Nat.zero_le, id, lstK_ok, tupK_ok, binI_mod_pos hP]
      exact ⟨_, rfl, (rem _).1, (rem _).2, D3⟩
end
end K01
/-! K01f: the law holds (the end). -/
namespace K01
open PySem Ci Law K02

/-- its text is told -/
def Rp (w : W) : Prop := ∃ s : Str, ∀ st : Sto, bi .repr [w] st = some (.str s, st)
theorem rp_int {x : Int} (h0 : -(2 ^ 64) ≤ x) (h : x ≤ 2 ^ 64) : Rp (.int x) := ⟨_, fun _ => bi_repr_int h0 h⟩
theorem rp_non : Rp .non := ⟨_, fun _ => bi_repr_non⟩
section
variable {n v : Nat} {st : Sto} {a b : Int}
theorem rp_mod (h : Ab v a b) (x : Int) : Rp (.int (x % 2 ^ (v + 1))) := by
  have hP := p2 (v + 1)
  have h1 := Int.emod_nonneg x (by omega : (2 : Int) ^ (v + 1) ≠ 0)
  have h2 := Int.emod_lt_of_pos x hP
  have h3 := p64 h.hv
  exact rp_int (by omega) (by omega)
theorem a_nat (h : Ab v a b) : ∃ m k : Nat, a = m ∧ b = k ∧ m < 2 ^ (v + 1) ∧ k < 2 ^ (v + 1) := by
  have e : ((2 ^ (v + 1) : Nat) : Int) = 2 ^ (v + 1) := by simp
  refine ⟨a.toNat, b.toNat, by have := h.a0; omega, by have := h.b0; omega, ?_, ?_⟩
  · have := h.a0; have := h.a1; omega
  · have := h.b0; have := h.b1; omega
theorem rp_nat (h : Ab v a b) {m : Nat} (hm : m < 2 ^ (v + 1)) : Rp (.int (m : Int)) := by
  have e : ((2 ^ (v + 1) : Nat) : Int) = 2 ^ (v + 1) := by simp
  have h3 := p64 h.hv
  exact rp_int (by omega) (by omega)
theorem rp_div (h : Ab v a b) (k : Nat) : Rp (.int (a / 2 ^ k)) := by
  have h3 := p64 h.hv
  have := h.a0
  have := h.a1
  have h4 := Int.ediv_nonneg h.a0 (Int.le_of_lt (p2 k))
  have h5 := Int.ediv_le_self (2 ^ k) h.a0
  exact rp_int (by omega) (by omega)
theorem rp_add (h : Ab v a b) : Rp (v_add v a b) := rp_mod h _
theorem rp_sub (h : Ab v a b) : Rp (v_sub v a b) := rp_mod h _
theorem rp_mul (h : Ab v a b) : Rp (v_mul v a b) := rp_mod h _
theorem rp_udiv (h : Ab v a b) : Rp (v_udiv v a b) := by
  unfold v_udiv
  split
  · exact rp_non
  · have h3 := p64 h.hv
    have := h.a0
    have := h.a1
    have h4 := Int.ediv_nonneg h.a0 h.b0
    have h5 := Int.ediv_le_self b h.a0
    exact rp_int (by omega) (by omega)
theorem rp_urem (h : Ab v a b) : Rp (v_urem v a b) := by
  unfold v_urem
  split
  · exact rp_non
  · rename_i hb
    have h3 := p64 h.hv
    have := h.b0
    have := h.b1
    have h1 := Int.emod_nonneg a hb
    have h2 := Int.emod_lt_of_pos a (show 0 < b by omega)
    exact rp_int (by omega) (by omega)
theorem rp_sdiv (h : Ab v a b) : Rp (v_sdiv v a b) := by
  unfold v_sdiv
  split
  · exact rp_non
  · exact rp_mod h _
theorem rp_srem (h : Ab v a b) : Rp (v_srem v a b) := by
  unfold v_srem
  split
  · exact rp_non
  · exact rp_mod h _
theorem rp_and (h : Ab v a b) : Rp (v_and v a b) := by
  obtain ⟨m, k, rfl, rfl, hm, hk⟩ := a_nat h
  unfold v_and
  rw [bAnd]
  exact rp_nat h (Nat.and_lt_two_pow m hk)
theorem rp_or (h : Ab v a b) : Rp (v_or v a b) := by
  obtain ⟨m, k, rfl, rfl, hm, hk⟩ := a_nat h
  unfold v_or
  rw [bOr]
  exact rp_nat h (Nat.or_lt_two_pow hm hk)
theorem rp_xor (h : Ab v a b) : Rp (v_xor v a b) := by
  obtain ⟨m, k, rfl, rfl, hm, hk⟩ := a_nat h
  unfold v_xor
  have e : Builtin.bitXor (m : Int) (k : Int) = Builtin.bitOr (m : Int) (k : Int) - Builtin.bitAnd (m : Int) (k : Int) := rfl
  rw [e, bOr, bAnd]
  have h1 : m ||| k < 2 ^ (v + 1) := Nat.or_lt_two_pow hm hk
  have h2 : m &&& k < 2 ^ (v + 1) := Nat.and_lt_two_pow m hk
  have e2 : ((2 ^ (v + 1) : Nat) : Int) = 2 ^ (v + 1) := by simp
  have h3 := p64 h.hv
  exact rp_int (by omega) (by omega)
theorem rp_shl (h : Ab v a b) : Rp (v_shl v a b) := rp_mod h _
theorem rp_lshr (h : Ab v a b) : Rp (v_lshr v a b) := rp_div h _
theorem rp_ashr (h : Ab v a b) : Rp (v_ashr v a b) := rp_mod h _
/-- one operation told -/
theorem op_step {op : Str} {w W4 : W} {cl : Nat → List W → Sto → Res W} {Q : Out → Sto → Prop} {x0 x1 x2 x3 x8 x9 : Option W} {ra rb : W}
    (ht : Wp (cl 10 [.str op, W4, ra, rb] st) fun r st' => r = w ∧ st' = st) (hd : Wp (cl 21 [.str op, W4, ra, rb] st) fun r st' => r = w ∧ Ext st st') (rp : Rp w)
    (hq : ∀ st', Ext st st' → Q (.nx [x0, x1, x2, x3, some W4, some ra, some rb, some (.str op), x8, x9]) st') :
    Wp (ex cl (.ite (.cmp .ne (.bi .repr (.cons (.call 10 (some [3, 2, 1, 0]) (.cons (.var 6) (.cons (.var 5) (.cons (.var 4) (.cons (.var 7) .nil))))) .nil)) (.bi .repr (.cons (.call 21 none (.cons (.var 7) (.cons (.var 4) (.cons (.var 5) (.cons (.var 6) .nil))))) .nil))) (.ret (.con (.bl false))) .skip)
      [x0, x1, x2, x3, some W4, some ra, some rb, some (.str op), x8, x9] st) Q := by
  have hk : ∀ (w0 w1 w2 w3 : W) (st : Sto) (Q : W → Sto → Prop), Wp (callK cl 10 (some [3, 2, 1, 0]) [w0, w1, w2, w3] st) Q = Wp (cl 10 [w3, w2, w1, w0] st) Q := fun _ _ _ _ _ _ => rfl
  obtain ⟨s, hs⟩ := rp
  try simp -implicitDefEqProofs only [wp_ok, wp_bind, wp_noexc, wp_seq, wp_skip, wp_brk, wp_cnt, wp_retN, wp_ret, wp_set, wp_par, wp_unp, wp_sto, wp_xpr, wp_ite, wp_for, wp_whl, wp_tru, sk_rt, sk_bk, sk_ct, lk_nx, lk_ct, lk_bk, lk_rt, ik_true, ik_false, ev, evs, evo, evi, evc, evd, keyK_str, keyK_int, retK_rt, retK_nx, iteK_true, iteK_false, truK0_bl, truK0_int, truK0_tup, truK0_frl, truK0_non, scK_bl, wp_callK, cmpO, cmp_eq, cmp_ne, cmp_lt, cmp_le, cmp_gt, cmp_ge, cmp_isN, cmp_notN, eqD_int, eqD_str, bin_int, binI_add, binI_sub, of_some, negK_int, setK_nm, setK_tp, setsK, asg, asgs, tgsOf, intK, rngK, srcK, subO, startE, newR, new, bi_int, bi_abs, bi_len_tup, bi_len_frl,  Option.map_some, Option.map_none, Option.bind_some, List.map_cons, List.map_nil, List.length_cons, List.length_nil, List.length_append, List.length_map, List.length_set, List.cons_append, List.nil_append, List.getElem?_cons_zero, List.getElem?_cons_succ, List.set_cons_zero, List.set_cons_succ, if_true, if_false, Bool.false_eq_true, Bool.true_eq_false, Bool.not_true, Bool.not_false, decide_true, decide_false, Nat.reduceEqDiff, Nat.zero_lt_succ, List.replicate_succ, List.replicate_zero, Nat.reduceSub, Nat.reduceAdd, Nat.reduceLT, Nat.reduceLeDiff, Nat.zero_le, id, lstK_ok, tupK_ok, hk]
  refine Wp.mono ht ?_
  rintro r st1 ⟨rfl, rfl⟩
  try simp -implicitDefEqProofs only [wp_ok, wp_bind, wp_noexc, wp_seq, wp_skip, wp_brk, wp_cnt, wp_retN, wp_ret, wp_set, wp_par, wp_unp, wp_sto, wp_xpr, wp_ite, wp_for, wp_whl, wp_tru, sk_rt, sk_bk, sk_ct, lk_nx, lk_ct, lk_bk, lk_rt, ik_true, ik_false, ev, evs, evo, evi, evc, evd, keyK_str, keyK_int, retK_rt, retK_nx, iteK_true, iteK_false, truK0_bl, truK0_int, truK0_tup, truK0_frl, truK0_non, scK_bl, wp_callK, cmpO, cmp_eq, cmp_ne, cmp_lt, cmp_le, cmp_gt, cmp_ge, cmp_isN, cmp_notN, eqD_int, eqD_str, bin_int, binI_add, binI_sub, of_some, negK_int, setK_nm, setK_tp, setsK, asg, asgs, tgsOf, intK, rngK, srcK, subO, startE, newR, new, bi_int, bi_abs, bi_len_tup, bi_len_frl,  Option.map_some, Option.map_none, Option.bind_some, List.map_cons, List.map_nil, List.length_cons, List.length_nil, List.length_append, List.length_map, List.length_set, List.cons_append, List.nil_append, List.getElem?_cons_zero, List.getElem?_cons_succ, List.set_cons_zero, List.set_cons_succ, if_true, if_false, Bool.false_eq_true, Bool.true_eq_false, Bool.not_true, Bool.not_false, decide_true, decide_false, Nat.reduceEqDiff, Nat.zero_lt_succ, List.replicate_succ, List.replicate_zero, Nat.reduceSub, Nat.reduceAdd, Nat.reduceLT, Nat.reduceLeDiff, Nat.zero_le, id, lstK_ok, tupK_ok, hs]
  refine Wp.mono hd ?_
  rintro r st2 ⟨rfl, e⟩
  try simp -implicitDefEqProofs only [wp_ok, wp_bind, wp_noexc, wp_seq, wp_skip, wp_brk, wp_cnt, wp_retN, wp_ret, wp_set, wp_par, wp_unp, wp_sto, wp_xpr, wp_ite, wp_for, wp_whl, wp_tru, sk_rt, sk_bk, sk_ct, lk_nx, lk_ct, lk_bk, lk_rt, ik_true, ik_false, ev, evs, evo, evi, evc, evd, keyK_str, keyK_int, retK_rt, retK_nx, iteK_true, iteK_false, truK0_bl, truK0_int, truK0_tup, truK0_frl, truK0_non, scK_bl, wp_callK, cmpO, cmp_eq, cmp_ne, cmp_lt, cmp_le, cmp_gt, cmp_ge, cmp_isN, cmp_notN, eqD_int, eqD_str, bin_int, binI_add, binI_sub, of_some, negK_int, setK_nm, setK_tp, setsK, asg, asgs, tgsOf, intK, rngK, srcK, subO, startE, newR, new, bi_int, bi_abs, bi_len_tup, bi_len_frl,  Option.map_some, Option.map_none, Option.bind_some, List.map_cons, List.map_nil, List.length_cons, List.length_nil, List.length_append, List.length_map, List.length_set, List.cons_append, List.nil_append, List.getElem?_cons_zero, List.getElem?_cons_succ, List.set_cons_zero, List.set_cons_succ, if_true, if_false, Bool.false_eq_true, Bool.true_eq_false, Bool.not_true, Bool.not_false, decide_true, decide_false, Nat.reduceEqDiff, Nat.zero_lt_succ, List.replicate_succ, List.replicate_zero, Nat.reduceSub, Nat.reduceAdd, Nat.reduceLT, Nat.reduceLeDiff, Nat.zero_le, id, lstK_ok, tupK_ok, hs, beq_str, Bool.not_true]
  exact hq _ e
def names : List Str := ["add", "sub", "mul", "udiv", "sdiv", "urem", "srem", "and", "or", "xor", "shl", "lshr", "ashr"]
def body : S := match c22 with
  | .seq _ (.seq _ (.seq _ (.seq (.for_ _ _ b) _))) => b
  | _ => .skip
def EnOk (ns : List Int) (d : Nat) (en : En) : Prop := ∃ x3 x4 x5 x6 x7 x8 x9 : Option W, en = [some (.frl (ns.map .int)), some (.ref d), some (.tup (names.map .str)), x3, x4, x5, x6, x7, x8, x9]
theorem bl_ne {st : Sto} {x : Bool} : cmp .notN (.bl x) (.bl x) st = some false := by rw [isnot_bl]; simp
theorem body_ok {ns : List Int} {d c : Nat} {en : En} {st : Sto} {Q : Out → Sto → Prop} (D : Deal st d c) (he : EnOk ns d en) : Wp (ex (Ci.run tab 19) body en st) (Lk (fun e st' => EnOk ns d e ∧ Deal st' d c) Q) := by
  obtain ⟨x3, x4, x5, x6, x7, x8, x9, rfl⟩ := he
  unfold body c22
  show Wp (ex (Ci.run tab 19) (.seq _ _) _ st) _
  have k4 : ∀ (w0 w1 : W) (st : Sto) (Q : W → Sto → Prop), Wp (callK (Ci.run tab 19) 4 (some [1, 0]) [w0, w1] st) Q = Wp (Ci.run tab 19 4 [w1, w0] st) Q := fun _ _ _ _ => rfl
  have k3 : ∀ (w0 : W) (st : Sto) (Q : W → Sto → Prop), Wp (callK (Ci.run tab 19) 3 (some [0]) [w0] st) Q = Wp (Ci.run tab 19 3 [w0] st) Q := fun _ _ _ => rfl
  have k6 : ∀ (w0 w1 : W) (st : Sto) (Q : W → Sto → Prop), Wp (callK (Ci.run tab 19) 6 (some [1, 0]) [w0, w1] st) Q = Wp (Ci.run tab 19 6 [w1, w0] st) Q := fun _ _ _ _ => rfl
  have k5 : ∀ (w0 w1 : W) (st : Sto) (Q : W → Sto → Prop), Wp (callK (Ci.run tab 19) 5 (some [1, 0]) [w0, w1] st) Q = Wp (Ci.run tab 19 5 [w1, w0] st) Q := fun _ _ _ _ => rfl
  try simp -implicitDefEqProofs only [wp_ok, wp_bind, wp_noexc, wp_seq, wp_skip, wp_brk, wp_cnt, wp_retN, wp_ret, wp_set, wp_par, wp_unp, wp_sto, wp_xpr, wp_ite, wp_for, wp_whl, wp_tru, sk_rt, sk_bk, sk_ct, lk_nx, lk_ct, lk_bk, lk_rt, ik_true, ik_false, ev, evs, evo, evi, evc, evd, keyK_str, keyK_int, retK_rt, retK_nx, iteK_true, iteK_false, truK0_bl, truK0_int, truK0_tup, truK0_frl, truK0_non, scK_bl, wp_callK, cmpO, cmp_eq, cmp_ne, cmp_lt, cmp_le, cmp_gt, cmp_ge, cmp_isN, cmp_notN, eqD_int, eqD_str, bin_int, binI_add, binI_sub, of_some, negK_int, setK_nm, setK_tp, setsK, asg, asgs, tgsOf, intK, rngK, srcK, subO, startE, newR, new, bi_int, bi_abs, bi_len_tup, bi_len_frl,  Option.map_some, Option.map_none, Option.bind_some, List.map_cons, List.map_nil, List.length_cons, List.length_nil, List.length_append, List.length_map, List.length_set, List.cons_append, List.nil_append, List.getElem?_cons_zero, List.getElem?_cons_succ, List.set_cons_zero, List.set_cons_succ, if_true, if_false, Bool.false_eq_true, Bool.true_eq_false, Bool.not_true, Bool.not_false, decide_true, decide_false, Nat.reduceEqDiff, Nat.zero_lt_succ, List.replicate_succ, List.replicate_zero, Nat.reduceSub, Nat.reduceAdd, Nat.reduceLT, Nat.reduceLeDiff, Nat.zero_le, id, lstK_ok, tupK_ok]
  refine Wp.mono (of_ok (n := 17) (f := 12) (i := 13) rfl rfl D.new D.own (by decide) (by decide)) ?_
  rintro w1 st1 ⟨hw1, D1, -⟩
  obtain ⟨v, hv, rfl, h5⟩ : ∃ v : Nat, v < 64 ∧ w1 = .int ((v + 1 : Nat) : Int) ∧ ([(1 : Int), 8, 16, 32, 64].any fun y => y == ((v + 1 : Nat) : Int)) = true := by
    simp only [List.mem_cons, List.mem_nil_iff, or_false] at hw1
    rcases hw1 with rfl | rfl | rfl | rfl | rfl
    · exact ⟨0, by decide, rfl, rfl⟩
    · exact ⟨7, by decide, rfl, rfl⟩
    · exact ⟨15, by decide, rfl, rfl⟩
    · exact ⟨31, by decide, rfl, rfl⟩
    · exact ⟨63, by decide, rfl, rfl⟩
  try simp -implicitDefEqProofs only [wp_ok, wp_bind, wp_noexc, wp_seq, wp_skip, wp_brk, wp_cnt, wp_retN, wp_ret, wp_set, wp_par, wp_unp, wp_sto, wp_xpr, wp_ite, wp_for, wp_whl, wp_tru, sk_rt, sk_bk, sk_ct, lk_nx, lk_ct, lk_bk, lk_rt, ik_true, ik_false, ev, evs, evo, evi, evc, evd, keyK_str, keyK_int, retK_rt, retK_nx, iteK_true, iteK_false, truK0_bl, truK0_int, truK0_tup, truK0_frl, truK0_non, scK_bl, wp_callK, cmpO, cmp_eq, cmp_ne, cmp_lt, cmp_le, cmp_gt, cmp_ge, cmp_isN, cmp_notN, eqD_int, eqD_str, bin_int, binI_add, binI_sub, of_some, negK_int, setK_nm, setK_tp, setsK, asg, asgs, tgsOf, intK, rngK, srcK, subO, startE, newR, new, bi_int, bi_abs, bi_len_tup, bi_len_frl,  Option.map_some, Option.map_none, Option.bind_some, List.map_cons, List.map_nil, List.length_cons, List.length_nil, List.length_append, List.length_map, List.length_set, List.cons_append, List.nil_append, List.getElem?_cons_zero, List.getElem?_cons_succ, List.set_cons_zero, List.set_cons_succ, if_true, if_false, Bool.false_eq_true, Bool.true_eq_false, Bool.not_true, Bool.not_false, decide_true, decide_false, Nat.reduceEqDiff, Nat.zero_lt_succ, List.replicate_succ, List.replicate_zero, Nat.reduceSub, Nat.reduceAdd, Nat.reduceLT, Nat.reduceLeDiff, Nat.zero_le, id, lstK_ok, tupK_ok]
  rw [sk_nx]
  try simp -implicitDefEqProofs only [wp_ok, wp_bind, wp_noexc, wp_seq, wp_skip, wp_brk, wp_cnt, wp_retN, wp_ret, wp_set, wp_par, wp_unp, wp_sto, wp_xpr, wp_ite, wp_for, wp_whl, wp_tru, sk_rt, sk_bk, sk_ct, lk_nx, lk_ct, lk_bk, lk_rt, ik_true, ik_false, ev, evs, evo, evi, evc, evd, keyK_str, keyK_int, retK_rt, retK_nx, iteK_true, iteK_false, truK0_bl, truK0_int, truK0_tup, truK0_frl, truK0_non, scK_bl, wp_callK, cmpO, cmp_eq, cmp_ne, cmp_lt, cmp_le, cmp_gt, cmp_ge, cmp_isN, cmp_notN, eqD_int, eqD_str, bin_int, binI_add, binI_sub, of_some, negK_int, setK_nm, setK_tp, setsK, asg, asgs, tgsOf, intK, rngK, srcK, subO, startE, newR, new, bi_int, bi_abs, bi_len_tup, bi_len_frl,  Option.map_some, Option.map_none, Option.bind_some, List.map_cons, List.map_nil, List.length_cons, List.length_nil, List.length_append, List.length_map, List.length_set, List.cons_append, List.nil_append, List.getElem?_cons_zero, List.getElem?_cons_succ, List.set_cons_zero, List.set_cons_succ, if_true, if_false, Bool.false_eq_true, Bool.true_eq_false, Bool.not_true, Bool.not_false, decide_true, decide_false, Nat.reduceEqDiff, Nat.zero_lt_succ, List.replicate_succ, List.replicate_zero, Nat.reduceSub, Nat.reduceAdd, Nat.reduceLT, Nat.reduceLeDiff, Nat.zero_le, id, lstK_ok, tupK_ok]
  refine (number_ok (n := 15) D1 hv).mono ?_
  rintro w st2 ⟨a, rfl, a0, a1, D2⟩
  try simp -implicitDefEqProofs only [wp_ok, wp_bind, wp_noexc, wp_seq, wp_skip, wp_brk, wp_cnt, wp_retN, wp_ret, wp_set, wp_par, wp_unp, wp_sto, wp_xpr, wp_ite, wp_for, wp_whl, wp_tru, sk_rt, sk_bk, sk_ct, lk_nx, lk_ct, lk_bk, lk_rt, ik_true, ik_false, ev, evs, evo, evi, evc, evd, keyK_str, keyK_int, retK_rt, retK_nx, iteK_true, iteK_false, truK0_bl, truK0_int, truK0_tup, truK0_frl, truK0_non, scK_bl, wp_callK, cmpO, cmp_eq, cmp_ne, cmp_lt, cmp_le, cmp_gt, cmp_ge, cmp_isN, cmp_notN, eqD_int, eqD_str, bin_int, binI_add, binI_sub, of_some, negK_int, setK_nm, setK_tp, setsK, asg, asgs, tgsOf, intK, rngK, srcK, subO, startE, newR, new, bi_int, bi_abs, bi_len_tup, bi_len_frl,  Option.map_some, Option.map_none, Option.bind_some, List.map_cons, List.map_nil, List.length_cons, List.length_nil, List.length_append, List.length_map, List.length_set, List.cons_append, List.nil_append, List.getElem?_cons_zero, List.getElem?_cons_succ, List.set_cons_zero, List.set_cons_succ, if_true, if_false, Bool.false_eq_true, Bool.true_eq_false, Bool.not_true, Bool.not_false, decide_true, decide_false, Nat.reduceEqDiff, Nat.zero_lt_succ, List.replicate_succ, List.replicate_zero, Nat.reduceSub, Nat.reduceAdd, Nat.reduceLT, Nat.reduceLeDiff, Nat.zero_le, id, lstK_ok, tupK_ok]
  refine (number_ok (n := 15) D2 hv).mono ?_
  rintro w st3 ⟨b, rfl, b0, b1, D3⟩
  have hab : Ab v a b := ⟨hv, a0, a1, b0, b1⟩
  have hP := p2 (v + 1)
  have h64 := p64 hv
  try simp -implicitDefEqProofs only [wp_ok, wp_bind, wp_noexc, wp_seq, wp_skip, wp_brk, wp_cnt, wp_retN, wp_ret, wp_set, wp_par, wp_unp, wp_sto, wp_xpr, wp_ite, wp_for, wp_whl, wp_tru, sk_rt, sk_bk, sk_ct, lk_nx, lk_ct, lk_bk, lk_rt, ik_true, ik_false, ev, evs, evo, evi, evc, evd, keyK_str, keyK_int, retK_rt, retK_nx, iteK_true, iteK_false, truK0_bl, truK0_int, truK0_tup, truK0_frl, truK0_non, scK_bl, wp_callK, cmpO, cmp_eq, cmp_ne, cmp_lt, cmp_le, cmp_gt, cmp_ge, cmp_isN, cmp_notN, eqD_int, eqD_str, bin_int, binI_add, binI_sub, of_some, negK_int, setK_nm, setK_tp, setsK, asg, asgs, tgsOf, intK, rngK, srcK, subO, startE, newR, new, bi_int, bi_abs, bi_len_tup, bi_len_frl,  Option.map_some, Option.map_none, Option.bind_some, List.map_cons, List.map_nil, List.length_cons, List.length_nil, List.length_append, List.length_map, List.length_set, List.cons_append, List.nil_append, List.getElem?_cons_zero, List.getElem?_cons_succ, List.set_cons_zero, List.set_cons_succ, if_true, if_false, Bool.false_eq_true, Bool.true_eq_false, Bool.not_true, Bool.not_false, decide_true, decide_false, Nat.reduceEqDiff, Nat.zero_lt_succ, List.replicate_succ, List.replicate_zero, Nat.reduceSub, Nat.reduceAdd, Nat.reduceLT, Nat.reduceLeDiff, Nat.zero_le, id, lstK_ok, tupK_ok]
  rw [sk_nx]
  try simp -implicitDefEqProofs only [wp_ok, wp_bind, wp_noexc, wp_seq, wp_skip, wp_brk, wp_cnt, wp_retN, wp_ret, wp_set, wp_par, wp_unp, wp_sto, wp_xpr, wp_ite, wp_for, wp_whl, wp_tru, sk_rt, sk_bk, sk_ct, lk_nx, lk_ct, lk_bk, lk_rt, ik_true, ik_false, ev, evs, evo, evi, evc, evd, keyK_str, keyK_int, retK_rt, retK_nx, iteK_true, iteK_false, truK0_bl, truK0_int, truK0_tup, truK0_frl, truK0_non, scK_bl, wp_callK, cmpO, cmp_eq, cmp_ne, cmp_lt, cmp_le, cmp_gt, cmp_ge, cmp_isN, cmp_notN, eqD_int, eqD_str, bin_int, binI_add, binI_sub, of_some, negK_int, setK_nm, setK_tp, setsK, asg, asgs, tgsOf, intK, rngK, srcK, subO, startE, newR, new, bi_int, bi_abs, bi_len_tup, bi_len_frl,  Option.map_some, Option.map_none, Option.bind_some, List.map_cons, List.map_nil, List.length_cons, List.length_nil, List.length_append, List.length_map, List.length_set, List.cons_append, List.nil_append, List.getElem?_cons_zero, List.getElem?_cons_succ, List.set_cons_zero, List.set_cons_succ, if_true, if_false, Bool.false_eq_true, Bool.true_eq_false, Bool.not_true, Bool.not_false, decide_true, decide_false, Nat.reduceEqDiff, Nat.zero_lt_succ, List.replicate_succ, List.replicate_zero, Nat.reduceSub, Nat.reduceAdd, Nat.reduceLT, Nat.reduceLeDiff, Nat.zero_le, id, lstK_ok, tupK_ok, k4]
  refine (ow_int (n := 15) (show v + 1 ≤ 64 by omega)).mono ?_
  rintro w st4 ⟨rfl, rfl⟩
  rw [decide_eq_true a0, decide_eq_true a1]
  try simp -implicitDefEqProofs only [wp_ok, wp_bind, wp_noexc, wp_seq, wp_skip, wp_brk, wp_cnt, wp_retN, wp_ret, wp_set, wp_par, wp_unp, wp_sto, wp_xpr, wp_ite, wp_for, wp_whl, wp_tru, sk_rt, sk_bk, sk_ct, lk_nx, lk_ct, lk_bk, lk_rt, ik_true, ik_false, ev, evs, evo, evi, evc, evd, keyK_str, keyK_int, retK_rt, retK_nx, iteK_true, iteK_false, truK0_bl, truK0_int, truK0_tup, truK0_frl, truK0_non, scK_bl, wp_callK, cmpO, cmp_eq, cmp_ne, cmp_lt, cmp_le, cmp_gt, cmp_ge, cmp_isN, cmp_notN, eqD_int, eqD_str, bin_int, binI_add, binI_sub, of_some, negK_int, setK_nm, setK_tp, setsK, asg, asgs, tgsOf, intK, rngK, srcK, subO, startE, newR, new, bi_int, bi_abs, bi_len_tup, bi_len_frl,  Option.map_some, Option.map_none, Option.bind_some, List.map_cons, List.map_nil, List.length_cons, List.length_nil, List.length_append, List.length_map, List.length_set, List.cons_append, List.nil_append, List.getElem?_cons_zero, List.getElem?_cons_succ, List.set_cons_zero, List.set_cons_succ, if_true, if_false, Bool.false_eq_true, Bool.true_eq_false, Bool.not_true, Bool.not_false, decide_true, decide_false, Nat.reduceEqDiff, Nat.zero_lt_succ, List.replicate_succ, List.replicate_zero, Nat.reduceSub, Nat.reduceAdd, Nat.reduceLT, Nat.reduceLeDiff, Nat.zero_le, id, lstK_ok, tupK_ok, Bool.and_self, bl_ne, k3]
  refine (wid_int (n := 17)).mono ?_
  rintro w st4 ⟨rfl, rfl⟩
  rw [h5]
  try simp -implicitDefEqProofs only [wp_ok, wp_bind, wp_noexc, wp_seq, wp_skip, wp_brk, wp_cnt, wp_retN, wp_ret, wp_set, wp_par, wp_unp, wp_sto, wp_xpr, wp_ite, wp_for, wp_whl, wp_tru, sk_rt, sk_bk, sk_ct, lk_nx, lk_ct, lk_bk, lk_rt, ik_true, ik_false, ev, evs, evo, evi, evc, evd, keyK_str, keyK_int, retK_rt, retK_nx, iteK_true, iteK_false, truK0_bl, truK0_int, truK0_tup, truK0_frl, truK0_non, scK_bl, wp_callK, cmpO, cmp_eq, cmp_ne, cmp_lt, cmp_le, cmp_gt, cmp_ge, cmp_isN, cmp_notN, eqD_int, eqD_str, bin_int, binI_add, binI_sub, of_some, negK_int, setK_nm, setK_tp, setsK, asg, asgs, tgsOf, intK, rngK, srcK, subO, startE, newR, new, bi_int, bi_abs, bi_len_tup, bi_len_frl,  Option.map_some, Option.map_none, Option.bind_some, List.map_cons, List.map_nil, List.length_cons, List.length_nil, List.length_append, List.length_map, List.length_set, List.cons_append, List.nil_append, List.getElem?_cons_zero, List.getElem?_cons_succ, List.set_cons_zero, List.set_cons_succ, if_true, if_false, Bool.false_eq_true, Bool.true_eq_false, Bool.not_true, Bool.not_false, decide_true, decide_false, Nat.reduceEqDiff, Nat.zero_lt_succ, List.replicate_succ, List.replicate_zero, Nat.reduceSub, Nat.reduceAdd, Nat.reduceLT, Nat.reduceLeDiff, Nat.zero_le, id, lstK_ok, tupK_ok, bl_ne]
  rw [sk_nx]
  try simp -implicitDefEqProofs only [wp_ok, wp_bind, wp_noexc, wp_seq, wp_skip, wp_brk, wp_cnt, wp_retN, wp_ret, wp_set, wp_par, wp_unp, wp_sto, wp_xpr, wp_ite, wp_for, wp_whl, wp_tru, sk_rt, sk_bk, sk_ct, lk_nx, lk_ct, lk_bk, lk_rt, ik_true, ik_false, ev, evs, evo, evi, evc, evd, keyK_str, keyK_int, retK_rt, retK_nx, iteK_true, iteK_false, truK0_bl, truK0_int, truK0_tup, truK0_frl, truK0_non, scK_bl, wp_callK, cmpO, cmp_eq, cmp_ne, cmp_lt, cmp_le, cmp_gt, cmp_ge, cmp_isN, cmp_notN, eqD_int, eqD_str, bin_int, binI_add, binI_sub, of_some, negK_int, setK_nm, setK_tp, setsK, asg, asgs, tgsOf, intK, rngK, srcK, subO, startE, newR, new, bi_int, bi_abs, bi_len_tup, bi_len_frl,  Option.map_some, Option.map_none, Option.bind_some, List.map_cons, List.map_nil, List.length_cons, List.length_nil, List.length_append, List.length_map, List.length_set, List.cons_append, List.nil_append, List.getElem?_cons_zero, List.getElem?_cons_succ, List.set_cons_zero, List.set_cons_succ, if_true, if_false, Bool.false_eq_true, Bool.true_eq_false, Bool.not_true, Bool.not_false, decide_true, decide_false, Nat.reduceEqDiff, Nat.zero_lt_succ, List.replicate_succ, List.replicate_zero, Nat.reduceSub, Nat.reduceAdd, Nat.reduceLT, Nat.reduceLeDiff, Nat.zero_le, id, lstK_ok, tupK_ok, k6]
  refine (signed_ok (n := 18) hv).mono ?_
  rintro w st4 ⟨rfl, rfl⟩
  have hsb := sgn_bd a0 a1
  have hv64 : (2 : Int) ^ v ≤ 2 ^ 64 := p2_le (by omega)
  have hsr : ∀ st : Sto, bi .repr [.int (sgn a (v + 1))] st = some (.str (PyData.int (sgn a (v + 1))).shown, st) := fun st => bi_repr_int (by omega) (by omega)
  try simp -implicitDefEqProofs only [wp_ok, wp_bind, wp_noexc, wp_seq, wp_skip, wp_brk, wp_cnt, wp_retN, wp_ret, wp_set, wp_par, wp_unp, wp_sto, wp_xpr, wp_ite, wp_for, wp_whl, wp_tru, sk_rt, sk_bk, sk_ct, lk_nx, lk_ct, lk_bk, lk_rt, ik_true, ik_false, ev, evs, evo, evi, evc, evd, keyK_str, keyK_int, retK_rt, retK_nx, iteK_true, iteK_false, truK0_bl, truK0_int, truK0_tup, truK0_frl, truK0_non, scK_bl, wp_callK, cmpO, cmp_eq, cmp_ne, cmp_lt, cmp_le, cmp_gt, cmp_ge, cmp_isN, cmp_notN, eqD_int, eqD_str, bin_int, binI_add, binI_sub, of_some, negK_int, setK_nm, setK_tp, setsK, asg, asgs, tgsOf, intK, rngK, srcK, subO, startE, newR, new, bi_int, bi_abs, bi_len_tup, bi_len_frl,  Option.map_some, Option.map_none, Option.bind_some, List.map_cons, List.map_nil, List.length_cons, List.length_nil, List.length_append, List.length_map, List.length_set, List.cons_append, List.nil_append, List.getElem?_cons_zero, List.getElem?_cons_succ, List.set_cons_zero, List.set_cons_succ, if_true, if_false, Bool.false_eq_true, Bool.true_eq_false, Bool.not_true, Bool.not_false, decide_true, decide_false, Nat.reduceEqDiff, Nat.zero_lt_succ, List.replicate_succ, List.replicate_zero, Nat.reduceSub, Nat.reduceAdd, Nat.reduceLT, Nat.reduceLeDiff, Nat.zero_le, id, lstK_ok, tupK_ok, hsr]
  refine (digits_ok (n := 17) (show v + 1 ≤ 64 by omega)).mono ?_
  rintro w st5 ⟨p, rfl, e5, l5, g5⟩
  rw [Int.emod_eq_of_lt a0 a1] at g5
  try simp -implicitDefEqProofs only [wp_ok, wp_bind, wp_noexc, wp_seq, wp_skip, wp_brk, wp_cnt, wp_retN, wp_ret, wp_set, wp_par, wp_unp, wp_sto, wp_xpr, wp_ite, wp_for, wp_whl, wp_tru, sk_rt, sk_bk, sk_ct, lk_nx, lk_ct, lk_bk, lk_rt, ik_true, ik_false, ev, evs, evo, evi, evc, evd, keyK_str, keyK_int, retK_rt, retK_nx, iteK_true, iteK_false, truK0_bl, truK0_int, truK0_tup, truK0_frl, truK0_non, scK_bl, wp_callK, cmpO, cmp_eq, cmp_ne, cmp_lt, cmp_le, cmp_gt, cmp_ge, cmp_isN, cmp_notN, eqD_int, eqD_str, bin_int, binI_add, binI_sub, of_some, negK_int, setK_nm, setK_tp, setsK, asg, asgs, tgsOf, intK, rngK, srcK, subO, startE, newR, new, bi_int, bi_abs, bi_len_tup, bi_len_frl,  Option.map_some, Option.map_none, Option.bind_some, List.map_cons, List.map_nil, List.length_cons, List.length_nil, List.length_append, List.length_map, List.length_set, List.cons_append, List.nil_append, List.getElem?_cons_zero, List.getElem?_cons_succ, List.set_cons_zero, List.set_cons_succ, if_true, if_false, Bool.false_eq_true, Bool.true_eq_false, Bool.not_true, Bool.not_false, decide_true, decide_false, Nat.reduceEqDiff, Nat.zero_lt_succ, List.replicate_succ, List.replicate_zero, Nat.reduceSub, Nat.reduceAdd, Nat.reduceLT, Nat.reduceLeDiff, Nat.zero_le, id, lstK_ok, tupK_ok]
  refine (read_ok (n := 18) hv a0 a1 g5).mono ?_
  rintro w st6 ⟨rfl, rfl⟩
  try simp -implicitDefEqProofs only [wp_ok, wp_bind, wp_noexc, wp_seq, wp_skip, wp_brk, wp_cnt, wp_retN, wp_ret, wp_set, wp_par, wp_unp, wp_sto, wp_xpr, wp_ite, wp_for, wp_whl, wp_tru, sk_rt, sk_bk, sk_ct, lk_nx, lk_ct, lk_bk, lk_rt, ik_true, ik_false, ev, evs, evo, evi, evc, evd, keyK_str, keyK_int, retK_rt, retK_nx, iteK_true, iteK_false, truK0_bl, truK0_int, truK0_tup, truK0_frl, truK0_non, scK_bl, wp_callK, cmpO, cmp_eq, cmp_ne, cmp_lt, cmp_le, cmp_gt, cmp_ge, cmp_isN, cmp_notN, eqD_int, eqD_str, bin_int, binI_add, binI_sub, of_some, negK_int, setK_nm, setK_tp, setsK, asg, asgs, tgsOf, intK, rngK, srcK, subO, startE, newR, new, bi_int, bi_abs, bi_len_tup, bi_len_frl,  Option.map_some, Option.map_none, Option.bind_some, List.map_cons, List.map_nil, List.length_cons, List.length_nil, List.length_append, List.length_map, List.length_set, List.cons_append, List.nil_append, List.getElem?_cons_zero, List.getElem?_cons_succ, List.set_cons_zero, List.set_cons_succ, if_true, if_false, Bool.false_eq_true, Bool.true_eq_false, Bool.not_true, Bool.not_false, decide_true, decide_false, Nat.reduceEqDiff, Nat.zero_lt_succ, List.replicate_succ, List.replicate_zero, Nat.reduceSub, Nat.reduceAdd, Nat.reduceLT, Nat.reduceLeDiff, Nat.zero_le, id, lstK_ok, tupK_ok, hsr, beq_str, Bool.not_true]
  rw [sk_nx]
  have D6 := D3.ext e5
  have src : ∀ st : Sto, srcOf st (.tup (names.map .str)) = some (.fix (names.map .str)) := fun _ => rfl
  try simp -implicitDefEqProofs only [wp_ok, wp_bind, wp_noexc, wp_seq, wp_skip, wp_brk, wp_cnt, wp_retN, wp_ret, wp_set, wp_par, wp_unp, wp_sto, wp_xpr, wp_ite, wp_for, wp_whl, wp_tru, sk_rt, sk_bk, sk_ct, lk_nx, lk_ct, lk_bk, lk_rt, ik_true, ik_false, ev, evs, evo, evi, evc, evd, keyK_str, keyK_int, retK_rt, retK_nx, iteK_true, iteK_false, truK0_bl, truK0_int, truK0_tup, truK0_frl, truK0_non, scK_bl, wp_callK, cmpO, cmp_eq, cmp_ne, cmp_lt, cmp_le, cmp_gt, cmp_ge, cmp_isN, cmp_notN, eqD_int, eqD_str, bin_int, binI_add, binI_sub, of_some, negK_int, setK_nm, setK_tp, setsK, asg, asgs, tgsOf, intK, rngK, srcK, subO, startE, newR, new, bi_int, bi_abs, bi_len_tup, bi_len_frl,  Option.map_some, Option.map_none, Option.bind_some, List.map_cons, List.map_nil, List.length_cons, List.length_nil, List.length_append, List.length_map, List.length_set, List.cons_append, List.nil_append, List.getElem?_cons_zero, List.getElem?_cons_succ, List.set_cons_zero, List.set_cons_succ, if_true, if_false, Bool.false_eq_true, Bool.true_eq_false, Bool.not_true, Bool.not_false, decide_true, decide_false, Nat.reduceEqDiff, Nat.zero_lt_succ, List.replicate_succ, List.replicate_zero, Nat.reduceSub, Nat.reduceAdd, Nat.reduceLT, Nat.reduceLeDiff, Nat.zero_le, id, lstK_ok, tupK_ok, src]
  refine wp_forL (names.map .str) (fun k en st' => Deal st' d c ∧ ∃ x7 : Option W, en = [some (.frl (ns.map .int)), some (.ref d), some (.tup (names.map .str)), x3, some (.int ((v + 1 : Nat) : Int)), some (.int a), some (.int b), x7, x8, x9]) (fun _ _ _ _ => rfl) ?_ ?_ FU 0 _ _ (Nat.zero_le _) (by show 13 < 0 + FU; decide) ⟨D6, _, rfl⟩
  · rintro k w en st7 hw ⟨D7, x7, rfl⟩
    have hw := List.mem_of_getElem? hw
    simp only [names, List.map_cons, List.map_nil, List.mem_cons, List.mem_nil_iff, or_false] at hw
    rcases hw with rfl | rfl | rfl | rfl | rfl | rfl | rfl | rfl | rfl | rfl | rfl | rfl | rfl
    · exact ⟨_, rfl, op_step (told_add (n := 16) hab) (due_add (n := 15) hab) (rp_add hab) fun st8 e8 => ⟨D7.ext e8, _, rfl⟩⟩
    · exact ⟨_, rfl, op_step (told_sub (n := 16) hab) (due_sub (n := 15) hab) (rp_sub hab) fun st8 e8 => ⟨D7.ext e8, _, rfl⟩⟩
    · exact ⟨_, rfl, op_step (told_mul (n := 16) hab) (due_mul (n := 15) hab) (rp_mul hab) fun st8 e8 => ⟨D7.ext e8, _, rfl⟩⟩
    · exact ⟨_, rfl, op_step (told_udiv (n := 16) hab) (due_udiv (n := 15) hab) (rp_udiv hab) fun st8 e8 => ⟨D7.ext e8, _, rfl⟩⟩
    · exact ⟨_, rfl, op_step (told_sdiv (n := 16) hab) (due_sdiv (n := 15) hab) (rp_sdiv hab) fun st8 e8 => ⟨D7.ext e8, _, rfl⟩⟩
    · exact ⟨_, rfl, op_step (told_urem (n := 16) hab) (due_urem (n := 15) hab) (rp_urem hab) fun st8 e8 => ⟨D7.ext e8, _, rfl⟩⟩
    · exact ⟨_, rfl, op_step (told_srem (n := 16) hab) (due_srem (n := 15) hab) (rp_srem hab) fun st8 e8 => ⟨D7.ext e8, _, rfl⟩⟩
    · exact ⟨_, rfl, op_step (told_and (n := 16) hab) (due_and (n := 15) hab) (rp_and hab) fun st8 e8 => ⟨D7.ext e8, _, rfl⟩⟩
    · exact ⟨_, rfl, op_step (told_or (n := 16) hab) (due_or (n := 15) hab) (rp_or hab) fun st8 e8 => ⟨D7.ext e8, _, rfl⟩⟩
    · exact ⟨_, rfl, op_step (told_xor (n := 16) hab) (due_xor (n := 15) hab) (rp_xor hab) fun st8 e8 => ⟨D7.ext e8, _, rfl⟩⟩
    · exact ⟨_, rfl, op_step (told_shl (n := 16) hab) (due_shl (n := 15) hab) (rp_shl hab) fun st8 e8 => ⟨D7.ext e8, _, rfl⟩⟩
    · exact ⟨_, rfl, op_step (told_lshr (n := 16) hab) (due_lshr (n := 15) hab) (rp_lshr hab) fun st8 e8 => ⟨D7.ext e8, _, rfl⟩⟩
    · exact ⟨_, rfl, op_step (told_ashr (n := 16) hab) (due_ashr (n := 15) hab) (rp_ashr hab) fun st8 e8 => ⟨D7.ext e8, _, rfl⟩⟩
  rintro en st7 ⟨D7, x7, rfl⟩
  rw [sk_nx]
  -- great ones
  have mab : binI .mul a b = some (a * b) := mulS ⟨by omega, by omega⟩
  have p39 : binI .pow 10 39 = some (10 ^ 39) := rfl
  have p20 : binI .pow 10 20 = some (10 ^ 20) := rfl
  have p30 : binI .pow 10 30 = some (10 ^ 30) := rfl
  try simp -implicitDefEqProofs only [wp_ok, wp_bind, wp_noexc, wp_seq, wp_skip, wp_brk, wp_cnt, wp_retN, wp_ret, wp_set, wp_par, wp_unp, wp_sto, wp_xpr, wp_ite, wp_for, wp_whl, wp_tru, sk_rt, sk_bk, sk_ct, lk_nx, lk_ct, lk_bk, lk_rt, ik_true, ik_false, ev, evs, evo, evi, evc, evd, keyK_str, keyK_int, retK_rt, retK_nx, iteK_true, iteK_false, truK0_bl, truK0_int, truK0_tup, truK0_frl, truK0_non, scK_bl, wp_callK, cmpO, cmp_eq, cmp_ne, cmp_lt, cmp_le, cmp_gt, cmp_ge, cmp_isN, cmp_notN, eqD_int, eqD_str, bin_int, binI_add, binI_sub, of_some, negK_int, setK_nm, setK_tp, setsK, asg, asgs, tgsOf, intK, rngK, srcK, subO, startE, newR, new, bi_int, bi_abs, bi_len_tup, bi_len_frl,  Option.map_some, Option.map_none, Option.bind_some, List.map_cons, List.map_nil, List.length_cons, List.length_nil, List.length_append, List.length_map, List.length_set, List.cons_append, List.nil_append, List.getElem?_cons_zero, List.getElem?_cons_succ, List.set_cons_zero, List.set_cons_succ, if_true, if_false, Bool.false_eq_true, Bool.true_eq_false, Bool.not_true, Bool.not_false, decide_true, decide_false, Nat.reduceEqDiff, Nat.zero_lt_succ, List.replicate_succ, List.replicate_zero, Nat.reduceSub, Nat.reduceAdd, Nat.reduceLT, Nat.reduceLeDiff, Nat.zero_le, id, lstK_ok, tupK_ok, mab, p39, p20]
  refine Wp.mono (any_ok (n := 18) (i := 12) rfl D7 (by decide) (by decide)) ?_
  rintro w st8 ⟨r1, rfl, -, -, D8, -⟩
  try simp -implicitDefEqProofs only [wp_ok, wp_bind, wp_noexc, wp_seq, wp_skip, wp_brk, wp_cnt, wp_retN, wp_ret, wp_set, wp_par, wp_unp, wp_sto, wp_xpr, wp_ite, wp_for, wp_whl, wp_tru, sk_rt, sk_bk, sk_ct, lk_nx, lk_ct, lk_bk, lk_rt, ik_true, ik_false, ev, evs, evo, evi, evc, evd, keyK_str, keyK_int, retK_rt, retK_nx, iteK_true, iteK_false, truK0_bl, truK0_int, truK0_tup, truK0_frl, truK0_non, scK_bl, wp_callK, cmpO, cmp_eq, cmp_ne, cmp_lt, cmp_le, cmp_gt, cmp_ge, cmp_isN, cmp_notN, eqD_int, eqD_str, bin_int, binI_add, binI_sub, of_some, negK_int, setK_nm, setK_tp, setsK, asg, asgs, tgsOf, intK, rngK, srcK, subO, startE, newR, new, bi_int, bi_abs, bi_len_tup, bi_len_frl,  Option.map_some, Option.map_none, Option.bind_some, List.map_cons, List.map_nil, List.length_cons, List.length_nil, List.length_append, List.length_map, List.length_set, List.cons_append, List.nil_append, List.getElem?_cons_zero, List.getElem?_cons_succ, List.set_cons_zero, List.set_cons_succ, if_true, if_false, Bool.false_eq_true, Bool.true_eq_false, Bool.not_true, Bool.not_false, decide_true, decide_false, Nat.reduceEqDiff, Nat.zero_lt_succ, List.replicate_succ, List.replicate_zero, Nat.reduceSub, Nat.reduceAdd, Nat.reduceLT, Nat.reduceLeDiff, Nat.zero_le, id, lstK_ok, tupK_ok, p39, p20]
  refine Wp.mono (any_ok (n := 18) (i := 12) rfl D8 (by decide) (by decide)) ?_
  rintro w st9 ⟨r2, rfl, -, -, D9, -⟩
  try simp -implicitDefEqProofs only [wp_ok, wp_bind, wp_noexc, wp_seq, wp_skip, wp_brk, wp_cnt, wp_retN, wp_ret, wp_set, wp_par, wp_unp, wp_sto, wp_xpr, wp_ite, wp_for, wp_whl, wp_tru, sk_rt, sk_bk, sk_ct, lk_nx, lk_ct, lk_bk, lk_rt, ik_true, ik_false, ev, evs, evo, evi, evc, evd, keyK_str, keyK_int, retK_rt, retK_nx, iteK_true, iteK_false, truK0_bl, truK0_int, truK0_tup, truK0_frl, truK0_non, scK_bl, wp_callK, cmpO, cmp_eq, cmp_ne, cmp_lt, cmp_le, cmp_gt, cmp_ge, cmp_isN, cmp_notN, eqD_int, eqD_str, bin_int, binI_add, binI_sub, of_some, negK_int, setK_nm, setK_tp, setsK, asg, asgs, tgsOf, intK, rngK, srcK, subO, startE, newR, new, bi_int, bi_abs, bi_len_tup, bi_len_frl,  Option.map_some, Option.map_none, Option.bind_some, List.map_cons, List.map_nil, List.length_cons, List.length_nil, List.length_append, List.length_map, List.length_set, List.cons_append, List.nil_append, List.getElem?_cons_zero, List.getElem?_cons_succ, List.set_cons_zero, List.set_cons_succ, if_true, if_false, Bool.false_eq_true, Bool.true_eq_false, Bool.not_true, Bool.not_false, decide_true, decide_false, Nat.reduceEqDiff, Nat.zero_lt_succ, List.replicate_succ, List.replicate_zero, Nat.reduceSub, Nat.reduceAdd, Nat.reduceLT, Nat.reduceLeDiff, Nat.zero_le, id, lstK_ok, tupK_ok]
  refine (power_ok (n := 18) (show v + 1 ≤ 64 by omega)).mono ?_
  rintro w st10 ⟨rfl, rfl⟩
  try simp -implicitDefEqProofs only [wp_ok, wp_bind, wp_noexc, wp_seq, wp_skip, wp_brk, wp_cnt, wp_retN, wp_ret, wp_set, wp_par, wp_unp, wp_sto, wp_xpr, wp_ite, wp_for, wp_whl, wp_tru, sk_rt, sk_bk, sk_ct, lk_nx, lk_ct, lk_bk, lk_rt, ik_true, ik_false, ev, evs, evo, evi, evc, evd, keyK_str, keyK_int, retK_rt, retK_nx, iteK_true, iteK_false, truK0_bl, truK0_int, truK0_tup, truK0_frl, truK0_non, scK_bl, wp_callK, cmpO, cmp_eq, cmp_ne, cmp_lt, cmp_le, cmp_gt, cmp_ge, cmp_isN, cmp_notN, eqD_int, eqD_str, bin_int, binI_add, binI_sub, of_some, negK_int, setK_nm, setK_tp, setsK, asg, asgs, tgsOf, intK, rngK, srcK, subO, startE, newR, new, bi_int, bi_abs, bi_len_tup, bi_len_frl,  Option.map_some, Option.map_none, Option.bind_some, List.map_cons, List.map_nil, List.length_cons, List.length_nil, List.length_append, List.length_map, List.length_set, List.cons_append, List.nil_append, List.getElem?_cons_zero, List.getElem?_cons_succ, List.set_cons_zero, List.set_cons_succ, if_true, if_false, Bool.false_eq_true, Bool.true_eq_false, Bool.not_true, Bool.not_false, decide_true, decide_false, Nat.reduceEqDiff, Nat.zero_lt_succ, List.replicate_succ, List.replicate_zero, Nat.reduceSub, Nat.reduceAdd, Nat.reduceLT, Nat.reduceLeDiff, Nat.zero_le, id, lstK_ok, tupK_ok]
  refine Wp.mono (of_ok (n := 17) (f := 12) (i := 13) rfl rfl D9.new D9.own (by show 0 < 4; decide) (by show 4 < 1073741824; decide)) ?_
  rintro w st11 ⟨hw, D11, -⟩
  obtain ⟨z, rfl⟩ : ∃ z : Int, w = .int z := by
    simp only [List.mem_cons, List.mem_nil_iff, or_false] at hw
    rcases hw with rfl | rfl | rfl | rfl <;> exact ⟨_, rfl⟩
  clear hw
  try simp -implicitDefEqProofs only [wp_ok, wp_bind, wp_noexc, wp_seq, wp_skip, wp_brk, wp_cnt, wp_retN, wp_ret, wp_set, wp_par, wp_unp, wp_sto, wp_xpr, wp_ite, wp_for, wp_whl, wp_tru, sk_rt, sk_bk, sk_ct, lk_nx, lk_ct, lk_bk, lk_rt, ik_true, ik_false, ev, evs, evo, evi, evc, evd, keyK_str, keyK_int, retK_rt, retK_nx, iteK_true, iteK_false, truK0_bl, truK0_int, truK0_tup, truK0_frl, truK0_non, scK_bl, wp_callK, cmpO, cmp_eq, cmp_ne, cmp_lt, cmp_le, cmp_gt, cmp_ge, cmp_isN, cmp_notN, eqD_int, eqD_str, bin_int, binI_add, binI_sub, of_some, negK_int, setK_nm, setK_tp, setsK, asg, asgs, tgsOf, intK, rngK, srcK, subO, startE, newR, new, bi_int, bi_abs, bi_len_tup, bi_len_frl,  Option.map_some, Option.map_none, Option.bind_some, List.map_cons, List.map_nil, List.length_cons, List.length_nil, List.length_append, List.length_map, List.length_set, List.cons_append, List.nil_append, List.getElem?_cons_zero, List.getElem?_cons_succ, List.set_cons_zero, List.set_cons_succ, if_true, if_false, Bool.false_eq_true, Bool.true_eq_false, Bool.not_true, Bool.not_false, decide_true, decide_false, Nat.reduceEqDiff, Nat.zero_lt_succ, List.replicate_succ, List.replicate_zero, Nat.reduceSub, Nat.reduceAdd, Nat.reduceLT, Nat.reduceLeDiff, Nat.zero_le, id, lstK_ok, tupK_ok]
  rw [sk_nx]
  obtain ⟨sz, hsz⟩ := rp_mod hab z
  try simp -implicitDefEqProofs only [wp_ok, wp_bind, wp_noexc, wp_seq, wp_skip, wp_brk, wp_cnt, wp_retN, wp_ret, wp_set, wp_par, wp_unp, wp_sto, wp_xpr, wp_ite, wp_for, wp_whl, wp_tru, sk_rt, sk_bk, sk_ct, lk_nx, lk_ct, lk_bk, lk_rt, ik_true, ik_false, ev, evs, evo, evi, evc, evd, keyK_str, keyK_int, retK_rt, retK_nx, iteK_true, iteK_false, truK0_bl, truK0_int, truK0_tup, truK0_frl, truK0_non, scK_bl, wp_callK, cmpO, cmp_eq, cmp_ne, cmp_lt, cmp_le, cmp_gt, cmp_ge, cmp_isN, cmp_notN, eqD_int, eqD_str, bin_int, binI_add, binI_sub, of_some, negK_int, setK_nm, setK_tp, setsK, asg, asgs, tgsOf, intK, rngK, srcK, subO, startE, newR, new, bi_int, bi_abs, bi_len_tup, bi_len_frl,  Option.map_some, Option.map_none, Option.bind_some, List.map_cons, List.map_nil, List.length_cons, List.length_nil, List.length_append, List.length_map, List.length_set, List.cons_append, List.nil_append, List.getElem?_cons_zero, List.getElem?_cons_succ, List.set_cons_zero, List.set_cons_succ, if_true, if_false, Bool.false_eq_true, Bool.true_eq_false, Bool.not_true, Bool.not_false, decide_true, decide_false, Nat.reduceEqDiff, Nat.zero_lt_succ, List.replicate_succ, List.replicate_zero, Nat.reduceSub, Nat.reduceAdd, Nat.reduceLT, Nat.reduceLeDiff, Nat.zero_le, id, lstK_ok, tupK_ok, k5]
  refine (wrapped_ok (n := 18) (show v + 1 ≤ 64 by omega)).mono ?_
  rintro w st12 ⟨rfl, rfl⟩
  try simp -implicitDefEqProofs only [wp_ok, wp_bind, wp_noexc, wp_seq, wp_skip, wp_brk, wp_cnt, wp_retN, wp_ret, wp_set, wp_par, wp_unp, wp_sto, wp_xpr, wp_ite, wp_for, wp_whl, wp_tru, sk_rt, sk_bk, sk_ct, lk_nx, lk_ct, lk_bk, lk_rt, ik_true, ik_false, ev, evs, evo, evi, evc, evd, keyK_str, keyK_int, retK_rt, retK_nx, iteK_true, iteK_false, truK0_bl, truK0_int, truK0_tup, truK0_frl, truK0_non, scK_bl, wp_callK, cmpO, cmp_eq, cmp_ne, cmp_lt, cmp_le, cmp_gt, cmp_ge, cmp_isN, cmp_notN, eqD_int, eqD_str, bin_int, binI_add, binI_sub, of_some, negK_int, setK_nm, setK_tp, setsK, asg, asgs, tgsOf, intK, rngK, srcK, subO, startE, newR, new, bi_int, bi_abs, bi_len_tup, bi_len_frl,  Option.map_some, Option.map_none, Option.bind_some, List.map_cons, List.map_nil, List.length_cons, List.length_nil, List.length_append, List.length_map, List.length_set, List.cons_append, List.nil_append, List.getElem?_cons_zero, List.getElem?_cons_succ, List.set_cons_zero, List.set_cons_succ, if_true, if_false, Bool.false_eq_true, Bool.true_eq_false, Bool.not_true, Bool.not_false, decide_true, decide_false, Nat.reduceEqDiff, Nat.zero_lt_succ, List.replicate_succ, List.replicate_zero, Nat.reduceSub, Nat.reduceAdd, Nat.reduceLT, Nat.reduceLeDiff, Nat.zero_le, id, lstK_ok, tupK_ok, hsz]
  refine (db_ok (n := 17) (show v + 1 ≤ 64 by omega) fun st13 e13 => ?_)
  have D13 := D11.ext e13
  try simp -implicitDefEqProofs only [wp_ok, wp_bind, wp_noexc, wp_seq, wp_skip, wp_brk, wp_cnt, wp_retN, wp_ret, wp_set, wp_par, wp_unp, wp_sto, wp_xpr, wp_ite, wp_for, wp_whl, wp_tru, sk_rt, sk_bk, sk_ct, lk_nx, lk_ct, lk_bk, lk_rt, ik_true, ik_false, ev, evs, evo, evi, evc, evd, keyK_str, keyK_int, retK_rt, retK_nx, iteK_true, iteK_false, truK0_bl, truK0_int, truK0_tup, truK0_frl, truK0_non, scK_bl, wp_callK, cmpO, cmp_eq, cmp_ne, cmp_lt, cmp_le, cmp_gt, cmp_ge, cmp_isN, cmp_notN, eqD_int, eqD_str, bin_int, binI_add, binI_sub, of_some, negK_int, setK_nm, setK_tp, setsK, asg, asgs, tgsOf, intK, rngK, srcK, subO, startE, newR, new, bi_int, bi_abs, bi_len_tup, bi_len_frl,  Option.map_some, Option.map_none, Option.bind_some, List.map_cons, List.map_nil, List.length_cons, List.length_nil, List.length_append, List.length_map, List.length_set, List.cons_append, List.nil_append, List.getElem?_cons_zero, List.getElem?_cons_succ, List.set_cons_zero, List.set_cons_succ, if_true, if_false, Bool.false_eq_true, Bool.true_eq_false, Bool.not_true, Bool.not_false, decide_true, decide_false, Nat.reduceEqDiff, Nat.zero_lt_succ, List.replicate_succ, List.replicate_zero, Nat.reduceSub, Nat.reduceAdd, Nat.reduceLT, Nat.reduceLeDiff, Nat.zero_le, id, lstK_ok, tupK_ok, hsz, beq_str, Bool.not_true]
  rw [sk_nx]
  -- odd ones
  try simp -implicitDefEqProofs only [wp_ok, wp_bind, wp_noexc, wp_seq, wp_skip, wp_brk, wp_cnt, wp_retN, wp_ret, wp_set, wp_par, wp_unp, wp_sto, wp_xpr, wp_ite, wp_for, wp_whl, wp_tru, sk_rt, sk_bk, sk_ct, lk_nx, lk_ct, lk_bk, lk_rt, ik_true, ik_false, ev, evs, evo, evi, evc, evd, keyK_str, keyK_int, retK_rt, retK_nx, iteK_true, iteK_false, truK0_bl, truK0_int, truK0_tup, truK0_frl, truK0_non, scK_bl, wp_callK, cmpO, cmp_eq, cmp_ne, cmp_lt, cmp_le, cmp_gt, cmp_ge, cmp_isN, cmp_notN, eqD_int, eqD_str, bin_int, binI_add, binI_sub, of_some, negK_int, setK_nm, setK_tp, setsK, asg, asgs, tgsOf, intK, rngK, srcK, subO, startE, newR, new, bi_int, bi_abs, bi_len_tup, bi_len_frl,  Option.map_some, Option.map_none, Option.bind_some, List.map_cons, List.map_nil, List.length_cons, List.length_nil, List.length_append, List.length_map, List.length_set, List.cons_append, List.nil_append, List.getElem?_cons_zero, List.getElem?_cons_succ, List.set_cons_zero, List.set_cons_succ, if_true, if_false, Bool.false_eq_true, Bool.true_eq_false, Bool.not_true, Bool.not_false, decide_true, decide_false, Nat.reduceEqDiff, Nat.zero_lt_succ, List.replicate_succ, List.replicate_zero, Nat.reduceSub, Nat.reduceAdd, Nat.reduceLT, Nat.reduceLeDiff, Nat.zero_le, id, lstK_ok, tupK_ok]
  refine (power_ok (n := 18) (show v + 1 ≤ 64 by omega)).mono ?_
  rintro w st14 ⟨rfl, rfl⟩
  try simp -implicitDefEqProofs only [wp_ok, wp_bind, wp_noexc, wp_seq, wp_skip, wp_brk, wp_cnt, wp_retN, wp_ret, wp_set, wp_par, wp_unp, wp_sto, wp_xpr, wp_ite, wp_for, wp_whl, wp_tru, sk_rt, sk_bk, sk_ct, lk_nx, lk_ct, lk_bk, lk_rt, ik_true, ik_false, ev, evs, evo, evi, evc, evd, keyK_str, keyK_int, retK_rt, retK_nx, iteK_true, iteK_false, truK0_bl, truK0_int, truK0_tup, truK0_frl, truK0_non, scK_bl, wp_callK, cmpO, cmp_eq, cmp_ne, cmp_lt, cmp_le, cmp_gt, cmp_ge, cmp_isN, cmp_notN, eqD_int, eqD_str, bin_int, binI_add, binI_sub, of_some, negK_int, setK_nm, setK_tp, setsK, asg, asgs, tgsOf, intK, rngK, srcK, subO, startE, newR, new, bi_int, bi_abs, bi_len_tup, bi_len_frl,  Option.map_some, Option.map_none, Option.bind_some, List.map_cons, List.map_nil, List.length_cons, List.length_nil, List.length_append, List.length_map, List.length_set, List.cons_append, List.nil_append, List.getElem?_cons_zero, List.getElem?_cons_succ, List.set_cons_zero, List.set_cons_succ, if_true, if_false, Bool.false_eq_true, Bool.true_eq_false, Bool.not_true, Bool.not_false, decide_true, decide_false, Nat.reduceEqDiff, Nat.zero_lt_succ, List.replicate_succ, List.replicate_zero, Nat.reduceSub, Nat.reduceAdd, Nat.reduceLT, Nat.reduceLeDiff, Nat.zero_le, id, lstK_ok, tupK_ok, p30]
  refine Wp.mono (of_ok (n := 17) (f := 12) (i := 13) rfl rfl D13.new D13.own (by show 0 < 8; decide) (by show 8 < 1073741824; decide)) ?_
  rintro w st15 ⟨hw, D15, -⟩
  try simp -implicitDefEqProofs only [wp_ok, wp_bind, wp_noexc, wp_seq, wp_skip, wp_brk, wp_cnt, wp_retN, wp_ret, wp_set, wp_par, wp_unp, wp_sto, wp_xpr, wp_ite, wp_for, wp_whl, wp_tru, sk_rt, sk_bk, sk_ct, lk_nx, lk_ct, lk_bk, lk_rt, ik_true, ik_false, ev, evs, evo, evi, evc, evd, keyK_str, keyK_int, retK_rt, retK_nx, iteK_true, iteK_false, truK0_bl, truK0_int, truK0_tup, truK0_frl, truK0_non, scK_bl, wp_callK, cmpO, cmp_eq, cmp_ne, cmp_lt, cmp_le, cmp_gt, cmp_ge, cmp_isN, cmp_notN, eqD_int, eqD_str, bin_int, binI_add, binI_sub, of_some, negK_int, setK_nm, setK_tp, setsK, asg, asgs, tgsOf, intK, rngK, srcK, subO, startE, newR, new, bi_int, bi_abs, bi_len_tup, bi_len_frl,  Option.map_some, Option.map_none, Option.bind_some, List.map_cons, List.map_nil, List.length_cons, List.length_nil, List.length_append, List.length_map, List.length_set, List.cons_append, List.nil_append, List.getElem?_cons_zero, List.getElem?_cons_succ, List.set_cons_zero, List.set_cons_succ, if_true, if_false, Bool.false_eq_true, Bool.true_eq_false, Bool.not_true, Bool.not_false, decide_true, decide_false, Nat.reduceEqDiff, Nat.zero_lt_succ, List.replicate_succ, List.replicate_zero, Nat.reduceSub, Nat.reduceAdd, Nat.reduceLT, Nat.reduceLeDiff, Nat.zero_le, id, lstK_ok, tupK_ok]
  rw [sk_nx]
  have odd : Wp (Ci.run tab 19 4 [w, .int ((v + 1 : Nat) : Int)] st15) fun r st' => r = .bl false ∧ st' = st15 := by
    simp only [List.mem_cons, List.mem_nil_iff, or_false] at hw
    rcases hw with rfl | rfl | rfl | rfl | rfl | rfl | rfl | rfl
    · refine (ow_int (n := 15) (show v + 1 ≤ 64 by omega)).mono ?_
      rintro r st' ⟨rfl, rfl⟩
      rw [decide_eq_false (by omega : ¬ (2 : Int) ^ (v + 1) < 2 ^ (v + 1)), Bool.and_false]
      exact ⟨rfl, rfl⟩
    · refine (ow_int (n := 15) (show v + 1 ≤ 64 by omega)).mono ?_
      rintro r st' ⟨rfl, rfl⟩
      exact ⟨rfl, rfl⟩
    · exact ow_no (n := 15) (by omega) trivial rfl
    · exact ow_no (n := 15) (by omega) trivial rfl
    · exact ow_no (n := 15) (by omega) trivial rfl
    · exact ow_no (n := 15) (by omega) trivial rfl
    · exact ow_no (n := 15) (by omega) trivial rfl
    · refine (ow_int (n := 15) (show v + 1 ≤ 64 by omega)).mono ?_
      rintro r st' ⟨rfl, rfl⟩
      rw [decide_eq_false (by have : (2 : Int) ^ 64 ≤ 10 ^ 30 := by decide
                              omega : ¬ (10 : Int) ^ 30 < 2 ^ (v + 1)), Bool.and_false]
      exact ⟨rfl, rfl⟩
  try simp -implicitDefEqProofs only [wp_ok, wp_bind, wp_noexc, wp_seq, wp_skip, wp_brk, wp_cnt, wp_retN, wp_ret, wp_set, wp_par, wp_unp, wp_sto, wp_xpr, wp_ite, wp_for, wp_whl, wp_tru, sk_rt, sk_bk, sk_ct, lk_nx, lk_ct, lk_bk, lk_rt, ik_true, ik_false, ev, evs, evo, evi, evc, evd, keyK_str, keyK_int, retK_rt, retK_nx, iteK_true, iteK_false, truK0_bl, truK0_int, truK0_tup, truK0_frl, truK0_non, scK_bl, wp_callK, cmpO, cmp_eq, cmp_ne, cmp_lt, cmp_le, cmp_gt, cmp_ge, cmp_isN, cmp_notN, eqD_int, eqD_str, bin_int, binI_add, binI_sub, of_some, negK_int, setK_nm, setK_tp, setsK, asg, asgs, tgsOf, intK, rngK, srcK, subO, startE, newR, new, bi_int, bi_abs, bi_len_tup, bi_len_frl,  Option.map_some, Option.map_none, Option.bind_some, List.map_cons, List.map_nil, List.length_cons, List.length_nil, List.length_append, List.length_map, List.length_set, List.cons_append, List.nil_append, List.getElem?_cons_zero, List.getElem?_cons_succ, List.set_cons_zero, List.set_cons_succ, if_true, if_false, Bool.false_eq_true, Bool.true_eq_false, Bool.not_true, Bool.not_false, decide_true, decide_false, Nat.reduceEqDiff, Nat.zero_lt_succ, List.replicate_succ, List.replicate_zero, Nat.reduceSub, Nat.reduceAdd, Nat.reduceLT, Nat.reduceLeDiff, Nat.zero_le, id, lstK_ok, tupK_ok]
  refine odd.mono ?_
  rintro r st16 ⟨rfl, rfl⟩
  try simp -implicitDefEqProofs only [wp_ok, wp_bind, wp_noexc, wp_seq, wp_skip, wp_brk, wp_cnt, wp_retN, wp_ret, wp_set, wp_par, wp_unp, wp_sto, wp_xpr, wp_ite, wp_for, wp_whl, wp_tru, sk_rt, sk_bk, sk_ct, lk_nx, lk_ct, lk_bk, lk_rt, ik_true, ik_false, ev, evs, evo, evi, evc, evd, keyK_str, keyK_int, retK_rt, retK_nx, iteK_true, iteK_false, truK0_bl, truK0_int, truK0_tup, truK0_frl, truK0_non, scK_bl, wp_callK, cmpO, cmp_eq, cmp_ne, cmp_lt, cmp_le, cmp_gt, cmp_ge, cmp_isN, cmp_notN, eqD_int, eqD_str, bin_int, binI_add, binI_sub, of_some, negK_int, setK_nm, setK_tp, setsK, asg, asgs, tgsOf, intK, rngK, srcK, subO, startE, newR, new, bi_int, bi_abs, bi_len_tup, bi_len_frl,  Option.map_some, Option.map_none, Option.bind_some, List.map_cons, List.map_nil, List.length_cons, List.length_nil, List.length_append, List.length_map, List.length_set, List.cons_append, List.nil_append, List.getElem?_cons_zero, List.getElem?_cons_succ, List.set_cons_zero, List.set_cons_succ, if_true, if_false, Bool.false_eq_true, Bool.true_eq_false, Bool.not_true, Bool.not_false, decide_true, decide_false, Nat.reduceEqDiff, Nat.zero_lt_succ, List.replicate_succ, List.replicate_zero, Nat.reduceSub, Nat.reduceAdd, Nat.reduceLT, Nat.reduceLeDiff, Nat.zero_le, id, lstK_ok, tupK_ok, bl_ne]
  refine Wp.mono (of_ok (n := 17) (f := 12) (i := 13) rfl rfl D15.new D15.own (by show 0 < 9; decide) (by show 9 < 1073741824; decide)) ?_
  rintro u st17 ⟨hu, D17, -⟩
  have odd2 : Wp (Ci.run tab 19 3 [u] st17) fun r st' => r = .bl false ∧ st' = st17 := by
    simp only [List.mem_cons, List.mem_nil_iff, or_false] at hu
    rcases hu with rfl | rfl | rfl | rfl | rfl | rfl | rfl | rfl | rfl
    · exact wid_int (n := 17)
    · exact wid_int (n := 17)
    · exact wid_int (n := 17)
    · exact wid_int (n := 17)
    · exact wid_int (n := 17)
    · exact wid_no (n := 17) trivial rfl
    · exact wid_no (n := 17) trivial rfl
    · exact wid_no (n := 17) trivial rfl
    · exact wid_no (n := 17) trivial rfl
  try simp -implicitDefEqProofs only [wp_ok, wp_bind, wp_noexc, wp_seq, wp_skip, wp_brk, wp_cnt, wp_retN, wp_ret, wp_set, wp_par, wp_unp, wp_sto, wp_xpr, wp_ite, wp_for, wp_whl, wp_tru, sk_rt, sk_bk, sk_ct, lk_nx, lk_ct, lk_bk, lk_rt, ik_true, ik_false, ev, evs, evo, evi, evc, evd, keyK_str, keyK_int, retK_rt, retK_nx, iteK_true, iteK_false, truK0_bl, truK0_int, truK0_tup, truK0_frl, truK0_non, scK_bl, wp_callK, cmpO, cmp_eq, cmp_ne, cmp_lt, cmp_le, cmp_gt, cmp_ge, cmp_isN, cmp_notN, eqD_int, eqD_str, bin_int, binI_add, binI_sub, of_some, negK_int, setK_nm, setK_tp, setsK, asg, asgs, tgsOf, intK, rngK, srcK, subO, startE, newR, new, bi_int, bi_abs, bi_len_tup, bi_len_frl,  Option.map_some, Option.map_none, Option.bind_some, List.map_cons, List.map_nil, List.length_cons, List.length_nil, List.length_append, List.length_map, List.length_set, List.cons_append, List.nil_append, List.getElem?_cons_zero, List.getElem?_cons_succ, List.set_cons_zero, List.set_cons_succ, if_true, if_false, Bool.false_eq_true, Bool.true_eq_false, Bool.not_true, Bool.not_false, decide_true, decide_false, Nat.reduceEqDiff, Nat.zero_lt_succ, List.replicate_succ, List.replicate_zero, Nat.reduceSub, Nat.reduceAdd, Nat.reduceLT, Nat.reduceLeDiff, Nat.zero_le, id, lstK_ok, tupK_ok]
  refine odd2.mono ?_
  rintro r st18 ⟨rfl, rfl⟩
  try simp -implicitDefEqProofs only [wp_ok, wp_bind, wp_noexc, wp_seq, wp_skip, wp_brk, wp_cnt, wp_retN, wp_ret, wp_set, wp_par, wp_unp, wp_sto, wp_xpr, wp_ite, wp_for, wp_whl, wp_tru, sk_rt, sk_bk, sk_ct, lk_nx, lk_ct, lk_bk, lk_rt, ik_true, ik_false, ev, evs, evo, evi, evc, evd, keyK_str, keyK_int, retK_rt, retK_nx, iteK_true, iteK_false, truK0_bl, truK0_int, truK0_tup, truK0_frl, truK0_non, scK_bl, wp_callK, cmpO, cmp_eq, cmp_ne, cmp_lt, cmp_le, cmp_gt, cmp_ge, cmp_isN, cmp_notN, eqD_int, eqD_str, bin_int, binI_add, binI_sub, of_some, negK_int, setK_nm, setK_tp, setsK, asg, asgs, tgsOf, intK, rngK, srcK, subO, startE, newR, new, bi_int, bi_abs, bi_len_tup, bi_len_frl,  Option.map_some, Option.map_none, Option.bind_some, List.map_cons, List.map_nil, List.length_cons, List.length_nil, List.length_append, List.length_map, List.length_set, List.cons_append, List.nil_append, List.getElem?_cons_zero, List.getElem?_cons_succ, List.set_cons_zero, List.set_cons_succ, if_true, if_false, Bool.false_eq_true, Bool.true_eq_false, Bool.not_true, Bool.not_false, decide_true, decide_false, Nat.reduceEqDiff, Nat.zero_lt_succ, List.replicate_succ, List.replicate_zero, Nat.reduceSub, Nat.reduceAdd, Nat.reduceLT, Nat.reduceLeDiff, Nat.zero_le, id, lstK_ok, tupK_ok, bl_ne]
  exact ⟨⟨_, _, _, _, _, _, _, rfl⟩, D17⟩
end
theorem law_ok (ns : List Int) (hl : ns.length ≤ 63) : ∃ st, Ci.run tab 20 22 [.frl (ns.map .int)] [] = .ok (.bl true) st := by
  have core : Wp (Ci.run tab (19 + 1) 22 [.frl (ns.map .int)] []) fun w _ => w = .bl true := by
    refine wp_run (d := d22) rfl rfl ?_
    show Wp (ex _ c22 _ _) _
    unfold c22
    have hr : ∀ st : Sto, bi .repr [.tup [k_OPS, k_WIDTHS]] st = some (.str (PyData.tuple [.tuple (names.map .str), .tuple [.int 1, .int 8, .int 16, .int 32, .int 64]]).shown, st) := fun st => bi_repr rfl (by decide +kernel)
    have hr2 : ∀ st : Sto, bi .repr [.tup [.tup [.str "add", .str "sub", .str "mul", .str "udiv", .str "sdiv", .str "urem", .str "srem", .str "and", .str "or", .str "xor", .str "shl", .str "lshr", .str "ashr"], .tup [.int 1, .int 8, .int 16, .int 32, .int 64]]] st = some (.str (PyData.tuple [.tuple (names.map .str), .tuple [.int 1, .int 8, .int 16, .int 32, .int 64]]).shown, st) := hr
    try simp -implicitDefEqProofs only [wp_ok, wp_bind, wp_noexc, wp_seq, wp_skip, wp_brk, wp_cnt, wp_retN, wp_ret, wp_set, wp_par, wp_unp, wp_sto, wp_xpr, wp_ite, wp_for, wp_whl, wp_tru, sk_rt, sk_bk, sk_ct, lk_nx, lk_ct, lk_bk, lk_rt, ik_true, ik_false, ev, evs, evo, evi, evc, evd, keyK_str, keyK_int, retK_rt, retK_nx, iteK_true, iteK_false, truK0_bl, truK0_int, truK0_tup, truK0_frl, truK0_non, scK_bl, wp_callK, cmpO, cmp_eq, cmp_ne, cmp_lt, cmp_le, cmp_gt, cmp_ge, cmp_isN, cmp_notN, eqD_int, eqD_str, bin_int, binI_add, binI_sub, of_some, negK_int, setK_nm, setK_tp, setsK, asg, asgs, tgsOf, intK, rngK, srcK, subO, startE, newR, new, bi_int, bi_abs, bi_len_tup, bi_len_frl,  Option.map_some, Option.map_none, Option.bind_some, List.map_cons, List.map_nil, List.length_cons, List.length_nil, List.length_append, List.length_map, List.length_set, List.cons_append, List.nil_append, List.getElem?_cons_zero, List.getElem?_cons_succ, List.set_cons_zero, List.set_cons_succ, if_true, if_false, Bool.false_eq_true, Bool.true_eq_false, Bool.not_true, Bool.not_false, decide_true, decide_false, Nat.reduceEqDiff, Nat.zero_lt_succ, List.replicate_succ, List.replicate_zero, Nat.reduceSub, Nat.reduceAdd, Nat.reduceLT, Nat.reduceLeDiff, Nat.zero_le, id, lstK_ok, tupK_ok, d22]
    refine Wp.mono (draw_ok (n := 18) (i := 11) (ns := ns) (salt := 1) rfl (by decide) hl) ?_
    rintro w st ⟨d, c, rfl, D, -⟩
    try simp -implicitDefEqProofs only [wp_ok, wp_bind, wp_noexc, wp_seq, wp_skip, wp_brk, wp_cnt, wp_retN, wp_ret, wp_set, wp_par, wp_unp, wp_sto, wp_xpr, wp_ite, wp_for, wp_whl, wp_tru, sk_rt, sk_bk, sk_ct, lk_nx, lk_ct, lk_bk, lk_rt, ik_true, ik_false, ev, evs, evo, evi, evc, evd, keyK_str, keyK_int, retK_rt, retK_nx, iteK_true, iteK_false, truK0_bl, truK0_int, truK0_tup, truK0_frl, truK0_non, scK_bl, wp_callK, cmpO, cmp_eq, cmp_ne, cmp_lt, cmp_le, cmp_gt, cmp_ge, cmp_isN, cmp_notN, eqD_int, eqD_str, bin_int, binI_add, binI_sub, of_some, negK_int, setK_nm, setK_tp, setsK, asg, asgs, tgsOf, intK, rngK, srcK, subO, startE, newR, new, bi_int, bi_abs, bi_len_tup, bi_len_frl,  Option.map_some, Option.map_none, Option.bind_some, List.map_cons, List.map_nil, List.length_cons, List.length_nil, List.length_append, List.length_map, List.length_set, List.cons_append, List.nil_append, List.getElem?_cons_zero, List.getElem?_cons_succ, List.set_cons_zero, List.set_cons_succ, if_true, if_false, Bool.false_eq_true, Bool.true_eq_false, Bool.not_true, Bool.not_false, decide_true, decide_false, Nat.reduceEqDiff, Nat.zero_lt_succ, List.replicate_succ, List.replicate_zero, Nat.reduceSub, Nat.reduceAdd, Nat.reduceLT, Nat.reduceLeDiff, Nat.zero_le, id, lstK_ok, tupK_ok]
    rw [sk_nx]
    try simp -implicitDefEqProofs only [wp_ok, wp_bind, wp_noexc, wp_seq, wp_skip, wp_brk, wp_cnt, wp_retN, wp_ret, wp_set, wp_par, wp_unp, wp_sto, wp_xpr, wp_ite, wp_for, wp_whl, wp_tru, sk_rt, sk_bk, sk_ct, lk_nx, lk_ct, lk_bk, lk_rt, ik_true, ik_false, ev, evs, evo, evi, evc, evd, keyK_str, keyK_int, retK_rt, retK_nx, iteK_true, iteK_false, truK0_bl, truK0_int, truK0_tup, truK0_frl, truK0_non, scK_bl, wp_callK, cmpO, cmp_eq, cmp_ne, cmp_lt, cmp_le, cmp_gt, cmp_ge, cmp_isN, cmp_notN, eqD_int, eqD_str, bin_int, binI_add, binI_sub, of_some, negK_int, setK_nm, setK_tp, setsK, asg, asgs, tgsOf, intK, rngK, srcK, subO, startE, newR, new, bi_int, bi_abs, bi_len_tup, bi_len_frl,  Option.map_some, Option.map_none, Option.bind_some, List.map_cons, List.map_nil, List.length_cons, List.length_nil, List.length_append, List.length_map, List.length_set, List.cons_append, List.nil_append, List.getElem?_cons_zero, List.getElem?_cons_succ, List.set_cons_zero, List.set_cons_succ, if_true, if_false, Bool.false_eq_true, Bool.true_eq_false, Bool.not_true, Bool.not_false, decide_true, decide_false, Nat.reduceEqDiff, Nat.zero_lt_succ, List.replicate_succ, List.replicate_zero, Nat.reduceSub, Nat.reduceAdd, Nat.reduceLT, Nat.reduceLeDiff, Nat.zero_le, id, lstK_ok, tupK_ok]
    rw [sk_nx]
    try simp -implicitDefEqProofs only [wp_ok, wp_bind, wp_noexc, wp_seq, wp_skip, wp_brk, wp_cnt, wp_retN, wp_ret, wp_set, wp_par, wp_unp, wp_sto, wp_xpr, wp_ite, wp_for, wp_whl, wp_tru, sk_rt, sk_bk, sk_ct, lk_nx, lk_ct, lk_bk, lk_rt, ik_true, ik_false, ev, evs, evo, evi, evc, evd, keyK_str, keyK_int, retK_rt, retK_nx, iteK_true, iteK_false, truK0_bl, truK0_int, truK0_tup, truK0_frl, truK0_non, scK_bl, wp_callK, cmpO, cmp_eq, cmp_ne, cmp_lt, cmp_le, cmp_gt, cmp_ge, cmp_isN, cmp_notN, eqD_int, eqD_str, bin_int, binI_add, binI_sub, of_some, negK_int, setK_nm, setK_tp, setsK, asg, asgs, tgsOf, intK, rngK, srcK, subO, startE, newR, new, bi_int, bi_abs, bi_len_tup, bi_len_frl,  Option.map_some, Option.map_none, Option.bind_some, List.map_cons, List.map_nil, List.length_cons, List.length_nil, List.length_append, List.length_map, List.length_set, List.cons_append, List.nil_append, List.getElem?_cons_zero, List.getElem?_cons_succ, List.set_cons_zero, List.set_cons_succ, if_true, if_false, Bool.false_eq_true, Bool.true_eq_false, Bool.not_true, Bool.not_false, decide_true, decide_false, Nat.reduceEqDiff, Nat.zero_lt_succ, List.replicate_succ, List.replicate_zero, Nat.reduceSub, Nat.reduceAdd, Nat.reduceLT, Nat.reduceLeDiff, Nat.zero_le, id, lstK_ok, tupK_ok, hr, hr2, beq_str, Bool.not_true]
    rw [sk_nx]
    have h4 : rngOf [.int 4] = some (0, 4) := rngOf_nat (n := 4) (by decide)
    try simp -implicitDefEqProofs only [wp_ok, wp_bind, wp_noexc, wp_seq, wp_skip, wp_brk, wp_cnt, wp_retN, wp_ret, wp_set, wp_par, wp_unp, wp_sto, wp_xpr, wp_ite, wp_for, wp_whl, wp_tru, sk_rt, sk_bk, sk_ct, lk_nx, lk_ct, lk_bk, lk_rt, ik_true, ik_false, ev, evs, evo, evi, evc, evd, keyK_str, keyK_int, retK_rt, retK_nx, iteK_true, iteK_false, truK0_bl, truK0_int, truK0_tup, truK0_frl, truK0_non, scK_bl, wp_callK, cmpO, cmp_eq, cmp_ne, cmp_lt, cmp_le, cmp_gt, cmp_ge, cmp_isN, cmp_notN, eqD_int, eqD_str, bin_int, binI_add, binI_sub, of_some, negK_int, setK_nm, setK_tp, setsK, asg, asgs, tgsOf, intK, rngK, srcK, subO, startE, newR, new, bi_int, bi_abs, bi_len_tup, bi_len_frl,  Option.map_some, Option.map_none, Option.bind_some, List.map_cons, List.map_nil, List.length_cons, List.length_nil, List.length_append, List.length_map, List.length_set, List.cons_append, List.nil_append, List.getElem?_cons_zero, List.getElem?_cons_succ, List.set_cons_zero, List.set_cons_succ, if_true, if_false, Bool.false_eq_true, Bool.true_eq_false, Bool.not_true, Bool.not_false, decide_true, decide_false, Nat.reduceEqDiff, Nat.zero_lt_succ, List.replicate_succ, List.replicate_zero, Nat.reduceSub, Nat.reduceAdd, Nat.reduceLT, Nat.reduceLeDiff, Nat.zero_le, id, lstK_ok, tupK_ok, h4]
    refine wp_rng 4 (by decide) (fun _ en st => EnOk ns d en ∧ Deal st d c) ?_ ?_ ⟨⟨_, _, _, _, _, _, _, rfl⟩, D⟩
    · rintro k en st hk ⟨⟨x3, x4, x5, x6, x7, x8, x9, rfl⟩, D⟩
      exact ⟨_, rfl, body_ok D ⟨_, _, _, _, _, _, _, rfl⟩⟩
    · rintro en st ⟨_, D⟩
      try simp -implicitDefEqProofs only [wp_ok, wp_bind, wp_noexc, wp_seq, wp_skip, wp_brk, wp_cnt, wp_retN, wp_ret, wp_set, wp_par, wp_unp, wp_sto, wp_xpr, wp_ite, wp_for, wp_whl, wp_tru, sk_nx, sk_rt, sk_bk, sk_ct, lk_nx, lk_ct, lk_bk, lk_rt, ik_true, ik_false, ev, evs, evo, evi, evc, evd, keyK_str, keyK_int, retK_rt, retK_nx, iteK_true, iteK_false, truK0_bl, truK0_int, truK0_tup, truK0_frl, truK0_non, scK_bl, wp_callK, cmpO, cmp_eq, cmp_ne, cmp_lt, cmp_le, cmp_gt, cmp_ge, cmp_isN, cmp_notN, eqD_int, eqD_str, bin_int, binI_add, binI_sub, of_some, negK_int, setK_nm, setK_tp, setsK, asg, asgs, tgsOf, intK, rngK, srcK, subO, startE, newR, new, bi_int, bi_abs, bi_len_tup, bi_len_frl,  Option.map_some, Option.map_none, Option.bind_some, List.map_cons, List.map_nil, List.length_cons, List.length_nil, List.length_append, List.length_map, List.length_set, List.cons_append, List.nil_append, List.getElem?_cons_zero, List.getElem?_cons_succ, List.set_cons_zero, List.set_cons_succ, if_true, if_false, Bool.false_eq_true, Bool.true_eq_false, Bool.not_true, Bool.not_false, decide_true, decide_false, Nat.reduceEqDiff, Nat.zero_lt_succ, List.replicate_succ, List.replicate_zero, Nat.reduceSub, Nat.reduceAdd, Nat.reduceLT, Nat.reduceLeDiff, Nat.zero_le, id, lstK_ok, tupK_ok]
  obtain ⟨w, st, e, rfl⟩ := core
  exact ⟨st, e⟩
end K01
theorem PySem.Challenge.cw_anypasses_k01_operations_on_numbers_holds : PySem.Challenge.rw_anypasses_k01_operations_on_numbers.Holds := by
  exact Law.walked K01.law_ok
