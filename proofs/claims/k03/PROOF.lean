import PyProof.Rows.All
import Wide.All
import OpenK.AllK
import Wide.FinOn
import KE.DataCmp
import HandS.ForMost
import HandS.Exc
import HandS.TupAny
import HandS.Deep
import HandS.Wide
import HandS.Style
import HandS.Flow
import HandS.Conv
import HandS.Walk
import HandS.Defaults
import HandS.HeadHook2
import HandS.HeadEnd
import HandS.Head0
import HandS.Head1
import HandS.Head2
import HandS.IsInst
import KE.DatumOrd
import PySem.Challenge.RW_anypasses_k03_runs_and_beginnings
set_option Elab.async false
set_option linter.all false
set_option maxRecDepth 100000
set_option maxHeartbeats 4000000
/-! Ci0: a small core language over trees (tuples are trees, lists and dicts stand in a store), its evaluator. -/
namespace Ci
open PySem

inductive W where
  | non | bl (b : Bool) | int (i : Int) | str (s : Str)
  | tup (ws : List W)
  | frl (ws : List W)
  | ref (n : Nat)
inductive Ob where
  | lst (ws : List W)
  | dct (kvs : List (L2.Key × W))
abbrev Sto := List Ob
abbrev En := List (Option W)
structure Exn where
  cls : Nat
  args : List W
inductive Res (α : Type) where
  | ok (a : α) (st : Sto)
  | exc (x : Exn) (st : Sto)
  | bad
def Res.bind {α β : Type} (r : Res α) (k : α → Sto → Res β) : Res β :=
  match r with
  | .ok a st => k a st
  | .exc x st => .exc x st
  | .bad => .bad
def Res.of {α : Type} : Option (α × Sto) → Res α
  | some (a, st) => .ok a st
  | none => .bad

/-! ### data of any depth -/
mutual
def pd (ρ : Nat → Option PyData) : W → Option PyData
  | .non => some .none
  | .bl b => some (.bool b)
  | .int i => some (.int i)
  | .str s => some (.str s)
  | .tup ws => (pds ρ ws).map .tuple
  | .frl ws => (pds ρ ws).map .list
  | .ref n => ρ n
def pds (ρ : Nat → Option PyData) : List W → Option (List PyData)
  | [] => some []
  | w :: ws => match pd ρ w, pds ρ ws with
    | some d, some ds => some (d :: ds)
    | _, _ => none
end
def rho (st : Sto) : Nat → Nat → Option PyData
  | 0, _ => none
  | k + 1, n => match st[n]? with
    | some (.lst ws) => (pds (rho st k) ws).map .list
    | _ => none
def toD (st : Sto) (w : W) : Option PyData := pd (rho st 9) w

/-! ### what is walked, its items now -/
def seqOf (st : Sto) : W → Option (List W)
  | .tup ws => some ws
  | .frl ws => some ws
  | .ref n => match st[n]? with
    | some (.lst ws) => some ws
    | _ => none
  | _ => none
/-- a list's items -/
def lstOf (st : Sto) : W → Option (List W)
  | .frl ws => some ws
  | .ref n => match st[n]? with
    | some (.lst ws) => some ws
    | _ => none
  | _ => none
def isLst (st : Sto) (w : W) : Bool := (lstOf st w).isSome
/-- a new object -/
def new (st : Sto) (o : Ob) : Option (W × Sto) := some (.ref st.length, st ++ [o])
def newR (st : Sto) (o : Ob) : Res W := .ok (.ref st.length) (st ++ [o])

/-! ### truth -/
def tru (st : Sto) : W → Option Bool
  | .non => some false
  | .bl b => some b
  | .int i => some (i != 0)
  | .str s => if s.length ≤ sizeLine then some ((s.length : Int) != 0) else none
  | .tup ws => some (!ws.isEmpty)
  | .frl ws => some (!ws.isEmpty)
  | .ref n => match st[n]? with
    | some (.lst ws) => some (!ws.isEmpty)
    | some (.dct kvs) => some (!kvs.isEmpty)
    | _ => none

/-! ### operators -/
inductive BinO where
  | add | sub | mul | fdiv | mod | pow | shl | shr | band | bor | bxor
  deriving DecidableEq
def BinO.py : BinO → Operator
  | .add => .Add | .sub => .Sub | .mul => .Mult | .fdiv => .FloorDiv | .mod => .Mod | .pow => .Pow
  | .shl => .LShift | .shr => .RShift | .band => .BitAnd | .bor => .BitOr | .bxor => .BitXor
def small64 (i : Int) : Bool := decide (-(2 ^ 64) < i ∧ i < 2 ^ 64)
def bigOk (i j : Int) : Bool := decide (i.natAbs.log2 + j.natAbs.log2 < 1000000)
def powOk (i j : Int) : Bool := decide (0 ≤ j ∧ j ≤ 1000000 ∧ i.natAbs < 2 ^ 64)
def divOk (j : Int) : Bool := decide (0 < j) && (decide (j < 1073741824) || decide (j.natAbs.log2 < 9000))
def binI (o : BinO) (i j : Int) : Option Int :=
  match o with
  | .add => some (i + j)
  | .sub => some (i - j)
  | .mul => if small64 i || small64 j || bigOk i j then some (i * j) else none
  | .fdiv => if divOk j then some (i / j) else none
  | .mod => if decide (0 < j) then some (i % j) else none
  | .pow => if powOk i j then some (i ^ j.toNat) else none
  | .shl => if powOk i j then some (i * 2 ^ j.toNat) else none
  | .shr => if decide (0 ≤ j) then some (i / 2 ^ j.toNat) else none
  | .band => some (Builtin.bitAnd i j)
  | .bor => some (Builtin.bitOr i j)
  | .bxor => some (Builtin.bitXor i j)
def bin (o : BinO) (x y : W) (st : Sto) : Option (W × Sto) :=
  match x, y with
  | .int i, .int j => (binI o i j).map fun k => (.int k, st)
  | .str a, .str b => match o with
    | .add => if a.length + b.length ≤ sizeLine then some (.str (a ++ b), st) else none
    | _ => none
  | .tup a, .tup b => match o with
    | .add => if a.length + b.length ≤ sizeLine then some (.tup (a ++ b), st) else none
    | _ => none
  | .ref m, .ref n => match o, st[m]?, st[n]? with
    | .add, some (.lst a), some (.lst b) => if a.length + b.length ≤ sizeLine then new st (.lst (a ++ b)) else none
    | _, _, _ => none
  | .ref m, .int k => match o, st[m]? with
    | .mul, some (.lst a) => if decide (0 ≤ k ∧ k < 2 ^ 62) && decide (a.length * k.toNat ≤ sizeLine) then new st (.lst (List.replicate k.toNat a).flatten) else none
    | _, _ => none
  | _, _ => none
inductive CmpO where
  | eq | ne | lt | le | gt | ge | isin | notin | isN | notN
  deriving DecidableEq
def CmpO.py : CmpO → CmpOp
  | .eq => .Eq | .ne => .NotEq | .lt => .Lt | .le => .LtE | .gt => .Gt | .ge => .GtE | .isin => .In | .notin => .NotIn | .isN => .Is | .notN => .IsNot
def shapedB (d : PyData) : Bool := SeqAt.shaped d
def eqD (st : Sto) (x y : W) : Option Bool :=
  match x, y with
  | .str a, .str b => some (a == b)
  | .int a, .int b => some (a == b)
  | _, _ => match toD st x, toD st y with
    | some d, some e => if shapedB d && shapedB e then some (PyData.eqv d e) else none
    | _, _ => none
def intsOf : List W → Option (List Int)
  | [] => some []
  | .int i :: ws => (intsOf ws).map (i :: ·)
  | _ => none
def lexI : List Int → List Int → Bool
  | [], [] => false
  | [], _ :: _ => true
  | _ :: _, [] => false
  | x :: xs, y :: ys => if x = y then lexI xs ys else decide (x < y)
def inD (st : Sto) (x : W) (ys : List W) : Option Bool :=
  match toD st x, pds (rho st 8) ys with
  | some d, some ds => if shapedB d && shapedB (.list ds) then some (ds.any fun z => PyData.eqv z d) else none
  | _, _ => none
def flatW : W → Bool
  | .non => true
  | .bl _ => true
  | .int _ => true
  | .str _ => true
  | _ => false
def eqF : W → W → Bool
  | .non, .non => true
  | .bl a, .bl b => a == b
  | .bl a, .int b => (if a then 1 else 0) == b
  | .int a, .bl b => a == (if b then 1 else 0)
  | .int a, .int b => a == b
  | .str a, .str b => a == b
  | _, _ => false
def keyOf : W → Option L2.Key
  | .int i => some (.inl i)
  | .str s => some (.inr s)
  | _ => none
def dgetL (k : L2.Key) : List (L2.Key × W) → Option W
  | [] => none
  | (j, w) :: r => if j = k then some w else dgetL k r
def inW (st : Sto) (x y : W) : Option Bool :=
  match y with
  | .str t => match x with
    | .str s => some (!(Builtin.Str.occurrences t s 0 t.length 1).isEmpty)
    | _ => none
  | .tup ws => if flatW x && ws.all flatW then some (ws.any fun y => eqF y x) else none
  | .frl ws => inD st x ws
  | .ref n => match st[n]? with
    | some (.lst ws) => inD st x ws
    | some (.dct kvs) => (keyOf x).map fun k => (dgetL k kvs).isSome
    | _ => none
  | _ => none
def isNon : W → Bool
  | .non => true
  | _ => false
def noneD : PyData → Bool
  | .none => true
  | _ => false
/-- the order of lists and tuples that are made alike -/
def ordD (f : PyData → PyData → Bool) (st : Sto) (x y : W) : Option Bool :=
  match toD st x, toD st y with
  | some d, some e => if PySem.W.alike d e && !noneD d && decide (min d.depth e.depth ≤ 60) then some (f d e) else none
  | _, _ => none
def cmp (o : CmpO) (x y : W) (st : Sto) : Option Bool :=
  match o with
  | .eq => eqD st x y
  | .ne => (eqD st x y).map (!·)
  | .lt => match x, y with
    | .int i, .int j => some (decide (i < j))
    | .str s, .str t => some (decide (s.cps.toList < t.cps.toList))
    | _, _ => ordD PySem.W.dataLt st x y
  | .le => match x, y with
    | .int i, .int j => some (decide (i ≤ j))
    | _, _ => ordD (fun d e => !PySem.W.dataLt e d) st x y
  | .gt => match x, y with
    | .int i, .int j => some (decide (j < i))
    | _, _ => ordD (fun d e => PySem.W.dataLt e d) st x y
  | .ge => match x, y with
    | .int i, .int j => some (decide (j ≤ i))
    | _, _ => ordD (fun d e => !PySem.W.dataLt d e) st x y
  | .isin => inW st x y
  | .notin => (inW st x y).map (!·)
  | .isN => match y with
    | .non => some (isNon x)
    | .bl b => match x with | .bl a => some (decide (a = b)) | _ => none
    | _ => none
  | .notN => match y with
    | .non => some (!isNon x)
    | .bl b => match x with | .bl a => some (!decide (a = b)) | _ => none
    | _ => none

/-! ### places -/
def atW (xs : List W) (i : Int) : Option W := L2.atI xs i
def ixW (st : Sto) (x y : W) : Option W :=
  match y with
  | .int i => match x with
    | .tup ws => atW ws i
    | .frl ws => atW ws i
    | .str s => if s.length ≤ sizeLine then (L2.atI s.cps.toList i).map fun c => .str ⟨#[c]⟩ else none
    | .ref n => match st[n]? with
      | some (.lst ws) => atW ws i
      | _ => none
    | _ => none
  | _ => none
def cutW (ws : List W) (lo hi : Option Int) : List W := (ws.drop (HT.sIx ws.length 0 lo)).take (HT.sIx ws.length ws.length hi - HT.sIx ws.length 0 lo)
def slW (x : W) (lo hi : Option Int) (st : Sto) : Option (W × Sto) :=
  match x with
  | .tup ws => some (.tup (cutW ws lo hi), st)
  | .frl ws => new st (.lst (cutW ws lo hi))
  | .str s => if s.length ≤ sizeLine then some (.str (L2.cutS s lo hi), st) else none
  | .ref n => match st[n]? with
    | some (.lst ws) => new st (.lst (cutW ws lo hi))
    | _ => none
  | _ => none
def revW (x : W) (st : Sto) : Option (W × Sto) := (lstOf st x).bind fun ws => new st (.lst ws.reverse)
/-! ### dicts by int and text keys -/
def dputL (k : L2.Key) (v : W) (kvs : List (L2.Key × W)) : List (L2.Key × W) :=
  if (kvs.any fun q => decide (q.1 = k)) then kvs.map fun q => if q.1 = k then (q.1, v) else q else kvs ++ [(k, v)]
def dctOf (st : Sto) : W → Option (List (L2.Key × W))
  | .ref n => match st[n]? with
    | some (.dct kvs) => some kvs
    | _ => none
  | _ => none
def mergeW (kvs : List (L2.Key × W)) : List (L2.Key × W) := kvs.foldl (fun acc p => dputL p.1 p.2 acc) []
def setI (x i v : W) (st : Sto) : Option Sto :=
  match x with
  | .ref n => match st[n]? with
    | some (.lst ws) => match i with
      | .int k => (L2.ixN ws.length k).map fun j => st.set n (.lst (ws.set j v))
      | _ => none
    | some (.dct kvs) => (keyOf i).bind fun k => if kvs.length < sizeLine then some (st.set n (.dct (dputL k v kvs))) else none
    | none => none
  | _ => none
/-- x[y] of any kind -/
def sub (st : Sto) (x y : W) : Option W :=
  match dctOf st x with
  | some kvs => (keyOf y).bind fun k => dgetL k kvs
  | none => ixW st x y

/-! ### kinds -/
def tyOf (st : Sto) : W → Option String
  | .non => some "NoneType"
  | .bl _ => some "bool"
  | .int _ => some "int"
  | .str _ => some "str"
  | .tup _ => some "tuple"
  | .frl _ => some "list"
  | .ref n => match st[n]? with
    | some (.lst _) => some "list"
    | some (.dct _) => some "dict"
    | _ => none
def isTy (t u : String) : Bool := t == u || (t == "bool" && u == "int")

/-! ### built-in functions and methods -/
inductive Bi where
  | len | abs | int | str | repr | list | tuple | max2 | min2 | sum | any | all
  deriving DecidableEq
def blsOf : List W → Option (List Bool)
  | [] => some []
  | .bl b :: ws => (blsOf ws).map (b :: ·)
  | _ => none
def reprOk (d : PyData) : Bool :=
  match d with
  | .none => true
  | .bool _ => true
  | .int i => decide (i.natAbs.log2 < 1920)
  | .str x => decide ((reprText x).length ≤ sizeLine)
  | .dict _ => false
  | d => d.showable && !d.hasDict && decide (d.depth ≤ 60) && decide (d.shown.length ≤ sizeLine)
def intOk (i : Int) : Bool := decide (i.natAbs.log2 < 1920)
def bi (b : Bi) (ws : List W) (st : Sto) : Option (W × Sto) :=
  match b, ws with
  | .len, [w] => match w with
    | .str s => if s.length ≤ sizeLine then some (.int s.length, st) else none
    | w => match dctOf st w with
      | some kvs => some (.int kvs.length, st)
      | none => (seqOf st w).map fun xs => (.int xs.length, st)
  | .abs, [.int i] => some (.int (if i < 0 then -i else i), st)
  | .int, [.int i] => some (.int i, st)
  | .int, [.bl b] => some (.int (if b then 1 else 0), st)
  | .str, [.int i] => if intOk i then some (.str (toString i), st) else none
  | .repr, [w] => match toD st w with
    | some d => if reprOk d then some (.str d.shown, st) else none
    | none => none
  | .list, [w] => (seqOf st w).bind fun xs => new st (.lst xs)
  | .tuple, [w] => (seqOf st w).map fun xs => (.tup xs, st)
  | .max2, [.int i, .int j] => some (.int (if j > i then j else i), st)
  | .min2, [.int i, .int j] => some (.int (if j < i then j else i), st)
  | .sum, [w] => (lstOf st w).bind fun xs => (intsOf xs).map fun ns => (.int ns.sum, st)
  | .any, [w] => (lstOf st w).bind fun xs => (blsOf xs).map fun bs => (.bl (bs.any id), st)
  | .all, [w] => (lstOf st w).bind fun xs => (blsOf xs).map fun bs => (.bl (bs.all id), st)
  | _, _ => none
inductive Mt where
  | append | pop | popAt | extend | index | count | reverse
  deriving DecidableEq
def mt (m : Mt) (o : W) (ws : List W) (st : Sto) : Option (W × Sto) :=
  match o with
  | .ref n => match st[n]? with
    | some (.lst xs) => match m, ws with
      | .append, [y] => if xs.length < sizeLine then some (.non, st.set n (.lst (xs ++ [y]))) else none
      | .pop, [] => xs[xs.length - 1]?.map fun y => (y, st.set n (.lst xs.dropLast))
      | .popAt, [.int i] => if decide (-(2 ^ 63) ≤ i ∧ i < 2 ^ 63) then match seqIndex? i xs.length with
          | some k => xs[k]?.map fun y => (y, st.set n (.lst (xs.eraseIdx k)))
          | none => none
        else none
      | .reverse, [] => some (.non, st.set n (.lst xs.reverse))
      | .extend, [.ref m] => match st[m]? with
        | some (.lst zs) => if xs.length + zs.length ≤ sizeLine then some (.non, st.set n (.lst (xs ++ zs))) else none
        | _ => none
      | _, _ => none
    | _ => none
  | _ => none

/-! ### the language -/
mutual
inductive Tg where
  | nm (i : Nat)
  | tp (ts : Tgs)
inductive Tgs where
  | nil
  | cons (t : Tg) (ts : Tgs)
end
mutual
inductive E where
  | var (i : Nat)
  | con (w : W)
  | bin (o : BinO) (a b : E)
  | cmp (o : CmpO) (a b : E)
  | chn (o p : CmpO) (a b c : E)
  | neg (a : E)
  | not (a : E)
  | and (a b : E)
  | or (a b : E)
  | ite (c a b : E)
  | tup (es : Es)
  | lst (es : Es)
  | dsp (es : Es)
  | call (f : Nat) (pm : Option (List Nat)) (es : Es)
  | bi (b : Bi) (es : Es)
  | isi (ts : List String) (a : E)
  | mt (m : Mt) (o : E) (es : Es)
  | ix (a b : E)
  | sl (a : E) (lo hi : Es)
  | rev (a : E)
  | lrg (es : Es)
  | lc (own : List Nat) (tg : Tg) (it : It) (cs : Es) (elt : E)
inductive Es where
  | nil
  | cons (a : E) (es : Es)
inductive It where
  | val (e : E)
  | rng (es : Es)
  | enum (e : E)
  | zip (a b : E)
end
inductive S where
  | skip
  | seq (a b : S)
  | set (i : Nat) (e : E)
  | par (is : List Nat) (es : Es)
  | unp (t : Tg) (e : E)
  | sto (o i e : E)
  | aug (i : Nat) (o : BinO) (e : E)
  | xpr (e : E)
  | ite (c : E) (a b : S)
  | whl (c : E) (b : S)
  | for_ (t : Tg) (it : It) (b : S)
  | ret (e : E)
  | retN
  | brk
  | cnt

/-! ### targets -/
mutual
def asg (t : Tg) (w : W) (en : En) : Option En :=
  match t with
  | .nm i => if i < en.length then some (en.set i (some w)) else none
  | .tp ts => match w with
    | .tup ws => asgs ts ws en
    | _ => none
def asgs (ts : Tgs) (ws : List W) (en : En) : Option En :=
  match ts, ws with
  | .nil, [] => some en
  | .cons t ts, w :: ws => match asg t w en with
    | some en1 => asgs ts ws en1
    | none => none
  | _, _ => none
end
mutual
def Tg.slots : Tg → List Nat
  | .nm i => [i]
  | .tp ts => ts.slots
def Tgs.slots : Tgs → List Nat
  | .nil => []
  | .cons t ts => t.slots ++ ts.slots
end
def wipeE (en : En) : List Nat → En
  | [] => en
  | v :: vs => (wipeE en vs).set v none

/-! ### what is walked -/
inductive Src where
  | fix (ws : List W)
  | live (n : Nat)
  | enum (s : Src)
  | zip (s t : Src)
def Src.get : Src → Sto → Nat → Option (Option W)
  | .fix ws, _, i => some ws[i]?
  | .live n, st, i => match st[n]? with
    | some (.lst ws) => some ws[i]?
    | _ => none
  | .enum s, st, i => match s.get st i with
    | some (some w) => some (some (.tup [.int (i : Nat), w]))
    | some none => some none
    | none => none
  | .zip s t, st, i => match s.get st i, t.get st i with
    | some (some x), some (some y) => some (some (.tup [x, y]))
    | some _, some _ => some none
    | _, _ => none
def srcOf (st : Sto) : W → Option Src
  | .tup ws => some (.fix ws)
  | .frl ws => some (.fix ws)
  | .str s => some (.fix (s.cps.toList.map fun c => .str ⟨#[c]⟩))
  | .ref n => match st[n]? with
    | some (.lst _) => some (.live n)
    | _ => none
  | _ => none
def rgOk (a b : Int) : Bool := decide (-(2 ^ 62) ≤ a ∧ a < 2 ^ 62 ∧ -(2 ^ 62) ≤ b ∧ b < 2 ^ 62)
def rngW (a b : Int) : List W := (List.range (b - a).toNat).map fun i => .int (a + (i : Nat))
def rngOf : List W → Option (Int × Int)
  | [.int b] => if rgOk 0 b then some (0, b) else none
  | [.int a, .int b] => if rgOk a b then some (a, b) else none
  | _ => none
def noexc {α : Type} : Res α → Res α
  | .exc _ _ => .bad
  | r => r
def permW (pm : Option (List Nat)) (ws : List W) : Option (List W) :=
  match pm with
  | none => some ws
  | some l => l.mapM fun i => ws[i]?

inductive Out where
  | nx (en : En)
  | bk (en : En)
  | ct (en : En)
  | rt (w : W)
/-! ### what comes of parts -/
def cmpO (o : CmpO) (x y : W) (st : Sto) : Option (W × Sto) := (cmp o x y st).map fun k => (.bl k, st)
def negK (x : W) (st : Sto) : Res W :=
  match x with
  | .int i => .ok (.int (-i)) st
  | _ => .bad
def truK0 (w : W) (st : Sto) : Res Bool :=
  match tru st w with
  | some b => .ok b st
  | none => .bad
/-- the truth of what was reckoned -/
def truR (r : Res W) : Res Bool := r.bind truK0
def chnK (r : Option Bool) (k : Sto → Res W) (st : Sto) : Res W :=
  match r with
  | some true => k st
  | some false => .ok (.bl false) st
  | none => .bad
def scK (stop : Bool) (k : Sto → Res W) (x : W) (st : Sto) : Res W :=
  match tru st x with
  | some b => if b = stop then .ok x st else k st
  | none => .bad
def iteK {α : Type} (p q : Sto → Res α) (b : Bool) (st : Sto) : Res α :=
  match b with
  | true => p st
  | false => q st
def tupK (ws : List W) (st : Sto) : Res W := if ws.length ≤ sizeLine then .ok (.tup ws) st else .bad
def lstK (ws : List W) (st : Sto) : Res W := if ws.length ≤ sizeLine then newR st (.lst ws) else .bad
def dspK (n : Nat) (kvs : List (L2.Key × W)) (st : Sto) : Res W :=
  match st[n]? with
  | some (.dct []) => if kvs.length ≤ 15 then .ok (.ref n) (st.set n (.dct (mergeW kvs))) else .bad
  | _ => .bad
def callK (cl : Nat → List W → Sto → Res W) (f : Nat) (pm : Option (List Nat)) (ws : List W) (st : Sto) : Res W :=
  match permW pm ws with
  | some us => cl f us st
  | none => .bad
def isLK (k : Sto → Res W) (x : W) (st : Sto) : Res W :=
  match lstOf st x with
  | some _ => k st
  | none => .bad
def isiK (ts : List String) (x : W) (st : Sto) : Res W :=
  match tyOf st x with
  | some t => .ok (.bl (ts.any fun u => isTy t u)) st
  | none => .bad
def subO (x y : W) (st : Sto) : Option (W × Sto) := (sub st x y).map fun w => (w, st)
def lrgK (ws : List W) (st : Sto) : Res W :=
  match rngOf ws with
  | some (a, b) => if (b - a).toNat ≤ 2 ^ 24 then newR st (.lst (rngW a b)) else .bad
  | none => .bad
def keyK (y : W) (k : Sto → Res (List (L2.Key × W))) (x : W) (st : Sto) : Res (List (L2.Key × W)) :=
  match keyOf x with
  | some j => (k st).bind fun r st3 => .ok ((j, y) :: r) st3
  | none => .bad
def intK (x : W) (st : Sto) : Res (Option Int) :=
  match x with
  | .int i => .ok (some i) st
  | _ => .bad
def srcK (f : Src → Src) (x : W) (st : Sto) : Res Src :=
  match srcOf st x with
  | some s => .ok (f s) st
  | none => .bad
/-- both are lists -/
def src2K (x y : W) (st : Sto) : Res Src :=
  match srcOf st x, srcOf st y with
  | some s, some t => if isLst st x && isLst st y then .ok (.zip s t) st else .bad
  | _, _ => .bad
def srcEK (x : W) (st : Sto) : Res Src :=
  match srcOf st x with
  | some s => if isLst st x then .ok (.enum s) st else .bad
  | none => .bad
def rngK (ws : List W) (st : Sto) : Res Src :=
  match rngOf ws with
  | some (a, b) => .ok (.fix (rngW a b)) st
  | none => .bad
/-- y is put behind the list at D -/
def pushK {α : Type} (D : Nat) (k : Sto → Res α) (y : W) (st : Sto) : Res α :=
  match st[D]? with
  | some (.lst acc) => if acc.length < sizeLine then k (st.set D (.lst (acc ++ [y]))) else .bad
  | _ => .bad
def setK (t : Tg) (en : En) (x : W) (st : Sto) : Res Out :=
  match asg t x en with
  | some en1 => .ok (.nx en1) st
  | none => .bad
def setsK (ts : Tgs) (en : En) (ws : List W) (st : Sto) : Res Out :=
  match asgs ts ws en with
  | some en1 => .ok (.nx en1) st
  | none => .bad
def stoK (en : En) (v x y : W) (st : Sto) : Res Out :=
  match setI x y v st with
  | some st4 => .ok (.nx en) st4
  | none => .bad
def augK (i : Nat) (o : BinO) (en : En) (x y : W) (st : Sto) : Res Out :=
  match x, y with
  | .int a, .int b => match binI o a b with
    | some c => .ok (.nx (en.set i (some (.int c)))) st
    | none => .bad
  | _, _ => .bad
def seqK (k : En → Sto → Res Out) (o : Out) (st : Sto) : Res Out :=
  match o with
  | .nx e => k e st
  | o => .ok o st
/-- behind a loop's body: k goes on -/
def loopK (k : En → Sto → Res Out) (o : Out) (st : Sto) : Res Out :=
  match o with
  | .nx e => k e st
  | .ct e => k e st
  | .bk e => .ok (.nx e) st
  | .rt v => .ok (.rt v) st
def varK (o : Option (Option W)) (k : W → Res Out) : Res Out :=
  match o with
  | some (some x) => k x
  | _ => .bad
def FU : Nat := 20000000
section
variable (get : Sto → Nat → Option (Option W)) (as : W → En → Option En)
def forL (body : En → Sto → Res Out) : Nat → Nat → En → Sto → Res Out
  | 0, _, _, _ => .bad
  | F + 1, i, en, st => match get st i with
    | none => .bad
    | some none => .ok (.nx en) st
    | some (some w) => match as w en with
      | none => .bad
      | some en1 => (body en1 st).bind (loopK (forL body F (i + 1)))
def lcL (en0 : En) (test : En → Sto → Res Bool) (elt : En → Sto → Res W) (D : Nat) : Nat → Nat → Sto → Res W
  | 0, _, _ => .bad
  | F + 1, i, st => match get st i with
    | none => .bad
    | some none => .ok (.ref D) st
    | some (some w) => match as w en0 with
      | none => .bad
      | some en1 => (test en1 st).bind (iteK (fun st1 => (elt en1 st1).bind (pushK D fun st2 => lcL en0 test elt D F (i + 1) st2)) (fun st1 => lcL en0 test elt D F (i + 1) st1))
end
def whlL (test : En → Sto → Res Bool) (body : En → Sto → Res Out) : Nat → En → Sto → Res Out
  | 0, _, _ => .bad
  | F + 1, en, st => (test en st).bind (iteK (fun st1 => (body en st1).bind (loopK (whlL test body F))) (fun st1 => .ok (.nx en) st1))

section
variable (cl : Nat → List W → Sto → Res W)
mutual
def ev : E → En → Sto → Res W
  | .var i, en, st => match en[i]? with
    | some (some w) => .ok w st
    | _ => .bad
  | .con w, _, st => .ok w st
  | .bin o a b, en, st => (ev a en st).bind fun x st1 => (ev b en st1).bind fun y st2 => .of (bin o x y st2)
  | .cmp o a b, en, st => (ev a en st).bind fun x st1 => (ev b en st1).bind fun y st2 => .of (cmpO o x y st2)
  | .chn o p a b c, en, st => (ev a en st).bind fun x st1 => (ev b en st1).bind fun y st2 => chnK (cmp o x y st2) (fun st2 => (ev c en st2).bind fun z st3 => .of (cmpO p y z st3)) st2
  | .neg a, en, st => (ev a en st).bind negK
  | .not a, en, st => (truR (ev a en st)).bind fun b st1 => .ok (.bl (!b)) st1
  | .and a b, en, st => (ev a en st).bind (scK false fun st1 => ev b en st1)
  | .or a b, en, st => (ev a en st).bind (scK true fun st1 => ev b en st1)
  | .ite c a b, en, st => (truR (ev c en st)).bind (iteK (fun st1 => ev a en st1) (fun st1 => ev b en st1))
  | .tup es, en, st => (evs es en st).bind tupK
  | .lst es, en, st => (evs es en st).bind lstK
  | .dsp es, en, st => (evd es en (st ++ [.dct []])).bind (dspK st.length)
  | .call f pm es, en, st => (evs es en st).bind (callK cl f pm)
  | .bi b es, en, st => (evs es en st).bind fun ws st1 => .of (bi b ws st1)
  | .isi ts a, en, st => (ev a en st).bind (isiK ts)
  | .mt m o es, en, st => (ev o en st).bind fun x st1 => isLK (fun st1 => (evs es en st1).bind fun ws st2 => .of (mt m x ws st2)) x st1
  | .ix a b, en, st => (ev a en st).bind fun x st1 => (ev b en st1).bind fun y st2 => .of (subO x y st2)
  | .sl a lo hi, en, st => (ev a en st).bind fun x st1 => (evo lo en st1).bind fun l st2 => (evo hi en st2).bind fun h st3 => .of (slW x l h st3)
  | .rev a, en, st => (ev a en st).bind fun x st1 => .of (revW x st1)
  | .lrg es, en, st => (evs es en st).bind lrgK
  | .lc own tg it cs elt, en, st => (evi it en st).bind fun src st1 =>
      noexc (lcL src.get (asg tg) (wipeE en own) (fun en st => evc cs en st) (fun en st => ev elt en st) st1.length FU 0 (st1 ++ [.lst []]))
def evs : Es → En → Sto → Res (List W)
  | .nil, _, st => .ok [] st
  | .cons a es, en, st => (ev a en st).bind fun x st1 => (evs es en st1).bind fun xs st2 => .ok (x :: xs) st2
def evd : Es → En → Sto → Res (List (L2.Key × W))
  | .nil, _, st => .ok [] st
  | .cons a es, en, st => (ev a en st).bind fun x st1 => match es with
    | .nil => .bad
    | .cons b es => (ev b en st1).bind fun y st2 => keyK y (fun st2 => evd es en st2) x st2
def evo : Es → En → Sto → Res (Option Int)
  | .nil, _, st => .ok none st
  | .cons a _, en, st => (ev a en st).bind intK
def evc : Es → En → Sto → Res Bool
  | .nil, _, st => .ok true st
  | .cons a es, en, st => (truR (ev a en st)).bind (iteK (fun st1 => evc es en st1) (fun st1 => .ok false st1))
def evi : It → En → Sto → Res Src
  | .val e, en, st => (ev e en st).bind (srcK id)
  | .rng es, en, st => (evs es en st).bind rngK
  | .enum e, en, st => (ev e en st).bind srcEK
  | .zip a b, en, st => (ev a en st).bind fun x st1 => (ev b en st1).bind fun y st2 => src2K x y st2
end
def tgsOf : List Nat → Tgs
  | [] => .nil
  | i :: is => .cons (.nm i) (tgsOf is)
def ex : S → En → Sto → Res Out
  | .skip, en, st => .ok (.nx en) st
  | .seq a b, en, st => (ex a en st).bind (seqK fun e st => ex b e st)
  | .set i e, en, st => (ev cl e en st).bind (setK (.nm i) en)
  | .par is es, en, st => (evs cl es en st).bind (setsK (tgsOf is) en)
  | .unp t e, en, st => (ev cl e en st).bind (setK t en)
  | .sto o i e, en, st => (ev cl e en st).bind fun v st1 => (ev cl o en st1).bind fun x st2 => (ev cl i en st2).bind fun y st3 => stoK en v x y st3
  | .aug i o e, en, st => varK en[i]? fun x => (ev cl e en st).bind (augK i o en x)
  | .xpr e, en, st => (ev cl e en st).bind fun _ st1 => .ok (.nx en) st1
  | .ite c a b, en, st => (truR (ev cl c en st)).bind (iteK (fun st1 => ex a en st1) (fun st1 => ex b en st1))
  | .whl c b, en, st => whlL (fun en st => truR (ev cl c en st)) (fun en st => ex b en st) FU en st
  | .for_ t it b, en, st => (evi cl it en st).bind fun src st1 => forL src.get (asg t) (fun en st => ex b en st) FU 0 en st1
  | .ret e, en, st => (ev cl e en st).bind fun x st1 => .ok (.rt x) st1
  | .retN, _, st => .ok (.rt .non) st
  | .brk, en, st => .ok (.bk en) st
  | .cnt, en, st => .ok (.ct en) st
end
structure Fd where
  np : Nat
  nl : Nat
  body : S
def startE (nl : Nat) (ws : List W) : En := ws.map some ++ List.replicate (nl - ws.length) none
def retK (o : Out) (st : Sto) : Res W :=
  match o with
  | .nx _ => .ok .non st
  | .rt w => .ok w st
  | _ => .bad
def run (tab : List Fd) : Nat → Nat → List W → Sto → Res W
  | 0, _, _, _ => .bad
  | n + 1, f, ws, st => match tab[f]? with
    | none => .bad
    | some d => if ws.length = d.np then (ex (run tab n) d.body (startE d.nl ws) st).bind retK else .bad
end Ci
/-! Ci1: what a tree, a store, an environment stand for in the abstract heap; outcomes. -/
namespace Ci
open PySem L2

/-- a tuple that stays: tracked, or the module's own -/
def STup (K : PySem.W.Frag) (H : Hp) (a : Addr) (vs : List V) : Prop := H a = some (.tup vs) ∨ SqT K (fun _ => none) a vs
/-- a list that is only read -/
def SLst (K : PySem.W.Frag) (H : Hp) (a : Addr) (vs : List V) : Prop := (∃ o, H a = some (.frz o (.lst vs))) ∨ SqL K (fun _ => none) a vs
theorem rd_empty {a : Addr} {u : HO} : ¬ Rd (fun _ => none) a u := by
  rintro (h | ⟨o, h⟩)
  · cases h
  · cases h
theorem STup.sq {K : PySem.W.Frag} {H : Hp} {a : Addr} {vs : List V} (h : STup K H a vs) : SqT K H a vs := by
  rcases h with h | (h | h)
  · exact .inl (.inl h)
  · exact absurd h rd_empty
  · exact .inr h
theorem SLst.sq {K : PySem.W.Frag} {H : Hp} {a : Addr} {vs : List V} (h : SLst K H a vs) : SqL K H a vs := by
  rcases h with ⟨o, h⟩ | (h | h)
  · exact .inl (.inr ⟨o, h⟩)
  · exact absurd h rd_empty
  · exact .inr h
/-- what never changes is kept -/
def TK (H H' : Hp) : Prop := (∀ a xs, H a = some (.tup xs) → H' a = some (.tup xs)) ∧ ∀ a o xs, H a = some (.frz o (.lst xs)) → H' a = some (.frz o (.lst xs))
theorem TK.refl (H : Hp) : TK H H := ⟨fun _ _ h => h, fun _ _ _ h => h⟩
theorem TK.trans {H H1 H2 : Hp} (x : TK H H1) (y : TK H1 H2) : TK H H2 := ⟨fun a v h => y.1 a v (x.1 a v h), fun a o v h => y.2 a o v (x.2 a o v h)⟩
theorem TK.new {H : Hp} {p : Addr} {o : HO} (h : H p = none) : TK H (upd H p o) :=
  ⟨fun a xs e => (upd_ne (ne_of_none e h)).trans e, fun a u xs e => (upd_ne (ne_of_none e h)).trans e⟩
theorem TK.mut {H : Hp} {p : Addr} {o : HO} (h : Mut (H p)) : TK H (upd H p o) := by
  refine ⟨fun a xs e => ?_, fun a u xs e => ?_⟩
  · have n : a ≠ p := fun z => by subst z; rw [e] at h; exact h
    exact (upd_ne n).trans e
  · have n : a ≠ p := fun z => by subst z; rw [e] at h; exact h
    exact (upd_ne n).trans e
theorem STup.keep {K : PySem.W.Frag} {H H' : Hp} {a : Addr} {vs : List V} (t : TK H H') (h : STup K H a vs) : STup K H' a vs := h.imp (t.1 a vs) id
theorem SLst.keep {K : PySem.W.Frag} {H H' : Hp} {a : Addr} {vs : List V} (t : TK H H') (h : SLst K H a vs) : SLst K H' a vs := h.imp (fun ⟨o, z⟩ => ⟨o, t.2 a o vs z⟩) id

/-! ### values -/
mutual
inductive RW (K : PySem.W.Frag) (H : Hp) (ι : List Addr) : W → V → Prop where
  | non : RW K H ι .non .non
  | bl (b : Bool) : RW K H ι (.bl b) (.bl b)
  | int (i : Int) : RW K H ι (.int i) (.int i)
  | str (s : Str) : RW K H ι (.str s) (.str s)
  | tup {ws : List W} {vs : List V} {a : Addr} (h : STup K H a vs) (r : RWs K H ι ws vs) : RW K H ι (.tup ws) (.ref a)
  | frl {ws : List W} {vs : List V} {a : Addr} (h : SLst K H a vs) (r : RWs K H ι ws vs) : RW K H ι (.frl ws) (.ref a)
  | ref {n : Nat} {a : Addr} (h : ι[n]? = some a) : RW K H ι (.ref n) (.ref a)
inductive RWs (K : PySem.W.Frag) (H : Hp) (ι : List Addr) : List W → List V → Prop where
  | nil : RWs K H ι [] []
  | cons {w : W} {v : V} {ws : List W} {vs : List V} (h : RW K H ι w v) (t : RWs K H ι ws vs) : RWs K H ι (w :: ws) (v :: vs)
end
def Pre (ι ι' : List Addr) : Prop := ∀ (n : Nat) (a : Addr), ι[n]? = some a → ι'[n]? = some a
theorem Pre.refl (ι : List Addr) : Pre ι ι := fun _ _ h => h
theorem Pre.trans {a b c : List Addr} (x : Pre a b) (y : Pre b c) : Pre a c := fun n z h => y n z (x n z h)
theorem Pre.snoc (ι : List Addr) (p : Addr) : Pre ι (ι ++ [p]) := fun n a h => by
  rw [List.getElem?_append_left (List.getElem?_eq_some_iff.mp h).1]
  exact h
mutual
theorem RW.keep {K : PySem.W.Frag} {H H' : Hp} {ι ι' : List Addr} (t : TK H H') (p : Pre ι ι') : ∀ {w : W} {v : V}, RW K H ι w v → RW K H' ι' w v
  | _, _, .non => .non
  | _, _, .bl b => .bl b
  | _, _, .int i => .int i
  | _, _, .str s => .str s
  | _, _, .tup h r => .tup (h.keep t) (RWs.keep t p r)
  | _, _, .frl h r => .frl (h.keep t) (RWs.keep t p r)
  | _, _, .ref h => .ref (p _ _ h)
theorem RWs.keep {K : PySem.W.Frag} {H H' : Hp} {ι ι' : List Addr} (t : TK H H') (p : Pre ι ι') : ∀ {ws : List W} {vs : List V}, RWs K H ι ws vs → RWs K H' ι' ws vs
  | _, _, .nil => .nil
  | _, _, .cons h r => .cons (RW.keep t p h) (RWs.keep t p r)
end
section
variable {K : PySem.W.Frag} {H : Hp} {ι : List Addr}
theorem RWs.len : ∀ {ws : List W} {vs : List V}, RWs K H ι ws vs → ws.length = vs.length
  | _, _, .nil => rfl
  | _, _, .cons _ t => congrArg (· + 1) t.len
theorem RWs.get : ∀ {ws : List W} {vs : List V} {i : Nat} {w : W}, RWs K H ι ws vs → ws[i]? = some w → ∃ v, vs[i]? = some v ∧ RW K H ι w v
  | _, _, _, _, .nil, e => by simp at e
  | _, _, 0, _, .cons h _, e => by simp at e; subst e; exact ⟨_, rfl, h⟩
  | _, _, i + 1, w, .cons _ t, e => by simpa using RWs.get (i := i) t (by simpa using e)
theorem RWs.getV : ∀ {ws : List W} {vs : List V} {i : Nat} {v : V}, RWs K H ι ws vs → vs[i]? = some v → ∃ w, ws[i]? = some w ∧ RW K H ι w v
  | _, _, _, _, .nil, e => by simp at e
  | _, _, 0, _, .cons h _, e => by simp at e; subst e; exact ⟨_, rfl, h⟩
  | _, _, i + 1, w, .cons _ t, e => by simpa using RWs.getV (i := i) t (by simpa using e)
theorem RWs.app : ∀ {ws zs : List W} {vs us : List V}, RWs K H ι ws vs → RWs K H ι zs us → RWs K H ι (ws ++ zs) (vs ++ us)
  | _, _, _, _, .nil, s => s
  | _, _, _, _, .cons h t, s => .cons h (t.app s)
theorem RWs.drop : ∀ {ws : List W} {vs : List V} (n : Nat), RWs K H ι ws vs → RWs K H ι (ws.drop n) (vs.drop n)
  | _, _, 0, r => r
  | _, _, _ + 1, .nil => .nil
  | _, _, n + 1, .cons _ t => t.drop n
theorem RWs.take : ∀ {ws : List W} {vs : List V} (n : Nat), RWs K H ι ws vs → RWs K H ι (ws.take n) (vs.take n)
  | _, _, 0, _ => .nil
  | _, _, _ + 1, .nil => .nil
  | _, _, n + 1, .cons h t => .cons h (t.take n)
theorem RWs.set {w : W} {v : V} (h : RW K H ι w v) : ∀ {ws : List W} {vs : List V} (i : Nat), RWs K H ι ws vs → RWs K H ι (ws.set i w) (vs.set i v)
  | _, _, _, .nil => .nil
  | _, _, 0, .cons _ t => .cons h t
  | _, _, i + 1, .cons q t => .cons q (t.set h i)
theorem RWs.one {w : W} {v : V} (h : RW K H ι w v) : RWs K H ι [w] [v] := .cons h .nil
theorem RWs.rev {ws : List W} {vs : List V} (h : RWs K H ι ws vs) : RWs K H ι ws.reverse vs.reverse := by
  induction ws generalizing vs with
  | nil => cases h; exact .nil
  | cons w ws ih =>
    cases h with
    | cons a t =>
      rw [List.reverse_cons, List.reverse_cons]
      exact (ih t).app (.one a)
theorem RWs.erase : ∀ {ws : List W} {vs : List V} (i : Nat), RWs K H ι ws vs → RWs K H ι (ws.eraseIdx i) (vs.eraseIdx i)
  | _, _, _, .nil => .nil
  | _, _, 0, .cons _ t => t
  | _, _, i + 1, .cons q t => .cons q (t.erase i)
theorem RWs.rep {ws : List W} {vs : List V} (h : RWs K H ι ws vs) : ∀ k : Nat, RWs K H ι (List.replicate k ws).flatten (List.replicate k vs).flatten
  | 0 => .nil
  | k + 1 => by
    rw [List.replicate_succ, List.replicate_succ, List.flatten_cons, List.flatten_cons]
    exact h.app (h.rep k)
theorem RWs.dropLast {ws : List W} {vs : List V} (h : RWs K H ι ws vs) : RWs K H ι ws.dropLast vs.dropLast := by
  rw [List.dropLast_eq_take, List.dropLast_eq_take, h.len]
  exact h.take _
theorem RWs.ints : ∀ {ws : List W} {vs : List V} {ns : List Int}, RWs K H ι ws vs → intsOf ws = some ns → vs = ns.map V.int
  | _, _, _, .nil, e => by cases e; rfl
  | w :: ws, _, ns, .cons h t, e => by
    cases w with
    | int i =>
      rw [intsOf] at e
      obtain ⟨ms, e1, rfl⟩ := Option.map_eq_some_iff.mp e
      cases h
      rw [RWs.ints t e1]
      rfl
    | _ => exact absurd e (by simp [intsOf])
theorem RWs.bls : ∀ {ws : List W} {vs : List V} {ns : List Bool}, RWs K H ι ws vs → blsOf ws = some ns → vs = ns.map V.bl
  | _, _, _, .nil, e => by cases e; rfl
  | w :: ws, _, ns, .cons h t, e => by
    cases w with
    | bl i =>
      rw [blsOf] at e
      obtain ⟨ms, e1, rfl⟩ := Option.map_eq_some_iff.mp e
      cases h
      rw [RWs.bls t e1]
      rfl
    | _ => exact absurd e (by simp [blsOf])
theorem RWs.of_ints : ∀ (ns : List Int), RWs K H ι (ns.map W.int) (ns.map V.int)
  | [] => .nil
  | n :: ns => .cons (.int n) (RWs.of_ints ns)
end

/-! ### the store -/
inductive RKv (K : PySem.W.Frag) (H : Hp) (ι : List Addr) : List (Key × W) → List (Key × V) → Prop where
  | nil : RKv K H ι [] []
  | cons {k : Key} {w : W} {v : V} {ws : List (Key × W)} {vs : List (Key × V)} (h : RW K H ι w v) (t : RKv K H ι ws vs) : RKv K H ι ((k, w) :: ws) ((k, v) :: vs)
def RO (K : PySem.W.Frag) (H : Hp) (ι : List Addr) (a : Addr) : Ob → Prop
  | .lst ws => ∃ vs, H a = some (.lst vs) ∧ RWs K H ι ws vs
  | .dct kvs => ∃ vs, H a = some (.dK vs) ∧ RKv K H ι kvs vs
structure HRel (K : PySem.W.Frag) (H : Hp) (ι : List Addr) (st : Sto) : Prop where
  len : ι.length = st.length
  inj : ∀ (m n : Nat) (a : Addr), ι[m]? = some a → ι[n]? = some a → m = n
  ob : ∀ (n : Nat) (a : Addr) (o : Ob), ι[n]? = some a → st[n]? = some o → RO K H ι a o
structure Rel (K : PySem.W.Frag) (σ : L2.St) (H : Hp) (ι : List Addr) (en : En) (st : Sto) : Prop where
  hr : HRel K H ι st
  len : σ.length = en.length
  en : ∀ (i : Nat) (w : W), en[i]? = some (some w) → ∃ v, σ[i]? = some (some v) ∧ RW K H ι w v
section
variable {K : PySem.W.Frag} {H H' : Hp} {ι ι' : List Addr} {st st' : Sto} {σ : L2.St} {en : En}
theorem RKv.keep (t : TK H H') (p : Pre ι ι') : ∀ {ws : List (Key × W)} {vs : List (Key × V)}, RKv K H ι ws vs → RKv K H' ι' ws vs
  | _, _, .nil => .nil
  | _, _, .cons h r => .cons (h.keep t p) (r.keep t p)
theorem RKv.len : ∀ {ws : List (Key × W)} {vs : List (Key × V)}, RKv K H ι ws vs → ws.length = vs.length
  | _, _, .nil => rfl
  | _, _, .cons _ r => congrArg (· + 1) r.len
theorem RO.mut {a : Addr} {o : Ob} (h : RO K H ι a o) : Mut (H a) := by
  cases o with
  | lst ws => obtain ⟨vs, e, _⟩ := h; rw [e]; exact True.intro
  | dct kvs => obtain ⟨vs, e, _⟩ := h; rw [e]; exact True.intro
theorem RO.keep {a : Addr} {o : Ob} (t : TK H H') (p : Pre ι ι') (e : H' a = H a) (h : RO K H ι a o) : RO K H' ι' a o := by
  cases o with
  | lst ws => obtain ⟨vs, q, r⟩ := h; exact ⟨vs, e.trans q, r.keep t p⟩
  | dct kvs => obtain ⟨vs, q, r⟩ := h; exact ⟨vs, e.trans q, r.keep t p⟩
theorem Rel.keep (R : Rel K σ H ι en st) (t : TK H H') (p : Pre ι ι') (h : HRel K H' ι' st') : Rel K σ H' ι' en st' :=
  ⟨h, R.len, fun i w e => let ⟨v, q, r⟩ := R.en i w e; ⟨v, q, r.keep t p⟩⟩
theorem HRel.at (h : HRel K H ι st) {n : Nat} {a : Addr} (e : ι[n]? = some a) : ∃ o, st[n]? = some o ∧ RO K H ι a o := by
  have l : n < st.length := by rw [← h.len]; exact (List.getElem?_eq_some_iff.mp e).1
  exact ⟨st[n], List.getElem?_eq_getElem l, h.ob n a _ e (List.getElem?_eq_getElem l)⟩
theorem HRel.adr (h : HRel K H ι st) {n : Nat} {o : Ob} (e : st[n]? = some o) : ∃ a, ι[n]? = some a ∧ RO K H ι a o := by
  have l : n < ι.length := by rw [h.len]; exact (List.getElem?_eq_some_iff.mp e).1
  exact ⟨ι[n], List.getElem?_eq_getElem l, h.ob n _ o (List.getElem?_eq_getElem l) e⟩
theorem HRel.fresh (h : HRel K H ι st) {p : Addr} (hp : H p = none) : ∀ n : Nat, ι[n]? ≠ some p := fun n e => by
  obtain ⟨o, _, r⟩ := h.at e
  have := r.mut
  rw [hp] at this
  exact this
/-- a new object -/
theorem HRel.push (h : HRel K H ι st) {p : Addr} {u : HO} {o : Ob} (hp : H p = none) (r : RO K (upd H p u) (ι ++ [p]) p o) : HRel K (upd H p u) (ι ++ [p]) (st ++ [o]) := by
  have fr := h.fresh hp
  refine ⟨by simp [h.len], fun m n a e1 e2 => ?_, fun n a q e1 e2 => ?_⟩
  · rcases Nat.lt_or_ge m ι.length with hm | hm
    · rw [List.getElem?_append_left hm] at e1
      rcases Nat.lt_or_ge n ι.length with hn | hn
      · rw [List.getElem?_append_left hn] at e2
        exact h.inj m n a e1 e2
      · rw [List.getElem?_append_right hn] at e2
        have : a = p := by
          rcases Nat.eq_zero_or_pos (n - ι.length) with z | z
          · rw [z] at e2; simpa using e2.symm
          · rw [List.getElem?_eq_none (by simp only [List.length_singleton]; omega)] at e2; cases e2
        subst this
        exact absurd e1 (fr m)
    · rw [List.getElem?_append_right hm] at e1
      have hm0 : m = ι.length := by
        rcases Nat.eq_zero_or_pos (m - ι.length) with z | z
        · omega
        · rw [List.getElem?_eq_none (by simp only [List.length_singleton]; omega)] at e1; cases e1
      have ha : a = p := by
        rw [hm0] at e1; simpa using e1.symm
      subst ha
      rcases Nat.lt_or_ge n ι.length with hn | hn
      · rw [List.getElem?_append_left hn] at e2
        exact absurd e2 (fr n)
      · rw [List.getElem?_append_right hn] at e2
        rcases Nat.eq_zero_or_pos (n - ι.length) with z | z
        · omega
        · rw [List.getElem?_eq_none (by simp only [List.length_singleton]; omega)] at e2; cases e2
  · rcases Nat.lt_or_ge n ι.length with hn | hn
    · rw [List.getElem?_append_left hn] at e1
      rw [List.getElem?_append_left (by rw [← h.len]; exact hn)] at e2
      have ne : a ≠ p := fun z => fr n (by rw [e1, z])
      exact (h.ob n a q e1 e2).keep (TK.new hp) (Pre.snoc ι p) (upd_ne ne)
    · have hn0 : n = ι.length := by
        rw [List.getElem?_append_right hn] at e1
        rcases Nat.eq_zero_or_pos (n - ι.length) with z | z
        · omega
        · rw [List.getElem?_eq_none (by simp only [List.length_singleton]; omega)] at e1; cases e1
      subst hn0
      have ha : a = p := by simpa using e1.symm
      subst ha
      rw [h.len] at e2
      have hq : q = o := by simpa using e2.symm
      subst hq
      exact r
/-- an object changed -/
theorem HRel.set (h : HRel K H ι st) {n : Nat} {p : Addr} {u : HO} {o : Ob} (hp : ι[n]? = some p) (r : RO K (upd H p u) ι p o) : HRel K (upd H p u) ι (st.set n o) := by
  have mu : Mut (H p) := let ⟨_, _, z⟩ := h.at hp; z.mut
  refine ⟨by simp [h.len], h.inj, fun m a q e1 e2 => ?_⟩
  by_cases e : m = n
  · subst e
    rw [hp] at e1
    cases e1
    have hl : m < st.length := by rw [← h.len]; exact (List.getElem?_eq_some_iff.mp hp).1
    rw [List.getElem?_set_self hl] at e2
    cases e2
    exact r
  · rw [List.getElem?_set_ne (Ne.symm e)] at e2
    have ne : a ≠ p := fun z => e (h.inj m n a e1 (by rw [hp, z]))
    exact (h.ob m a q e1 e2).keep (TK.mut mu) (Pre.refl ι) (upd_ne ne)
end

/-! ### outcomes -/
section
variable {K : PySem.W.Frag}
/-- what an exception is in the heap -/
def RX (K : PySem.W.Frag) (H : Hp) (ι : List Addr) (x : Exn) (c : Value) (d : Option Addr) : Prop := False
/-- r is reckoned from (H, ι): what comes of it is wanted -/
def Fin {α : Type} (K : PySem.W.Frag) (X : Value → Option Addr → Hp → Prop) (ι : List Addr) (H : Hp) (r : Res α) (k : α → List Addr → Sto → Hp → Prop) : Prop :=
  match r with
  | .ok a st => ∀ ι' H', Pre ι ι' → TK H H' → HRel K H' ι' st → k a ι' st H'
  | .exc x st => ∀ ι' H' c d, Pre ι ι' → TK H H' → HRel K H' ι' st → RX K H' ι' x c d → X c d H'
  | .bad => False
variable {X : Value → Option Addr → Hp → Prop} {ι : List Addr} {H : Hp} {α β : Type}
theorem Fin.shift {r : Res α} {k : α → List Addr → Sto → Hp → Prop} {ι' : List Addr} {H' : Hp} (p : Pre ι ι') (t : TK H H') (h : Fin K X ι H r k) : Fin K X ι' H' r k := by
  cases r with
  | ok a st => exact fun ι2 H2 p2 t2 z => h ι2 H2 (p.trans p2) (t.trans t2) z
  | exc x st => exact fun ι2 H2 c d p2 t2 z => h ι2 H2 c d (p.trans p2) (t.trans t2) z
  | bad => exact h
theorem Fin.split {r : Res α} {f : α → Sto → Res β} {k : β → List Addr → Sto → Hp → Prop} (h : Fin K X ι H (r.bind f) k) :
    Fin K X ι H r (fun a ι' st' H' => Fin K X ι' H' (f a st') k) := by
  cases r with
  | ok a st => exact fun ι' H' p t _ => Fin.shift p t h
  | exc x st => exact h
  | bad => exact h
theorem Fin.mono {r : Res α} {k k' : α → List Addr → Sto → Hp → Prop} (h : Fin K X ι H r k) (hk : ∀ a ι' st' H', Pre ι ι' → TK H H' → HRel K H' ι' st' → k a ι' st' H' → k' a ι' st' H') : Fin K X ι H r k' := by
  cases r with
  | ok a st => exact fun ι' H' p t z => hk a ι' st H' p t z (h ι' H' p t z)
  | exc x st => exact h
  | bad => exact h
theorem Fin.now {a : α} {st : Sto} {k : α → List Addr → Sto → Hp → Prop} (h : Fin K X ι H (.ok a st) k) (z : HRel K H ι st) : k a ι st H := h ι H (Pre.refl ι) (TK.refl H) z

/-- an expression's reading by its reckoning -/
def tW (K : PySem.W.Frag) (X : WX) (f : En → Sto → Res W) : TE := fun σ H Q => ∃ ι en st, Rel K σ H ι en st ∧ Fin K (fun c d H' => X c d σ H') ι H (f en st) fun w ι' _ H' => ∀ v, RW K H' ι' w v → Q v H'
def tWs (K : PySem.W.Frag) (X : WX) (f : En → Sto → Res (List W)) : TA := fun σ H Q => ∃ ι en st, Rel K σ H ι en st ∧ Fin K (fun c d H' => X c d σ H') ι H (f en st) fun w ι' _ H' => ∀ v, RWs K H' ι' w v → Q v H'
def tWb (K : PySem.W.Frag) (X : WX) (f : En → Sto → Res Bool) : TT := fun σ H Q => ∃ ι en st, Rel K σ H ι en st ∧ Fin K (fun c d H' => X c d σ H') ι H (f en st) fun b _ _ H' => Q b H'
/-- only slots of A differ -/
def Agree (A : Nat → Bool) (σ σ' : L2.St) : Prop := σ'.length = σ.length ∧ ∀ i, A i = false → σ'[i]? = σ[i]?
theorem Agree.refl (A : Nat → Bool) (σ : L2.St) : Agree A σ σ := ⟨rfl, fun _ _ => rfl⟩
theorem Agree.trans {A : Nat → Bool} {a b c : L2.St} (x : Agree A a b) (y : Agree A b c) : Agree A a c := ⟨y.1.trans x.1, fun i h => (y.2 i h).trans (x.2 i h)⟩
def outK (K : PySem.W.Frag) (D : Ends) (A : Nat → Bool) (σ : L2.St) : Out → List Addr → Sto → Hp → Prop := fun o ι' st' H' =>
  match o with
  | .nx en' => ∀ σ', Agree A σ σ' → Rel K σ' H' ι' en' st' → D.nx σ' H'
  | .bk en' => ∀ σ', Agree A σ σ' → Rel K σ' H' ι' en' st' → D.bk σ' H'
  | .ct en' => ∀ σ', Agree A σ σ' → Rel K σ' H' ι' en' st' → D.ct σ' H'
  | .rt w => ∀ v, RW K H' ι' w v → D.rt v H'
/-- a statement's -/
def tWS (K : PySem.W.Frag) (X : WX) (A : Nat → Bool) (f : En → Sto → Res Out) : TS := fun D σ H => ∃ ι en st, Rel K σ H ι en st ∧ Fin K (fun c d H' => ∀ σ', Agree A σ σ' → X c d σ' H') ι H (f en st) (outK K D A σ)
end
end Ci
/-! Ci2: operators, comparisons, places by values. -/
namespace Ci
open PySem L2

def FinO (K : PySem.W.Frag) (ι : List Addr) (H : Hp) (r : Option (W × Sto)) (Q : VK) : Prop :=
  match r with
  | some (w, st) => ∀ ι' H' v, Pre ι ι' → TK H H' → HRel K H' ι' st → RW K H' ι' w v → Q v H'
  | none => False
def rB2 (K : PySem.W.Frag) (f : W → W → Sto → Option (W × Sto)) : R2 := fun x y H Q => ∃ ι st a b, HRel K H ι st ∧ RW K H ι a x ∧ RW K H ι b y ∧ FinO K ι H (f a b st) Q
def rB1 (K : PySem.W.Frag) (f : W → Sto → Option (W × Sto)) : V → Hp → VK → Prop := fun x H Q => ∃ ι st a, HRel K H ι st ∧ RW K H ι a x ∧ FinO K ι H (f a st) Q
def rBs (K : PySem.W.Frag) (f : List W → Sto → Option (W × Sto)) : List V → Hp → VK → Prop := fun xs H Q => ∃ ι st as, HRel K H ι st ∧ RWs K H ι as xs ∧ FinO K ι H (f as st) Q
def rBm (K : PySem.W.Frag) (f : W → List W → Sto → Option (W × Sto)) : V → List V → Hp → VK → Prop := fun x xs H Q => ∃ ι st a as, HRel K H ι st ∧ RW K H ι a x ∧ RWs K H ι as xs ∧ FinO K ι H (f a as st) Q
section
variable {K : PySem.W.Frag} {ι : List Addr} {H : Hp} {st : Sto} {Q : VK}
theorem FinO.now {w : W} {v : V} (h : FinO K ι H (some (w, st)) Q) (z : HRel K H ι st) (r : RW K H ι w v) : Q v H := h ι H v (Pre.refl ι) (TK.refl H) z r
theorem FinO.new {ws : List W} {vs : List V} (h : FinO K ι H (Ci.new st (.lst ws)) Q) (z : HRel K H ι st) (r : RWs K H ι ws vs) : ∀ p, H p = none → Q (.ref p) (upd H p (.lst vs)) := fun p hp =>
  h (ι ++ [p]) _ (.ref p) (Pre.snoc ι p) (TK.new hp) (z.push hp ⟨vs, upd_same, r.keep (TK.new hp) (Pre.snoc ι p)⟩) (.ref (by rw [← z.len]; simp))
theorem FinO.tup {ws : List W} {vs : List V} (h : FinO K ι H (some (.tup ws, st)) Q) (z : HRel K H ι st) (r : RWs K H ι ws vs) : ∀ p, H p = none → Q (.ref p) (upd H p (.tup vs)) := fun p hp => by
  refine h ι _ (.ref p) (Pre.refl ι) (TK.new hp) ⟨z.len, z.inj, fun n a o e1 e2 => ?_⟩ (.tup (.inl upd_same) (r.keep (TK.new hp) (Pre.refl ι)))
  have ne : a ≠ p := fun q => z.fresh hp n (by rw [e1, q])
  exact (z.ob n a o e1 e2).keep (TK.new hp) (Pre.refl ι) (upd_ne ne)
theorem FinO.put {w : W} {v : V} {n : Nat} {p : Addr} {ws : List W} {vs : List V} (h : FinO K ι H (some (w, st.set n (.lst ws))) Q) (z : HRel K H ι st) (hp : ι[n]? = some p) (r : RWs K H ι ws vs) (rw' : RW K H ι w v) : Q v (upd H p (.lst vs)) := by
  have mu : Mut (H p) := let ⟨_, _, q⟩ := z.at hp; q.mut
  exact h ι _ v (Pre.refl ι) (TK.mut mu) (z.set hp ⟨vs, upd_same, r.keep (TK.mut mu) (Pre.refl ι)⟩) (rw'.keep (TK.mut mu) (Pre.refl ι))
/-- what stands at a list's, a tuple's place -/
theorem RW.seq {w : W} {v : V} {ws : List W} (z : HRel K H ι st) (r : RW K H ι w v) (e : seqOf st w = some ws) : ∃ a vs, v = .ref a ∧ RWs K H ι ws vs ∧ (SqL K H a vs ∨ SqT K H a vs) := by
  cases w with
  | tup us => cases r with | tup h q => cases e; exact ⟨_, _, rfl, q, .inr h.sq⟩
  | frl us => cases r with | frl h q => cases e; exact ⟨_, _, rfl, q, .inl h.sq⟩
  | ref n =>
    cases r with
    | ref h =>
      obtain ⟨o, eo, ro⟩ := z.at h
      unfold seqOf at e
      simp only [eo] at e
      cases o with
      | lst us => cases e; obtain ⟨vs, q1, q2⟩ := ro; exact ⟨_, vs, rfl, q2, .inl (SqL.of q1)⟩
      | dct _ => cases e
  | _ => cases e
theorem RW.lst {w : W} {v : V} {ws : List W} (z : HRel K H ι st) (r : RW K H ι w v) (e : lstOf st w = some ws) : ∃ a vs, v = .ref a ∧ RWs K H ι ws vs ∧ SqL K H a vs := by
  cases w with
  | frl us => cases r with | frl h q => cases e; exact ⟨_, _, rfl, q, h.sq⟩
  | ref n =>
    cases r with
    | ref h =>
      obtain ⟨o, eo, ro⟩ := z.at h
      unfold lstOf at e
      simp only [eo] at e
      cases o with
      | lst us => cases e; obtain ⟨vs, q1, q2⟩ := ro; exact ⟨_, vs, rfl, q2, SqL.of q1⟩
      | dct _ => cases e
  | _ => cases e
theorem RW.own {n : Nat} {v : V} {o : Ob} (z : HRel K H ι st) (r : RW K H ι (.ref n) v) (e : st[n]? = some o) : ∃ a, v = .ref a ∧ ι[n]? = some a ∧ RO K H ι a o := by
  cases r with
  | ref h => exact ⟨_, rfl, h, z.ob _ _ _ h e⟩
end

section
variable {X : Cx}
theorem or_bin (o : BinO) : OpR X (binaryOp o.py) (rB2 X.K (bin o)) := by
  intro pins s σ H x y v u Q I rx ry h
  obtain ⟨ι, st, a, b, hr, ra, rb, hf⟩ := h
  cases a with
  | int i =>
    cases b with
    | int j =>
      cases ra; cases rb
      have hf' : FinO X.K ι H ((binI o i j).map fun k => (W.int k, st)) Q := hf
      cases ho : binI o i j with
      | none => rw [ho] at hf'; exact hf'.elim
      | some k =>
        rw [ho] at hf'
        have q : Q (.int k) H := FinO.now hf' hr (.int k)
        cases o with
        | add => cases ho; exact op_add pins s σ H _ _ v u Q I rx ry ⟨i, j, rfl, rfl, q⟩
        | sub => cases ho; exact op_sub pins s σ H _ _ v u Q I rx ry ⟨i, j, rfl, rfl, q⟩
        | mul =>
          simp only [binI] at ho
          split at ho
          · rename_i hc
            cases ho
            simp only [Bool.or_eq_true] at hc
            rcases hc with (hc | hc) | hc
            · exact op_mul pins s σ H _ _ v u Q I rx ry ⟨i, j, rfl, rfl, .inl (of_decide_eq_true hc), q⟩
            · exact op_mul pins s σ H _ _ v u Q I rx ry ⟨i, j, rfl, rfl, .inr (of_decide_eq_true hc), q⟩
            · have hc := of_decide_eq_true hc
              exact op_mulW pins s σ H _ _ v u Q I rx ry ⟨i, j, rfl, rfl, hc, q⟩
          · cases ho
        | fdiv =>
          simp only [binI] at ho
          split at ho
          · rename_i hc
            cases ho
            simp only [divOk, Bool.and_eq_true, Bool.or_eq_true, decide_eq_true_eq] at hc
            obtain ⟨h0, hc | hc⟩ := hc
            · exact op_fdiv pins s σ H _ _ v u Q I rx ry ⟨i, j, rfl, rfl, ⟨h0, hc⟩, q⟩
            · exact op_fdivW pins s σ H _ _ v u Q I rx ry ⟨i, j, rfl, rfl, ⟨h0, hc⟩, q⟩
          · cases ho
        | mod =>
          simp only [binI] at ho
          split at ho
          · rename_i hc
            cases ho
            have hc := of_decide_eq_true hc
            exact op_mod pins s σ H _ _ v u Q I rx ry ⟨i, j, rfl, rfl, hc, q⟩
          · cases ho
        | pow =>
          simp only [binI] at ho
          split at ho
          · rename_i hc
            cases ho
            have hc := of_decide_eq_true hc
            exact op_pow pins s σ H _ _ v u Q I rx ry ⟨i, j, rfl, rfl, hc, q⟩
          · cases ho
        | shl =>
          simp only [binI] at ho
          split at ho
          · rename_i hc
            cases ho
            have hc := of_decide_eq_true hc
            exact op_shl pins s σ H _ _ v u Q I rx ry ⟨i, j, rfl, rfl, hc, q⟩
          · cases ho
        | shr =>
          simp only [binI] at ho
          split at ho
          · rename_i hc
            cases ho
            have hc := of_decide_eq_true hc
            exact op_shr pins s σ H _ _ v u Q I rx ry ⟨i, j, rfl, rfl, hc, q⟩
          · cases ho
        | band => cases ho; exact op_and pins s σ H _ _ v u Q I rx ry ⟨i, j, rfl, rfl, q⟩
        | bor => cases ho; exact op_or pins s σ H _ _ v u Q I rx ry ⟨i, j, rfl, rfl, q⟩
        | bxor => cases ho; exact op_xor pins s σ H _ _ v u Q I rx ry ⟨i, j, rfl, rfl, q⟩
    | _ => exact hf.elim
  | str x =>
    cases b with
    | str y =>
      cases ra; cases rb
      cases o with
      | add =>
        have hf' : FinO X.K ι H (if x.length + y.length ≤ sizeLine then some (W.str (x ++ y), st) else none) Q := hf
        split at hf'
        · rename_i hc
          exact op_add_str pins s σ H _ _ v u Q I rx ry ⟨x, y, rfl, rfl, hc, FinO.now hf' hr (.str _)⟩
        · exact hf'.elim
      | _ => exact hf.elim
    | _ => exact hf.elim
  | tup xs =>
    cases b with
    | tup ys =>
      cases o with
      | add =>
        have hf' : FinO X.K ι H (if xs.length + ys.length ≤ sizeLine then some (W.tup (xs ++ ys), st) else none) Q := hf
        split at hf'
        · rename_i hc
          cases ra with
          | @tup _ vs p hp rp =>
            cases rb with
            | @tup _ us q hq rq =>
              have l1 := rp.len
              have l2 := rq.len
              refine op_catA pins s σ H _ _ v u Q I rx ry ⟨p, q, vs, us, rfl, rfl, hp.sq, hq.sq, by omega, fun e => ?_, fun _ e => ?_, fun _ _ => FinO.tup hf' hr (rp.app rq)⟩
              · subst e
                have : xs = [] := List.length_eq_zero_iff.mp (by rw [l1]; rfl)
                subst this
                exact FinO.now hf' hr (.tup hq rq)
              · subst e
                have : ys = [] := List.length_eq_zero_iff.mp (by rw [l2]; rfl)
                subst this
                rw [List.append_nil] at hf'
                exact FinO.now hf' hr (.tup hp rp)
        · exact hf'.elim
      | _ => exact hf.elim
    | _ => exact hf.elim
  | ref m =>
    cases b with
    | ref n =>
      unfold bin at hf
      simp only at hf
      split at hf
      · rename_i xs ys e1 e2
        split at hf
        · rename_i hc
          obtain ⟨p, rfl, hp, vs, h1, r1⟩ := ra.own hr e1
          obtain ⟨q, rfl, hq, us, h2, r2⟩ := rb.own hr e2
          have l1 := r1.len
          have l2 := r2.len
          exact op_cat pins s σ H _ _ v u Q I rx ry ⟨p, q, vs, us, rfl, rfl, h1, h2, by omega, FinO.new hf hr (r1.app r2)⟩
        · exact hf.elim
      · exact hf.elim
    | int k =>
      unfold bin at hf
      simp only at hf
      split at hf
      · rename_i xs e1
        split at hf
        · rename_i hc
          simp only [Bool.and_eq_true, decide_eq_true_eq] at hc
          cases rb
          obtain ⟨p, rfl, hp, vs, h1, r1⟩ := ra.own hr e1
          have l1 := r1.len
          exact op_rep pins s σ H _ _ v u Q I rx ry ⟨p, k, vs, rfl, rfl, h1, by omega, by omega, by rw [← l1]; exact hc.2, FinO.new hf hr (r1.rep k.toNat)⟩
        · exact hf.elim
      · exact hf.elim
    | _ => exact hf.elim
  | _ => exact hf.elim

theorem or_of {f : Value → Value → Sem Value} {r r' : R2} (h : OpR X f r) (i : ∀ x y H Q, r' x y H Q → r x y H Q) : OpR X f r' := fun pins s σ H x y v u Q I rx ry q => h pins s σ H x y v u Q I rx ry (i _ _ _ _ q)
end

/-! ### data -/
section
variable {K : PySem.W.Frag} {ι : List Addr} {H : Hp} {st : Sto}
mutual
theorem RW.dp {ρ : Nat → Option PyData} (hρ : ∀ (n : Nat) (a : Addr) (d : PyData), ι[n]? = some a → ρ n = some d → Dp K H (.ref a) d) : ∀ {w : W} {v : V} {d : PyData}, RW K H ι w v → pd ρ w = some d → Dp K H v d
  | _, _, _, .non, e => by rw [pd] at e; cases e; exact .non
  | _, _, _, .bl b, e => by rw [pd] at e; cases e; exact .bl b
  | _, _, _, .int b, e => by rw [pd] at e; cases e; exact .int b
  | _, _, _, .str b, e => by rw [pd] at e; cases e; exact .str b
  | _, _, _, .tup h r, e => by
    rw [pd] at e
    obtain ⟨ds, e1, rfl⟩ := Option.map_eq_some_iff.mp e
    exact .tup h.sq (RWs.dp hρ r e1)
  | _, _, _, .frl h r, e => by
    rw [pd] at e
    obtain ⟨ds, e1, rfl⟩ := Option.map_eq_some_iff.mp e
    exact .lst h.sq (RWs.dp hρ r e1)
  | _, _, _, .ref h, e => by rw [pd] at e; exact hρ _ _ _ h e
theorem RWs.dp {ρ : Nat → Option PyData} (hρ : ∀ (n : Nat) (a : Addr) (d : PyData), ι[n]? = some a → ρ n = some d → Dp K H (.ref a) d) : ∀ {ws : List W} {vs : List V} {ds : List PyData}, RWs K H ι ws vs → pds ρ ws = some ds → DpAll K H vs ds
  | _, _, _, .nil, e => by rw [pds] at e; cases e; exact .nil
  | _, _, _, .cons h r, e => by
    rw [pds] at e
    split at e
    · rename_i d ds e1 e2
      cases e
      exact .cons (RW.dp hρ h e1) (RWs.dp hρ r e2)
    · cases e
end
theorem rho_dp (z : HRel K H ι st) : ∀ (k n : Nat) (a : Addr) (d : PyData), ι[n]? = some a → rho st k n = some d → Dp K H (.ref a) d
  | 0, _, _, _, _, e => by cases e
  | k + 1, n, a, d, h, e => by
    obtain ⟨o, eo, ro⟩ := z.at h
    rw [rho, eo] at e
    cases o with
    | lst us =>
      obtain ⟨vs, q1, q2⟩ := ro
      obtain ⟨ds, e1, rfl⟩ := Option.map_eq_some_iff.mp e
      exact .lst (SqL.of q1) (RWs.dp (rho_dp z k) q2 e1)
    | dct _ => cases e
theorem toD_dp (z : HRel K H ι st) {w : W} {v : V} {d : PyData} (r : RW K H ι w v) (e : toD st w = some d) : Dp K H v d := RW.dp (rho_dp z 9) r e
end

section
variable {X : Cx}
theorem eqv_flat (st : Sto) {x y : W} {b : Bool} (h : eqD st x y = some b) : (∃ a c, x = .str a ∧ y = .str c ∧ b = (a == c)) ∨ (∃ a c, x = .int a ∧ y = .int c ∧ b = (a == c)) ∨
    ∃ d e, toD st x = some d ∧ toD st y = some e ∧ SeqAt.shaped d = true ∧ SeqAt.shaped e = true ∧ b = PyData.eqv d e := by
  unfold eqD at h
  split at h
  · cases h; exact .inl ⟨_, _, rfl, rfl, rfl⟩
  · cases h; exact .inr (.inl ⟨_, _, rfl, rfl, rfl⟩)
  · split at h
    · rename_i d e h1 h2
      split at h
      · rename_i hs
        cases h
        simp only [shapedB, Bool.and_eq_true] at hs
        exact .inr (.inr ⟨d, e, h1, h2, hs.1, hs.2, rfl⟩)
      · cases h
    · cases h
theorem flat_rel {K : PySem.W.Frag} {H : Hp} {ι : List Addr} {w : W} {v : V} (r : RW K H ι w v) (f : flatW w = true) : flatV v = true := by
  cases r <;> first | rfl | cases f
theorem eqF_rel {K : PySem.W.Frag} {H : Hp} {ι : List Addr} {w z : W} {v u : V} (r : RW K H ι w v) (q : RW K H ι z u) (f : flatW w = true) (g : flatW z = true) : eqV v u = eqF w z := by
  cases r <;> cases q <;> rfl
theorem flats_rel {K : PySem.W.Frag} {H : Hp} {ι : List Addr} {w : W} {v : V} (r : RW K H ι w v) (f : flatW w = true) : ∀ {ws : List W} {vs : List V}, RWs K H ι ws vs → ws.all flatW = true → vs.all flatV = true ∧ inV v vs = ws.any fun y => eqF y w
  | _, _, .nil, _ => ⟨rfl, rfl⟩
  | _, _, .cons h t, e => by
    rw [List.all_cons, Bool.and_eq_true] at e
    obtain ⟨a, b⟩ := flats_rel r f t e.2
    refine ⟨by rw [List.all_cons, flat_rel h e.1, a]; rfl, ?_⟩
    unfold inV at b ⊢
    rw [List.any_cons, List.any_cons, eqF_rel h r e.1 f, b]
end
end Ci
/-! Ci3: comparisons, truth, subscripts, slices, built-ins, methods by values. -/
namespace Ci
open PySem L2

section
variable {K : PySem.W.Frag} {ι : List Addr} {H : Hp} {st : Sto} {Q : VK}
theorem keyOf_rel {w : W} {v : V} {k : Key} (r : RW K H ι w v) (e : keyOf w = some k) : v = kV k := by
  cases r <;> first | (cases e; rfl) | cases e
theorem RKv.get : ∀ {ws : List (Key × W)} {vs : List (Key × V)} {k : Key}, RKv K H ι ws vs → (∀ w, dgetL k ws = some w → ∃ v, valV vs k = some v ∧ RW K H ι w v) ∧ (valV vs k).isSome = (dgetL k ws).isSome
  | _, _, k, .nil => ⟨fun w e => (by cases e), rfl⟩
  | (j, w) :: ws, (_, v) :: vs, k, .cons h t => by
    by_cases e : j = k
    · subst e
      have e1 : dgetL j ((j, w) :: ws) = some w := by rw [dgetL, if_pos rfl]
      have e2 : valV ((j, v) :: vs) j = some v := valV_pos rfl
      refine ⟨fun z ez => ?_, by rw [e1, e2]; rfl⟩
      rw [e1] at ez
      cases ez
      exact ⟨v, e2, h⟩
    · have e1 : dgetL k ((j, w) :: ws) = dgetL k ws := by rw [dgetL, if_neg e]
      have e2 : valV ((j, v) :: vs) k = valV vs k := valV_neg e
      rw [e1, e2]
      exact RKv.get t
theorem FinO.bl {b : Bool} (h : FinO K ι H (some (.bl b, st)) Q) (z : HRel K H ι st) : Q (.bl b) H := h.now z (.bl b)
theorem cmpO_bl {o : CmpO} {x y : W} (h : FinO K ι H (cmpO o x y st) Q) (z : HRel K H ι st) : ∃ b, cmp o x y st = some b ∧ Q (.bl b) H := by
  unfold cmpO at h
  cases e : cmp o x y st with
  | none => rw [e] at h; exact h.elim
  | some b => rw [e] at h; exact ⟨b, rfl, FinO.bl h z⟩
end

section
variable {X : Cx}
theorem or_is (o : CmpO) (ho : o = .isN ∨ o = .notN) : OpR X (compareOp o.py) (rB2 X.K (cmpO o)) := by
  intro pins s σ H x y v u Q I rx ry h
  obtain ⟨ι, st, a, b, hr, ra, rb, hf⟩ := h
  obtain ⟨k, hk, q⟩ := cmpO_bl hf hr
  rcases ho with rfl | rfl
  · cases b with
    | non =>
      cases rb
      have hk' : some (isNon a) = some k := hk
      refine op_isN pins s σ H _ _ v u Q I rx ry ⟨rfl, ?_⟩
      have e : decide (x = .non) = k := by
        rw [← Option.some.inj hk']
        cases ra <;> first | rfl | (apply decide_eq_false; intro z; cases z)
      rw [e]; exact q
    | bl b =>
      cases rb
      cases a with
      | bl c =>
        cases ra
        have hk' : some (decide (c = b)) = some k := hk
        cases hk'
        exact op_isBl pins s σ H _ _ v u Q I rx ry ⟨c, b, rfl, rfl, q⟩
      | _ => cases hk
    | _ => cases hk
  · cases b with
    | non =>
      cases rb
      have hk' : some (!isNon a) = some k := hk
      refine op_notN pins s σ H _ _ v u Q I rx ry ⟨rfl, ?_⟩
      have e : (!decide (x = .non)) = k := by
        rw [← Option.some.inj hk']
        cases ra <;> first | rfl | (rw [decide_eq_false (by intro z; cases z)]; rfl)
      rw [e]; exact q
    | bl b =>
      cases rb
      cases a with
      | bl c =>
        cases ra
        have hk' : some (!decide (c = b)) = some k := hk
        cases hk'
        exact op_notBl pins s σ H _ _ v u Q I rx ry ⟨c, b, rfl, rfl, q⟩
      | _ => cases hk
    | _ => cases hk
theorem or_in (hu : X.A.units + 65 < cLine) (o : CmpO) (ho : o = .isin ∨ o = .notin) : OpR X (compareOp o.py) (rB2 X.K (cmpO o)) := by
  intro pins s σ H x y v u Q I rx ry h
  obtain ⟨ι, st, a, b, hr, ra, rb, hf⟩ := h
  obtain ⟨k, hk, q⟩ := cmpO_bl hf hr
  -- what in tells, by its own answer
  have core : ∀ c : Bool, inW st a b = some c → (wpAny (model X.prog X.w) X.A (compareOp .In v u) (fun r s' => ∃ H', Inv X pins σ H' s' ∧ H' = H ∧ r = .bool c) X.xe s ∧
      wpAny (model X.prog X.w) X.A (compareOp .NotIn v u) (fun r s' => ∃ H', Inv X pins σ H' s' ∧ H' = H ∧ r = .bool (!c)) X.xe s) := by
    intro c hc
    have fin : ∀ d : Bool, (wpAny (model X.prog X.w) X.A (compareOp .In v u) (EP X pins σ fun z H' => z = .bl d ∧ H' = H) X.xe s) → wpAny (model X.prog X.w) X.A (compareOp .In v u) (fun r s' => ∃ H', Inv X pins σ H' s' ∧ H' = H ∧ r = .bool d) X.xe s := fun d hd =>
      thn hd fun r s' ⟨z, H', I', rz, ez, eH⟩ => ⟨H', I', eH, by subst ez; exact rz⟩
    have fin2 : ∀ d : Bool, (wpAny (model X.prog X.w) X.A (compareOp .NotIn v u) (EP X pins σ fun z H' => z = .bl d ∧ H' = H) X.xe s) → wpAny (model X.prog X.w) X.A (compareOp .NotIn v u) (fun r s' => ∃ H', Inv X pins σ H' s' ∧ H' = H ∧ r = .bool d) X.xe s := fun d hd =>
      thn hd fun r s' ⟨z, H', I', rz, ez, eH⟩ => ⟨H', I', eH, by subst ez; exact rz⟩
    have deep : ∀ ws vs p, u = .ref p → RWs X.K H ι ws vs → SqL X.K H p vs → inD st a ws = some c → (wpAny (model X.prog X.w) X.A (compareOp .In v u) (fun r s' => ∃ H', Inv X pins σ H' s' ∧ H' = H ∧ r = .bool c) X.xe s ∧
      wpAny (model X.prog X.w) X.A (compareOp .NotIn v u) (fun r s' => ∃ H', Inv X pins σ H' s' ∧ H' = H ∧ r = .bool (!c)) X.xe s) := by
      intro ws vs p eu r hs hd
      subst eu
      unfold inD at hd
      split at hd
      · rename_i d ds e1 e2
        split at hd
        · rename_i hsh
          simp only [shapedB, Bool.and_eq_true] at hsh
          cases hd
          have h1 := toD_dp hr ra e1
          have h2 : Dp X.K H (.ref p) (.list ds) := .lst hs (RWs.dp (rho_dp hr 8) r e2)
          exact ⟨fin _ (op_inD hu pins s σ H x (.ref p) v _ _ I rx rfl ⟨d, ds, h1, h2, hsh.1, hsh.2, rfl, rfl⟩), fin2 _ (op_notInD hu pins s σ H x (.ref p) v _ _ I rx rfl ⟨d, ds, h1, h2, hsh.1, hsh.2, rfl, rfl⟩)⟩
        · cases hd
      · cases hd
    cases b with
    | str t =>
      cases a with
      | str z =>
        cases ra; cases rb
        cases hc
        exact ⟨fin _ (op_in_str pins s σ H _ _ v u _ I rx ry ⟨z, t, rfl, rfl, rfl, rfl⟩), fin2 _ (L2.op_notIn_str pins s σ H _ _ v u _ I rx ry ⟨z, t, rfl, rfl, rfl, rfl⟩)⟩
      | _ => cases hc
    | tup ws =>
      cases rb with
      | @tup _ vs p hp rp =>
        have hc' : (if flatW a && ws.all flatW then some (ws.any fun y => eqF y a) else none) = some c := hc
        split at hc'
        · rename_i hfl
          rw [Bool.and_eq_true] at hfl
          cases hc'
          obtain ⟨f1, f2⟩ := flats_rel ra hfl.1 rp hfl.2
          exact ⟨fin _ (op_in_seq pins s σ H _ _ v u _ I rx ry ⟨p, vs, rfl, .inr hp.sq, flat_rel ra hfl.1, f1, by rw [← f2]; exact ⟨rfl, rfl⟩⟩),
            fin2 _ (op_notIn_seq pins s σ H _ _ v u _ I rx ry ⟨p, vs, rfl, .inr hp.sq, flat_rel ra hfl.1, f1, by rw [← f2]; exact ⟨rfl, rfl⟩⟩)⟩
        · cases hc'
    | frl ws =>
      cases rb with
      | @frl _ vs p hp rp =>
        cases ry
        exact deep ws vs p rfl rp hp.sq hc
    | ref n =>
      unfold inW at hc
      simp only at hc
      split at hc
      · rename_i ws e1
        obtain ⟨p, rfl, hp, vs, h1, r1⟩ := rb.own hr e1
        cases ry
        exact deep ws vs p rfl r1 (SqL.of h1) hc
      · rename_i kvs e1
        obtain ⟨p, rfl, hp, vs, h1, r1⟩ := rb.own hr e1
        cases ry
        obtain ⟨ky, eky, ec⟩ := Option.map_eq_some_iff.mp hc
        have ex := keyOf_rel ra eky
        subst ex
        have g : DGet H p (kV ky) (valV vs ky) := DGet.k h1
        have is : (valV vs ky).isSome = c := by rw [← ec]; exact (RKv.get r1).2
        refine ⟨d_in (by omega) I g rx fun s' I' => ⟨H, I', rfl, by rw [is]⟩, d_notIn (by omega) I g rx fun s' I' => ⟨H, I', rfl, by rw [is]⟩⟩
      · cases hc
    | _ => cases hc
  rcases ho with rfl | rfl
  · refine thn (core k hk).1 fun r s' ⟨H', I', e1, e2⟩ => ?_
    subst e1 e2
    exact ⟨.bl k, _, I', rfl, q⟩
  · have hk' : (inW st a b).map (!·) = some k := hk
    obtain ⟨c, h1, h2⟩ := Option.map_eq_some_iff.mp hk'
    refine thn (core c h1).2 fun r s' ⟨H', I', e1, e2⟩ => ?_
    subst e1 e2
    exact ⟨.bl k, _, I', by rw [← h2]; rfl, q⟩
theorem ordD_is {f : PyData → PyData → Bool} {st : Sto} {x y : W} {k : Bool} (h : ordD f st x y = some k) :
    ∃ d e, toD st x = some d ∧ toD st y = some e ∧ PySem.W.alike d e = true ∧ d ≠ .none ∧ min d.depth e.depth ≤ 60 ∧ k = f d e := by
  unfold ordD at h
  split at h
  · rename_i d e h1 h2
    split at h
    · rename_i hc
      rw [Bool.and_eq_true, Bool.and_eq_true] at hc
      cases h
      refine ⟨d, e, h1, h2, hc.1.1, ?_, of_decide_eq_true hc.2, rfl⟩
      intro z
      subst z
      exact absurd hc.1.2 (by decide)
    · cases h
  · cases h
theorem or_cmp (hu : X.A.units + 65 < cLine) (o : CmpO) : OpR X (compareOp o.py) (rB2 X.K (cmpO o)) := by
  cases o with
  | isin => exact or_in hu _ (.inl rfl)
  | notin => exact or_in hu _ (.inr rfl)
  | isN => exact or_is _ (.inl rfl)
  | notN => exact or_is _ (.inr rfl)
  | eq =>
    intro pins s σ H x y v u Q I rx ry h
    obtain ⟨ι, st, a, b, hr, ra, rb, hf⟩ := h
    obtain ⟨k, hk, q⟩ := cmpO_bl hf hr
    rcases eqv_flat st hk with ⟨i, j, rfl, rfl, rfl⟩ | ⟨i, j, rfl, rfl, rfl⟩ | ⟨d, e, h1, h2, h3, h4, rfl⟩
    · cases ra; cases rb; exact L2.op_eq pins s σ H _ _ v u Q I rx ry ⟨rfl, by rw [dec_str]; exact q⟩
    · cases ra; cases rb; exact L2.op_eq pins s σ H _ _ v u Q I rx ry ⟨rfl, by rw [dec_int]; exact q⟩
    exact op_eqD (by omega) pins s σ H _ _ v u Q I rx ry ⟨d, e, toD_dp hr ra h1, toD_dp hr rb h2, h3, h4, q⟩
  | ne =>
    intro pins s σ H x y v u Q I rx ry h
    obtain ⟨ι, st, a, b, hr, ra, rb, hf⟩ := h
    obtain ⟨k, hk, q⟩ := cmpO_bl hf hr
    have hk' : (eqD st a b).map (!·) = some k := hk
    obtain ⟨c, hc, rfl⟩ := Option.map_eq_some_iff.mp hk'
    rcases eqv_flat st hc with ⟨i, j, rfl, rfl, rfl⟩ | ⟨i, j, rfl, rfl, rfl⟩ | ⟨d, e, h1, h2, h3, h4, rfl⟩
    · cases ra; cases rb; exact L2.op_ne pins s σ H _ _ v u Q I rx ry ⟨rfl, by rw [dec_str]; exact q⟩
    · cases ra; cases rb; exact L2.op_ne pins s σ H _ _ v u Q I rx ry ⟨rfl, by rw [dec_int]; exact q⟩
    exact op_neD (by omega) pins s σ H _ _ v u Q I rx ry ⟨d, e, toD_dp hr ra h1, toD_dp hr rb h2, h3, h4, q⟩
  | lt =>
    intro pins s σ H x y v u Q I rx ry h
    obtain ⟨ι, st, a, b, hr, ra, rb, hf⟩ := h
    obtain ⟨k, hk, q⟩ := cmpO_bl hf hr
    have gen : ordD PySem.W.dataLt st a b = some k → wpAny (model X.prog X.w) X.A (compareOp .Lt v u) (EP X pins σ Q) X.xe s := fun hk => by
      obtain ⟨d, e, h1, h2, h3, h4, h5, rfl⟩ := ordD_is hk
      obtain ⟨as, r1⟩ := Dp.reads I d x v (toD_dp hr ra h1) rx
      obtain ⟨bs, r2⟩ := Dp.reads I e y u (toD_dp hr rb h2) ry
      exact PySem.W.lt_data r1 r2 h3 h4 (by omega) ⟨.bl _, H, I, rfl, q⟩
    cases a with
    | int i =>
      cases b with
      | int j => cases ra; cases rb; cases hk; exact op_lt pins s σ H _ _ v u Q I rx ry ⟨i, j, rfl, rfl, q⟩
      | _ => exact gen hk
    | str i =>
      cases b with
      | str j => cases ra; cases rb; cases hk; exact op_lt_str pins s σ H _ _ v u Q I rx ry ⟨i, j, rfl, rfl, q⟩
      | _ => exact gen hk
    | _ => exact gen hk
  | le =>
    intro pins s σ H x y v u Q I rx ry h
    obtain ⟨ι, st, a, b, hr, ra, rb, hf⟩ := h
    obtain ⟨k, hk, q⟩ := cmpO_bl hf hr
    have gen : ordD (fun d e => !PySem.W.dataLt e d) st a b = some k → wpAny (model X.prog X.w) X.A (compareOp .LtE v u) (EP X pins σ Q) X.xe s := fun hk => by
      obtain ⟨d, e, h1, h2, h3, h4, h5, rfl⟩ := ordD_is hk
      obtain ⟨as, r1⟩ := Dp.reads I d x v (toD_dp hr ra h1) rx
      obtain ⟨bs, r2⟩ := Dp.reads I e y u (toD_dp hr rb h2) ry
      exact PySem.W.le_data r1 r2 h3 h4 (by omega) ⟨.bl _, H, I, rfl, q⟩
    cases a with
    | int i =>
      cases b with
      | int j => cases ra; cases rb; cases hk; exact op_le pins s σ H _ _ v u Q I rx ry ⟨i, j, rfl, rfl, q⟩
      | _ => exact gen hk
    | _ => exact gen hk
  | gt =>
    intro pins s σ H x y v u Q I rx ry h
    obtain ⟨ι, st, a, b, hr, ra, rb, hf⟩ := h
    obtain ⟨k, hk, q⟩ := cmpO_bl hf hr
    have gen : ordD (fun d e => PySem.W.dataLt e d) st a b = some k → wpAny (model X.prog X.w) X.A (compareOp .Gt v u) (EP X pins σ Q) X.xe s := fun hk => by
      obtain ⟨d, e, h1, h2, h3, h4, h5, rfl⟩ := ordD_is hk
      obtain ⟨as, r1⟩ := Dp.reads I d x v (toD_dp hr ra h1) rx
      obtain ⟨bs, r2⟩ := Dp.reads I e y u (toD_dp hr rb h2) ry
      exact PySem.W.gt_data r1 r2 h3 h4 (by omega) ⟨.bl _, H, I, rfl, q⟩
    cases a with
    | int i =>
      cases b with
      | int j => cases ra; cases rb; cases hk; exact op_gt pins s σ H _ _ v u Q I rx ry ⟨i, j, rfl, rfl, q⟩
      | _ => exact gen hk
    | _ => exact gen hk
  | ge =>
    intro pins s σ H x y v u Q I rx ry h
    obtain ⟨ι, st, a, b, hr, ra, rb, hf⟩ := h
    obtain ⟨k, hk, q⟩ := cmpO_bl hf hr
    have gen : ordD (fun d e => !PySem.W.dataLt d e) st a b = some k → wpAny (model X.prog X.w) X.A (compareOp .GtE v u) (EP X pins σ Q) X.xe s := fun hk => by
      obtain ⟨d, e, h1, h2, h3, h4, h5, rfl⟩ := ordD_is hk
      obtain ⟨as, r1⟩ := Dp.reads I d x v (toD_dp hr ra h1) rx
      obtain ⟨bs, r2⟩ := Dp.reads I e y u (toD_dp hr rb h2) ry
      exact PySem.W.ge_data r1 r2 h3 h4 (by omega) ⟨.bl _, H, I, rfl, q⟩
    cases a with
    | int i =>
      cases b with
      | int j => cases ra; cases rb; cases hk; exact op_ge pins s σ H _ _ v u Q I rx ry ⟨i, j, rfl, rfl, q⟩
      | _ => exact gen hk
    | _ => exact gen hk
end
end Ci
/-! Ci4: truth, subscripts, slices, built-ins, methods by values. -/
namespace Ci
open PySem L2 PyProof.Rows

section
variable {K : PySem.W.Frag} {ι : List Addr} {H : Hp} {st : Sto} {Q : VK}
theorem RWs.empty {ws : List W} {vs : List V} (r : RWs K H ι ws vs) : ws.isEmpty = vs.isEmpty := by cases r <;> rfl
theorem tru_rel {w : W} {v : V} {b : Bool} (z : HRel K H ι st) (r : RW K H ι w v) (e : tru st w = some b) : TruV K v H b := by
  cases r with
  | non => cases e; rfl
  | bl b => cases e; rfl
  | int i => cases e; rfl
  | str x =>
    unfold tru at e
    simp only at e
    split at e
    · rename_i hl
      cases e
      exact ⟨hl, rfl⟩
    · cases e
  | tup h r => cases e; exact .inr (.inl ⟨_, h.sq, by rw [r.empty]⟩)
  | frl h r => cases e; exact .inl ⟨_, h.sq, by rw [r.empty]⟩
  | ref h =>
    obtain ⟨o, eo, ro⟩ := z.at h
    unfold tru at e
    simp only [eo] at e
    cases o with
    | lst us => cases e; obtain ⟨vs, q1, q2⟩ := ro; exact .inl ⟨vs, SqL.of q1, by rw [q2.empty]⟩
    | dct us =>
      cases e
      obtain ⟨vs, q1, q2⟩ := ro
      exact .inr (.inr ⟨vs, q1, by cases q2 <;> rfl⟩)
theorem RWs.atI {ws : List W} {vs : List V} {i : Int} {w : W} (r : RWs K H ι ws vs) (e : atW ws i = some w) : ∃ v, L2.atI vs i = some v ∧ RW K H ι w v := by
  unfold atW L2.atI at e
  unfold L2.atI
  rw [← r.len]
  cases h : ixN ws.length i with
  | none => rw [h] at e; cases e
  | some j =>
    rw [h] at e
    exact r.get e
theorem cut_rel {ws : List W} {vs : List V} (r : RWs K H ι ws vs) (lo hi : Option Int) : RWs K H ι (cutW ws lo hi) (cutV vs lo hi) := by
  unfold cutW cutV
  rw [r.len]
  exact (r.drop _).take _
end

section
variable {X : Cx}
theorem ixr_sub (hu : X.A.units + 65 < cLine) : IxR X (rB2 X.K subO) := by
  intro value slice pins s σ H x y v u Q I rx ry h hs
  obtain ⟨ι, st, a, b, hr, ra, rb, hf⟩ := h
  unfold subO at hf
  cases e : sub st a b with
  | none => simp only [e] at hf; exact hf.elim
  | some w =>
    simp only [e] at hf
    have q : ∀ z, RW X.K H ι w z → Q z H := fun z rz => FinO.now hf hr rz
    unfold sub at e
    split at e
    · rename_i kvs ed
      obtain ⟨k, ek, eg⟩ := Option.bind_eq_some_iff.mp e
      have ey := keyOf_rel rb ek
      subst ey
      cases a with
      | ref n =>
        unfold dctOf at ed
        simp only at ed
        split at ed
        · rename_i kvs' e1
          cases ed
          obtain ⟨p, rfl, hp, vs, h1, r1⟩ := ra.own hr e1
          cases rx
          obtain ⟨z, ez, rz⟩ := (RKv.get r1).1 w eg
          have g : DGet H p (kV k) (some z) := by rw [← ez]; exact DGet.k h1
          exact tail_any (dict_typeIs I g) PySem.F.slot_dict_getitem.lookup (d_getItem (by omega) I g ry fun w' s' I' rw' => ⟨z, H, I', rw', q z rz⟩) hs
        · cases ed
      | _ => cases ed
    · rename_i ed
      unfold ixW at e
      cases b with
      | int i =>
        cases rb
        simp only at e
        cases a with
        | tup ws =>
          cases ra with
          | tup hp rp =>
            obtain ⟨z, ez, rz⟩ := rp.atI e
            exact ix_tup value slice pins s σ H _ _ v u Q I rx ry ⟨_, _, i, z, rfl, rfl, hp.sq, ez, q z rz⟩ hs
        | frl ws =>
          cases ra with
          | frl hp rp =>
            obtain ⟨z, ez, rz⟩ := rp.atI e
            exact ix_list value slice pins s σ H _ _ v u Q I rx ry ⟨_, _, i, z, rfl, rfl, hp.sq, ez, q z rz⟩ hs
        | str x =>
          cases ra
          simp only at e
          split at e
          · rename_i hl
            obtain ⟨c, ec, rfl⟩ := Option.map_eq_some_iff.mp e
            exact ix_str value slice pins s σ H _ _ v u Q I rx ry ⟨x, i, c, rfl, rfl, hl, ec, q _ (.str _)⟩ hs
          · cases e
        | ref n =>
          simp only at e
          split at e
          · rename_i ws e1
            obtain ⟨p, rfl, hp, vs, h1, r1⟩ := ra.own hr e1
            obtain ⟨z, ez, rz⟩ := r1.atI e
            exact ix_list value slice pins s σ H _ _ v u Q I rx ry ⟨_, _, i, z, rfl, rfl, SqL.of h1, ez, q z rz⟩ hs
          · cases e
        | _ => cases e
      | _ => cases e
def rSlW (K : PySem.W.Frag) : V → Option Int → Option Int → Hp → VK → Prop := fun x lo hi H Q => ∃ ι st a, HRel K H ι st ∧ RW K H ι a x ∧ FinO K ι H (slW a lo hi st) Q
theorem slr_cut : SlR X (rSlW X.K) := by
  intro pins s σ H x v vl vu lo hi sl Q I rx hs pl pu h
  obtain ⟨ι, st, a, hr, ra, hf⟩ := h
  cases a with
  | tup ws =>
    cases ra with
    | @tup _ vs p hp rp =>
      refine sl_tupA pins s σ H _ v vl vu lo hi sl Q I rx hs pl pu ⟨p, vs, rfl, hp.sq, fun e => ?_, fun _ => FinO.tup hf hr (cut_rel rp lo hi)⟩
      have e2 : cutW ws lo hi = ws := by
        unfold cutW
        rw [← rp.len] at e
        rw [e.1, e.2, List.drop_zero, Nat.sub_zero, List.take_length]
      have hf' : FinO X.K ι H (some (W.tup (cutW ws lo hi), st)) Q := hf
      rw [e2] at hf'
      exact FinO.now hf' hr (.tup hp rp)
  | frl ws =>
    cases ra with
    | @frl _ vs p hp rp => exact sl_list pins s σ H _ v vl vu lo hi sl Q I rx hs pl pu ⟨p, vs, rfl, hp.sq, FinO.new hf hr (cut_rel rp lo hi)⟩
  | str x =>
    cases ra
    unfold slW at hf
    simp only at hf
    split at hf
    · rename_i hl
      exact sl_str pins s σ H _ v vl vu lo hi sl Q I rx hs pl pu ⟨x, rfl, hl, FinO.now hf hr (.str _)⟩
    · exact hf.elim
  | ref n =>
    unfold slW at hf
    simp only at hf
    split at hf
    · rename_i ws e1
      obtain ⟨p, rfl, hp, vs, h1, r1⟩ := ra.own hr e1
      exact sl_list pins s σ H _ v vl vu lo hi sl Q I rx hs pl pu ⟨p, vs, rfl, SqL.of h1, FinO.new hf hr (cut_rel r1 lo hi)⟩
    · exact hf.elim
  | _ => exact hf.elim

/-! ### built-in functions -/
def Bi.val : Bi → Value
  | .len => .builtin "len" | .abs => .builtin "abs" | .int => .type "int" | .str => .type "str" | .repr => .builtin "repr"
  | .list => .type "list" | .tuple => .type "tuple" | .max2 => .builtin "max" | .min2 => .builtin "min" | .sum => .builtin "sum" | .any => .builtin "any" | .all => .builtin "all"
theorem repr_flat {pins : List (Addr × Obj)} {s : Shared} {σ : L2.St} {H : Hp} {x : V} {u : Value} {d : PyData} {Q : VK} (I : Inv X pins σ H s) (r : RelV x u) (hd : Dp X.K H x d) (ho : reprOk d = true) (hu : X.A.units + 65 < cLine) (hg : X.A.guards = some [])
    (q : Q (.str d.shown) H) : wpAny (model X.prog X.w) X.A (call (.builtin "repr") [u]) (EP X pins σ Q) X.xe s := by
  have big : ∀ (a : Addr) (e : reprOk d = (d.showable && !d.hasDict && decide (d.depth ≤ 60) && decide (d.shown.length ≤ sizeLine))), u = .ref a → wpAny (model X.prog X.w) X.A (call (.builtin "repr") [u]) (EP X pins σ Q) X.xe s := by
    intro a e eu
    rw [e] at ho
    simp only [Bool.and_eq_true, Bool.not_eq_true', decide_eq_true_eq] at ho
    obtain ⟨⟨⟨h1, h2⟩, h3⟩, h4⟩ := ho
    obtain ⟨as, rd⟩ := Dp.reads I d x u hd r
    subst eu
    exact repr_of_reads' (h₀ := s.heap) rd h1 (PyData.noDict_hsm h2) hg (by omega) (fun _ _ z => z) (fun h' t tk k => ⟨.str d.shown, H, I.kept k, ⟨t, rfl⟩, q⟩) h4
  cases d with
  | none =>
    cases hd
    obtain rfl : u = Value.none := r
    exact P.repr_of_none ⟨.str "None", H, I.tok _, ⟨_, rfl⟩, q⟩
  | bool b =>
    cases hd
    obtain rfl : u = Value.bool b := r
    exact P.repr_of_bool ⟨.str (if b then "True" else "False"), H, I.tok _, ⟨_, rfl⟩, q⟩
  | int i =>
    cases hd
    obtain ⟨t, rfl⟩ : ∃ t, u = Value.int i t := r
    exact P.repr_of_int (of_decide_eq_true ho) ⟨.str (toString i), H, I.tok _, ⟨_, rfl⟩, q⟩
  | str z =>
    cases hd
    obtain ⟨t, rfl⟩ : ∃ t, u = Value.str z t := r
    exact P.repr_of_str ⟨.str (reprText z), H, I.tok _, ⟨_, rfl⟩, q⟩ (of_decide_eq_true ho)
  | list ds =>
    cases hd with
    | lst h1 h2 => exact big _ rfl r
  | tuple ds =>
    cases hd with
    | tup h1 h2 => exact big _ rfl r
  | dict _ => cases ho
theorem cr_bi (hu : X.A.units + 65 < cLine) (hg : X.A.guards = some []) (hc : X.calm = true) (b : Bi) : CallR X b.val (rBs X.K (bi b)) := by
  intro pins s σ H xs us Q I r h
  obtain ⟨ι, st, as, hr, ra, hf⟩ := h
  cases b with
  | len =>
    match as, ra with
    | [w], .cons (v := v) rw' .nil =>
      unfold bi at hf
      simp only at hf
      split at hf
      · rename_i x
        cases rw'
        split at hf
        · rename_i hl
          exact call_len pins s σ H _ us Q I r ⟨.str x, x.length, rfl, ⟨hl, rfl⟩, FinO.now hf hr (.int _)⟩
        · exact hf.elim
      · split at hf
        · rename_i kvs ed
          cases w with
          | ref n =>
            unfold dctOf at ed
            simp only at ed
            split at ed
            · rename_i kvs' e1
              cases ed
              obtain ⟨p, rfl, hp, vs, h1, r1⟩ := rw'.own hr e1
              obtain ⟨u, rfl, ru⟩ := vals1 r
              cases ru
              refine d_len I (.inl h1) fun t s' I' => ⟨.int vs.length, H, I', ⟨t, rfl⟩, ?_⟩
              rw [← r1.len]
              exact FinO.now hf hr (.int _)
            · cases ed
          | _ => cases ed
        · cases e : seqOf st w with
          | none => rw [e] at hf; exact hf.elim
          | some ws =>
            rw [e] at hf
            obtain ⟨a, vs, rfl, q1, q2⟩ := rw'.seq hr e
            have hl := q1.len
            refine call_len_seq pins s σ H _ us Q I r ⟨a, vs, rfl, q2, ?_⟩
            rw [← hl]
            exact FinO.now hf hr (.int _)
    | [], _ => exact hf.elim
    | _ :: _ :: _, _ => exact hf.elim
  | abs =>
    match as, ra with
    | [.int i], .cons (.int _) .nil => exact call_abs pins s σ H _ us Q I r ⟨i, rfl, FinO.now hf hr (.int _)⟩
    | [], _ => exact hf.elim
    | [.non], _ => exact hf.elim
    | [.bl _], _ => exact hf.elim
    | [.str _], _ => exact hf.elim
    | [.tup _], _ => exact hf.elim
    | [.frl _], _ => exact hf.elim
    | [.ref _], _ => exact hf.elim
    | a :: _ :: _, _ => cases a <;> exact hf.elim
  | int =>
    match as, ra with
    | [.int i], .cons (.int _) .nil => exact call_int1 pins s σ H _ us Q I r (.inl ⟨i, rfl, FinO.now hf hr (.int _)⟩)
    | [.bl i], .cons (.bl _) .nil => exact call_int1 pins s σ H _ us Q I r (.inr ⟨i, rfl, FinO.now hf hr (.int _)⟩)
    | [], _ => exact hf.elim
    | [.non], _ => exact hf.elim
    | [.str _], _ => exact hf.elim
    | [.tup _], _ => exact hf.elim
    | [.frl _], _ => exact hf.elim
    | [.ref _], _ => exact hf.elim
    | a :: _ :: _, _ => cases a <;> exact hf.elim
  | str =>
    match as, ra with
    | [.int i], .cons (.int _) .nil =>
      unfold bi at hf
      simp only at hf
      split at hf
      · rename_i ho
        exact call_str_int pins s σ H _ us Q I r ⟨i, rfl, of_decide_eq_true ho, FinO.now hf hr (.str _)⟩
      · exact hf.elim
    | [], _ => exact hf.elim
    | [.non], _ => exact hf.elim
    | [.bl _], _ => exact hf.elim
    | [.str _], _ => exact hf.elim
    | [.tup _], _ => exact hf.elim
    | [.frl _], _ => exact hf.elim
    | [.ref _], _ => exact hf.elim
    | a :: _ :: _, _ => cases a <;> exact hf.elim
  | repr =>
    match as, ra with
    | [w], .cons (v := v) rw' .nil =>
      unfold bi at hf
      simp only at hf
      split at hf
      · rename_i d ed
        split at hf
        · rename_i ho
          obtain ⟨u, rfl, ru⟩ := vals1 r
          exact repr_flat I ru (toD_dp hr rw' ed) ho hu hg (FinO.now hf hr (.str _))
        · exact hf.elim
      · exact hf.elim
    | [], _ => exact hf.elim
    | _ :: _ :: _, _ => exact hf.elim
  | list =>
    match as, ra with
    | [w], .cons (v := v) rw' .nil =>
      unfold bi at hf
      simp only at hf
      cases e : seqOf st w with
      | none => rw [e] at hf; exact hf.elim
      | some ws =>
        rw [e] at hf
        obtain ⟨a, vs, rfl, q1, q2⟩ := rw'.seq hr e
        exact call_list_of pins s σ H _ us Q I r ⟨a, vs, rfl, q2, FinO.new hf hr q1⟩
    | [], _ => exact hf.elim
    | _ :: _ :: _, _ => exact hf.elim
  | tuple =>
    match as, ra with
    | [w], .cons (v := v) rw' .nil =>
      unfold bi at hf
      simp only at hf
      cases e : seqOf st w with
      | none => rw [e] at hf; exact hf.elim
      | some ws =>
        rw [e] at hf
        cases w with
        | tup us' =>
          cases e
          cases rw' with
          | tup h1 r1 => exact call_tuple_of pins s σ H _ us Q I r ⟨_, _, rfl, .inr ⟨h1.sq, FinO.now hf hr (.tup h1 r1)⟩⟩
        | frl us' =>
          cases e
          cases rw' with
          | frl h1 r1 => exact call_tuple_of pins s σ H _ us Q I r ⟨_, _, rfl, .inl ⟨h1.sq, FinO.tup hf hr r1⟩⟩
        | ref n =>
          unfold seqOf at e
          simp only at e
          split at e
          · rename_i ws' e1
            cases e
            obtain ⟨p, rfl, hp, vs, h1, r1⟩ := rw'.own hr e1
            exact call_tuple_of pins s σ H _ us Q I r ⟨_, _, rfl, .inl ⟨SqL.of h1, FinO.tup hf hr r1⟩⟩
          · cases e
        | _ => cases e
    | [], _ => exact hf.elim
    | _ :: _ :: _, _ => exact hf.elim
  | max2 =>
    match as, ra with
    | [.int i, .int j], .cons (.int _) (.cons (.int _) .nil) => exact call_max2 hc pins s σ H _ us Q I r ⟨i, j, rfl, FinO.now hf hr (.int _)⟩
    | [], _ => exact hf.elim
    | [a], _ => cases a <;> exact hf.elim
    | a :: b :: _ :: _, _ => cases a <;> first | exact hf.elim | (cases b <;> exact hf.elim)
    | [.non, _], _ => exact hf.elim
    | [.bl _, _], _ => exact hf.elim
    | [.str _, _], _ => exact hf.elim
    | [.tup _, _], _ => exact hf.elim
    | [.frl _, _], _ => exact hf.elim
    | [.ref _, _], _ => exact hf.elim
    | [.int _, .non], _ => exact hf.elim
    | [.int _, .bl _], _ => exact hf.elim
    | [.int _, .str _], _ => exact hf.elim
    | [.int _, .tup _], _ => exact hf.elim
    | [.int _, .frl _], _ => exact hf.elim
    | [.int _, .ref _], _ => exact hf.elim
  | min2 =>
    match as, ra with
    | [.int i, .int j], .cons (.int _) (.cons (.int _) .nil) => exact call_min2 hc pins s σ H _ us Q I r ⟨i, j, rfl, FinO.now hf hr (.int _)⟩
    | [], _ => exact hf.elim
    | [a], _ => cases a <;> exact hf.elim
    | a :: b :: _ :: _, _ => cases a <;> first | exact hf.elim | (cases b <;> exact hf.elim)
    | [.non, _], _ => exact hf.elim
    | [.bl _, _], _ => exact hf.elim
    | [.str _, _], _ => exact hf.elim
    | [.tup _, _], _ => exact hf.elim
    | [.frl _, _], _ => exact hf.elim
    | [.ref _, _], _ => exact hf.elim
    | [.int _, .non], _ => exact hf.elim
    | [.int _, .bl _], _ => exact hf.elim
    | [.int _, .str _], _ => exact hf.elim
    | [.int _, .tup _], _ => exact hf.elim
    | [.int _, .frl _], _ => exact hf.elim
    | [.int _, .ref _], _ => exact hf.elim
  | sum =>
    match as, ra with
    | [w], .cons (v := v) rw' .nil =>
      unfold bi at hf
      simp only at hf
      cases e : lstOf st w with
      | none => rw [e] at hf; exact hf.elim
      | some ws =>
        simp only [e, Option.bind_some] at hf
        cases e2 : intsOf ws with
        | none => rw [e2] at hf; exact hf.elim
        | some ns =>
          rw [e2] at hf
          obtain ⟨a, vs, rfl, q1, q2⟩ := rw'.lst hr e
          exact L2.cr_sum hc pins s σ H _ us Q I r ⟨a, ns, rfl, by rw [← q1.ints e2]; exact q2, FinO.now hf hr (.int _)⟩
    | [], _ => exact hf.elim
    | _ :: _ :: _, _ => exact hf.elim
  | any =>
    match as, ra with
    | [w], .cons (v := v) rw' .nil =>
      unfold bi at hf
      simp only at hf
      cases e : lstOf st w with
      | none => rw [e] at hf; exact hf.elim
      | some ws =>
        simp only [e, Option.bind_some] at hf
        cases e2 : blsOf ws with
        | none => rw [e2] at hf; exact hf.elim
        | some ns =>
          rw [e2] at hf
          obtain ⟨a, vs, rfl, q1, q2⟩ := rw'.lst hr e
          exact L2.cr_any hc pins s σ H _ us Q I r ⟨a, ns, rfl, by rw [← q1.bls e2]; exact q2, FinO.now hf hr (.bl _)⟩
    | [], _ => exact hf.elim
    | _ :: _ :: _, _ => exact hf.elim
  | all =>
    match as, ra with
    | [w], .cons (v := v) rw' .nil =>
      unfold bi at hf
      simp only at hf
      cases e : lstOf st w with
      | none => rw [e] at hf; exact hf.elim
      | some ws =>
        simp only [e, Option.bind_some] at hf
        cases e2 : blsOf ws with
        | none => rw [e2] at hf; exact hf.elim
        | some ns =>
          rw [e2] at hf
          obtain ⟨a, vs, rfl, q1, q2⟩ := rw'.lst hr e
          exact L2.cr_all hc pins s σ H _ us Q I r ⟨a, ns, rfl, by rw [← q1.bls e2]; exact q2, FinO.now hf hr (.bl _)⟩
    | [], _ => exact hf.elim
    | _ :: _ :: _, _ => exact hf.elim

/-! ### methods of lists -/
def Mt.id : Mt → String
  | .append => "list.append" | .pop => "list.pop" | .popAt => "list.pop" | .extend => "list.extend" | .index => "list.index" | .count => "list.count" | .reverse => "list.reverse"
theorem mtr_mt (m : Mt) : MtR X m.id (rBm X.K (mt m)) := by
  intro pins s σ H x xs v us Q I rx rs h
  obtain ⟨ι, st, a, as, hr, ra, rsA, hf⟩ := h
  cases a with
  | ref n =>
    unfold mt at hf
    simp only at hf
    split at hf
    · rename_i ws e1
      obtain ⟨p, rfl, hp, vs, h1, r1⟩ := ra.own hr e1
      have hl := r1.len
      split at hf
      · -- append
        cases rsA with
        | cons ry t =>
          cases t
          split at hf
          · rename_i hz
            refine mt_append pins s σ H _ _ v us Q I rx rs ⟨p, vs, _, rfl, rfl, h1, by omega, FinO.put hf hr hp (r1.app (.one ry)) .non⟩
          · exact hf.elim
      · -- pop
        cases rsA
        cases eg : ws[ws.length - 1]? with
        | none => rw [eg] at hf; exact hf.elim
        | some w =>
          rw [eg] at hf
          obtain ⟨z, ez, rz⟩ := r1.get eg
          rw [hl] at ez
          exact mt_pop pins s σ H _ _ v us Q I rx rs ⟨p, vs, z, rfl, rfl, h1, ez, FinO.put hf hr hp r1.dropLast rz⟩
      · -- pop(i)
        cases rsA with
        | cons ry t =>
          cases t
          cases ry
          split at hf
          · rename_i hb
            have hb := of_decide_eq_true hb
            split at hf
            · rename_i k ek
              cases eg : ws[k]? with
              | none => rw [eg] at hf; exact hf.elim
              | some w =>
                rw [eg] at hf
                obtain ⟨z, ez, rz⟩ := r1.get eg
                rw [hl] at ek
                exact mt_popAt pins s σ H _ _ v us Q I rx rs ⟨p, vs, _, k, z, rfl, rfl, h1, hb.1, hb.2, ek, ez, FinO.put hf hr hp (r1.erase k) rz⟩
            · exact hf.elim
          · exact hf.elim
      · cases rsA
        exact mt_reverse pins s σ H _ _ v us Q I rx rs ⟨p, vs, rfl, rfl, h1, FinO.put hf hr hp r1.rev .non⟩
      · cases rsA with
        | cons ry t =>
          cases t
          split at hf
          · rename_i zs e2
            obtain ⟨q, rfl, hq, us2, h2, r2⟩ := ry.own hr e2
            have hl2 := r2.len
            split at hf
            · rename_i hz
              exact mt_extend pins s σ H _ _ v us Q I rx rs ⟨p, q, vs, us2, rfl, rfl, h1, h2, by omega, FinO.put hf hr hp (r1.app r2) .non⟩
            · exact hf.elim
          · exact hf.elim
      · exact hf.elim
    · exact hf.elim
  | _ => exact hf.elim
end
end Ci
/-! Ci5: the rules of expressions. -/
namespace Ci
open PySem L2 PyProof.Rows

theorem pe_imp {X : Cx} {e : Expr} {t t' : TE} (h : PE X e t) (i : ∀ σ H Q, t' σ H Q → t σ H Q) : PE X e t' := ⟨fun pins s σ H Q I q => h.run pins s σ H Q I (i _ _ _ q)⟩
theorem pt_imp {X : Cx} {e : Expr} {t t' : TT} (h : PT X e t) (i : ∀ σ H Q, t' σ H Q → t σ H Q) : PT X e t' := ⟨fun pins s σ H Q I q => h.run pins s σ H Q I (i _ _ _ q)⟩
theorem pw_imp {X : Cx} {e : Expr} {t t' : TT} (h : PW X e t) (i : ∀ σ H Q, t' σ H Q → t σ H Q) : PW X e t' := ⟨fun wh pins s σ H Q I q => h.run wh pins s σ H Q I (i _ _ _ q)⟩
theorem pa_imp {X : Cx} {e : List Expr} {t t' : TA} (h : PA X e t) (i : ∀ σ H Q, t' σ H Q → t σ H Q) : PA X e t' := ⟨fun pos pins s σ H Q I q => h.run pos pins s σ H Q I (i _ _ _ q)⟩
theorem ps_imp {X : Cx} {e : Stmt} {t t' : TS} (h : PS X e t) (i : ∀ D σ H, t' D σ H → t D σ H) : PS X e t' := ⟨fun pins s σ H D I q => h.run pins s σ H D I (i _ _ _ q)⟩
theorem pss_imp {X : Cx} {e : List Stmt} {t t' : TS} (h : PSs X e t) (i : ∀ D σ H, t' D σ H → t D σ H) : PSs X e t' := ⟨fun pins s σ H D I q => h.run pins s σ H D I (i _ _ _ q)⟩
theorem pg_imp {X : Cx} {e : Expr} {t t' : TG} (h : PG X e t) (i : ∀ v σ H Q, t' v σ H Q → t v σ H Q) : PG X e t' := ⟨fun pins s σ H v u Q I r q => h.run pins s σ H v u Q I r (i _ _ _ _ q)⟩

abbrev Cl := Nat → List W → Sto → Res W
/-- where one stands: the wish, what calls tell -/
structure Cz where
  X : Cx
  x : WX
  cl : Cl
/-- what holds of it -/
structure Cz.Ok (Z : Cz) : Prop where
  calm : Z.X.calm = true
  nd : Z.X.N.Nodup
  tk : Takes Z.X Z.x
  hu : Z.X.A.units + 65 < cLine
  gd : Z.X.A.guards = some []
abbrev tE (Z : Cz) (c : E) : TE := tW Z.X.K Z.x fun en st => ev Z.cl c en st
abbrev tEs (Z : Cz) (c : Es) : TA := tWs Z.X.K Z.x fun en st => evs Z.cl c en st
abbrev tT (Z : Cz) (c : E) : TT := tWb Z.X.K Z.x fun en st => truR (ev Z.cl c en st)
abbrev SE (Z : Cz) (e : Expr) (c : E) : Prop := PE Z.X e (tE Z c)
abbrev SA (Z : Cz) (e : List Expr) (c : Es) : Prop := PA Z.X e (tEs Z c)
abbrev ST (Z : Cz) (e : Expr) (c : E) : Prop := PT Z.X e (tT Z c)

section
variable {K : PySem.W.Frag} {x : WX} {σ : L2.St} {H : Hp}
/-- one part, then what comes of it -/
theorem bindE {β : Type} {f : En → Sto → Res W} {g : W → En → Sto → Res β} {k : β → List Addr → Sto → Hp → Prop} {R : VK}
    (h : ∃ ι en st, Rel K σ H ι en st ∧ Fin K (fun c d H' => x c d σ H') ι H ((f en st).bind fun w st' => g w en st') k)
    (n : ∀ w v ι en st H, Rel K σ H ι en st → RW K H ι w v → Fin K (fun c d H' => x c d σ H') ι H (g w en st) k → R v H) : tW K x f σ H R := by
  obtain ⟨ι, en, st, r, hf⟩ := h
  refine ⟨ι, en, st, r, (Fin.split hf).mono fun w ι' st' H' p t z q v rv => ?_⟩
  exact n w v ι' en st' H' (r.keep t p z) rv q
theorem bindEs {β : Type} {f : En → Sto → Res (List W)} {g : List W → En → Sto → Res β} {k : β → List Addr → Sto → Hp → Prop} {R : List V → Hp → Prop}
    (h : ∃ ι en st, Rel K σ H ι en st ∧ Fin K (fun c d H' => x c d σ H') ι H ((f en st).bind fun w st' => g w en st') k)
    (n : ∀ w v ι en st H, Rel K σ H ι en st → RWs K H ι w v → Fin K (fun c d H' => x c d σ H') ι H (g w en st) k → R v H) : tWs K x f σ H R := by
  obtain ⟨ι, en, st, r, hf⟩ := h
  refine ⟨ι, en, st, r, (Fin.split hf).mono fun w ι' st' H' p t z q v rv => ?_⟩
  exact n w v ι' en st' H' (r.keep t p z) rv q
theorem bindT {β : Type} {f : En → Sto → Res Bool} {g : Bool → En → Sto → Res β} {k : β → List Addr → Sto → Hp → Prop} {R : Bool → Hp → Prop}
    (h : ∃ ι en st, Rel K σ H ι en st ∧ Fin K (fun c d H' => x c d σ H') ι H ((f en st).bind fun w st' => g w en st') k)
    (n : ∀ b ι en st H, Rel K σ H ι en st → Fin K (fun c d H' => x c d σ H') ι H (g b en st) k → R b H) : tWb K x f σ H R := by
  obtain ⟨ι, en, st, r, hf⟩ := h
  refine ⟨ι, en, st, r, (Fin.split hf).mono fun w ι' st' H' p t z q => ?_⟩
  exact n w ι' en st' H' (r.keep t p z) q
/-- two parts -/
theorem bindE2 {β : Type} {f1 f2 : En → Sto → Res W} {g : W → W → En → Sto → Res β} {k : β → List Addr → Sto → Hp → Prop} {R : V → V → Hp → Prop}
    (h : ∃ ι en st, Rel K σ H ι en st ∧ Fin K (fun c d H' => x c d σ H') ι H ((f1 en st).bind fun a st' => (f2 en st').bind fun b st'' => g a b en st'') k)
    (n : ∀ w1 w2 v1 v2 ι en st H, Rel K σ H ι en st → RW K H ι w1 v1 → RW K H ι w2 v2 → Fin K (fun c d H' => x c d σ H') ι H (g w1 w2 en st) k → R v1 v2 H) :
    tW K x f1 σ H fun v1 H1 => tW K x f2 σ H1 fun v2 H2 => R v1 v2 H2 := by
  obtain ⟨ι, en, st, r, hf⟩ := h
  refine ⟨ι, en, st, r, (Fin.split hf).mono fun w ι' st' H' p t z q v rv => ?_⟩
  refine ⟨ι', en, st', r.keep t p z, (Fin.split q).mono fun w2 ι2 st2 H2 p2 t2 z2 q2 v2 rv2 => ?_⟩
  exact n w w2 v v2 ι2 en st2 H2 ((r.keep t p z).keep t2 p2 z2) (rv.keep t2 p2) rv2 q2
theorem fin_of {x : Value → Option Addr → Hp → Prop} {ι : List Addr} {r : Option (W × Sto)} {Q : VK} (h : Fin K x ι H (Res.of r) fun w ι' _ H' => ∀ v, RW K H' ι' w v → Q v H') : FinO K ι H r Q := by
  cases r with
  | none => exact h
  | some p => exact fun ι' H' v a b c d => h ι' H' a b c v d
end

section
variable {Z : Cz} {pos : Pos}
theorem w_var (i : Nat) {x : Str} (hN : Z.X.N[i]? = some x := by rfl) (hv : Vis Z.X.env.scope x := by first | exact Or.inl rfl | exact Or.inr (Or.inl rfl) | exact Or.inr (Or.inr rfl)) (hd : (x == ("__debug__" : Str)) = false := by decide)
    (hcd : (x == ("__classdict__" : Str)) = false := by decide) : SE Z (.Name x pos) (.var i) := by
  refine pe_imp (pe_var hN hv hd hcd) fun σ H Q h => ?_
  obtain ⟨ι, en, st, r, hf⟩ := h
  have hf : Fin Z.X.K (fun c d H' => Z.x c d σ H') ι H (match en[i]? with | some (some w) => .ok w st | _ => .bad) _ := hf
  split at hf
  · rename_i w e
    obtain ⟨v, e1, rv⟩ := r.en i w e
    exact ⟨v, e1, hf.now r.hr v rv⟩
  · exact hf.elim
theorem w_int {i j} : SE Z (.Constant (.int i) j pos) (.con (.int i)) := pe_imp pe_int fun σ H Q ⟨ι, en, st, r, hf⟩ => hf.now r.hr _ (.int i)
theorem w_bl {b j} : SE Z (.Constant (.bool b) j pos) (.con (.bl b)) := pe_imp pe_bl fun σ H Q ⟨ι, en, st, r, hf⟩ => hf.now r.hr _ (.bl b)
theorem w_non {j} : SE Z (.Constant .none j pos) (.con .non) := pe_imp pe_non fun σ H Q ⟨ι, en, st, r, hf⟩ => hf.now r.hr _ .non
theorem w_str {x j} : SE Z (.Constant (.str x) j pos) (.con (.str x)) := pe_imp pe_str fun σ H Q ⟨ι, en, st, r, hf⟩ => hf.now r.hr _ (.str x)
/-- a module's constant -/
theorem w_glb {x : Str} {w : W} {v : V} {u : Value} (hg : Gl Z.X x) (hm : Z.X.mg x = some u) (r : RelV v u) (rw' : ∀ H ι, RW Z.X.K H ι w v) (hd : (x == ("__debug__" : Str)) = false := by decide) : SE Z (.Name x pos) (.con w) :=
  pe_imp (pe_glob hg hm r hd) fun σ H Q ⟨ι, en, st, r, hf⟩ => hf.now r.hr v (rw' H ι)
theorem w_bin (o : BinO) {a b : Expr} {ca cb : E} (ha : SE Z a ca) (hb : SE Z b cb) : SE Z (.BinOp a o.py b pos) (.bin o ca cb) := by
  refine pe_imp (pe_op (or_bin o) ha hb) fun σ H Q h => ?_
  refine bindE2 h fun w1 w2 v1 v2 ι en st H1 r r1 r2 q => ?_
  exact ⟨ι, st, w1, w2, r.hr, r1, r2, fin_of q⟩
theorem w_cmp (o : CmpO) {a b : Expr} {ca cb : E} (ok : Z.Ok) (ha : SE Z a ca) (hb : SE Z b cb) (hm : behindInMarks o.py b = false := by rfl) : SE Z (.Compare a [o.py] [b] pos) (.cmp o ca cb) := by
  refine pe_imp (pe_cmpR (or_cmp ok.hu o) ha hb hm) fun σ H Q h => ?_
  refine bindE2 h fun w1 w2 v1 v2 ι en st H1 r r1 r2 q => ?_
  exact ⟨ι, st, w1, w2, r.hr, r1, r2, fin_of q⟩
/-- a test by its truth -/
theorem truK {K : PySem.W.Frag} {x : Value → Option Addr → Hp → Prop} {ι : List Addr} {H : Hp} {r : Res W} {k : Bool → List Addr → Sto → Hp → Prop} (h : Fin K x ι H (truR r) k) :
    Fin K x ι H r fun w ι' st' H' => ∃ b, tru st' w = some b ∧ k b ι' st' H' := by
  refine (Fin.split h).mono fun w ι' st' H' p t z q => ?_
  unfold truK0 at q
  split at q
  · rename_i b e
    exact ⟨b, e, q.now z⟩
  · exact q.elim
theorem t_cmp (o : CmpO) {a b : Expr} {ca cb : E} (ok : Z.Ok) (ha : SE Z a ca) (hb : SE Z b cb) (hm : behindInMarks o.py b = false := by rfl) : ST Z (.Compare a [o.py] [b] pos) (.cmp o ca cb) := by
  refine pt_imp (pt_cmpR (or_cmp ok.hu o) ha hb hm) fun σ H Q h => ?_
  obtain ⟨ι, en, st, r, hf⟩ := h
  have hf : Fin Z.X.K (fun c d H' => Z.x c d σ H') ι H ((ev Z.cl ca en st).bind fun x st1 => (ev Z.cl cb en st1).bind fun y st2 => Res.of (cmpO o x y st2)) _ := truK hf
  refine bindE2 (K := Z.X.K) (x := Z.x) (g := fun a b _ st => Res.of (cmpO o a b st)) ⟨ι, en, st, r, hf⟩ fun w1 w2 v1 v2 ι en st H1 r r1 r2 q => ?_
  refine ⟨ι, st, w1, w2, r.hr, r1, r2, ?_⟩
  unfold cmpO at q ⊢
  cases e : cmp o w1 w2 st with
  | none => rw [e] at q; exact q.elim
  | some b =>
    rw [e] at q
    intro ι' H' v p t z rv
    cases rv
    obtain ⟨c, e2, q2⟩ := q ι' H' p t z
    cases e2
    exact ⟨b, rfl, q2⟩
theorem t_tru {a : Expr} {ca : E} (ha : SE Z a ca) (he : ∀ whole, isTrue a Z.X.env whole = (do let v ← whole; standAt a.pos; holding [v] (truthy v)) := by intro _; rfl) : ST Z a ca := by
  refine pt_imp (pt_truth ha he) fun σ H Q h => ?_
  obtain ⟨ι, en, st, r, hf⟩ := h
  refine ⟨ι, en, st, r, (truK hf).mono fun w ι' st' H' p t z q v rv => ?_⟩
  obtain ⟨b, e, q⟩ := q
  exact ⟨b, tru_rel z rv e, q⟩
theorem w_chn (o p : CmpO) {a b c : Expr} {ca cb cc : E} (ok : Z.Ok) (ha : SE Z a ca) (hb : SE Z b cb) (hc : SE Z c cc) (hm : lastMarks [o.py, p.py] [b, c] = false := by rfl) :
    SE Z (.Compare a [o.py, p.py] [b, c] pos) (.chn o p ca cb cc) := by
  refine pe_imp (pe_chain (or_cmp ok.hu o) (or_cmp ok.hu p) ha hb hc hm) fun σ H Q h => ?_
  refine bindE2 (g := fun x y en st2 => chnK (cmp o x y st2) (fun st2 => (ev Z.cl cc en st2).bind fun z st3 => Res.of (cmpO p y z st3)) st2) h fun w1 w2 v1 v2 ι en st H1 r r1 r2 q => ?_
  refine ⟨ι, st, w1, w2, r.hr, r1, r2, ?_⟩
  unfold chnK at q
  unfold cmpO
  cases e : cmp o w1 w2 st with
  | none => simp only [e] at q; exact q.elim
  | some k =>
    intro ι' H' v p' t z rv
    cases rv
    refine ⟨k, rfl, ?_⟩
    cases k with
    | false =>
      simp only [e] at q
      exact q ι' H' p' t z _ (.bl false)
    | true =>
      simp only [e] at q
      refine ⟨ι', en, st, r.keep t p' z, (Fin.split (Fin.shift p' t q)).mono fun w3 ι3 st3 H3 p3 t3 z3 q3 v3 r3 => ?_⟩
      exact ⟨ι3, st3, w2, w3, z3, r2.keep (t.trans t3) (p'.trans p3), r3, fin_of q3⟩
theorem w_neg {a : Expr} {ca : E} (ha : SE Z a ca) : SE Z (.UnaryOp .USub a pos) (.neg ca) := by
  refine pe_imp (pe_un un_neg ha) fun σ H Q h => ?_
  refine bindE (g := fun x _ st1 => negK x st1) h fun w v ι en st H1 r r1 q => ?_
  unfold negK at q
  split at q
  · cases r1
    exact ⟨_, rfl, q.now r.hr _ (.int _)⟩
  · exact q.elim
theorem w_not {a : Expr} {ca : E} (ha : SE Z a ca) : SE Z (.UnaryOp .Not a pos) (.not ca) := by
  refine pe_imp (pe_notT ha) fun σ H Q h => ?_
  obtain ⟨ι, en, st, r, hf⟩ := h
  refine ⟨ι, en, st, r, (truK (Fin.split hf)).mono fun w ι' st' H' p t z q v rv => ?_⟩
  obtain ⟨b, e, q⟩ := q
  exact ⟨b, tru_rel z rv e, q.now z _ (.bl _)⟩
theorem t_not {a : Expr} {ca : E} (ha : ST Z a ca) : ST Z (.UnaryOp .Not a pos) (.not ca) := by
  refine pt_imp (pt_not ha) fun σ H Q h => ?_
  obtain ⟨ι, en, st, r, hf⟩ := h
  refine ⟨ι, en, st, r, (Fin.split (truK hf)).mono fun b ι' st' H' p t z q => ?_⟩
  obtain ⟨c, e, q⟩ := q.now z
  cases e
  exact q
/-! ### and, or -/
theorem w_one {op} {a : Expr} {ca : E} (ha : SE Z a ca) : SE Z (.BoolOp op [a] pos) ca := pe_one ha
theorem w_and {a b : Expr} {rest : List Expr} {ca cb : E} (ha : SE Z a ca) (hb : SE Z (.BoolOp .And (b :: rest) pos) cb) : SE Z (.BoolOp .And (a :: b :: rest) pos) (.and ca cb) := by
  refine pe_imp (pe_andT ha hb) fun σ H Q h => ?_
  refine bindE (g := fun x en st1 => scK false (fun st1 => ev Z.cl cb en st1) x st1) h fun w v ι en st H1 r r1 q => ?_
  unfold scK at q
  split at q
  · rename_i b e
    refine ⟨b, tru_rel r.hr r1 e, ?_⟩
    cases b with
    | false => exact q.now r.hr v r1
    | true => exact ⟨ι, en, st, r, q⟩
  · exact q.elim
theorem w_or {a b : Expr} {rest : List Expr} {ca cb : E} (ha : SE Z a ca) (hb : SE Z (.BoolOp .Or (b :: rest) pos) cb) : SE Z (.BoolOp .Or (a :: b :: rest) pos) (.or ca cb) := by
  refine pe_imp (pe_orT ha hb) fun σ H Q h => ?_
  refine bindE (g := fun x en st1 => scK true (fun st1 => ev Z.cl cb en st1) x st1) h fun w v ι en st H1 r r1 q => ?_
  unfold scK at q
  split at q
  · rename_i b e
    refine ⟨b, tru_rel r.hr r1 e, ?_⟩
    cases b with
    | true => exact q.now r.hr v r1
    | false => exact ⟨ι, en, st, r, q⟩
  · exact q.elim
abbrev SW (Z : Cz) (e : Expr) (c : E) : Prop := PW Z.X e (tT Z c)
theorem SW.t {e : Expr} {c : E} (h : SW Z e c) : ST Z e c := PW.pt h
theorem t_and1 {a : Expr} {ca : E} (ha : ST Z a ca) : SW Z (.BoolOp .And [a] pos) ca := pw_and1 ha
theorem t_or1 {a : Expr} {ca : E} (ha : ST Z a ca) : SW Z (.BoolOp .Or [a] pos) ca := pw_or1 ha
/-- both parts of a short circuit, as tests -/
theorem sc_fin {K : PySem.W.Frag} {x : Value → Option Addr → Hp → Prop} {ι : List Addr} {H : Hp} {stop : Bool} {r : Res W} {f : Sto → Res W} {k : Bool → List Addr → Sto → Hp → Prop} (h : Fin K x ι H (truR (r.bind (scK stop f))) k) :
    Fin K x ι H (truR r) fun b ι' st' H' => if b = stop then k b ι' st' H' else Fin K x ι' H' (truR (f st')) k := by
  cases r with
  | bad => exact h.elim
  | exc y st => exact h
  | ok w st =>
    have h1 : Fin K x ι H ((scK stop f w st).bind truK0) k := h
    show Fin K x ι H (truK0 w st) _
    unfold scK at h1
    unfold truK0
    cases e : tru st w with
    | none => rw [e] at h1; exact h1.elim
    | some b =>
      simp only [e] at h1
      intro ι' H' p t z
      show if b = stop then _ else _
      split at h1
      · rename_i hb
        rw [if_pos hb]
        have h2 : Fin K x ι H (truK0 w st) k := h1
        unfold truK0 at h2
        simp only [e] at h2
        exact h2 ι' H' p t z
      · rename_i hb
        rw [if_neg hb]
        exact Fin.shift p t h1
theorem t_and {a b : Expr} {rest : List Expr} {ca cb : E} (ha : ST Z a ca) (hb : SW Z (.BoolOp .And (b :: rest) pos) cb) : SW Z (.BoolOp .And (a :: b :: rest) pos) (.and ca cb) := by
  refine pw_imp (pw_and ha hb) fun σ H Q h => ?_
  obtain ⟨ι, en, st, r, hf⟩ := h
  have hf : Fin Z.X.K (fun c d H' => Z.x c d σ H') ι H (truR ((ev Z.cl ca en st).bind (scK false fun st1 => ev Z.cl cb en st1))) _ := hf
  refine ⟨ι, en, st, r, (sc_fin hf).mono fun b ι' st' H' p t z q => ?_⟩
  cases b with
  | false => exact q
  | true => exact ⟨ι', en, st', r.keep t p z, q⟩
theorem t_or {a b : Expr} {rest : List Expr} {ca cb : E} (ha : ST Z a ca) (hb : SW Z (.BoolOp .Or (b :: rest) pos) cb) : SW Z (.BoolOp .Or (a :: b :: rest) pos) (.or ca cb) := by
  refine pw_imp (pw_or ha hb) fun σ H Q h => ?_
  obtain ⟨ι, en, st, r, hf⟩ := h
  have hf : Fin Z.X.K (fun c d H' => Z.x c d σ H') ι H (truR ((ev Z.cl ca en st).bind (scK true fun st1 => ev Z.cl cb en st1))) _ := hf
  refine ⟨ι, en, st, r, (sc_fin hf).mono fun b ι' st' H' p t z q => ?_⟩
  cases b with
  | true => exact q
  | false => exact ⟨ι', en, st', r.keep t p z, q⟩
theorem w_ite {c a b : Expr} {cc ca cb : E} (hc : ST Z c cc) (ha : SE Z a ca) (hb : SE Z b cb) : SE Z (.IfExp c a b pos) (.ite cc ca cb) := by
  refine pe_imp (pe_ifExp hc ha hb) fun σ H Q h => ?_
  refine bindT (g := fun k en st1 => iteK (fun st1 => ev Z.cl ca en st1) (fun st1 => ev Z.cl cb en st1) k st1) h fun k ι en st H1 r q => ?_
  cases k with
  | true => exact ⟨ι, en, st, r, q⟩
  | false => exact ⟨ι, en, st, r, q⟩

/-! ### argument lists, displays -/
theorem w_nil : SA Z [] .nil := pa_imp pa_nil fun σ H Q ⟨ι, en, st, r, hf⟩ => hf.now r.hr [] .nil
theorem w_cons {e : Expr} {es : List Expr} {c : E} {cs : Es} (ha : SE Z e c) (hr : SA Z es cs) (hs : starEach (e :: es) Z.X.env = (false, eval e Z.X.env) :: starEach es Z.X.env := by rfl) : SA Z (e :: es) (.cons c cs) := by
  refine pa_imp (pa_cons ha hr hs) fun σ H Q h => ?_
  refine bindE (g := fun x en st1 => (evs Z.cl cs en st1).bind fun xs st2 => .ok (x :: xs) st2) h fun w v ι en st H1 r r1 q => ?_
  refine ⟨ι, en, st, r, (Fin.split q).mono fun ws ι' st' H' p t z q' vs rs => ?_⟩
  exact q'.now z _ (.cons (r1.keep t p) rs)
theorem w_tup {es : List Expr} {cs : Es} {k} (h : SA Z es cs) : SE Z (.Tuple es k pos) (.tup cs) := by
  refine pe_imp (pe_tup h) fun σ H Q h => ?_
  refine bindEs (g := fun ws _ st => tupK ws st) h fun ws vs ι en st H1 r rs q => ?_
  unfold tupK at q
  split at q
  · rename_i hl
    refine ⟨by rw [← rs.len]; exact hl, ?_⟩
    exact FinO.tup (ws := ws) (fun ι' H' v a b c d => q ι' H' a b c v d) r.hr rs
  · exact q.elim
theorem w_lst {es : List Expr} {cs : Es} (h : SA Z es cs) : SE Z (.List es pos) (.lst cs) := by
  refine pe_imp (pe_lst h) fun σ H Q h => ?_
  refine bindEs (g := fun ws _ st => lstK ws st) h fun ws vs ι en st H1 r rs q => ?_
  unfold lstK at q
  split at q
  · rename_i hl
    refine ⟨by rw [← rs.len]; exact hl, ?_⟩
    exact FinO.new (ws := ws) (fun ι' H' v a b c d => q ι' H' a b c v d) r.hr rs
  · exact q.elim
/-! ### built-in functions -/
theorem Bi.val_cases (b : Bi) : (∃ id, b.val = .builtin id) ∨ ∃ T, b.val = .type T := by cases b <;> first | exact .inl ⟨_, rfl⟩ | exact .inr ⟨_, rfl⟩
theorem w_bi (b : Bi) {x : Str} {p : Pos} {e : Expr} {es : List Expr} {cs : Es} (ok : Z.Ok) (hg : Gl Z.X x) (hm : Z.X.mg x = none) (hv : bootBuiltins x = some b.val) (ha : SA Z (e :: es) cs) (hn : x ≠ "__name__" := by decide) (hdb : (x == ("__debug__" : Str)) = false := by decide)
    (he : starEach (e :: es) Z.X.env = (false, eval e Z.X.env) :: starEach es Z.X.env := by rfl) (hpl : (backTo pos (starEach es Z.X.env)).any (·.1) = false := by rfl) : SE Z (.Call (.Name x p) (e :: es) [] pos) (.bi b cs) := by
  have fin : ∀ σ H Q, tE Z (.bi b cs) σ H Q → tCB (rBs Z.X.K (bi b)) (tEs Z cs) σ H Q := fun σ H Q h => by
    refine bindEs (g := fun ws _ st => Res.of (bi b ws st)) h fun ws vs ι en st H1 r rs q => ?_
    exact ⟨ι, st, ws, r.hr, rs, fin_of q⟩
  rcases b.val_cases with ⟨id, e1⟩ | ⟨T, e1⟩
  · exact pe_imp (pe_callB (id := id) (by rw [← e1]; exact cr_bi ok.hu ok.gd ok.calm b) hg hm (by rw [← e1]; exact hv) ha hn hdb he hpl) fin
  · exact pe_imp (pe_callTy (T := T) (by rw [← e1]; exact cr_bi ok.hu ok.gd ok.calm b) hg hm (by rw [← e1]; exact hv) ha hn hdb he hpl) fin
/-! ### subscripts, slices -/
theorem w_ix {a b : Expr} {ca cb : E} (ok : Z.Ok) (ha : SE Z a ca) (hb : SE Z b cb) (hs : PlainIx b := by intro _ _; rfl) : SE Z (.Subscript a b pos) (.ix ca cb) := by
  refine pe_imp (pe_ix (ixr_sub ok.hu) ha hb hs) fun σ H Q h => ?_
  refine bindE2 h fun w1 w2 v1 v2 ι en st H1 r r1 r2 q => ?_
  exact ⟨ι, st, w1, w2, r.hr, r1, r2, fin_of q⟩
/-- a slice's end -/
def tWo (K : PySem.W.Frag) (x : WX) (f : En → Sto → Res (Option Int)) : TO := fun σ H Q => ∃ ι en st, Rel K σ H ι en st ∧ Fin K (fun c d H' => x c d σ H') ι H (f en st) fun o _ _ H' => Q o H'
abbrev SO (Z : Cz) (e : Option Expr) (c : Es) : Prop := PO Z.X e (tWo Z.X.K Z.x fun en st => evo Z.cl c en st)
theorem po_imp {X : Cx} {e : Option Expr} {t t' : TO} (h : PO X e t) (i : ∀ σ H Q, t' σ H Q → t σ H Q) : PO X e t' := ⟨fun pins s σ H Q I q => h.run pins s σ H Q I (i _ _ _ q)⟩
theorem w_o0 : SO Z none .nil := po_imp po_none fun σ H Q ⟨ι, en, st, r, hf⟩ => hf.now r.hr
theorem w_o1 {e : Expr} {c : E} (h : SE Z e c) : SO Z (some e) (.cons c .nil) := by
  refine po_imp (po_some h) fun σ H Q h => ?_
  obtain ⟨ι, en, st, r, hf⟩ := h
  refine bindE (g := fun x _ st => intK x st) ⟨ι, en, st, r, hf⟩ fun w v ι en st H1 r r1 q => ?_
  unfold intK at q
  split at q
  · cases r1
    exact ⟨_, rfl, q.now r.hr⟩
  · exact q.elim
theorem w_sl {a : Expr} {lo hi : Option Expr} {ca : E} {cl ch : Es} {p2 : Pos} (ha : SE Z a ca) (hl : SO Z lo cl) (hh : SO Z hi ch) : SE Z (.Subscript a (.Slice lo hi none p2) pos) (.sl ca cl ch) := by
  refine pe_imp (pe_slice slr_cut ha hl hh) fun σ H Q h => ?_
  refine bindE (g := fun x en st1 => (evo Z.cl cl en st1).bind fun l st2 => (evo Z.cl ch en st2).bind fun h st3 => Res.of (slW x l h st3)) h fun w v ι en st H1 r r1 q => ?_
  refine ⟨ι, en, st, r, (Fin.split q).mono fun l ι1 st1 H1 p1 t1 z1 q1 => ?_⟩
  refine ⟨ι1, en, st1, r.keep t1 p1 z1, (Fin.split q1).mono fun h ι2 st2 H2 p2 t2 z2 q2 => ?_⟩
  exact ⟨ι2, st2, w, z2, (r1.keep t1 p1).keep t2 p2, fin_of q2⟩
theorem w_rev {a : Expr} {ca : E} {k : Nat} {p1 p2 p3 : Pos} (ha : SE Z a ca) : SE Z (.Subscript a (.Slice none none (some (.UnaryOp .USub (.Constant (.int 1) k p1) p2)) p3) pos) (.rev ca) := by
  refine pe_imp (pe_revL ha) fun σ H Q h => ?_
  refine bindE (g := fun x _ st1 => Res.of (revW x st1)) h fun w v ι en st H1 r r1 q => ?_
  have q := fin_of q
  unfold revW at q
  cases e : lstOf st w with
  | none => rw [e] at q; exact q.elim
  | some ws =>
    rw [e] at q
    obtain ⟨p, vs, rfl, h1, h2⟩ := r1.lst r.hr e
    exact ⟨p, vs, rfl, h2, FinO.new q r.hr h1.rev⟩
/-! ### methods of lists -/
theorem w_mt (m : Mt) {o e : Expr} {es : List Expr} {name : Str} {apos cpos : Pos} {co : E} {cs : Es} (slot : Slot "list" name m.id) (hty : typeOf (.builtin m.id) = pure (.type "method_descriptor")) (ho : SE Z o co) (ha : SA Z (e :: es) cs)
    (hbase : attributeBase o name Z.X.env (eval o Z.X.env) = eval o Z.X.env := by rfl)
    (hfew : ((backTo cpos (starEach (e :: es) Z.X.env)).all (fun x => !x.1) && (backToKw cpos (keywordEach [] Z.X.env)).all (fun x => x.1.isSome)
      && decide ((e :: es).length + ([] : List Keyword).length + (if ([] : List Keyword).isEmpty then 0 else 1) < 30)) = true := by rfl)
    (hline : (apos.endLine == cpos.line) = true := by rfl) (hs : starEach (e :: es) Z.X.env = (false, eval e Z.X.env) :: starEach es Z.X.env := by rfl) (hplain : (backTo cpos (starEach es Z.X.env)).any (·.1) = false := by rfl) :
    SE Z (.Call (.Attribute o name apos) (e :: es) [] cpos) (.mt m co cs) := by
  refine pe_imp (pe_bm PySem.F.plainAttrs_list slot hty (mtr_mt m) ho ha hbase hfew hline hs hplain) fun σ H Q h => ?_
  refine bindE (g := fun x en st1 => isLK (fun st1 => (evs Z.cl cs en st1).bind fun ws st2 => Res.of (mt m x ws st2)) x st1) h fun w v ι en st H1 r r1 q => ?_
  unfold isLK at q
  split at q
  · rename_i ws e1
    obtain ⟨a, vs, rfl, _, q2⟩ := r1.lst r.hr e1
    refine ⟨.inl ⟨rfl, vs, q2⟩, ι, en, st, r, (Fin.split q).mono fun us ι' st' H' p t z q' vs rs => ?_⟩
    exact ⟨ι', st', w, us, z, r1.keep t p, rs, fin_of q'⟩
  · exact q.elim
theorem w_mt0 (m : Mt) {o : Expr} {name : Str} {apos cpos : Pos} {co : E} (slot : Slot "list" name m.id) (hty : typeOf (.builtin m.id) = pure (.type "method_descriptor")) (ho : SE Z o co)
    (hbase : attributeBase o name Z.X.env (eval o Z.X.env) = eval o Z.X.env := by rfl) (hline : (apos.endLine == cpos.line) = true := by rfl) :
    SE Z (.Call (.Attribute o name apos) [] [] cpos) (.mt m co .nil) := by
  refine pe_imp (pe_bm0 PySem.F.plainAttrs_list slot hty (mtr_mt m) ho hbase hline) fun σ H Q h => ?_
  refine bindE (g := fun x en st1 => isLK (fun st1 => (evs Z.cl .nil en st1).bind fun ws st2 => Res.of (mt m x ws st2)) x st1) h fun w v ι en st H1 r r1 q => ?_
  unfold isLK at q
  split at q
  · rename_i ws e1
    obtain ⟨a, vs, rfl, _, q2⟩ := r1.lst r.hr e1
    have q : Fin Z.X.K (fun c d H' => Z.x c d σ H') ι H1 (Res.of (mt m w [] st)) _ := q
    exact ⟨.inl ⟨rfl, vs, q2⟩, ι, st, w, [], r.hr, r1, .nil, fin_of q⟩
  · exact q.elim

/-! ### isinstance -/
theorem ty_rel {K : PySem.W.Frag} {H : Hp} {ι : List Addr} {st : Sto} {w : W} {v : V} {t : String} (z : HRel K H ι st) (r : RW K H ι w v) (e : tyOf st w = some t) :
    TyOf K H v (.type t) ∨ (t = "list" ∧ ∃ a vs, v = .ref a ∧ SLst K H a vs) ∨ (t = "tuple" ∧ ∃ a vs, v = .ref a ∧ STup K H a vs) := by
  cases r with
  | non => cases e; exact .inl .non
  | bl b => cases e; exact .inl (.bl b)
  | int i => cases e; exact .inl (.int i)
  | str x => cases e; exact .inl (.str x)
  | tup h r => cases e; exact .inr (.inr ⟨rfl, _, _, rfl, h⟩)
  | frl h r => cases e; exact .inr (.inl ⟨rfl, _, _, rfl, h⟩)
  | ref h =>
    obtain ⟨o, eo, ro⟩ := z.at h
    unfold tyOf at e
    simp only [eo] at e
    cases o with
    | lst us => cases e; obtain ⟨vs, q1, q2⟩ := ro; exact .inl (.lst q1)
    | dct us => cases e; obtain ⟨vs, q1, q2⟩ := ro; exact .inl (.dK q1)
/-- isinstance(x, c), the answer for each kind -/
def KitT (K : PySem.W.Frag) (c : Value) (u : String) : Prop := ∀ t ∈ ["NoneType", "bool", "int", "str", "tuple", "list", "dict"], PySem.W.kitOne K (.type t) c = some (isTy t u)
theorem isi_ok {pins : List (Addr × Obj)} {s : Shared} {σ : L2.St} {H : Hp} {K : PySem.W.Frag} {ι : List Addr} {st : Sto} {w : W} {v : V} {u c : Value} {t cu : String} {Q : Value → Shared → Prop} {A : Around} {E : Value → Shared → Prop}
    (I : Inv Z.X pins σ H s) (z : HRel Z.X.K H ι st) (r : RW Z.X.K H ι w v) (e : tyOf st w = some t) (rv : RelV v u) (hk : PySem.W.kitOne Z.X.K (.type t) c = some (isTy t cu)) (h : ∀ tk, Q (.bool (isTy t cu)) { s with toks := tk }) :
    wpAny (model Z.X.prog Z.X.w) A (call (.builtin "isinstance") [u, c]) Q E s := by
  rcases ty_rel z r e with h1 | ⟨rfl, a, vs, rfl, h1⟩ | ⟨rfl, a, vs, rfl, h1⟩
  · exact isinst_ok I rv h1 hk h
  · cases (show u = Value.ref a from rv)
    obtain ⟨its, _, ⟨o, n, e1, c1, d1, _⟩, _⟩ := I.list h1.sq
    exact PySem.W.kia_one PySem.W.kitx_list I.kIn ⟨o, e1, c1⟩ hk (fun z => nomatch z) h
  · cases (show u = Value.ref a from rv)
    obtain ⟨its, _, ⟨o, e1, c1, _⟩, _⟩ := I.tuple h1.sq
    exact PySem.W.kia_one PySem.W.kitx_tuple I.kIn ⟨o, e1, c1⟩ hk (fun z => nomatch z) h
end
end Ci
/-! Ci6: targets, what is walked, comprehensions. -/
namespace Ci
open PySem L2 PyProof.Rows

/-! ### targets -/
/-- a target's reading: only its slots change -/
def gW (K : PySem.W.Frag) (t : Tg) : TG := fun v σ H Q => ∃ ι en st w en1, Rel K σ H ι en st ∧ RW K H ι w v ∧ asg t w en = some en1 ∧ ∀ σ1, Rel K σ1 H ι en1 st → (∀ i, i ∉ t.slots → σ1[i]? = σ[i]?) → Q σ1 H
def gWs (K : PySem.W.Frag) (t : Tgs) : TGs := fun vs σ H Q => ∃ ι en st ws en1, Rel K σ H ι en st ∧ RWs K H ι ws vs ∧ asgs t ws en = some en1 ∧ ∀ σ1, Rel K σ1 H ι en1 st → (∀ i, i ∉ t.slots → σ1[i]? = σ[i]?) → Q σ1 H
theorem pgs_imp {X : Cx} {e : List Expr} {t t' : TGs} (h : PGs X e t) (i : ∀ v σ H Q, t' v σ H Q → t v σ H Q) : PGs X e t' := ⟨fun pins s σ H v u Q I r q => h.run pins s σ H v u Q I r (i _ _ _ _ q)⟩
section
variable {X : Cx} {pos : Pos}
theorem Rel.set {K : PySem.W.Frag} {σ : L2.St} {H : Hp} {ι : List Addr} {en : En} {st : Sto} {i : Nat} {w : W} {v : V} (r : Rel K σ H ι en st) (h : RW K H ι w v) : Rel K (σ.set i (some v)) H ι (en.set i (some w)) st := by
  refine ⟨r.hr, by simp [r.len], fun j z e => ?_⟩
  by_cases hj : j = i
  · subst hj
    have hl : j < en.length := by
      have := (List.getElem?_eq_some_iff.mp e).1
      simpa using this
    rw [List.getElem?_set_self hl] at e
    cases e
    exact ⟨v, List.getElem?_set_self (by rw [r.len]; exact hl), h⟩
  · rw [List.getElem?_set_ne (Ne.symm hj)] at e
    rw [List.getElem?_set_ne (Ne.symm hj)]
    exact r.en j z e
theorem g_nm (i : Nat) {x : Str} (nd : X.N.Nodup) (hi : X.N[i]? = some x := by rfl) (hx : Loc X.env.scope x := by first | exact Or.inl rfl | exact Or.inr rfl) (hf : X.fn x = true ∨ X.env.scope.names.lookup x = some .local := by first | exact .inl rfl | exact .inr rfl | assumption) : PG X (.Name x pos) (gW X.K (.nm i)) := by
  refine pg_imp (pg_name nd hi hx hf) fun v σ H Q h => ?_
  obtain ⟨ι, en, st, w, en1, r, rv, e, k⟩ := h
  have e : (if i < en.length then some (en.set i (some w)) else none) = some en1 := e
  split at e
  · cases e
    refine k _ (r.set rv) fun j hj => ?_
    have : j ≠ i := fun z => hj (by subst z; exact List.mem_cons_self)
    exact List.getElem?_set_ne (Ne.symm this)
  · cases e
theorem gs_nil : PGs X [] (gWs X.K .nil) := by
  refine pgs_imp pgs_nil fun vs σ H Q h => ?_
  obtain ⟨ι, en, st, ws, en1, r, rv, e, k⟩ := h
  cases ws with
  | nil =>
    cases rv
    cases e
    exact ⟨rfl, k σ r fun _ _ => rfl⟩
  | cons _ _ => cases e
mutual
theorem asg_len : ∀ {t : Tg} {w : W} {en en1 : En}, asg t w en = some en1 → en1.length = en.length
  | .nm i, w, en, en1, e => by
    have e : (if i < en.length then some (en.set i (some w)) else none) = some en1 := e
    split at e
    · cases e; exact List.length_set
    · cases e
  | .tp ts, w, en, en1, e => by
    cases w with
    | tup ws => exact asgs_lenE (ts := ts) (ws := ws) e
    | _ => cases e
theorem asgs_lenE : ∀ {ts : Tgs} {ws : List W} {en en1 : En}, asgs ts ws en = some en1 → en1.length = en.length
  | .nil, [], _, _, e => by cases e; rfl
  | .nil, _ :: _, _, _, e => by cases e
  | .cons t ts, [], _, _, e => by cases e
  | .cons t ts, w :: ws, en, en1, e => by
    have e : (match asg t w en with | some en1 => asgs ts ws en1 | none => none) = some en1 := e
    split at e
    · rename_i en2 e2
      exact (asgs_lenE e).trans (asg_len e2)
    · cases e
end
theorem gs_cons {e : Expr} {es : List Expr} {t : Tg} {ts : Tgs} (h1 : PG X e (gW X.K t)) (h2 : PGs X es (gWs X.K ts))
    (hs : (assignEach (e :: es) X.env).map (·.2) = assign e X.env :: (assignEach es X.env).map (·.2) := by rfl) : PGs X (e :: es) (gWs X.K (.cons t ts)) := by
  refine pgs_imp (pgs_cons h1 h2 hs) fun vs σ H Q h => ?_
  obtain ⟨ι, en, st, ws, en1, r, rv, e, k⟩ := h
  cases ws with
  | nil => cases e
  | cons w ws =>
    cases rv with
    | @cons _ v _ vr hv ht =>
      have e : (match asg t w en with | some en1 => asgs ts ws en1 | none => none) = some en1 := e
      split at e
      · rename_i en2 e2
        refine ⟨v, vr, rfl, ι, en, st, w, en2, r, hv, e2, fun σ1 r1 s1 => ?_⟩
        refine ⟨ι, en2, st, ws, en1, r1, ht, e, fun σ2 r2 s2 => k σ2 r2 fun i hi => ?_⟩
        have hi : i ∉ t.slots ++ ts.slots := hi
        rw [List.mem_append] at hi
        exact (s2 i fun z => hi (.inr z)).trans (s1 i fun z => hi (.inl z))
      · cases e
theorem g_tp {es : List Expr} {k : Nat} {ts : Tgs} {n : Nat} (hc : X.calm = true) (h : PGs X es (gWs X.K ts)) (hl : ∀ ws en en1, asgs ts ws en = some en1 → ws.length = n)
    (hn : (assignEach es X.env).length = n := by rfl) (hst : (assignEach es X.env).findIdx? (·.1) = none := by rfl) : PG X (.Tuple es k pos) (gW X.K (.tp ts)) := by
  refine pg_imp (pg_tup hc h hn hst) fun v σ H Q hq => ?_
  obtain ⟨ι, en, st, w, en1, r, rv, e, kk⟩ := hq
  cases w with
  | tup ws =>
    cases rv with
    | @tup _ vs a ht rs =>
      have e : asgs ts ws en = some en1 := e
      exact ⟨a, vs, rfl, ht.sq, by rw [← rs.len]; exact hl _ _ _ e, ι, en, st, ws, en1, r, rs, e, kk⟩
  | _ => cases e
end
def Tgs.n : Tgs → Nat
  | .nil => 0
  | .cons _ ts => ts.n + 1
theorem asgs_len : ∀ {ts : Tgs} {ws : List W} {en en1 : En}, asgs ts ws en = some en1 → ws.length = ts.n
  | .nil, [], _, _, _ => rfl
  | .nil, _ :: _, _, _, e => by cases e
  | .cons t ts, [], _, _, e => by cases e
  | .cons t ts, w :: ws, en, en1, e => by
    have e : (match asg t w en with | some en1 => asgs ts ws en1 | none => none) = some en1 := e
    split at e
    · exact congrArg (· + 1) (asgs_len e)
    · cases e

/-! ### what is walked -/
/-- J walks what src tells, whatever comes later -/
def SrcOk (K : PySem.W.Frag) (H : Hp) (ι : List Addr) (src : Src) (J : L2.It) : Prop :=
  ∀ (ι' : List Addr) (H' : Hp) (st' : Sto) (i : Nat), Pre ι ι' → TK H H' → HRel K H' ι' st' → match src.get st' i with
    | none => True
    | some none => J.stop i H'
    | some (some w) => J.go i H' ∧ ∀ x H'', J.yld i H' x H'' → TK H' H'' ∧ HRel K H'' ι' st' ∧ RW K H'' ι' w x
def iW (K : PySem.W.Frag) (x : WX) (f : En → Sto → Res Src) : TI := fun σ H R => ∃ ι en st, Rel K σ H ι en st ∧ Fin K (fun c d H' => x c d σ H') ι H (f en st) fun src ι' _ H' => ∀ J, SrcOk K H' ι' src J → R J H'
abbrev SI (Z : Cz) (tg e : Expr) (c : It) : Prop := PI Z.X tg e (iW Z.X.K Z.x fun en st => evi Z.cl c en st)
theorem pi_imp {X : Cx} {tg e : Expr} {t t' : TI} (h : PI X tg e t) (i : ∀ σ H Q, t' σ H Q → t σ H Q) : PI X tg e t' := ⟨fun pins s σ H R I q => h.run pins s σ H R I (i _ _ _ q)⟩
section
variable {K : PySem.W.Frag} {H : Hp} {ι : List Addr}
theorem src_tup {ws : List W} {vs : List V} {a : Addr} (h : STup K H a vs) (r : RWs K H ι ws vs) : SrcOk K H ι (.fix ws) (Itt K a) := by
  intro ι' H' st' i p t z
  have hs := (h.keep t).sq
  cases e : ws[i]? with
  | none =>
    show (match some ws[i]? with | none => True | some none => _ | some (some w) => _)
    rw [e]
    refine ⟨vs, hs, ?_⟩
    rw [← r.len]
    exact List.getElem?_eq_none_iff.mp e
  | some w =>
    show (match some ws[i]? with | none => True | some none => _ | some (some w) => _)
    rw [e]
    obtain ⟨v, ev, rv⟩ := r.get e
    refine ⟨⟨vs, v, hs, ev⟩, fun x H'' y => ?_⟩
    obtain ⟨rfl, y⟩ := y
    have := y vs hs
    rw [ev] at this
    cases this
    exact ⟨TK.refl _, z, rv.keep t p⟩
theorem src_frl {ws : List W} {vs : List V} {a : Addr} (h : SLst K H a vs) (r : RWs K H ι ws vs) : SrcOk K H ι (.fix ws) (Itl K a) := by
  intro ι' H' st' i p t z
  have hs := (h.keep t).sq
  cases e : ws[i]? with
  | none =>
    show (match some ws[i]? with | none => True | some none => _ | some (some w) => _)
    rw [e]
    refine ⟨vs, hs, ?_⟩
    rw [← r.len]
    exact List.getElem?_eq_none_iff.mp e
  | some w =>
    show (match some ws[i]? with | none => True | some none => _ | some (some w) => _)
    rw [e]
    obtain ⟨v, ev, rv⟩ := r.get e
    refine ⟨⟨vs, v, hs, ev⟩, fun x H'' y => ?_⟩
    obtain ⟨rfl, y⟩ := y
    have := y vs hs
    rw [ev] at this
    cases this
    exact ⟨TK.refl _, z, rv.keep t p⟩
theorem src_live {n : Nat} {a : Addr} (h : ι[n]? = some a) : SrcOk K H ι (.live n) (Itl K a) := by
  intro ι' H' st' i p t z
  obtain ⟨o, eo, ro⟩ := z.at (p n a h)
  show (match (match st'[n]? with | some (.lst ws) => some ws[i]? | _ => none) with | none => True | some none => _ | some (some w) => _)
  rw [eo]
  cases o with
  | dct _ => exact True.intro
  | lst ws =>
    obtain ⟨vs, q1, r⟩ := ro
    have hs : SqL K H' a vs := SqL.of q1
    have uniq : ∀ xs, SqL K H' a xs → True := fun _ _ => True.intro
    cases e : ws[i]? with
    | none =>
      show (match some ws[i]? with | none => True | some none => _ | some (some w) => _)
      rw [e]
      refine ⟨vs, hs, ?_⟩
      rw [← r.len]
      exact List.getElem?_eq_none_iff.mp e
    | some w =>
      show (match some ws[i]? with | none => True | some none => _ | some (some w) => _)
      rw [e]
      obtain ⟨v, ev, rv⟩ := r.get e
      refine ⟨⟨vs, v, hs, ev⟩, fun x H'' y => ?_⟩
      obtain ⟨rfl, y⟩ := y
      have := y vs hs
      rw [ev] at this
      cases this
      exact ⟨TK.refl _, z, rv⟩
theorem src_str {x : Str} : SrcOk K H ι (.fix (x.cps.toList.map fun c => .str ⟨#[c]⟩)) (Its x) := by
  intro ι' H' st' i p t z
  show (match some (x.cps.toList.map fun c => W.str ⟨#[c]⟩)[i]? with | none => True | some none => _ | some (some w) => _)
  rw [List.getElem?_map, Array.getElem?_toList]
  cases e : x.cps[i]? with
  | none => exact Array.getElem?_eq_none_iff.mp e
  | some c =>
    refine ⟨(Array.getElem?_eq_some_iff.mp e).1, fun v H'' y => ?_⟩
    obtain ⟨rfl, d, ed, rfl⟩ := y
    rw [e] at ed
    cases ed
    exact ⟨TK.refl _, z, .str _⟩
theorem src_rng {a b : Int} : SrcOk K H ι (.fix (rngW a b)) (Itr a (b - a).toNat) := by
  intro ι' H' st' i p t z
  show (match some (rngW a b)[i]? with | none => True | some none => _ | some (some w) => _)
  unfold rngW
  rw [List.getElem?_map]
  by_cases h : i < (b - a).toNat
  · rw [List.getElem?_range h]
    refine ⟨h, fun v H'' y => ?_⟩
    obtain ⟨rfl, rfl⟩ := y
    exact ⟨TK.refl _, z, .int _⟩
  · rw [List.getElem?_eq_none (by simpa using h)]
    exact Nat.le_of_not_lt h
/-- a list that is walked -/
theorem src_lst {st : Sto} {w : W} {v : V} {s : Src} (z : HRel K H ι st) (r : RW K H ι w v) (e : srcOf st w = some s) :
    (∃ a vs, v = .ref a ∧ SqL K H a vs ∧ SrcOk K H ι s (Itl K a)) ∨ (∃ a vs, v = .ref a ∧ STup K H a vs ∧ SrcOk K H ι s (Itt K a)) ∨ ∃ x, v = .str x ∧ SrcOk K H ι s (Its x) := by
  cases r with
  | tup h r => cases e; exact .inr (.inl ⟨_, _, rfl, h, src_tup h r⟩)
  | frl h r => cases e; exact .inl ⟨_, _, rfl, h.sq, src_frl h r⟩
  | str x => cases e; exact .inr (.inr ⟨x, rfl, src_str⟩)
  | @ref n a h =>
    obtain ⟨o, eo, ro⟩ := z.at h
    unfold srcOf at e
    simp only [eo] at e
    cases o with
    | lst us => cases e; obtain ⟨vs, q1, q2⟩ := ro; exact .inl ⟨_, vs, rfl, SqL.of q1, src_live h⟩
    | dct us => cases e
  | _ => cases e
end

section
variable {Z : Cz} {tg : Expr} {pos : Pos}
/-- x in a list, a tuple, a text -/
theorem i_val {e : Expr} {c : E} (h : SE Z e c) : SI Z tg e (.val c) := by
  refine ⟨fun pins s σ H R I hi => ?_⟩
  obtain ⟨ι, en, st, r, hf⟩ := hi
  have hq : tE Z c σ H fun v H1 => (∃ a vs J, v = .ref a ∧ SqL Z.X.K H1 a vs ∧ J = Itl Z.X.K a ∧ R J H1) ∨ (∃ a vs J, v = .ref a ∧ SqT Z.X.K H1 a vs ∧ J = Itt Z.X.K a ∧ R J H1) ∨ ∃ x, v = .str x ∧ R (Its x) H1 := by
    refine bindE (g := fun x _ st => srcK id x st) ⟨ι, en, st, r, hf⟩ fun w v ι en st H1 r r1 q => ?_
    unfold srcK at q
    split at q
    · rename_i s e1
      have k := q.now r.hr
      rcases src_lst r.hr r1 e1 with ⟨a, vs, rfl, h1, h2⟩ | ⟨a, vs, rfl, h1, h2⟩ | ⟨x, rfl, h2⟩
      · exact .inl ⟨a, vs, _, rfl, h1, rfl, k _ h2⟩
      · exact .inr (.inl ⟨a, vs, _, rfl, h1.sq, rfl, k _ h2⟩)
      · exact .inr (.inr ⟨x, rfl, k _ h2⟩)
    · exact q.elim
  refine thn (h.run pins s σ H _ I hq) fun v s1 ⟨x, H1, I1, r1, q1⟩ => ?_
  -- each by the layer's own rule at a value that is known
  have known : PE Z.X e (fun σ' H' Q' => False) := ⟨fun _ _ _ _ _ _ z => z.elim⟩
  rcases q1 with ⟨a, vs, J, rfl, hs, rfl, q⟩ | ⟨a, vs, J, rfl, hs, rfl, q⟩ | ⟨x, rfl, q⟩
  · cases r1
    obtain ⟨its, rv, p, hz⟩ := I1.list hs
    refine wpAny_pyIter_list p.isList ?_
    refine ⟨s1.heap.objs.size, [s1.heap.objs.size], _, _, H1, rfl, I1.kept (t' := s1.toks) fun b o e => Heap.get?_push_of_some _ e, turn_list a _, ⟨_, Heap.get?_push_size _ rfl, rfl, rfl⟩, fun b hb => ?_, q⟩
    obtain rfl : b = s1.heap.objs.size := by simpa using hb
    exact I1.fpOk (Nat.le_refl _) (I1.hok.fresh (Nat.le_refl _))
  · cases r1
    obtain ⟨its, rv, p, hz⟩ := I1.tuple hs
    refine wpAny_pyIter_tuple (show s1.heap.IsTuple a its.toArray from p) ?_
    refine ⟨s1.heap.objs.size, [s1.heap.objs.size], _, _, H1, rfl, I1.kept (t' := s1.toks) fun b o e => Heap.get?_push_of_some _ e, turn_tuple a _, ⟨_, Heap.get?_push_size _ rfl, rfl, rfl⟩, fun b hb => ?_, q⟩
    obtain rfl : b = s1.heap.objs.size := by simpa using hb
    exact I1.fpOk (Nat.le_refl _) (I1.hok.fresh (Nat.le_refl _))
  · obtain ⟨t, rfl⟩ := r1
    have it : ∀ (ty : String) (hty : ty = "str_ascii_iterator" ∨ ty = "str_iterator"), wpAny (model Z.X.prog Z.X.w) Z.X.A (pure (.ref s1.heap.objs.size)) (PIE Z.X pins σ tg R) Z.X.xe { s1 with heap := s1.heap.push { cls := .type ty, data := .fields #[.str x t, .int 0 0] } } → True := fun _ _ _ => True.intro
    cases ha : x.cps.all (· < 128)
    · exact wpAny_pyIter_wide ha (pi_one (tk := s1.toks) I1 _ (turn_str _ x t "str_iterator" (.inr rfl)) ⟨_, Heap.get?_push_size _ rfl, rfl, rfl⟩ q)
    · exact wpAny_pyIter_ascii ha (pi_one (tk := s1.toks) I1 _ (turn_str _ x t "str_ascii_iterator" (.inl rfl)) ⟨_, Heap.get?_push_size _ rfl, rfl, rfl⟩ q)
theorem Res.assoc {α β γ : Type} (r : Res α) (f : α → Sto → Res β) (g : β → Sto → Res γ) : (r.bind f).bind g = r.bind fun a st => (f a st).bind g := by cases r <;> rfl
/-- range(b), range(a, b) -/
theorem i_rng1 {a : Expr} {c : E} {p : Pos} (hg : Gl Z.X "range") (hm : Z.X.mg "range" = none) (h : SE Z a c) (hs : starEach [a] Z.X.env = [(false, eval a Z.X.env)] := by rfl) : SI Z tg (.Call (.Name "range" p) [a] [] pos) (.rng (.cons c .nil)) := by
  refine pi_imp (pi_range1 hg hm (pa_cons h pa_nil (by rw [hs]; rfl)) hs) fun σ H R hi => ?_
  obtain ⟨ι, en, st, r, hf⟩ := hi
  have hf : Fin Z.X.K (fun c d H' => Z.x c d σ H') ι H (((ev Z.cl c en st).bind fun x st1 => (Res.ok [x] st1)).bind rngK) _ := hf
  rw [Res.assoc] at hf
  refine bindE (g := fun x _ st => rngK [x] st) ⟨ι, en, st, r, hf⟩ fun w v ι en st H1 r r1 q => ?_
  unfold rngK at q
  cases w with
  | int b =>
    cases r1
    unfold rngOf at q
    simp only at q
    split at q
    · rename_i a b' e
      split at e
      · rename_i hb
        cases e
        have hb := of_decide_eq_true hb
        refine ⟨_, rfl, hb.2.2.1, hb.2.2.2, ?_⟩
        have k := q.now r.hr _ src_rng
        simpa using k
      · cases e
    · exact q.elim
  | _ => exact q.elim
theorem i_rng2 {a b : Expr} {ca cb : E} {p : Pos} (hg : Gl Z.X "range") (hm : Z.X.mg "range" = none) (ha : SE Z a ca) (hb : SE Z b cb) (hs : starEach [a, b] Z.X.env = [(false, eval a Z.X.env), (false, eval b Z.X.env)] := by rfl) (hs2 : starEach [b] Z.X.env = [(false, eval b Z.X.env)] := by rfl) :
    SI Z tg (.Call (.Name "range" p) [a, b] [] pos) (.rng (.cons ca (.cons cb .nil))) := by
  refine pi_imp (pi_range2 hg hm (pa_cons ha (pa_cons hb pa_nil (by rw [hs2]; rfl)) (by rw [hs, hs2])) hs hs2) fun σ H R hi => ?_
  obtain ⟨ι, en, st, r, hf⟩ := hi
  have hf : Fin Z.X.K (fun c d H' => Z.x c d σ H') ι H (((ev Z.cl ca en st).bind fun x st1 => ((ev Z.cl cb en st1).bind fun y st2 => Res.ok [y] st2).bind fun xs st2 => Res.ok (x :: xs) st2).bind rngK) _ := hf
  rw [Res.assoc] at hf
  refine bindE (g := fun x en st1 => (((ev Z.cl cb en st1).bind fun y st2 => Res.ok [y] st2).bind fun xs st2 => Res.ok (x :: xs) st2).bind rngK) ⟨ι, en, st, r, hf⟩ fun w v ι en st H1 r r1 q => ?_
  rw [Res.assoc, Res.assoc] at q
  refine ⟨ι, en, st, r, (Fin.split q).mono fun w2 ι2 st2 H2 p2 t2 z2 q v2 r2 => ?_⟩
  have q : Fin Z.X.K (fun c d H' => Z.x c d σ H') ι2 H2 (rngK [w, w2] st2) _ := q
  unfold rngK at q
  cases w with
  | int i =>
    cases w2 with
    | int j =>
      cases r1
      cases r2
      unfold rngOf at q
      simp only at q
      split at q
      · rename_i a b' e
        split at e
        · rename_i hb
          cases e
          have hb := of_decide_eq_true hb
          exact ⟨_, _, rfl, hb, q.now z2 _ src_rng⟩
        · cases e
      · exact q.elim
    | _ => exact q.elim
  | _ => cases w2 <;> exact q.elim

/-! ### comprehensions -/
/-- the block of a comprehension -/
def Cz.blk (Z : Cz) (s : Shared) (H : Hp) (scope : Scope) (C : Addr) (cl : List (Str × Addr)) (fp : List Addr) : Cz := ⟨Z.X.blk s H scope (compEnvC scope cl C Z.X.env) fp, fun _ _ _ _ => False, Z.cl⟩
theorem Cz.Ok.blk (ok : Z.Ok) (s : Shared) (H : Hp) (scope : Scope) (C : Addr) (cl : List (Str × Addr)) (fp : List Addr) : (Z.blk s H scope C cl fp).Ok :=
  ⟨ok.calm, ok.nd, fun u s' ⟨_, _, _, _, _, _, _, _, _, _, _, _, _, _, _, _, w⟩ => w.elim, ok.hu, ok.gd⟩
abbrev SCs (Z : Cz) (ifs : List Expr) (c : Es) : Prop := PTs Z.X ifs (tWb Z.X.K Z.x fun en st => evc Z.cl c en st)
theorem pts_imp {X : Cx} {ifs : List Expr} {t t' : TT} (h : PTs X ifs t) (i : ∀ σ H Q, t' σ H Q → t σ H Q) : PTs X ifs t' := ⟨fun pins s σ H Q I q => h.run pins s σ H Q I (i _ _ _ q)⟩
theorem c_nil : SCs Z [] .nil := pts_imp pts_nil fun σ H Q ⟨ι, en, st, r, hf⟩ => hf.now r.hr
theorem c_one {e : Expr} {c : E} (h : ST Z e c) : SCs Z [e] (.cons c .nil) := by
  refine pts_imp (pts_one h) fun σ H Q hq => ?_
  refine bindT (g := fun b _ st => iteK (fun st1 => Res.ok true st1) (fun st1 => Res.ok false st1) b st) hq fun b ι en st H1 r q => ?_
  cases b with
  | true => exact q.now r.hr
  | false => exact q.now r.hr
theorem noexc_bind {α β : Type} (r : Res α) (f : α → Sto → Res β) : noexc (r.bind f) = (noexc r).bind fun a st => noexc (f a st) := by cases r <;> rfl
theorem fin_noexc {K : PySem.W.Frag} {x y : Value → Option Addr → Hp → Prop} {ι : List Addr} {H : Hp} {α : Type} {r : Res α} {k : α → List Addr → Sto → Hp → Prop} (h : Fin K x ι H (noexc r) k) : Fin K y ι H r k := by
  cases r with
  | ok a st => exact h
  | exc _ _ => exact h.elim
  | bad => exact h
theorem fin_nx {K : PySem.W.Frag} {x y : Value → Option Addr → Hp → Prop} {ι : List Addr} {H : Hp} {α β : Type} {r : Res α} {f : α → Sto → Res β} {k : β → List Addr → Sto → Hp → Prop} (h : Fin K x ι H (noexc (r.bind f)) k) :
    Fin K y ι H r fun a ι' st' H' => Fin K x ι' H' (noexc (f a st')) k := by
  rw [noexc_bind] at h
  exact fin_noexc (x := x) (Fin.split h)
theorem wipe_rel {K : PySem.W.Frag} {σ : L2.St} {H : Hp} {ι : List Addr} {en : En} {st : Sto} (r : Rel K σ H ι en st) : ∀ vs : List Nat, Rel K (wipe σ vs) H ι (wipeE en vs) st
  | [] => r
  | v :: vs => by
    have q := wipe_rel r vs
    refine ⟨q.hr, by show ((wipe σ vs).set v none).length = ((wipeE en vs).set v none).length; rw [List.length_set, List.length_set, q.len], fun i w e => ?_⟩
    have e : ((wipeE en vs).set v none)[i]? = some (some w) := e
    show ∃ u, ((wipe σ vs).set v none)[i]? = some (some u) ∧ _
    by_cases h : i = v
    · subst h
      by_cases hl : i < (wipeE en vs).length
      · rw [List.getElem?_set_self hl] at e; cases e
      · rw [List.getElem?_eq_none (by simpa using hl)] at e; cases e
    · rw [List.getElem?_set_ne (Ne.symm h)] at e
      rw [List.getElem?_set_ne (Ne.symm h)]
      exact q.en i w e
theorem wipe_same {σ τ : L2.St} (hl : τ.length = σ.length) : ∀ {vs : List Nat}, (∀ i, i ∉ vs → τ[i]? = σ[i]?) → wipe τ vs = wipe σ vs := fun {vs} h => by
  refine List.ext_getElem? fun i => ?_
  by_cases hi : i ∈ vs
  · have aux : ∀ (σ : L2.St) (vs : List Nat), i ∈ vs → (wipe σ vs)[i]? = if i < σ.length then some none else none := fun σ vs => by
      induction vs with
      | nil => intro z; cases z
      | cons v vs ih =>
        intro hm
        show ((wipe σ vs).set v none)[i]? = _
        by_cases e : i = v
        · subst e
          by_cases q : i < σ.length
          · rw [List.getElem?_set_self (by rw [wipe_length]; exact q), if_pos q]
          · rw [List.getElem?_eq_none (by simp [wipe_length]; omega), if_neg q]
        · rw [List.getElem?_set_ne (Ne.symm e)]
          rcases List.mem_cons.mp hm with z | z
          · exact absurd z e
          · exact ih z
    rw [aux _ _ hi, aux _ _ hi, hl]
  · rw [wipe_out hi, wipe_out hi]
    exact h i hi
theorem lc_tr {t : Tg} {ci : It} {cs : Es} {ce : E} {vs : List Nat} (hsl : ∀ i ∈ t.slots, i ∈ vs) (σ : L2.St) (H : Hp) (Q : VK) (h : tE Z (.lc vs t ci cs ce) σ H Q) :
    tLc (iW Z.X.K Z.x fun en st => evi Z.cl ci en st) (gW Z.X.K t) (tWb Z.X.K (fun _ _ _ _ => False) fun en st => evc Z.cl cs en st) (tW Z.X.K (fun _ _ _ _ => False) fun en st => ev Z.cl ce en st) vs σ H Q := by
  obtain ⟨ι, en, st, r, hf⟩ := h
  refine ⟨ι, en, st, r, (Fin.split hf).mono fun src ι1 st1 H1 p1 t1 z1 q1 J hJ => ?_⟩
  intro D hD
  -- the turns
  let lp : Nat → Nat → Sto → Res W := lcL src.get (asg t) (wipeE en (vs)) (fun en st => evc Z.cl cs en st) (fun en st => ev Z.cl ce en st) st1.length
  have tk0 : TK H1 (upd H1 D (.lst [])) := TK.new hD
  have z2 : HRel Z.X.K (upd H1 D (.lst [])) (ι1 ++ [D]) (st1 ++ [.lst []]) := z1.push hD ⟨[], upd_same, .nil⟩
  refine ⟨fun i m H' => ∃ ι' st', Pre (ι1 ++ [D]) ι' ∧ TK (upd H1 D (.lst [])) H' ∧ HRel Z.X.K H' ι' st' ∧ Fin Z.X.K (fun c d H' => Z.x c d σ H') ι' H' (noexc (lp m i st')) (fun w ι' _ H' => ∀ v, RW Z.X.K H' ι' w v → Q v H'), ⟨FU, ι1 ++ [D], st1 ++ [.lst []], Pre.refl _, TK.refl _, z2, Fin.shift (Pre.snoc ι1 D) tk0 q1⟩, ?_⟩
  rintro i m H' ⟨ι', st', p, tk, z, q⟩
  cases m with
  | zero => exact q.elim
  | succ m =>
    have pJ : Pre ι1 ι' := (Pre.snoc ι1 D).trans p
    have hj := hJ ι' H' st' i pJ (tk0.trans tk) z
    have q : Fin Z.X.K (fun c d H' => Z.x c d σ H') ι' H' (noexc (match src.get st' i with
      | none => .bad
      | some none => .ok (.ref st1.length) st'
      | some (some w) => match asg t w (wipeE en (vs)) with
        | none => .bad
        | some en1 => (evc Z.cl cs en1 st').bind (iteK (fun st1' => (ev Z.cl ce en1 st1').bind (pushK st1.length fun st2 => lp m (i + 1) st2)) (fun st1' => lp m (i + 1) st1')))) _ := q
    have hDa : ι'[st1.length]? = some D := by
      refine p _ _ ?_
      rw [← z1.len]
      simp
    cases eg : src.get st' i with
    | none => rw [eg] at q; exact q.elim
    | some o =>
      rw [eg] at q hj
      cases o with
      | none => exact .inl ⟨hj, q.now z _ (.ref hDa)⟩
      | some w =>
        refine .inr ⟨hj.1, fun H'' => ∃ ι'' st'', Pre (ι1 ++ [D]) ι'' ∧ TK (upd H1 D (.lst [])) H'' ∧ HRel Z.X.K H'' ι'' st'' ∧ Fin Z.X.K (fun c d H' => Z.x c d σ H') ι'' H'' (noexc (lp m (i + 1) st'')) (fun w ι' _ H' => ∀ v, RW Z.X.K H' ι' w v → Q v H'), fun H'' hN => ⟨m, Nat.lt_succ_self m, hN⟩, fun x H2 y => ?_⟩
        obtain ⟨tk2, zz2, rx⟩ := hj.2 x H2 y
        simp only at q
        cases ea : asg t w (wipeE en (vs)) with
        | none => rw [ea] at q; exact q.elim
        | some en1 =>
          rw [ea] at q
          have rr : Rel Z.X.K σ H2 ι' en st' := r.keep (t1.trans (tk0.trans (tk.trans tk2))) (p1.trans pJ) zz2
          refine ⟨ι', wipeE en (vs), st', w, en1, wipe_rel rr _, rx, ea, fun σ2 r2 s2 => ⟨?_, ?_⟩⟩
          · have hl : σ2.length = (wipe σ (vs)).length := by
              rw [r2.len, (wipe_rel rr (vs)).len]
              have : ∀ {t : Tg} {w : W} {en en1 : En}, asg t w en = some en1 → en1.length = en.length := asg_len
              exact this ea
            have e1 := wipe_same hl (vs := vs) fun j hj' => s2 j fun zj => hj' (hsl j zj)
            rw [e1]
            exact wipe_same (wipe_length _ _) fun j hj' => wipe_out hj'
          · refine ⟨ι', en1, st', r2, (fin_nx (Fin.shift (Pre.refl ι') tk2 q)).mono fun b ι3 st3 H3 p3 t3 z3 q3 => ?_⟩
            cases b with
            | false => exact ⟨ι3, st3, p.trans p3, tk.trans (tk2.trans t3), z3, q3⟩
            | true =>
              rw [if_pos rfl]
              have q3 : Fin Z.X.K (fun c d H' => Z.x c d σ H') ι3 H3 (noexc ((ev Z.cl ce en1 st3).bind (pushK st1.length fun st2 => lp m (i + 1) st2))) _ := q3
              refine ⟨ι3, en1, st3, r2.keep t3 p3 z3, (fin_nx q3).mono fun yw ι4 st4 H4 p4 t4 z4 q4 yv ry => ?_⟩
              unfold pushK at q4
              split at q4
              · rename_i acc e4
                split at q4
                · rename_i hl4
                  have hD4 : ι4[st1.length]? = some D := p4 _ _ (p3 _ _ hDa)
                  obtain ⟨vs4, hH4, rs4⟩ := z4.ob _ _ _ hD4 e4
                  have mu : Mut (H4 D) := by rw [hH4]; exact True.intro
                  refine ⟨vs4, hH4, by rw [← rs4.len]; exact hl4, ι4, _, p.trans (p3.trans p4), ?_, z4.set hD4 (u := .lst (vs4 ++ [yv])) (o := .lst (acc ++ [yw])) ⟨_, upd_same, (rs4.app (.one ry)).keep (TK.mut mu) (Pre.refl _)⟩, Fin.shift (Pre.refl _) (TK.mut mu) q4⟩
                  exact tk.trans (tk2.trans (t3.trans (t4.trans (TK.mut mu))))
                · exact q4.elim
              · exact q4.elim
theorem w_lc {elt tgE iter : Expr} {ifs : List Expr} {scope : Scope} {own : List (Str × Nat)} {t : Tg} {ci : It} {cs : Es} {ce : E} (ok : Z.Ok) (hi : SI Z tgE iter ci) (bk : BlkOk Z.X.N Z.X.env.scope scope own)
    (hg : ∀ (s : Shared) (H : Hp) (C : Addr) (cl : List (Str × Addr)) (fp : List Addr), PG (Z.blk s H scope C cl fp).X tgE (gW Z.X.K t)) (ht : ∀ (s : Shared) (H : Hp) (C : Addr) (cl : List (Str × Addr)) (fp : List Addr), SCs (Z.blk s H scope C cl fp) ifs cs)
    (he : ∀ (s : Shared) (H : Hp) (C : Addr) (cl : List (Str × Addr)) (fp : List Addr), SE (Z.blk s H scope C cl fp) elt ce) (hsl : ∀ i ∈ t.slots, i ∈ own.map (·.2)) (hs : ∀ x, foldedSetIterable iter Z.X.env x = pure x := by intro _; rfl) :
    SE Z (.ListComp elt [⟨tgE, iter, ifs, 0⟩] scope pos) (.lc (own.map (·.2)) t ci cs ce) :=
  pe_imp (pe_lc (wi := iW Z.X.K Z.x fun en st => evi Z.cl ci en st) (g := gW Z.X.K t) (tt := tWb Z.X.K (fun _ _ _ _ => False) fun en st => evc Z.cl cs en st) (te := tW Z.X.K (fun _ _ _ _ => False) fun en st => ev Z.cl ce en st) ok.calm ok.nd hi bk hg ht he hs) fun σ H Q h => lc_tr hsl σ H Q h
end
end Ci
/-! Ci7: statements. -/
namespace Ci
open PySem L2 PyProof.Rows

/-- a statement, a block: only the slots of A are set -/
abbrev SS (Z : Cz) (A : Nat → Bool) (s : Stmt) (c : S) : Prop := PS Z.X s (tWS Z.X.K Z.x A fun en st => ex Z.cl c en st)
abbrev SB (Z : Cz) (A : Nat → Bool) (s : List Stmt) (c : S) : Prop := PSs Z.X s (tWS Z.X.K Z.x A fun en st => ex Z.cl c en st)
section
variable {K : PySem.W.Frag} {x : WX} {A : Nat → Bool} {σ : L2.St} {H : Hp}
theorem own_wish {ι : List Addr} {α : Type} {r : Res α} {k : α → List Addr → Sto → Hp → Prop} (h : Fin K (fun c d H' => ∀ σ', Agree A σ σ' → x c d σ' H') ι H r k) : Fin K (fun c d H' => x c d σ H') ι H r k := by
  cases r with
  | ok a st => exact h
  | exc y st => exact fun ι' H' c d p t z r => h ι' H' c d p t z r σ (Agree.refl A σ)
  | bad => exact h
theorem later_wish {σ' : L2.St} {ι : List Addr} {α : Type} {r : Res α} {k : α → List Addr → Sto → Hp → Prop} (a : Agree A σ σ') (h : Fin K (fun c d H' => ∀ σ', Agree A σ σ' → x c d σ' H') ι H r k) : Fin K (fun c d H' => ∀ τ, Agree A σ' τ → x c d τ H') ι H r k := by
  cases r with
  | ok a st => exact h
  | exc y st => exact fun ι' H' c d p t z r τ b => h ι' H' c d p t z r τ (a.trans b)
  | bad => exact h
theorem outK_later {σ' : L2.St} {D : Ends} {o : Out} {ι : List Addr} {st : Sto} {H : Hp} (a : Agree A σ σ') (h : outK K D A σ o ι st H) : outK K D A σ' o ι st H := by
  cases o with
  | nx en => exact fun τ b r => h τ (a.trans b) r
  | bk en => exact fun τ b r => h τ (a.trans b) r
  | ct en => exact fun τ b r => h τ (a.trans b) r
  | rt w => exact h
/-- an expression, then what comes of it -/
theorem bindS {f : En → Sto → Res W} {g : W → En → Sto → Res Out} {D : Ends} {R : VK}
    (h : ∃ ι en st, Rel K σ H ι en st ∧ Fin K (fun c d H' => ∀ σ', Agree A σ σ' → x c d σ' H') ι H ((f en st).bind fun w st' => g w en st') (outK K D A σ))
    (n : ∀ w v ι en st H, Rel K σ H ι en st → RW K H ι w v → Fin K (fun c d H' => ∀ σ', Agree A σ σ' → x c d σ' H') ι H (g w en st) (outK K D A σ) → R v H) : tW K x f σ H R := by
  obtain ⟨ι, en, st, r, hf⟩ := h
  refine ⟨ι, en, st, r, (own_wish (Fin.split hf)).mono fun w ι' st' H' p t z q v rv => ?_⟩
  exact n w v ι' en st' H' (r.keep t p z) rv q
end
section
variable {Z : Cz} {A : Nat → Bool} {pos : Pos}
theorem s_nil : SB Z A [] .skip := pss_imp pss_nil fun D σ H ⟨ι, en, st, r, hf⟩ => hf.now r.hr σ (Agree.refl A σ) r
theorem s_cons {s : Stmt} {rest : List Stmt} {a b : S} (h1 : SS Z A s a) (h2 : SB Z A rest b) : SB Z A (s :: rest) (.seq a b) := by
  refine pss_imp (pss_cons h1 h2) fun D σ H h => ?_
  obtain ⟨ι, en, st, r, hf⟩ := h
  refine ⟨ι, en, st, r, (Fin.split hf).mono fun o ι' st' H' p t z q => ?_⟩
  cases o with
  | nx en1 => exact fun σ' ag r' => ⟨ι', en1, st', r', (later_wish ag q).mono fun o2 ι2 st2 H2 p2 t2 z2 q2 => outK_later ag q2⟩
  | bk en1 => exact q.now z
  | ct en1 => exact q.now z
  | rt w => exact q.now z
theorem s_one {s : Stmt} {a : S} (h1 : SS Z A s a) : SB Z A [s] a := pss_one h1
theorem s_pass : SS Z A (.Pass pos) .skip := ps_imp ps_pass fun D σ H ⟨ι, en, st, r, hf⟩ => hf.now r.hr σ (Agree.refl A σ) r
theorem s_brk : SS Z A (.Break pos) .brk := ps_imp ps_break fun D σ H ⟨ι, en, st, r, hf⟩ => hf.now r.hr σ (Agree.refl A σ) r
theorem s_cnt : SS Z A (.Continue pos) .cnt := ps_imp ps_continue fun D σ H ⟨ι, en, st, r, hf⟩ => hf.now r.hr σ (Agree.refl A σ) r
theorem s_ret {e : Expr} {c : E} (h : SE Z e c) : SS Z A (.Return (some e) pos) (.ret c) := by
  refine ps_imp (ps_ret h) fun D σ H h => ?_
  refine bindS (g := fun w _ st => .ok (.rt w) st) h fun w v ι en st H1 r r1 q => ?_
  exact q.now r.hr v r1
theorem s_retN : SS Z A (.Return none pos) .retN := ps_imp ps_retN fun D σ H ⟨ι, en, st, r, hf⟩ => hf.now r.hr _ .non
theorem s_expr {e : Expr} {c : E} (h : SE Z e c) (hs : swapsWith e none pos.line Z.X.env = pure false := by rfl) : SS Z A (.Expr e pos) (.xpr c) := by
  refine ps_imp (ps_expr h hs) fun D σ H h => ?_
  refine bindS (g := fun w en st => .ok (.nx en) st) h fun w v ι en st H1 r r1 q => ?_
  exact q.now r.hr σ (Agree.refl A σ) r
theorem agree_set {i : Nat} {v : Option V} (hA : A i = true) (σ : L2.St) : Agree A σ (σ.set i v) := ⟨by simp, fun j hj => by
  have : j ≠ i := fun z => by subst z; rw [hA] at hj; cases hj
  exact List.getElem?_set_ne (Ne.symm this)⟩
theorem s_set (i : Nat) {x : Str} {e : Expr} {c : E} {p : Pos} (nd : Z.X.N.Nodup) (h : SE Z e c) (hA : A i = true := by rfl) (hi : Z.X.N[i]? = some x := by rfl) (hx : Loc Z.X.env.scope x := by first | exact Or.inl rfl | exact Or.inr rfl) (hs : swapsWith e (some (.Name x p)) pos.line Z.X.env = pure false := by rfl)
    (hf : Z.X.fn x = true ∨ Z.X.env.scope.names.lookup x = some .local := by first | exact .inl rfl | exact .inr rfl | assumption) : SS Z A (.Assign [.Name x p] e pos) (.set i c) := by
  refine ps_imp (ps_set nd hi hx h hs hf) fun D σ H h => ?_
  refine bindS (g := fun w en st => setK (.nm i) en w st) h fun w v ι en st H1 r r1 q => ?_
  unfold setK asg at q
  split at q
  · rename_i en1 e1
    split at e1
    · cases e1
      exact q.now r.hr _ (agree_set hA σ) (r.set r1)
    · cases e1
  · exact q.elim
theorem s_ite {c : Expr} {a b : List Stmt} {cc : E} {ca cb : S} (hc : ST Z c cc) (ha : SB Z A a ca) (hb : SB Z A b cb) : SS Z A (.If c a b pos) (.ite cc ca cb) := by
  refine ps_imp (ps_if hc ha hb) fun D σ H h => ?_
  obtain ⟨ι, en, st, r, hf⟩ := h
  refine ⟨ι, en, st, r, (own_wish (Fin.split hf)).mono fun k ι' st' H' p t z q => ?_⟩
  cases k with
  | true => exact ⟨ι', en, st', r.keep t p z, q⟩
  | false => exact ⟨ι', en, st', r.keep t p z, q⟩
/-! ### targets of several names -/
theorem agree_slots {t : Tg} {σ σ1 : L2.St} (hA : ∀ i ∈ t.slots, A i = true) (hl : σ1.length = σ.length) (h : ∀ i, i ∉ t.slots → σ1[i]? = σ[i]?) : Agree A σ σ1 := ⟨hl, fun i hi => h i fun z => by rw [hA i z] at hi; cases hi⟩
theorem s_unp {tg e : Expr} {t : Tg} {c : E} (h : SE Z e c) (hg : PG Z.X tg (gW Z.X.K t)) (hA : ∀ i ∈ t.slots, A i = true) (hs : swapsWithSole [tg] e pos.line Z.X.env = pure false := by rfl) (hw : swappedStores [tg] e Z.X.env = pure none := by rfl)
    (h1 : (assignEach [tg] Z.X.env).map (·.2) = [assign tg Z.X.env] := by rfl) : SS Z A (.Assign [tg] e pos) (.unp t c) := by
  refine ps_imp (ps_asg h hg hs hw h1) fun D σ H h => ?_
  refine bindS (g := fun w en st => setK t en w st) h fun w v ι en st H1 r r1 q => ?_
  unfold setK at q
  split at q
  · rename_i en1 e1
    refine ⟨ι, en, st, w, en1, r, r1, e1, fun σ1 rr fr => q.now r.hr σ1 (agree_slots hA ?_ fr) rr⟩
    rw [rr.len, r.len]
    exact asg_len e1
  · exact q.elim
theorem par_rel {K : PySem.W.Frag} {σ : L2.St} {H : Hp} {ι : List Addr} {en en1 : En} {st : Sto} {is : List Nat} : ∀ {ws : List W} {vs : List V}, Rel K σ H ι en st → RWs K H ι ws vs → asgs (tgsOf is) ws en = some en1 →
    ∃ σ1, Rel K σ1 H ι en1 st ∧ vs.length = is.length ∧ σ1 = (is.zip vs).foldl (fun τ p => τ.set p.1 (some p.2)) σ ∧ (∀ i, i ∉ is → σ1[i]? = σ[i]?) := by
  induction is generalizing σ en with
  | nil =>
    intro ws vs r rs e
    cases ws with
    | nil => cases rs; cases e; exact ⟨σ, r, rfl, rfl, fun _ _ => rfl⟩
    | cons _ _ => cases e
  | cons i is ih =>
    intro ws vs r rs e
    cases ws with
    | nil => cases e
    | cons w ws =>
      cases rs with
      | @cons _ v _ vr h t =>
        have e : (match asg (.nm i) w en with | some en1 => asgs (tgsOf is) ws en1 | none => none) = some en1 := e
        split at e
        · rename_i en2 e2
          have e2 : (if i < en.length then some (en.set i (some w)) else none) = some en2 := e2
          split at e2
          · cases e2
            obtain ⟨σ1, q1, q2, q3, q4⟩ := ih (r.set h) t e
            refine ⟨σ1, q1, congrArg (· + 1) q2, q3, fun j hj => ?_⟩
            rw [q4 j fun z => hj (List.mem_cons_of_mem _ z)]
            have : j ≠ i := fun z => hj (by subst z; exact List.mem_cons_self)
            exact List.getElem?_set_ne (Ne.symm this)
          · cases e2
        · cases e
/-- a, b = e1, e2 -/
theorem s_par2 (i j : Nat) {x y : Str} {a b : Expr} {cs : Es} {px py pt : Pos} {kt k2 pt2} (ok : Z.Ok) (ha : SA Z [a, b] cs) (hw : swappedStores [.Tuple [.Name x px, .Name y py] kt pt] (.Tuple [a, b] k2 pt2) Z.X.env = pure (some [x, y])) (hA : A i = true := by rfl) (hB : A j = true := by rfl)
    (hi : Z.X.N[i]? = some x := by rfl) (hj : Z.X.N[j]? = some y := by rfl) (hij : i ≠ j := by decide) (hx : Z.X.env.scope.names.lookup x = some .local := by rfl) (hy : Z.X.env.scope.names.lookup y = some .local := by rfl)
    (hs : swapsWithSole [.Tuple [.Name x px, .Name y py] kt pt] (.Tuple [a, b] k2 pt2) pos.line Z.X.env = pure false := by rfl) :
    SS Z A (.Assign [.Tuple [.Name x px, .Name y py] kt pt] (.Tuple [a, b] k2 pt2) pos) (.par [i, j] cs) := by
  refine ps_imp (ps_par ok.calm ok.nd hi hj hij hx hy ha hw hs) fun D σ H h => ?_
  obtain ⟨ι, en, st, r, hf⟩ := h
  refine ⟨ι, en, st, r, (own_wish (Fin.split hf)).mono fun ws ι' st' H' p t z q vs rs => ?_⟩
  unfold setsK at q
  split at q
  · rename_i en1 e1
    obtain ⟨σ1, q1, q2, q3, q4⟩ := par_rel (r.keep t p z) rs e1
    match vs, q2 with
    | [v1, v2], _ =>
      refine ⟨v1, v2, rfl, ?_⟩
      subst q3
      exact q.now z _ ⟨by simp, fun k hk => q4 k fun zk => by
        rcases List.mem_cons.mp zk with rfl | zk
        · rw [hA] at hk; cases hk
        · rcases List.mem_cons.mp zk with rfl | zk
          · rw [hB] at hk; cases hk
          · cases zk⟩ q1
  · exact q.elim
theorem s_par3 (i j l : Nat) {x y w : Str} {a b c : Expr} {cs : Es} {px py pz pt : Pos} {kt k2 pt2} (ok : Z.Ok) (ha : SA Z [a, b, c] cs) (hw : swappedStores [.Tuple [.Name x px, .Name y py, .Name w pz] kt pt] (.Tuple [a, b, c] k2 pt2) Z.X.env = pure (some [x, y, w])) (hA : A i = true := by rfl) (hB : A j = true := by rfl) (hC : A l = true := by rfl)
    (hi : Z.X.N[i]? = some x := by rfl) (hj : Z.X.N[j]? = some y := by rfl) (hl : Z.X.N[l]? = some w := by rfl) (hij : i ≠ j := by decide) (hil : i ≠ l := by decide) (hjl : j ≠ l := by decide) (hx : Z.X.env.scope.names.lookup x = some .local := by rfl) (hy : Z.X.env.scope.names.lookup y = some .local := by rfl) (hz : Z.X.env.scope.names.lookup w = some .local := by rfl)
    (hs : swapsWithSole [.Tuple [.Name x px, .Name y py, .Name w pz] kt pt] (.Tuple [a, b, c] k2 pt2) pos.line Z.X.env = pure false := by rfl) :
    SS Z A (.Assign [.Tuple [.Name x px, .Name y py, .Name w pz] kt pt] (.Tuple [a, b, c] k2 pt2) pos) (.par [i, j, l] cs) := by
  refine ps_imp (ps_par3 ok.calm ok.nd hi hj hl hij hil hjl hx hy hz ha hw hs) fun D σ H h => ?_
  obtain ⟨ι, en, st, r, hf⟩ := h
  refine ⟨ι, en, st, r, (own_wish (Fin.split hf)).mono fun ws ι' st' H' p t z q vs rs => ?_⟩
  unfold setsK at q
  split at q
  · rename_i en1 e1
    obtain ⟨σ1, q1, q2, q3, q4⟩ := par_rel (r.keep t p z) rs e1
    match vs, q2 with
    | [v1, v2, v3], _ =>
      refine ⟨v1, v2, v3, rfl, ?_⟩
      subst q3
      exact q.now z _ ⟨by simp, fun k hk => q4 k fun zk => by
        rcases List.mem_cons.mp zk with rfl | zk
        · rw [hA] at hk; cases hk
        · rcases List.mem_cons.mp zk with rfl | zk
          · rw [hB] at hk; cases hk
          · rcases List.mem_cons.mp zk with rfl | zk
            · rw [hC] at hk; cases hk
            · cases zk⟩ q1
  · exact q.elim
/-! ### loops -/
theorem s_whl {c : Expr} {body : List Stmt} {cc : E} {cb : S} (hp : PassesOwn (model Z.X.prog Z.X.w) Z.X.A Z.X.env Z.X.xe) (hc : ST Z c cc) (hb : SB Z A body cb) : SS Z A (.While c body [] pos) (.whl cc cb) := by
  refine ps_imp (ps_while hp hc hb) fun D σ H h => ?_
  obtain ⟨ι, en, st, r, hf⟩ := h
  let lp : Nat → En → Sto → Res Out := whlL (fun en st => truR (ev Z.cl cc en st)) (fun en st => ex Z.cl cb en st)
  have hf : Fin Z.X.K (fun c d H' => ∀ σ', Agree A σ σ' → Z.x c d σ' H') ι H (lp FU en st) (outK Z.X.K D A σ) := hf
  refine ⟨fun m σ' H' => ∃ ι' en' st', Agree A σ σ' ∧ Rel Z.X.K σ' H' ι' en' st' ∧ Fin Z.X.K (fun c d H' => ∀ τ, Agree A σ' τ → Z.x c d τ H') ι' H' (lp m en' st') (outK Z.X.K D A σ'), ⟨FU, ι, en, st, Agree.refl A σ, r, hf⟩, ?_⟩
  rintro m σ' H' ⟨ι', en', st', ag, r', q⟩
  cases m with
  | zero => exact q.elim
  | succ m =>
    have q : Fin Z.X.K (fun c d H' => ∀ τ, Agree A σ' τ → Z.x c d τ H') ι' H' ((truR (ev Z.cl cc en' st')).bind (iteK (fun st1 => (ex Z.cl cb en' st1).bind (loopK (lp m))) (fun st1 => .ok (.nx en') st1))) (outK Z.X.K D A σ') := q
    refine ⟨ι', en', st', r', (own_wish (Fin.split q)).mono fun b ι2 st2 H2 p2 t2 z2 q2 => ?_⟩
    cases b with
    | false => exact q2.now z2 σ' (Agree.refl A σ') (r'.keep t2 p2 z2)
    | true =>
      rw [if_pos rfl]
      refine ⟨fun τ G => ∃ ι' en' st', Agree A σ τ ∧ Rel Z.X.K τ G ι' en' st' ∧ Fin Z.X.K (fun c d H' => ∀ u, Agree A τ u → Z.x c d u H') ι' G (lp m en' st') (outK Z.X.K D A τ), fun τ G h => ⟨m, Nat.lt_succ_self m, h⟩, ?_⟩
      refine ⟨ι2, en', st2, r'.keep t2 p2 z2, (Fin.split q2).mono fun o ι3 st3 H3 p3 t3 z3 q3 => ?_⟩
      have go : ∀ en3, Fin Z.X.K (fun c d H' => ∀ τ, Agree A σ' τ → Z.x c d τ H') ι3 H3 (lp m en3 st3) (outK Z.X.K D A σ') → ∀ τ, Agree A σ' τ → Rel Z.X.K τ H3 ι3 en3 st3 →
          ∃ ι' en' st', Agree A σ τ ∧ Rel Z.X.K τ H3 ι' en' st' ∧ Fin Z.X.K (fun c d H' => ∀ u, Agree A τ u → Z.x c d u H') ι' H3 (lp m en' st') (outK Z.X.K D A τ) := fun en3 q τ a rr =>
        ⟨ι3, en3, st3, ag.trans a, rr, (later_wish a q).mono fun o2 ι4 st4 H4 p4 t4 z4 q4 => outK_later a q4⟩
      cases o with
      | nx en3 => exact fun τ a rr => go en3 q3 τ a rr
      | ct en3 => exact fun τ a rr => go en3 q3 τ a rr
      | bk en3 => exact fun τ a rr => q3.now z3 τ a rr
      | rt w => exact q3.now z3
theorem s_for {tgE iter : Expr} {body : List Stmt} {t : Tg} {ci : It} {cb : S} (ok : Z.Ok) (hp : PassesOwn (model Z.X.prog Z.X.w) Z.X.A Z.X.env Z.X.xe) (hi : SI Z tgE iter ci) (hg : PG Z.X tgE (gW Z.X.K t)) (hA : ∀ i ∈ t.slots, A i = true) (hb : SB Z A body cb)
    (hs : ∀ x, foldedSetIterable iter Z.X.env x = pure x := by intro _; rfl) : SS Z A (.For tgE iter body [] pos) (.for_ t ci cb) := by
  refine ps_imp (ps_for hp ok.calm hi hg hb hs) fun D σ H h => ?_
  obtain ⟨ι, en, st, r, hf⟩ := h
  refine ⟨ι, en, st, r, (own_wish (Fin.split hf)).mono fun src ι1 st1 H1 p1 t1 z1 q1 J hJ => ?_⟩
  let lp : Nat → Nat → En → Sto → Res Out := forL src.get (asg t) (fun en st => ex Z.cl cb en st)
  have q1 : Fin Z.X.K (fun c d H' => ∀ σ', Agree A σ σ' → Z.x c d σ' H') ι1 H1 (lp FU 0 en st1) (outK Z.X.K D A σ) := q1
  refine ⟨fun i m σ' H' => ∃ ι' en' st', Pre ι1 ι' ∧ TK H1 H' ∧ Agree A σ σ' ∧ Rel Z.X.K σ' H' ι' en' st' ∧ Fin Z.X.K (fun c d H' => ∀ τ, Agree A σ' τ → Z.x c d τ H') ι' H' (lp m i en' st') (outK Z.X.K D A σ'),
    ⟨FU, ι1, en, st1, Pre.refl _, TK.refl _, Agree.refl A σ, r.keep t1 p1 z1, q1⟩, ?_⟩
  rintro i m σ' H' ⟨ι', en', st', p, tk, ag, r', q⟩
  cases m with
  | zero => exact q.elim
  | succ m =>
    have hj := hJ ι' H' st' i p tk r'.hr
    have q : Fin Z.X.K (fun c d H' => ∀ τ, Agree A σ' τ → Z.x c d τ H') ι' H' (match src.get st' i with
      | none => .bad
      | some none => .ok (.nx en') st'
      | some (some w) => match asg t w en' with
        | none => .bad
        | some en1 => (ex Z.cl cb en1 st').bind (loopK (lp m (i + 1)))) (outK Z.X.K D A σ') := q
    cases eg : src.get st' i with
    | none => rw [eg] at q; exact q.elim
    | some o =>
      rw [eg] at q hj
      cases o with
      | none => exact .inl ⟨hj, q.now r'.hr σ' (Agree.refl A σ') r'⟩
      | some w =>
        refine .inr ⟨hj.1, fun τ G => ∃ ι' en' st', Pre ι1 ι' ∧ TK H1 G ∧ Agree A σ τ ∧ Rel Z.X.K τ G ι' en' st' ∧ Fin Z.X.K (fun c d H' => ∀ u, Agree A τ u → Z.x c d u H') ι' G (lp m (i + 1) en' st') (outK Z.X.K D A τ), fun τ G h => ⟨m, Nat.lt_succ_self m, h⟩, fun x H2 y => ?_⟩
        obtain ⟨tk2, zz2, rx⟩ := hj.2 x H2 y
        simp only at q
        cases ea : asg t w en' with
        | none => rw [ea] at q; exact q.elim
        | some en1 =>
          rw [ea] at q
          have r2 : Rel Z.X.K σ' H2 ι' en' st' := r'.keep tk2 (Pre.refl _) zz2
          refine ⟨ι', en', st', w, en1, r2, rx, ea, fun σ2 rr fr => ?_⟩
          have ag2 : Agree A σ' σ2 := agree_slots hA (by rw [rr.len, r2.len]; exact asg_len ea) fr
          refine ⟨ι', en1, st', rr, (later_wish ag2 (Fin.split (Fin.shift (Pre.refl _) tk2 q))).mono fun o ι3 st3 H3 p3 t3 z3 q3 => ?_⟩
          have go : ∀ en3, Fin Z.X.K (fun c d H' => ∀ τ, Agree A σ' τ → Z.x c d τ H') ι3 H3 (lp m (i + 1) en3 st3) (outK Z.X.K D A σ') → ∀ τ, Agree A σ2 τ → Rel Z.X.K τ H3 ι3 en3 st3 →
              ∃ ι' en' st', Pre ι1 ι' ∧ TK H1 H3 ∧ Agree A σ τ ∧ Rel Z.X.K τ H3 ι' en' st' ∧ Fin Z.X.K (fun c d H' => ∀ u, Agree A τ u → Z.x c d u H') ι' H3 (lp m (i + 1) en' st') (outK Z.X.K D A τ) := fun en3 q τ a rr =>
            ⟨ι3, en3, st3, p.trans p3, tk.trans (tk2.trans t3), ag.trans (ag2.trans a), rr, (later_wish (ag2.trans a) q).mono fun o2 ι4 st4 H4 p4 t4 z4 q4 => outK_later (ag2.trans a) q4⟩
          cases o with
          | nx en3 => exact fun τ a rr => go en3 q3 τ a rr
          | ct en3 => exact fun τ a rr => go en3 q3 τ a rr
          | bk en3 => exact fun τ a rr => q3.now z3 τ (ag2.trans a) rr
          | rt w => exact q3.now z3
end
end Ci
/-! Ci8: defs, their calls, the law's end. -/
namespace Ci
open PySem L2 PyProof.Rows

def Es.n : Es → Nat
  | .nil => 0
  | .cons _ cs => cs.n + 1
/-- a def's promise where nothing is being shown (the guards are told) -/
structure FnG (P : Program) (w : World) (K : PySem.W.Frag) (mg : Str → Option Value) (base : Heap) (k : Nat) (f : Addr) (fd : FuncData) (ps : List Str) (sp : Sp) : Prop where
  len : ∀ vs H Q E, sp vs H Q E → vs.length = ps.length
  run : ∀ (A : Around) (outer : List Env) (s : Shared) (H : Hp) (args : Args) (us : List Value) (vs : List V) (Q : VK) (E : XK), Room k A → A.guards = some [] → Env0 P w K mg base A outer s H → BindsTo s fd args (ps.zip us) → Vals vs us → sp vs H Q E →
    codeAny (model P w) A (.call (.ref f) args) (CR (L2.CX P w) outer P w H s Q E) s
/-- .. by its reckoning -/
def spR (K : PySem.W.Frag) (r : List W → Sto → Res W) (n : Nat) : Sp := fun vs H Q E => vs.length = n ∧ ∃ ι st ws, HRel K H ι st ∧ RWs K H ι ws vs ∧ Fin K E ι H (r ws st) fun w ι' _ H' => ∀ v, RW K H' ι' w v → Q v H'

section
variable {Z : Cz} {x : Str} {p pos : Pos} {e : Expr} {es : List Expr} {cs : Es}
/-- what is known of a def that is called -/
structure Callee (Z : Cz) (x : Str) (i : Nat) (ps : List Str) (a : Arguments) (b : List Stmt) (sc : Scope) : Prop where
  ex : ∃ (f : Addr) (fd : FuncData) (k : Nat), Z.X.mg x = some (.ref f) ∧ FunD Z.X.K x x a b sc [] [] f fd ∧ Room k Z.X.A ∧ FnG Z.X.prog Z.X.w Z.X.K Z.X.mg Z.X.base k f fd ps (spR Z.X.K (Z.cl i) ps.length)
theorem run_g {pins : List (Addr × Obj)} {σ : L2.St} {H : Hp} {s : Shared} {Q : VK} {args : Args} {us : List Value} {vs : List V} {k : Nat} {f : Addr} {fd : FuncData} {ps : List Str} {sp : Sp} (ok : Z.Ok) (F : FnG Z.X.prog Z.X.w Z.X.K Z.X.mg Z.X.base k f fd ps sp) (hr : Room k Z.X.A)
    (I : Inv Z.X pins σ H s) (hb : us.length = ps.length → BindsTo s fd args (ps.zip us)) (r : Vals vs us) (h : sp vs H Q fun c d H' => Z.x c d σ H') : codeAny (model Z.X.prog Z.X.w) Z.X.A (.call (.ref f) args) (fun r s' => match r with
      | .ok (.ret u) => EP Z.X pins σ Q u s'
      | .ok _ => False
      | .error e => Z.X.xe e s') s := by
  refine codeAny_mono (F.run Z.X.A Z.X.stack s H args us vs Q _ hr ok.gd I.env0 (hb (by rw [← r.length]; exact F.len _ _ _ _ h)) r h) fun res s' hq => ?_
  cases res with
  | error er => exact ok.tk _ _ (XE.of_call I (fun _ _ _ q => q) hq)
  | ok fl =>
    cases fl with
    | ret u => exact I.after hq
    | next => exact hq.elim
    | brk => exact hq.elim
    | cont => exact hq.elim
theorem call_fin {K : PySem.W.Frag} {σ : L2.St} {H : Hp} {xw : WX} {ι : List Addr} {st : Sto} {ws : List W} {vs : List V} {Q : VK} {cl : Cl} {i n : Nat} (z : HRel K H ι st) (rs : RWs K H ι ws vs) (hl : vs.length = n)
    (q : Fin K (fun c d H' => xw c d σ H') ι H (cl i ws st) fun w ι' _ H' => ∀ v, RW K H' ι' w v → Q v H') : spR K (cl i) n vs H Q fun c d H' => xw c d σ H' := ⟨hl, ι, st, ws, z, rs, q⟩
theorem evs_len {cl : Cl} : ∀ {cs : Es} {en : En} {st st' : Sto} {ws : List W}, evs cl cs en st = .ok ws st' → ws.length = cs.n
  | .nil, _, _, _, _, e => by cases e; rfl
  | .cons c cs, en, st, st', ws, e => by
    have e : ((ev cl c en st).bind fun x st1 => (evs cl cs en st1).bind fun xs st2 => .ok (x :: xs) st2) = .ok ws st' := e
    cases e1 : ev cl c en st with
    | bad => rw [e1] at e; cases e
    | exc _ _ => rw [e1] at e; cases e
    | ok x st1 =>
      rw [e1] at e
      have e : ((evs cl cs en st1).bind fun xs st2 => .ok (x :: xs) st2) = .ok ws st' := e
      cases e2 : evs cl cs en st1 with
      | bad => rw [e2] at e; cases e
      | exc _ _ => rw [e2] at e; cases e
      | ok xs st2 =>
        rw [e2] at e
        cases e
        exact congrArg (· + 1) (evs_len e2)
theorem Fin.len {cl : Cl} {K : PySem.W.Frag} {x : Value → Option Addr → Hp → Prop} {ι : List Addr} {H : Hp} {cs : Es} {en : En} {st : Sto} {k : List W → List Addr → Sto → Hp → Prop} (h : Fin K x ι H (evs cl cs en st) k) :
    Fin K x ι H (evs cl cs en st) fun ws ι' st' H' => ws.length = cs.n ∧ k ws ι' st' H' := by
  cases e : evs cl cs en st with
  | ok ws st' =>
    rw [e] at h
    exact fun ι' H' p t z => ⟨evs_len e, h ι' H' p t z⟩
  | exc y st' => rw [e] at h; exact h
  | bad => rw [e] at h; exact h
/-- f(e, ..) -/
theorem w_call (i : Nat) {ps : List Str} {a : Arguments} {b : List Stmt} {sc : Scope} (ok : Z.Ok) (c : Callee Z x i ps a b sc) (hg : Gl Z.X x) (ha : SA Z (e :: es) cs)
    (hb : ∀ (kV doc pm : Value) (an : Option Addr) (cdv ct : Value) (us : List Value), us.length = ps.length → bindArgs (PySem.W.fnOf x x a b sc .none kV doc pm an cdv ct) ⟨us, []⟩ = pure (ps.zip us)) (hn : cs.n = ps.length := by rfl)
    (hdb : (x == ("__debug__" : Str)) = false := by decide) (he : starEach (e :: es) Z.X.env = (false, eval e Z.X.env) :: starEach es Z.X.env := by rfl) (hpl : (backTo pos (starEach es Z.X.env)).any (·.1) = false := by rfl) :
    SE Z (.Call (.Name x p) (e :: es) [] pos) (.call i none cs) := by
  obtain ⟨f, fd, k, hm, F, hr, G⟩ := c.ex
  refine ⟨fun pins s σ H Q I h => ?_⟩
  obtain ⟨ι, en, st, r, hf⟩ := h
  have hf : Fin Z.X.K (fun c d H' => Z.x c d σ H') ι H ((evs Z.cl cs en st).bind (callK Z.cl i none)) (fun w ι' _ H' => ∀ v, RW Z.X.K H' ι' w v → Q v H') := hf
  have ta : tEs Z cs σ H fun vs H1 => spR Z.X.K (Z.cl i) ps.length vs H1 Q fun c d H' => Z.x c d σ H' := by
    refine ⟨ι, en, st, r, (Fin.len (Fin.split hf)).mono fun ws ι' st' H' p t z q vs rs => ?_⟩
    exact call_fin z rs (by rw [← rs.len, q.1, hn]) q.2
  refine wpAny_Call_Name_kw (ld_glob I hg hm ?_ hdb)
  refine PySem.W.callWith_K (h₀ := Z.X.base) I.ok.mod.kin F.kp (thn (ha.run pos pins s σ H _ I ta) fun us s1 ⟨vs, H1, I1, rv, q⟩ => ⟨I1.kIn, ?_⟩) he hpl
  refine wpAny_call (codeAny_mono (run_g ok G hr I1 (fun hl => F.bindsA hb s1 us hl) rv q) fun res s' hq => ?_)
  cases res with
  | error er => exact hq
  | ok fl => cases fl <;> exact hq
theorem permW_get {K : PySem.W.Frag} {H : Hp} {ι : List Addr} : ∀ {l : List Nat} {ws zs : List W} {vs : List V}, RWs K H ι ws vs → l.mapM (fun i => ws[i]?) = some zs → ∃ us, l.mapM (fun i => vs[i]?) = some us ∧ RWs K H ι zs us
  | [], ws, zs, vs, r, e => by cases e; exact ⟨[], rfl, .nil⟩
  | i :: l, ws, zs, vs, r, e => by
    rw [List.mapM_cons] at e
    obtain ⟨z, e1, e⟩ := Option.bind_eq_some_iff.mp e
    obtain ⟨zs', e2, e⟩ := Option.bind_eq_some_iff.mp e
    cases e
    obtain ⟨v, ev, rv⟩ := r.get e1
    obtain ⟨us, eu, ru⟩ := permW_get r e2
    exact ⟨v :: us, by rw [List.mapM_cons, ev, eu]; rfl, .cons rv ru⟩
theorem vals_perm : ∀ {l : List Nat} {vs zs : List V} {us : List Value}, Vals vs us → l.mapM (fun i => vs[i]?) = some zs → ∃ ws, l.mapM (fun i => us[i]?) = some ws ∧ Vals zs ws
  | [], vs, zs, us, r, e => by cases e; exact ⟨[], rfl, .nil⟩
  | i :: l, vs, zs, us, r, e => by
    rw [List.mapM_cons] at e
    obtain ⟨z, e1, e⟩ := Option.bind_eq_some_iff.mp e
    obtain ⟨zs', e2, e⟩ := Option.bind_eq_some_iff.mp e
    cases e
    obtain ⟨v, ev, rv⟩ := r.get e1
    obtain ⟨us, eu, ru⟩ := vals_perm r e2
    exact ⟨v :: us, by rw [List.mapM_cons, ev, eu]; rfl, .cons rv ru⟩
/-- the keywords' values -/
abbrev SK (Z : Cz) (kws : List Keyword) (c : Es) : Prop := PK Z.X kws (tEs Z c)
theorem pk_imp {X : Cx} {kws : List Keyword} {t t' : TA} (h : PK X kws t) (i : ∀ σ H Q, t' σ H Q → t σ H Q) : PK X kws t' := ⟨fun pos pins s σ H Q I q => h.run pos pins s σ H Q I (i _ _ _ q)⟩
theorem k_nil : SK Z [] .nil := pk_imp pk_nil fun σ H Q ⟨ι, en, st, r, hf⟩ => hf.now r.hr [] .nil
theorem k_cons {nm : Option Str} {e : Expr} {kpos : Pos} {kws : List Keyword} {c : E} {cs : Es} (ha : SE Z e c) (hr : SK Z kws cs) : SK Z (⟨nm, e, kpos⟩ :: kws) (.cons c cs) := by
  refine pk_imp (pk_cons ha hr) fun σ H Q h => ?_
  refine bindE (g := fun x en st1 => (evs Z.cl cs en st1).bind fun xs st2 => .ok (x :: xs) st2) h fun w v ι en st H1 r r1 q => ?_
  refine ⟨ι, en, st, r, (Fin.split q).mono fun ws ι' st' H' p t z q' vs rs => ?_⟩
  exact q'.now z _ (.cons (r1.keep t p) rs)
end

section
variable {P : Program} {w : World} {K : PySem.W.Frag} {mg : Str → Option Value} {base : Heap}
/-- where a def's body runs -/
abbrev bodyZ (P : Program) (w : World) (K : PySem.W.Frag) (mg : Str → Option Value) (base : Heap) (N : List Str) (qual : Str) (sc : Scope) (f : Addr) (cdv : Value) (A : Around) (outer : List Env) (s : Shared) (H : Hp) (E : XK) (cl : Cl) : Cz :=
  ⟨cxOf (L2.CX P w) P w K mg base N qual sc f cdv A outer s H E, fun c d _ H' => E c d H', cl⟩
theorem bodyZ_ok {N : List Str} {qual : Str} {sc : Scope} {f : Addr} {cdv : Value} {A : Around} {outer : List Env} {s : Shared} {H : Hp} {E : XK} {cl : Cl} {k : Nat} (nd : N.Nodup) (hr : Room k (A.deeper (envOfC qual sc s.heap.objs.size f cdv))) (hg : A.guards = some []) :
    (bodyZ P w K mg base N qual sc f cdv A outer s H E cl).Ok :=
  ⟨rfl, nd, takes_of rfl rfl rfl rfl, by have := hr.un; show (A.deeper (envOfC qual sc s.heap.objs.size f cdv)).units + 65 < cLine; omega, hg⟩
theorem bodyZ_pass {N : List Str} {qual : Str} {sc : Scope} {f : Addr} {cdv : Value} {A : Around} {outer : List Env} {s : Shared} {H : Hp} {E : XK} {cl : Cl} :
    PassesOwn (model P w) (bodyZ P w K mg base N qual sc f cdv A outer s H E cl).X.A (bodyZ P w K mg base N qual sc f cdv A outer s H E cl).X.env (bodyZ P w K mg base N qual sc f cdv A outer s H E cl).X.xe := passes_of rfl
theorem start_rel {N : List Str} {H : Hp} {ι : List Addr} {st : Sto} {ws : List W} {vs : List V} (z : HRel K H ι st) (rs : RWs K H ι ws vs) : Rel K (L2.start N vs) H ι (startE N.length ws) st := by
  have hl := rs.len
  refine ⟨z, by unfold L2.start startE; simp [hl], fun i u e => ?_⟩
  unfold startE at e
  unfold L2.start
  rcases Nat.lt_or_ge i ws.length with h | h
  · rw [List.getElem?_append_left (by simpa using h), List.getElem?_map] at e
    rw [List.getElem?_append_left (by simpa [← hl] using h), List.getElem?_map]
    cases e1 : ws[i]? with
    | none => rw [e1] at e; cases e
    | some w =>
      rw [e1] at e
      cases e
      obtain ⟨v, ev, rv⟩ := rs.get e1
      rw [ev]
      exact ⟨v, rfl, rv⟩
  · rw [List.getElem?_append_right (by simpa using h)] at e
    have := List.mem_of_getElem? e
    have := List.eq_of_mem_replicate this
    cases this
/-- a def keeps what its reckoning tells -/
theorem fn_run {tab : List Fd} {n i : Nat} {d : Fd} {x : Str} {a : Arguments} {b : List Stmt} {sc : Scope} {f : Addr} {fd : FuncData} {N ps : List Str} (F : FunD K x x a b sc [] [] f fd) (hd : tab[i]? = some d) (S : FnScope N ps sc) (hN : N.length = d.nl) (hp : ps.length = d.np)
    (body : ∀ (cdv : Value) (A : Around) (outer : List Env) (s : Shared) (H : Hp) (E : XK), Room n (A.deeper (envOfC x sc s.heap.objs.size f cdv)) → A.guards = some [] → SB (bodyZ P w K mg base N x sc f cdv A outer s H E (run tab n)) (fun _ => true) b d.body) :
    FnG P w K mg base (n + 1) f fd ps (spR K (run tab (n + 1) i) ps.length) := by
  obtain ⟨oc, od, dV, kV, doc, pm, an, cdv, ct, osl, rfl, lk, hcd, _, _⟩ := F.ex
  have len : ∀ vs H Q E, spR K (run tab (n + 1) i) ps.length vs H Q E → vs.length = ps.length := fun vs H Q E h => h.1
  refine ⟨len, fun A outer s H args us vs Q E hr hg e0 hb r hsp => ?_⟩
  have hl := len _ _ _ _ hsp
  have KX : K.In s.heap := e0.mod.kin.keeps fun b o e => (e0.bs b o e).1
  have lim : s.heap.NoLimit := e0.mod.nolimit.keeps fun b o e => (e0.bs b o e).1
  have hkind : ∀ y ∈ ps.zip us, sc.names.lookup y.1 = some .local ∨ (sc.names.lookup y.1 = some .cell ∧ ((cellsFrom (s.heap.objs.size + 1) sc.names []).lookup y.1).isSome = true) := fun ⟨m, v⟩ hy => by
    rcases S.par m (List.of_mem_zip hy).1 with q | q
    · exact .inl q
    · exact .inr ⟨q, PySem.W.cellsFrom_some _ _ _ (.inl q)⟩
  refine codeAny_call_function hr.depth (KX _ _ lk) rfl S.co S.gen rfl (PySem.W.codeRec_of KX hcd) (hb _ _ _ _ ?_)
  refine wpAny_newFunctionEnv_cells S.kind hkind fun env he s1 x1 => ?_
  subst he
  refine ⟨lim.keeps x1.toInCall.keep, codeAny_func ?_⟩
  have I := inv_start (CX := L2.CX P w) (P := P) (w := w) (K := K) (mg := mg) (base := base) (cd := cdv) (f := f) (qual := x) (E := E) (vs := vs) S hr.hd e0 hl r x1
  obtain ⟨_, ι, st, ws, z, rs, hf⟩ := hsp
  have hf : Fin K E ι H (match tab[i]? with
    | none => .bad
    | some d => if ws.length = d.np then (ex (run tab n) d.body (startE d.nl ws) st).bind retK else .bad) (fun w ι' _ H' => ∀ v, RW K H' ι' w v → Q v H') := hf
  rw [hd] at hf
  have hl2 : ws.length = d.np := by rw [rs.len, hl, hp]
  have hf : Fin K E ι H (if ws.length = d.np then (ex (run tab n) d.body (startE d.nl ws) st).bind retK else .bad) (fun w ι' _ H' => ∀ v, RW K H' ι' w v → Q v H') := hf
  rw [if_pos hl2, ← hN] at hf
  have q : tWS K (fun c d _ H' => E c d H') (fun _ => true) (fun en st => ex (run tab n) d.body en st) { nx := fun _ H' => Q .non H', rt := Q } (L2.start N vs) H := by
    refine ⟨ι, startE N.length ws, st, start_rel z rs, ?_⟩
    have h2 : Fin K (fun c d H' => ∀ σ', Agree (fun _ => true) (L2.start N vs) σ' → E c d H') ι H (ex (run tab n) d.body (startE N.length ws) st) (fun o ι' st' H' => Fin K E ι' H' (retK o st') (fun w ι' _ H' => ∀ v, RW K H' ι' w v → Q v H')) := by
      have h3 := Fin.split hf
      cases e : ex (run tab n) d.body (startE N.length ws) st with
      | ok o st1 => rw [e] at h3; exact h3
      | exc y st1 => rw [e] at h3; exact fun ι' H' c d p t z r _ _ => h3 ι' H' c d p t z r
      | bad => rw [e] at h3; exact h3
    refine h2.mono fun o ι' st' H' p t zz q => ?_
    cases o with
    | nx en1 => exact fun σ' _ _ => q.now zz _ .non
    | rt u => exact fun v rv => q.now zz v rv
    | bk en1 => exact q.elim
    | ct en1 => exact q.elim
  refine wpAny_mono ((body cdv A outer s H E (hr.deeper _) hg).run [] s1 (L2.start N vs) H _ I q) (fun fl s' hs => ?_) fun e s' hs => hs
  have fin : ∀ {σ' : L2.St} {H' : Hp} {v : V} {u : Value}, Inv (cxOf (L2.CX P w) P w K mg base N x sc f cdv A outer s H E) [] σ' H' s' → RelV v u → Q v H' → CE outer P w H s Q u s' :=
    fun {σ' H' v u} J rv q => ⟨v, H', J.os, J.bare, J.base, J.hok, rv, q⟩
  cases fl with
  | ret u =>
    obtain ⟨v, σ', H', J, rv, q⟩ := hs
    exact fin J rv q
  | next =>
    obtain ⟨σ', H', J, q⟩ := hs
    exact fin (v := V.non) (u := Value.none) J rfl q
  | brk =>
    obtain ⟨_, _, _, q⟩ := hs
    exact q.elim
  | cont =>
    obtain ⟨_, _, _, q⟩ := hs
    exact q.elim
/-- level 0: nothing is reckoned -/
theorem fn_zero {tab : List Fd} {i : Nat} {f : Addr} {fd : FuncData} {ps : List Str} : FnG P w K mg base 0 f fd ps (spR K (run tab 0 i) ps.length) :=
  ⟨fun vs H Q E h => h.1, fun A outer s H args us vs Q E hr hg e0 hb r ⟨_, ι, st, ws, z, rs, hf⟩ => hf.elim⟩
end
end Ci
/-! Ci9: the module's constants; the law's end. -/
namespace Ci
open PySem L2 PyProof.Rows

/-! ### constants of the module -/
mutual
def relW (K : PySem.W.Frag) : W → Value → Bool
  | .non, u => match u with | .none => true | _ => false
  | .bl b, u => match u with | .bool c => b == c | _ => false
  | .int i, u => match u with | .int j _ => decide (i = j) | _ => false
  | .str s, u => match u with | .str t _ => decide (s = t) | _ => false
  | .tup ws, u => match u with
    | .ref a => match K.lookup a with
      | some ⟨.type c, _, .seq its _, _⟩ => decide (c = "tuple") && (decide (its.size ≤ sizeLine) && relWs K ws its.toList)
      | _ => false
    | _ => false
  | _, _ => false
def relWs (K : PySem.W.Frag) : List W → List Value → Bool
  | [], us => us.isEmpty
  | w :: ws, us => match us with
    | [] => false
    | u :: us => relW K w u && relWs K ws us
end
mutual
theorem relW_ok {K : PySem.W.Frag} : ∀ {w : W} {u : Value}, relW K w u = true → ∃ v, RelV v u ∧ ∀ H ι, RW K H ι w v
  | .non, u, h => by
    unfold relW at h
    split at h
    · exact ⟨.non, rfl, fun _ _ => .non⟩
    · cases h
  | .bl b, u, h => by
    unfold relW at h
    split at h
    · obtain rfl := beq_iff_eq.mp h
      exact ⟨.bl b, rfl, fun _ _ => .bl b⟩
    · cases h
  | .int i, u, h => by
    unfold relW at h
    split at h
    · rename_i j t
      obtain rfl := of_decide_eq_true h
      exact ⟨.int i, ⟨t, rfl⟩, fun _ _ => .int i⟩
    · cases h
  | .str i, u, h => by
    unfold relW at h
    split at h
    · rename_i j t
      obtain rfl := of_decide_eq_true h
      exact ⟨.str i, ⟨t, rfl⟩, fun _ _ => .str i⟩
    · cases h
  | .tup ws, u, h => by
    unfold relW at h
    split at h
    · rename_i a
      split at h
      · rename_i c d its n sl e
        simp only [Bool.and_eq_true, decide_eq_true_eq] at h
        obtain ⟨h1, h2, h3⟩ := h
        obtain ⟨vs, rv, rs⟩ := relWs_ok h3
        refine ⟨.ref a, rfl, fun H ι => .tup (vs := vs) (.inr (.inr ⟨_, its, n, e, congrArg Value.type h1, rfl, h2, rv⟩)) (rs H ι)⟩
      · cases h
    · cases h
  | .frl ws, u, h => by unfold relW at h; cases h
  | .ref n, u, h => by unfold relW at h; cases h
theorem relWs_ok {K : PySem.W.Frag} : ∀ {ws : List W} {us : List Value}, relWs K ws us = true → ∃ vs, Vals vs us ∧ ∀ H ι, RWs K H ι ws vs
  | [], us, h => by
    unfold relWs at h
    cases us with
    | nil => exact ⟨[], .nil, fun _ _ => .nil⟩
    | cons _ _ => cases h
  | w :: ws, us, h => by
    unfold relWs at h
    split at h
    · cases h
    · rename_i u us
      rw [Bool.and_eq_true] at h
      obtain ⟨v, r1, r2⟩ := relW_ok h.1
      obtain ⟨vs, q1, q2⟩ := relWs_ok h.2
      exact ⟨v :: vs, .cons r1 q1, fun H ι => .cons (r2 H ι) (q2 H ι)⟩
end
def conB (K : PySem.W.Frag) (c : Str × W) : Bool := match PySem.W.nsIn K mainGlobals c.1 with
  | some (some u) => relW K c.2 u
  | _ => false
/-- what is said of a program behind its top -/
abbrev AlC : Type := He.AlD × Bool
def obsC (n : Nat) (fa : List He.Fa) (fn : List He.DefD) (cs : List (Str × W)) (g : Addr → Option Obj) : AlC := (He.obsDG n fa fn g, cs.all fun c => conB (He.frG g (He.asD g n)) c)
def SaysC (fa : List He.Fa) (fn : List He.DefD) (cs : List (Str × W)) (K : PySem.W.Frag) : Prop := He.SaysD fa fn K ∧ (cs.all fun c => conB K c) = true
def hookC (n : Nat) (fa : List He.Fa) (fn : List He.DefD) (cs : List (Str × W)) : PySem.W.Hook where
  α := AlC
  obs := fun s => obsC n fa fn cs s.heap.get?
  val := fun _ => (He.valD fn, true)
  says := fun _ h => ∃ K : PySem.W.Frag, K.In h ∧ SaysC fa fn cs K
  of := fun _ s e => ⟨_, He.frG_in, congrArg (fun z : AlC => z.1) e, congrArg (fun z : AlC => z.2) e⟩
  keeps := fun _ _ _ ⟨K, hK, c⟩ k => ⟨K, PySem.W.Frag.In.keeps hK k, c⟩
theorem obsC_eq {n : Nat} {fa : List He.Fa} {fn : List He.DefD} {cs : List (Str × W)} {g : Addr → Option Obj} {s : Shared} (h : ∀ a, g a = s.heap.get? a) : obsC n fa fn cs g = (hookC n fa fn cs).obs s := by
  have e : g = s.heap.get? := funext h
  rw [e]
  rfl
/-- a constant's place in the module -/
theorem con_ok {fa : List He.Fa} {fn : List He.DefD} {cs : List (Str × W)} {K : PySem.W.Frag} {h : Heap} {mg : Str → Option Value} (c : SaysC fa fn cs K) (X : K.In h) (G : h.Ns mainGlobals mg) (i : Nat) {p : Str × W} (hi : cs[i]? = some p := by rfl) :
    ∃ v u, mg p.1 = some u ∧ RelV v u ∧ ∀ H ι, RW K H ι p.2 v := by
  have b := List.all_eq_true.mp c.2 p (List.mem_of_getElem? hi)
  unfold conB at b
  split at b
  · rename_i u e
    obtain ⟨v, r1, r2⟩ := relW_ok b
    exact ⟨v, u, PySem.W.mg_of X G e, r1, r2⟩
  · cases b

/-! ### the law's end -/
theorem lawG {P : Program} {w : World} {K : PySem.W.Frag} {mg mb : Str → Option Value} {k : Nat} {fa a : Addr} {fd : FuncData} {x : Str} {r : List W → Sto → Res W} {s₁ : Shared} {vs : List Value} {ns : List Int}
    (KX : K.In s₁.heap) (hns : s₁.heap.Ns mainGlobals mg) (hb : s₁.heap.Ns builtinsNs mb) (hbb : ∀ x : Str, x ≠ "__name__" → mb x = bootBuiltins x) (hlim : s₁.heap.NoLimit) (hg : s₁.gens = #[])
    (ha : s₁.heap.get? a = some { cls := .type "list", data := .seq vs.toArray }) (hi : IntsAre vs ns) (hl : ns.length ≤ sizeLine) (hr : Room k callerA)
    (F : ∀ base : Heap, K.In base → base.Ns mainGlobals mg → FnG P w K mg base k fa fd [x] (spR K r 1)) (hbind : ∀ (s : Shared) (u : Value), BindsTo s fd ⟨[u], []⟩ [(x, u)])
    (hlaw : ∃ st, r [.frl (ns.map .int)] [] = .ok (.bl true) st) :
    codeAny (model P w) callerA (.call (.ref fa) ⟨[.ref a], []⟩) (fun r s' => r = .ok (.ret (.bool true)) ∧ OldK s₁.heap s'.heap ∧ s'.os = s₁.os ∧ AllBare s'.gens) s₁ := by
  have rv := L2.vals_ints hi
  have lenV := hi.length
  obtain ⟨stE, eE⟩ := hlaw
  have core : ∀ H : Hp, Only H → SLst K H a (ns.map V.int) → HOk P w H s₁.heap → (∀ b, H b ≠ none → b = a) → (H a ≠ none → K.lookup a = none) →
      codeAny (model P w) callerA (.call (.ref fa) ⟨[.ref a], []⟩) (fun r s' => r = .ok (.ret (.bool true)) ∧ OldK s₁.heap s'.heap ∧ s'.os = s₁.os ∧ AllBare s'.gens) s₁ := by
    intro H hO hS hok hA hK
    have noA : ∀ {b : Addr} {o : Obj} {es : Array DictEntry} {ep : Nat}, s₁.heap.get? b = some o → o.data = .dict es ep → H b = none := fun {b o es ep} e d => by
      cases q : H b with
      | none => rfl
      | some u =>
        have e' : b = a := hA b (by rw [q]; simp)
        subst e'
        rw [ha] at e; cases e
        cases (show Data.seq vs.toArray _ = Data.dict es ep from d)
    have nsK : ∀ {b : Addr} {m : Str → Option Value}, s₁.heap.Ns b m → (hidT s₁.heap H).Ns b m := fun {b m} ⟨o, es, ep, e, d, r⟩ => ⟨o, es, ep, hidT_get e (noA e d), d, r⟩
    have hKb : K.In (hidT s₁.heap H) := fun b o e => hidT_get (KX b o e) (by
      cases q : H b with
      | none => rfl
      | some u =>
        have e' : b = a := hA b (by rw [q]; simp)
        subst e'
        rw [hK (by rw [q]; simp)] at e; cases e)
    have hM : Mod K mg (hidT s₁.heap H) := ⟨hKb, nsK hns, ⟨mb, nsK hb, hbb⟩, let ⟨mc, h1, h2⟩ := hlim; ⟨mc, nsK h1, h2⟩⟩
    have e0 : Env0 P w K mg (hidT s₁.heap H) callerA [] s₁ H := ⟨rfl, hM, fun b o e => of_hidT e, Nat.le_of_eq (hidT_size _ _), trivial, fun b hb => absurd (show b ∈ ([] : List Addr) from hb) (by simp), hok, .of_eq hg⟩
    have hsp : spR K r 1 [.ref a] H (fun v _ => v = .bl true) fun _ _ _ => False := by
      refine ⟨rfl, [], [], [.frl (ns.map .int)], ⟨rfl, fun m n b e => by simp at e, fun n b o e => by simp at e⟩, .cons (.frl hS (RWs.of_ints ns)) .nil, ?_⟩
      rw [eE]
      intro ι' H' _ _ _ v rvv
      cases rvv
      rfl
    refine codeAny_mono ((F _ hKb (nsK hns)).run callerA [] s₁ H ⟨[.ref a], []⟩ [.ref a] [.ref a] _ _ hr rfl e0 (hbind s₁ (.ref a)) (.cons rfl .nil) hsp) fun res s' h => ?_
    cases res with
    | error e => obtain ⟨_, _, _, _, _, _, _, _, _, _, _, _, z⟩ := h; exact z.elim
    | ok fl =>
      cases fl with
      | next => exact h.elim
      | brk => exact h.elim
      | cont => exact h.elim
      | ret u =>
        obtain ⟨v, H', os, bare, un, hok', r', q⟩ := h
        have q' : v = .bl true := q
        subst q'
        obtain rfl : u = Value.bool true := r'
        refine ⟨rfl, OldK.of_keep fun b o e => ?_, os, bare⟩
        cases q : H b with
        | none => exact un.keep b o e q (by intro z; exact absurd (show b ∈ ([] : List Addr) from z) (by simp)) (by simp)
        | some u =>
          rcases hO b with z | ⟨ob, xs, z⟩
          · rw [q] at z; cases z
          · obtain ⟨e1, _⟩ := hok b _ z
            obtain ⟨e2, _⟩ := hok' b _ (un.frzs b ob _ z)
            rw [e] at e1; cases e1
            exact e2
  cases hk : K.lookup a with
  | some o =>
    have e := KX a o hk
    rw [ha] at e
    cases e
    exact core (fun _ => none) (fun _ => .inl rfl) (.inr (.inr ⟨_, vs.toArray, _, hk, rfl, rfl, rfl, by rw [List.size_toArray, lenV]; exact hl, by simpa using rv⟩)) (fun b u z => by cases (show (none : Option HO) = some u from z)) (fun b z => absurd rfl z) fun z => absurd rfl z
  | none =>
    refine core (fun b => if b = a then some (.frz { cls := .type "list", data := .seq vs.toArray } (.lst (ns.map V.int))) else none) (fun b => ?_) (.inl ⟨{ cls := .type "list", data := .seq vs.toArray }, if_pos rfl⟩) (fun b u z => ?_) (fun b z => ?_) fun _ => hk
    · by_cases hb : b = a
      · exact .inr ⟨_, _, if_pos hb⟩
      · exact .inl (if_neg hb)
    · by_cases hb : b = a
      · have z' := (if_pos hb).symm.trans z
        cases z'
        subst hb
        exact ⟨ha, by rw [List.length_map]; exact hl, vs, _, rv, ha⟩
      · have z' := (if_neg hb).symm.trans z
        cases z'
    · by_cases hb : b = a
      · exact hb
      · exact absurd (if_neg hb) z
theorem walkG {l : PySem.W.OpenLaw} {n k : Nat} {q : Program} {loose : List Str} {XP : (Str → Option Value) → Heap → Prop} {YP : World → Heap → Prop} {d : DefRec} {x : Str} {r : List W → Sto → Res W}
    (hn : l.most = some n) (hn2 : n ≤ sizeLine) (hdf : d.params.defaults = []) (hr : Room k callerA)
    (F : ∀ (w : World) (mg : Str → Option Value) (fa : Addr) (h : Heap), YP w h → h.Ns mainGlobals mg → mg d.name = some (.ref fa) →
      ∃ (K : PySem.W.Frag) (fd : FuncData), K.In h ∧ (∀ (s : Shared) (u : Value), BindsTo s fd ⟨[u], []⟩ [(x, u)]) ∧
        ∀ base : Heap, K.In base → base.Ns mainGlobals mg → FnG l.prog w K mg base k fa fd [x] (spR K r 1))
    (hlaw : ∀ ns : List Int, ns.length ≤ n → ∃ st, r [.frl (ns.map .int)] [] = .ok (.bl true) st) :
    PySem.W.WalkO q loose XP YP l.row.toRowW d [] (fun f vs => PySem.call f vs) := by
  refine Att.attach_call hn hdf fun w s₀ s₁ mg mb fa o pm cd doc a vs ns G Y ho hd hcd hmg hobj hints hlen hg => ?_
  obtain ⟨K, fd, KX, hb, hF⟩ := F w mg fa _ Y G.T.g hmg
  exact lawG KX G.T.g G.T.b G.T.builtins G.T.nolimit hg hobj hints (Nat.le_trans hlen hn2) hr hF hb (hlaw ns hlen)
end Ci
/-! Ci10: further rules: stores, keywords, isinstance, displays, enumerate, zip. -/
namespace Ci
open PySem L2 PyProof.Rows

def Es.app : Es → Es → Es
  | .nil, b => b
  | .cons c cs, b => .cons c (cs.app b)
theorem evs_app {cl : Cl} {en : En} {b : Es} : ∀ {a : Es} {st : Sto}, evs cl (a.app b) en st = (evs cl a en st).bind fun xs st1 => (evs cl b en st1).bind fun ys st2 => .ok (xs ++ ys) st2
  | .nil, st => by
    show evs cl b en st = (evs cl b en st).bind fun ys st2 => .ok ([] ++ ys) st2
    cases evs cl b en st <;> rfl
  | .cons c cs, st => by
    show ((ev cl c en st).bind fun x st1 => (evs cl (cs.app b) en st1).bind fun xs st2 => .ok (x :: xs) st2) = (((ev cl c en st).bind fun x st1 => (evs cl cs en st1).bind fun xs st2 => .ok (x :: xs) st2)).bind fun xs st1 => (evs cl b en st1).bind fun ys st2 => .ok (xs ++ ys) st2
    rw [Res.assoc]
    congr 1
    funext x st1
    rw [evs_app, Res.assoc, Res.assoc]
    congr 1
    funext xs st2
    show (((evs cl b en st2).bind fun ys st2 => .ok (xs ++ ys) st2)).bind (fun xs st2 => .ok (x :: xs) st2) = (evs cl b en st2).bind fun ys st2 => .ok (x :: xs ++ ys) st2
    rw [Res.assoc]
    rfl
section
variable {Z : Cz} {x : Str} {p pos : Pos} {e : Expr} {es : List Expr} {cs ck : Es} {kws : List Keyword}
/-- what a call with keywords binds -/
def KwOk (x : Str) (ps ks : List Str) (pm : List Nat) (n m : Nat) (a : Arguments) (b : List Stmt) (sc : Scope) : Prop :=
  ∀ (kV doc pm' : Value) (an : Option Addr) (cdv ct : Value) (us ws : List Value), us.length = n → ws.length = m → ∃ zs, pm.mapM (fun i => (us ++ ws)[i]?) = some zs ∧ zs.length = ps.length ∧ bindArgs (PySem.W.fnOf x x a b sc .none kV doc pm' an cdv ct) ⟨us, ks.zip ws⟩ = pure (ps.zip zs)
theorem kw_fin {σ : L2.St} {H : Hp} {ι : List Addr} {st : Sto} {ws zs : List W} {vs us : List V} {Q : VK} {i : Nat} {ps : List Str} {pm : List Nat} (z : HRel Z.X.K H ι st) (r1 : RWs Z.X.K H ι ws vs) (r2 : RWs Z.X.K H ι zs us)
    (q : Fin Z.X.K (fun c d H' => Z.x c d σ H') ι H (callK Z.cl i (some pm) (ws ++ zs) st) fun w ι' _ H' => ∀ v, RW Z.X.K H' ι' w v → Q v H') (hp : pm.length = ps.length) :
    ∃ tv, pm.mapM (fun i => (vs ++ us)[i]?) = some tv ∧ spR Z.X.K (Z.cl i) ps.length tv H Q fun c d H' => Z.x c d σ H' := by
  unfold callK permW at q
  simp only at q
  split at q
  · rename_i ts e
    obtain ⟨tv, e1, r3⟩ := permW_get (r1.app r2) e
    have len : ∀ {α : Type} {f : Nat → Option α} {l : List Nat} {r : List α}, l.mapM f = some r → r.length = l.length := by
      intro α f l
      induction l with
      | nil => intro r h; cases h; rfl
      | cons a l ih =>
        intro r h
        rw [List.mapM_cons] at h
        obtain ⟨z, _, h⟩ := Option.bind_eq_some_iff.mp h
        obtain ⟨zs, h2, h⟩ := Option.bind_eq_some_iff.mp h
        cases h
        exact congrArg (· + 1) (ih h2)
    exact ⟨tv, e1, call_fin z r3 (by rw [len e1, hp]) q⟩
  · exact q.elim
theorem w_callK (i : Nat) {ps ks : List Str} {pm : List Nat} {a : Arguments} {b : List Stmt} {sc : Scope} (ok : Z.Ok) (c : Callee Z x i ps a b sc) (hg : Gl Z.X x) (ha : SA Z (e :: es) cs) (hk : SK Z kws ck) (hb : KwOk x ps ks pm cs.n ck.n a b sc) (hp : pm.length = ps.length := by rfl)
    (hall : (backToKw pos (keywordEach kws Z.X.env)).all (·.1.isSome) = true := by rfl) (hks : (backToKw pos (keywordEach kws Z.X.env)).filterMap (·.1) = ks := by rfl)
    (hdb : (x == ("__debug__" : Str)) = false := by decide) (he : starEach (e :: es) Z.X.env = (false, eval e Z.X.env) :: starEach es Z.X.env := by rfl)
    (hpl : ((backTo pos (starEach (e :: es) Z.X.env)).any (·.1) || (backToKw pos (keywordEach kws Z.X.env)).any (·.1.isNone)) = false := by rfl) :
    SE Z (.Call (.Name x p) (e :: es) kws pos) (.call i (some pm) (cs.app ck)) := by
  obtain ⟨f, fd, k, hm, F, hr, G⟩ := c.ex
  refine ⟨fun pins s σ H Q I h => ?_⟩
  obtain ⟨ι, en, st, r, hf⟩ := h
  have hf : Fin Z.X.K (fun c d H' => Z.x c d σ H') ι H ((evs Z.cl (cs.app ck) en st).bind (callK Z.cl i (some pm))) (fun w ι' _ H' => ∀ v, RW Z.X.K H' ι' w v → Q v H') := hf
  rw [evs_app, Res.assoc] at hf
  have ta : tEs Z cs σ H fun vs H1 => vs.length = cs.n ∧ tEs Z ck σ H1 fun us H2 => us.length = ck.n ∧ ∃ tv, pm.mapM (fun i => (vs ++ us)[i]?) = some tv ∧ spR Z.X.K (Z.cl i) ps.length tv H2 Q fun c d H' => Z.x c d σ H' := by
    refine ⟨ι, en, st, r, (Fin.len (Fin.split hf)).mono fun ws ι' st' H' p t z q vs rs => ⟨by rw [← rs.len, q.1], ?_⟩⟩
    have q2 := q.2
    rw [Res.assoc] at q2
    refine ⟨ι', en, st', r.keep t p z, (Fin.len (Fin.split q2)).mono fun zs ι2 st2 H2 p2 t2 z2 q3 us rs2 => ⟨by rw [← rs2.len, q3.1], ?_⟩⟩
    exact kw_fin z2 (rs.keep t2 p2) rs2 q3.2 hp
  refine wpAny_Call_Name_kw (ld_glob I hg hm ?_ hdb)
  refine PySem.W.callWith_KW (h₀ := Z.X.base) I.ok.mod.kin F.kp hall (thn (ha.run pos pins s σ H _ I ta) fun us s1 ⟨vs, H1, I1, rv, l1, q⟩ => ?_) hpl he
  refine thn (hk.run pos pins s1 σ H1 _ I1 q) fun ws s2 ⟨zv, H2, I2, rz, l2, tv, e2, q2⟩ => ⟨I2.kIn, ?_⟩
  rw [hks]
  obtain ⟨ts, e3, rt⟩ := vals_perm (rv.append rz) e2
  refine wpAny_call (codeAny_mono (run_g (args := ⟨us, ks.zip ws⟩) ok G hr I2 (fun hl => ?_) rt q2) fun res s' hq => ?_)
  · obtain ⟨oc, od, dV, kV, doc, pm', an, cdv, ct, osl, rfl, lk, hcd, hD, hK⟩ := F.ex
    rcases hD with ⟨_, rfl⟩ | ⟨ne, _⟩
    · obtain ⟨zs, h1, h2, h3⟩ := hb kV doc pm' an cdv ct us ws (by rw [← rv.length, l1]) (by rw [← rz.length, l2])
      rw [h1] at e3
      cases e3
      exact .of_eq h3
    · exact absurd rfl ne
  · cases res with
    | error er => exact hq
    | ok fl => cases fl <;> exact hq
theorem w_callK0 (i : Nat) {ps ks : List Str} {pm : List Nat} {a : Arguments} {b : List Stmt} {sc : Scope} (ok : Z.Ok) (c : Callee Z x i ps a b sc) (hg : Gl Z.X x) (hk : SK Z kws ck) (hb : KwOk x ps ks pm 0 ck.n a b sc) (hp : pm.length = ps.length := by rfl)
    (hall : (backToKw pos (keywordEach kws Z.X.env)).all (·.1.isSome) = true := by rfl) (hks : (backToKw pos (keywordEach kws Z.X.env)).filterMap (·.1) = ks := by rfl)
    (hdb : (x == ("__debug__" : Str)) = false := by decide)
    (hpl : ((backTo pos (starEach [] Z.X.env)).any (·.1) || (backToKw pos (keywordEach kws Z.X.env)).any (·.1.isNone)) = false := by rfl) :
    SE Z (.Call (.Name x p) [] kws pos) (.call i (some pm) ck) := by
  obtain ⟨f, fd, k, hm, F, hr, G⟩ := c.ex
  refine ⟨fun pins s σ H Q I h => ?_⟩
  obtain ⟨ι, en, st, r, hf⟩ := h
  have hf : Fin Z.X.K (fun c d H' => Z.x c d σ H') ι H ((evs Z.cl ck en st).bind (callK Z.cl i (some pm))) (fun w ι' _ H' => ∀ v, RW Z.X.K H' ι' w v → Q v H') := hf
  have ta : tEs Z ck σ H fun us H2 => us.length = ck.n ∧ ∃ tv, pm.mapM (fun i => ([] ++ us)[i]?) = some tv ∧ spR Z.X.K (Z.cl i) ps.length tv H2 Q fun c d H' => Z.x c d σ H' := by
    refine ⟨ι, en, st, r, (Fin.len (Fin.split hf)).mono fun zs ι2 st2 H2 p2 t2 z2 q3 us rs2 => ⟨by rw [← rs2.len, q3.1], ?_⟩⟩
    exact kw_fin (ws := []) z2 .nil rs2 q3.2 hp
  refine wpAny_Call_Name_kw (ld_glob I hg hm ?_ hdb)
  refine PySem.W.callWith_KW0 (h₀ := Z.X.base) I.ok.mod.kin F.kp hall (thn (hk.run pos pins s σ H _ I ta) fun ws s2 ⟨zv, H2, I2, rz, l2, tv, e2, q2⟩ => ⟨I2.kIn, ?_⟩) hpl
  rw [hks]
  obtain ⟨ts, e3, rt⟩ := vals_perm (us := [] ++ ws) rz e2
  refine wpAny_call (codeAny_mono (run_g (args := ⟨[], ks.zip ws⟩) ok G hr I2 (fun hl => ?_) rt q2) fun res s' hq => ?_)
  · obtain ⟨oc, od, dV, kV, doc, pm', an, cdv, ct, osl, rfl, lk, hcd, hD, hK⟩ := F.ex
    rcases hD with ⟨_, rfl⟩ | ⟨ne, _⟩
    · obtain ⟨zs, h1, h2, h3⟩ := hb kV doc pm' an cdv ct [] ws rfl (by rw [← rz.length, l2])
      rw [h1] at e3
      cases e3
      exact .of_eq h3
    · exact absurd rfl ne
  · cases res with
    | error er => exact hq
    | ok fl => cases fl <;> exact hq

/-! ### o[i] = e -/
theorem putL_rel {K : PySem.W.Frag} {H : Hp} {ι : List Addr} {k : Key} {w : W} {v : V} (h : RW K H ι w v) {ws : List (Key × W)} {vs : List (Key × V)} (r : RKv K H ι ws vs) : RKv K H ι (dputL k w ws) (putK vs k v) := by
  have any : (ws.any fun q => decide (q.1 = k)) = vs.any fun q => decide (q.1 = k) := by
    induction r with
    | nil => rfl
    | cons _ _ ih => rw [List.any_cons, List.any_cons, ih]
  have m : ∀ {ws : List (Key × W)} {vs : List (Key × V)}, RKv K H ι ws vs → RKv K H ι (ws.map fun q => if q.1 = k then (q.1, w) else q) (vs.map fun kv => if kv.1 = k then (kv.1, v) else kv) := by
    intro ws vs r
    induction r with
    | nil => exact .nil
    | @cons j z u ws vs a t ih =>
      rw [List.map_cons, List.map_cons]
      by_cases e : j = k
      · simp only [e, if_true]
        exact .cons h ih
      · simp only [e, if_false]
        exact .cons a ih
  have ap : ∀ {ws : List (Key × W)} {vs : List (Key × V)}, RKv K H ι ws vs → RKv K H ι (ws ++ [(k, w)]) (vs ++ [(k, v)]) := by
    intro ws vs r
    induction r with
    | nil => exact .cons h .nil
    | cons a t ih => exact .cons a ih
  unfold dputL putK
  rw [any]
  split
  · exact m r
  · exact ap r
def rSetW (K : PySem.W.Frag) : V → V → V → Hp → (Hp → Prop) → Prop := fun o i v H Q => ∃ ι st x y w st', HRel K H ι st ∧ RW K H ι x o ∧ RW K H ι y i ∧ RW K H ι w v ∧ setI x y w st = some st' ∧ ∀ H', TK H H' → HRel K H' ι st' → Q H'
theorem pset_w (hu : Z.X.A.units + 65 < cLine) : PSet Z.X (rSetW Z.X.K) := by
  intro pins s σ H o i v ov iv u Q I ro ri rv h
  obtain ⟨ι, st, x, y, w, st', z, rx, ry, rw', e, k⟩ := h
  cases x with
  | ref n =>
    unfold setI at e
    simp only at e
    split at e
    · rename_i ws e1
      obtain ⟨pa, rfl, hp, vs, h1, r1⟩ := rx.own z e1
      cases y with
      | int j =>
        cases ry
        simp only at e
        obtain ⟨m, e2, rfl⟩ := Option.map_eq_some_iff.mp e
        have mu : Mut (H pa) := by rw [h1]; exact True.intro
        exact set_list pins s σ H _ _ v ov iv u Q I ro ri rv ⟨pa, vs, j, m, rfl, rfl, h1, by rw [← r1.len]; exact e2, k _ (TK.mut mu) (z.set hp ⟨_, upd_same, (r1.set rw' m).keep (TK.mut mu) (Pre.refl _)⟩)⟩
      | _ => cases e
    · rename_i kvs e1
      obtain ⟨pa, rfl, hp, vs, h1, r1⟩ := rx.own z e1
      obtain ⟨ky, ek, e⟩ := Option.bind_eq_some_iff.mp e
      split at e
      · rename_i hl
        cases e
        have ei := keyOf_rel ry ek
        subst ei
        cases ro
        have mu : Mut (H pa) := by rw [h1]; exact True.intro
        refine d_setItem (H' := upd H pa (.dK (putK vs ky v))) (by omega) I (DPut.k h1 (by rw [← r1.len]; exact hl)) ri rv fun s' I' => ⟨_, I', ?_⟩
        exact k _ (TK.mut mu) (z.set hp ⟨_, upd_same, (putL_rel rw' r1).keep (TK.mut mu) (Pre.refl _)⟩)
      · cases e
    · cases e
  | _ => cases e
theorem s_sto {A : Nat → Bool} {o i e : Expr} {co ci ce : E} {tpos : Pos} (ok : Z.Ok) (ho : SE Z o co) (hi : SE Z i ci) (he : SE Z e ce)
    (ha : ∀ v, assign (.Subscript o i tpos) Z.X.env v = (do
      let ov ← holding [v] (eval o Z.X.env)
      let iv ← holding [v, ov] (eval i Z.X.env)
      standAt tpos
      holding [v, ov, iv] (setItem ov iv v)
      release [v, ov, iv] []) := by intro _; rfl)
    (hs : swapsWithSole [.Subscript o i tpos] e pos.line Z.X.env = pure false := by rfl) (hw : swappedStores [.Subscript o i tpos] e Z.X.env = pure none := by rfl)
    (h1 : (assignEach [.Subscript o i tpos] Z.X.env).map (·.2) = [assign (.Subscript o i tpos) Z.X.env] := by rfl) : SS Z A (.Assign [.Subscript o i tpos] e pos) (.sto co ci ce) := by
  refine ps_imp (ps_asg he (pg_sub ho hi (pset_w ok.hu) ha) hs hw h1) fun D σ H h => ?_
  refine bindS (g := fun v en st1 => (ev Z.cl co en st1).bind fun x st2 => (ev Z.cl ci en st2).bind fun y st3 => stoK en v x y st3) h fun w v ι en st H1 r r1 q => ?_
  refine ⟨ι, en, st, r, (own_wish (Fin.split q)).mono fun x ι2 st2 H2 p2 t2 z2 q2 xv rx => ?_⟩
  refine ⟨ι2, en, st2, r.keep t2 p2 z2, (own_wish (Fin.split q2)).mono fun y ι3 st3 H3 p3 t3 z3 q3 yv ry => ?_⟩
  unfold stoK at q3
  split at q3
  · rename_i st4 e4
    exact ⟨ι3, st3, x, y, w, st4, z3, rx.keep t3 p3, ry, (r1.keep t2 p2).keep t3 p3, e4, fun H' tk z' => q3 ι3 H' (Pre.refl _) tk z' σ (Agree.refl A σ) (((r.keep t2 p2 z2).keep t3 p3 z3).keep tk (Pre.refl _) z')⟩
  · exact q3.elim
/-! ### x += e -/
theorem s_aug {A : Nat → Bool} (i : Nat) {y : Str} {e : Expr} {c : E} {p' : Pos} (nd : Z.X.N.Nodup) (h : SE Z e c) (hA : A i = true := by rfl) (hi : Z.X.N[i]? = some y := by rfl) (hx : Loc Z.X.env.scope y := by first | exact Or.inl rfl | exact Or.inr rfl)
    (hf : Z.X.fn y = true ∨ Z.X.env.scope.names.lookup y = some .local := by first | exact .inl rfl | exact .inr rfl | assumption) : SS Z A (.AugAssign (.Name y p') .Add e pos) (.aug i .add c) := by
  refine ps_imp (ps_aug nd hi hx h (op := .Add) (ti := rI0 fun i j => .int (i + j)) (fun pins s σ H x y v u Q I r1 r2 q => iop_add pins s σ H x y v u Q I r1 r2 q) hf) fun D σ H h => ?_
  obtain ⟨ι, en, st, r, hf⟩ := h
  have hf : Fin Z.X.K (fun c d H' => ∀ σ', Agree A σ σ' → Z.x c d σ' H') ι H (varK en[i]? fun x => (ev Z.cl c en st).bind (augK i .add en x)) (outK Z.X.K D A σ) := hf
  unfold varK at hf
  split at hf
  · rename_i w e1
    obtain ⟨v, ev1, rv⟩ := r.en i w e1
    refine ⟨v, ev1, ?_⟩
    refine bindS (g := fun b en st => augK i .add en w b st) ⟨ι, en, st, r, hf⟩ fun wb vb ι2 en2 st2 H2 r2 rb q => ?_
    unfold augK at q
    cases w with
    | int a =>
      cases wb with
      | int b =>
        cases rv
        cases rb
        exact ⟨a, b, rfl, rfl, q.now r2.hr _ (agree_set hA σ) (r2.set (.int _))⟩
      | _ => exact q.elim
    | _ => cases wb <;> exact q.elim
  · exact hf.elim

/-! ### isinstance(x, T) -/
def rIsi (K : PySem.W.Frag) (ts : List String) : List V → Hp → VK → Prop := fun xs H Q => ∃ ι st w v T, xs = [v, .ty T] ∧ ts = [T] ∧ HRel K H ι st ∧ RW K H ι w v ∧ ∃ t, tyOf st w = some t ∧ Q (.bl (isTy t T)) H
theorem cr_isi {T : String} (hk : ∀ t ∈ ["NoneType", "bool", "int", "str", "tuple", "list", "dict"], PySem.W.kitOne Z.X.K (.type t) (.type T) = some (isTy t T)) : CallR Z.X (.builtin "isinstance") (rIsi Z.X.K [T]) := by
  intro pins s σ H xs us Q I r h
  obtain ⟨ι, st, w, v, T', rfl, e, z, rw', t, et, q⟩ := h
  cases e
  cases r with
  | cons r1 r2 =>
    cases r2 with
    | cons r3 r4 =>
      cases r4
      cases r3
      have mem : t ∈ ["NoneType", "bool", "int", "str", "tuple", "list", "dict"] := by
        cases w <;> first | (cases et; decide) | (unfold tyOf at et; simp only at et; split at et <;> first | (cases et; decide) | cases et)
      exact isi_ok (K := Z.X.K) I z rw' et r1 (hk t mem) fun tk => ⟨.bl _, H, I.tok _, rfl, q⟩
theorem w_isi {T : String} {a : Expr} {ca : E} {p p2 : Pos} {y : Str} (h : SE Z a ca) (hg : Gl Z.X "isinstance") (hm : Z.X.mg "isinstance" = none) (hg2 : Gl Z.X y) (hm2 : Z.X.mg y = none) (hv2 : bootBuiltins y = some (.type T))
    (hk : ∀ t ∈ ["NoneType", "bool", "int", "str", "tuple", "list", "dict"], PySem.W.kitOne Z.X.K (.type t) (.type T) = some (isTy t T)) (hn : y ≠ "__name__" := by decide) (hd : (y == ("__debug__" : Str)) = false := by decide)
    (he : starEach [a, .Name y p2] Z.X.env = (false, eval a Z.X.env) :: starEach [.Name y p2] Z.X.env := by rfl) (he2 : starEach [.Name y p2] Z.X.env = (false, eval (.Name y p2) Z.X.env) :: starEach [] Z.X.env := by rfl) (hpl : (backTo pos (starEach [.Name y p2] Z.X.env)).any (·.1) = false := by rfl) :
    SE Z (.Call (.Name "isinstance" p) [a, .Name y p2] [] pos) (.isi [T] ca) := by
  refine pe_imp (pe_callB (cr_isi hk) hg hm (by decide +kernel) (pa_cons h (pa_cons (pe_bltn (v := .ty T) hg2 hm2 hv2 rfl hn hd) pa_nil he2) he) (by decide) (by decide) he hpl) fun σ H Q h => ?_
  refine bindE (g := fun x _ st => isiK [T] x st) h fun w v ι en st H1 r r1 q => ?_
  unfold isiK at q
  split at q
  · rename_i t e
    refine ⟨ι, st, w, v, T, rfl, rfl, r.hr, r1, t, e, ?_⟩
    have := q.now r.hr _ (.bl _)
    simpa using this
  · exact q.elim
/-! ### list(range(..)) -/
theorem w_lrg1 {a : Expr} {ca : E} {p p2 lp : Pos} (ok : Z.Ok) (h : SE Z a ca) (hg : Gl Z.X "list") (hm : Z.X.mg "list" = none) (hg2 : Gl Z.X "range") (hm2 : Z.X.mg "range" = none) (na : starEach [a] Z.X.env = (false, eval a Z.X.env) :: starEach [] Z.X.env := by rfl)
    (nb : starEach [.Call (.Name "range" p2) [a] [] lp] Z.X.env = (false, eval (.Call (.Name "range" p2) [a] [] lp) Z.X.env) :: starEach [] Z.X.env := by rfl) : SE Z (.Call (.Name "list" p) [.Call (.Name "range" p2) [a] [] lp] [] pos) (.lrg (.cons ca .nil)) := by
  refine pe_imp (pe_listRg ok.calm hg hm (prg_1 hg2 hm2 h na) nb) fun σ H Q h => ?_
  obtain ⟨ι, en, st, r, hf⟩ := h
  have hf : Fin Z.X.K (fun c d H' => Z.x c d σ H') ι H (((ev Z.cl ca en st).bind fun x st1 => (Res.ok [x] st1)).bind lrgK) _ := hf
  rw [Res.assoc] at hf
  refine bindE (g := fun x _ st => lrgK [x] st) ⟨ι, en, st, r, hf⟩ fun w v ι en st H1 r r1 q => ?_
  unfold lrgK at q
  cases w with
  | int b =>
    cases r1
    unfold rngOf at q
    simp only at q
    split at q
    · rename_i a' b' e
      split at e
      · rename_i hb
        cases e
        have hb := of_decide_eq_true hb
        split at q
        · rename_i hl
          refine ⟨b, rfl, ⟨hb.1, hb.2.1, hb.2.2.1, hb.2.2.2, hl⟩, ?_⟩
          have rs : RWs Z.X.K H1 ι (rngW 0 b) (rgV 0 b) := by
            unfold rngW rgV
            generalize List.range (b - 0).toNat = l
            induction l with
            | nil => exact .nil
            | cons i l ih => exact .cons (.int _) ih
          exact FinO.new (ws := rngW 0 b) (fun ι' H' v a b c d => q ι' H' a b c v d) r.hr rs
        · exact q.elim
      · cases e
    · exact q.elim
  | _ => exact q.elim
theorem rg_rel {K : PySem.W.Frag} {H : Hp} {ι : List Addr} (a b : Int) : RWs K H ι (rngW a b) (rgV a b) := by
  unfold rngW rgV
  generalize List.range (b - a).toNat = l
  induction l with
  | nil => exact .nil
  | cons i l ih => exact .cons (.int _) ih
theorem w_lrg2 {a b : Expr} {ca cb : E} {p p2 lp : Pos} (ok : Z.Ok) (h : SE Z a ca) (h' : SE Z b cb) (hg : Gl Z.X "list") (hm : Z.X.mg "list" = none) (hg2 : Gl Z.X "range") (hm2 : Z.X.mg "range" = none) (na : starEach [a, b] Z.X.env = (false, eval a Z.X.env) :: starEach [b] Z.X.env := by rfl) (na2 : starEach [b] Z.X.env = (false, eval b Z.X.env) :: starEach [] Z.X.env := by rfl)
    (nb : starEach [.Call (.Name "range" p2) [a, b] [] lp] Z.X.env = (false, eval (.Call (.Name "range" p2) [a, b] [] lp) Z.X.env) :: starEach [] Z.X.env := by rfl) (hp : ((backTo lp (starEach [b] Z.X.env)).any fun x => x.1) = false := by rfl) : SE Z (.Call (.Name "list" p) [.Call (.Name "range" p2) [a, b] [] lp] [] pos) (.lrg (.cons ca (.cons cb .nil))) := by
  refine pe_imp (pe_listRg ok.calm hg hm (prg_2 hg2 hm2 h h' na na2 hp) nb) fun σ H Q h => ?_
  obtain ⟨ι, en, st, r, hf⟩ := h
  have hf : Fin Z.X.K (fun c d H' => Z.x c d σ H') ι H (((ev Z.cl ca en st).bind fun x st1 => ((ev Z.cl cb en st1).bind fun y st2 => Res.ok [y] st2).bind fun xs st2 => Res.ok (x :: xs) st2).bind lrgK) _ := hf
  rw [Res.assoc] at hf
  refine bindE (g := fun x en st1 => (((ev Z.cl cb en st1).bind fun y st2 => Res.ok [y] st2).bind fun xs st2 => Res.ok (x :: xs) st2).bind lrgK) ⟨ι, en, st, r, hf⟩ fun w v ι en st H1 r r1 q => ?_
  rw [Res.assoc, Res.assoc] at q
  refine ⟨ι, en, st, r, (Fin.split q).mono fun w2 ι2 st2 H2 p2 t2 z2 q v2 r2 => ?_⟩
  have q : Fin Z.X.K (fun c d H' => Z.x c d σ H') ι2 H2 (lrgK [w, w2] st2) _ := q
  unfold lrgK at q
  cases w with
  | int i =>
    cases w2 with
    | int j =>
      cases r1
      cases r2
      unfold rngOf at q
      simp only at q
      split at q
      · rename_i a' b' e
        split at e
        · rename_i hb
          cases e
          have hb := of_decide_eq_true hb
          split at q
          · rename_i hl
            exact ⟨_, _, rfl, rfl, ⟨hb.1, hb.2.1, hb.2.2.1, hb.2.2.2, hl⟩, FinO.new (ws := rngW i j) (fun ι' H' v a b c d => q ι' H' a b c v d) z2 (rg_rel _ _)⟩
          · exact q.elim
        · cases e
      · exact q.elim
    | _ => exact q.elim
  | _ => cases w2 <;> exact q.elim

/-! ### enumerate, zip -/
/-- a list that is walked, alone -/
theorem get_lst {K : PySem.W.Frag} {H : Hp} {ι : List Addr} {st : Sto} {w : W} {v : V} {s : Src} (z : HRel K H ι st) (r : RW K H ι w v) (e : srcOf st w = some s) (el : (lstOf st w).isSome = true) :
    ∃ a vs, v = .ref a ∧ SqL K H a vs ∧ ∀ (ι' : List Addr) (H' : Hp) (st' : Sto) (i : Nat), Pre ι ι' → TK H H' → HRel K H' ι' st' → match s.get st' i with
      | none => True
      | some none => ∃ xs, SqL K H' a xs ∧ xs.length ≤ i
      | some (some w) => ∃ xs x, SqL K H' a xs ∧ xs[i]? = some x ∧ RW K H' ι' w x := by
  have core : ∀ {a : Addr} {s : Src}, SrcOk K H ι s (Itl K a) → ∀ (ι' : List Addr) (H' : Hp) (st' : Sto) (i : Nat), Pre ι ι' → TK H H' → HRel K H' ι' st' → match s.get st' i with
      | none => True
      | some none => ∃ xs, SqL K H' a xs ∧ xs.length ≤ i
      | some (some w) => ∃ xs x, SqL K H' a xs ∧ xs[i]? = some x ∧ True := by
    intro a s h ι' H' st' i p t z'
    have q := h ι' H' st' i p t z'
    cases eg : s.get st' i with
    | none => exact True.intro
    | some o =>
      rw [eg] at q
      cases o with
      | none => exact q
      | some w => obtain ⟨⟨xs, x, h1, h2⟩, _⟩ := q; exact ⟨xs, x, h1, h2, True.intro⟩
  cases r with
  | frl h r =>
    cases e
    refine ⟨_, _, rfl, h.sq, fun ι' H' st' i p t z' => ?_⟩
    rename_i ws vs a
    show (match some ws[i]? with | none => True | some none => _ | some (some w) => _)
    cases eg : ws[i]? with
    | none => exact ⟨vs, (h.keep t).sq, by rw [← r.len]; exact List.getElem?_eq_none_iff.mp eg⟩
    | some w =>
      obtain ⟨v, ev, rv⟩ := r.get eg
      exact ⟨vs, v, (h.keep t).sq, ev, rv.keep t p⟩
  | @ref n a h =>
    obtain ⟨o, eo, ro⟩ := z.at h
    unfold srcOf at e
    simp only [eo] at e
    cases o with
    | dct _ => cases e
    | lst us =>
      cases e
      obtain ⟨vs, q1, q2⟩ := ro
      refine ⟨a, vs, rfl, SqL.of q1, fun ι' H' st' i p t z' => ?_⟩
      obtain ⟨o', eo', ro'⟩ := z'.at (p n a h)
      show (match (match st'[n]? with | some (.lst ws) => some ws[i]? | _ => none) with | none => True | some none => _ | some (some w) => _)
      rw [eo']
      cases o' with
      | dct _ => exact True.intro
      | lst ws =>
        obtain ⟨vs', h1, h2⟩ := ro'
        show (match some ws[i]? with | none => True | some none => _ | some (some w) => _)
        cases eg : ws[i]? with
        | none => exact ⟨vs', SqL.of h1, by rw [← h2.len]; exact List.getElem?_eq_none_iff.mp eg⟩
        | some w =>
          obtain ⟨v, ev, rv⟩ := h2.get eg
          exact ⟨vs', v, SqL.of h1, ev, rv⟩
  | _ => cases el
theorem pair_new {K : PySem.W.Frag} {H : Hp} {ι : List Addr} {st : Sto} {T : Addr} {x y : V} {w u : W} (z : HRel K H ι st) (hT : H T = none) (rx : RW K H ι w x) (ry : RW K H ι u y) :
    TK H (upd H T (.tup [x, y])) ∧ HRel K (upd H T (.tup [x, y])) ι st ∧ RW K (upd H T (.tup [x, y])) ι (.tup [w, u]) (.ref T) := by
  have tk : TK H (upd H T (.tup [x, y])) := TK.new hT
  refine ⟨tk, ⟨z.len, z.inj, fun n a o e1 e2 => (z.ob n a o e1 e2).keep tk (Pre.refl ι) (upd_ne fun q => z.fresh hT n (by rw [e1, q]))⟩, .tup (.inl upd_same) (.cons (rx.keep tk (Pre.refl ι)) (.cons (ry.keep tk (Pre.refl ι)) .nil))⟩
theorem i_enum {tgs : List Expr} {kk : Nat} {tpos : Pos} {c : E} (h : SE Z e c) (hg : Gl Z.X "enumerate") (hm : Z.X.mg "enumerate" = none) (hs : starEach [e] Z.X.env = [(false, eval e Z.X.env)] := by rfl) :
    SI Z (.Tuple tgs kk tpos) (.Call (.Name "enumerate" p) [e] [] pos) (.enum c) := by
  refine pi_imp (pi_enum hg hm (pa_cons h pa_nil (by rw [hs]; rfl)) hs) fun σ H R hi => ?_
  obtain ⟨ι, en, st, r, hf⟩ := hi
  refine bindE (g := fun x _ st => srcEK x st) ⟨ι, en, st, r, hf⟩ fun w v ι en st H1 r r1 q => ?_
  unfold srcEK at q
  split at q
  · rename_i s e1
    split at q
    · rename_i el
      obtain ⟨a, vs, rfl, h1, k⟩ := get_lst r.hr r1 e1 el
      refine ⟨a, vs, rfl, h1, q.now r.hr _ fun ι' H' st' i p t z' => ?_⟩
      have kk := k ι' H' st' i p t z'
      show (match (match s.get st' i with
        | some (some w) => some (some (W.tup [.int (i : Nat), w]))
        | some none => some none
        | none => none) with | none => True | some none => _ | some (some w) => _)
      cases eg : s.get st' i with
      | none => exact True.intro
      | some o =>
        rw [eg] at kk
        cases o with
        | none => exact kk
        | some w' =>
          obtain ⟨xs, x, k1, k2, k3⟩ := kk
          refine ⟨⟨xs, x, k1, k2⟩, fun v' H'' y => ?_⟩
          obtain ⟨T, x', rfl, hT, rfl, y4⟩ := y
          have := y4 xs k1
          rw [k2] at this
          cases this
          exact pair_new z' hT (.int _) k3
    · exact q.elim
  · exact q.elim
theorem i_zip {e2 : Expr} {tgs : List Expr} {kk : Nat} {tpos : Pos} {c c2 : E} (h : SE Z e c) (h2 : SE Z e2 c2) (hg : Gl Z.X "zip") (hm : Z.X.mg "zip" = none)
    (hs : starEach [e, e2] Z.X.env = (false, eval e Z.X.env) :: starEach [e2] Z.X.env := by rfl) (hs2 : starEach [e2] Z.X.env = (false, eval e2 Z.X.env) :: starEach [] Z.X.env := by rfl) (hpl : (backTo pos (starEach [e2] Z.X.env)).any (·.1) = false := by rfl) :
    SI Z (.Tuple tgs kk tpos) (.Call (.Name "zip" p) [e, e2] [] pos) (.zip c c2) := by
  refine pi_imp (pi_zip hg hm (pa_cons h (pa_cons h2 pa_nil hs2) hs) hs hpl) fun σ H R hi => ?_
  obtain ⟨ι, en, st, r, hf⟩ := hi
  refine bindE (g := fun x en st1 => (ev Z.cl c2 en st1).bind fun y st2 => src2K x y st2) ⟨ι, en, st, r, hf⟩ fun w v ι en st H1 r r1 q => ?_
  refine ⟨ι, en, st, r, (Fin.split q).mono fun w2 ι2 st2 H2 p2 t2 z2 q v2 r2 => ?_⟩
  have r1 := r1.keep t2 p2
  unfold src2K at q
  split at q
  · rename_i s t e1 e2
    split at q
    · rename_i el
      rw [Bool.and_eq_true] at el
      obtain ⟨a, vs, rfl, h1, k⟩ := get_lst z2 r1 e1 el.1
      obtain ⟨b, us, rfl, h3, k'⟩ := get_lst z2 r2 e2 el.2
      refine ⟨a, b, vs, us, rfl, h1, h3, q.now z2 _ fun ι' H' st' i p tt z' => ?_⟩
      have kk := k ι' H' st' i p tt z'
      have kk' := k' ι' H' st' i p tt z'
      show (match (match s.get st' i, t.get st' i with
        | some (some x), some (some y) => some (some (W.tup [x, y]))
        | some _, some _ => some none
        | _, _ => none) with | none => True | some none => _ | some (some w) => _)
      cases eg : s.get st' i with
      | none => exact True.intro
      | some o =>
        rw [eg] at kk
        cases eg2 : t.get st' i with
        | none => cases o <;> exact True.intro
        | some o2 =>
          rw [eg2] at kk'
          cases o with
          | none =>
            obtain ⟨xs, k1, k2⟩ := kk
            cases o2 with
            | none => obtain ⟨ys, q1, _⟩ := kk'; exact ⟨xs, ys, k1, q1, .inl k2⟩
            | some _ => obtain ⟨ys, _, q1, _⟩ := kk'; exact ⟨xs, ys, k1, q1, .inl k2⟩
          | some w' =>
            obtain ⟨xs, x, k1, k2, k3⟩ := kk
            cases o2 with
            | none =>
              obtain ⟨ys, q1, q2⟩ := kk'
              exact ⟨xs, ys, k1, q1, .inr q2⟩
            | some u' =>
              obtain ⟨ys, y, q1, q2, q3⟩ := kk'
              refine ⟨⟨xs, ys, x, y, k1, q1, k2, q2⟩, fun v' H'' yy => ?_⟩
              obtain ⟨T, x', y', rfl, hT, rfl, y4, y5⟩ := yy
              have e4 := y4 xs k1
              rw [k2] at e4
              cases e4
              have e5 := y5 ys q1
              rw [q2] at e5
              cases e5
              exact pair_new z' hT k3 q3
    · exact q.elim
  · exact q.elim
end
end Ci
/-! Ci11: dict displays, x = [..] on one line. -/
namespace Ci
open PySem L2 PyProof.Rows

section
variable {Z : Cz} {A : Nat → Bool} {pos : Pos}
/-- x = [.. for ..], all on one line -/
theorem s_setLc (i : Nat) {y : Str} {py : Pos} {elt tgE iter : Expr} {ifs : List Expr} {scope : Scope} {own : List (Str × Nat)} {lpos spos : Pos} {t : Tg} {ci : It} {cs : Es} {ce : E} (ok : Z.Ok)
    (hi : SI Z tgE iter ci) (bk : BlkOk Z.X.N Z.X.env.scope scope own)
    (hg : ∀ (s : Shared) (H : Hp) (C : Addr) (cl : List (Str × Addr)) (fp : List Addr), PG (Z.blk s H scope C cl fp).X tgE (gW Z.X.K t)) (ht : ∀ (s : Shared) (H : Hp) (C : Addr) (cl : List (Str × Addr)) (fp : List Addr), SCs (Z.blk s H scope C cl fp) ifs cs)
    (he : ∀ (s : Shared) (H : Hp) (C : Addr) (cl : List (Str × Addr)) (fp : List Addr), SE (Z.blk s H scope C cl fp) elt ce) (hsl : ∀ i ∈ t.slots, i ∈ own.map (·.2))
    (hsw : swapsWith (.ListComp elt [⟨tgE, iter, ifs, 0⟩] scope lpos) (some (.Name y py)) spos.line Z.X.env = pure true)
    (hyl : Z.X.env.scope.names.lookup y = some .local := by rfl) (hA : A i = true := by rfl) (hN : Z.X.N[i]? = some y := by rfl)
    (hs : ∀ x, foldedSetIterable iter Z.X.env x = pure x := by intro _; rfl) : SS Z A (.Assign [.Name y py] (.ListComp elt [⟨tgE, iter, ifs, 0⟩] scope lpos) spos) (.set i (.lc (own.map (·.2)) t ci cs ce)) := by
  refine ps_imp (ps_setLc (wi := iW Z.X.K Z.x fun en st => evi Z.cl ci en st) (g := gW Z.X.K t) (tt := tWb Z.X.K (fun _ _ _ _ => False) fun en st => evc Z.cl cs en st) (te := tW Z.X.K (fun _ _ _ _ => False) fun en st => ev Z.cl ce en st) ok.calm ok.nd hN hyl hsw hi bk hg ht he hs) fun D σ H h => ?_
  have q : tE Z (.lc (own.map (·.2)) t ci cs ce) σ H (fun v H1 => gName i v σ H1 D.nx) := by
    refine bindS (A := A) (g := fun w en st => setK (.nm i) en w st) h fun w v ι en st H1 r r1 q => ?_
    unfold setK asg at q
    split at q
    · rename_i en1 e1
      split at e1
      · cases e1
        exact q.now r.hr _ (agree_set hA σ) (r.set r1)
      · cases e1
    · exact q.elim
  exact lc_tr hsl σ H _ q

/-! ### {a: b, ..} -/
def trsOf (Z : Cz) : Es → List (TE × TE)
  | .cons a (.cons b r) => (tE Z a, tE Z b) :: trsOf Z r
  | _ => []
def Even2 : Es → Prop
  | .nil => True
  | .cons _ (.cons _ r) => Even2 r
  | .cons _ .nil => False
structure SD (Z : Cz) (pos : Pos) (ks : List (Option Expr)) (vs : List Expr) (es : Es) : Prop where
  ps : PPs Z.X pos ks vs (trsOf Z es)
  ev : Even2 es
theorem d_nil : SD Z pos [] [] .nil := ⟨pps_nil, True.intro⟩
theorem d_cons {k v : Expr} {ks : List (Option Expr)} {vs : List Expr} {a b : E} {r : Es} (ha : SE Z k a) (hb : SE Z v b) (h : SD Z pos ks vs r) : SD Z pos (some k :: ks) (v :: vs) (.cons a (.cons b r)) :=
  ⟨pps_cons ha hb h.ps, h.ev⟩
theorem tPairs_mono {σ : L2.St} : ∀ {trs : List (TE × TE)} {H : Hp} {Q R : List (V × V) → Hp → Prop}, tPairs trs σ H Q → (∀ ps H2, Q ps H2 → R ps H2) → (∀ t ∈ trs, (∀ H Q R, t.1 σ H Q → (∀ v G, Q v G → R v G) → t.1 σ H R) ∧ (∀ H Q R, t.2 σ H Q → (∀ v G, Q v G → R v G) → t.2 σ H R)) → tPairs trs σ H R
  | [], _, _, _, h, i, _ => i _ _ h
  | (tk, tv) :: r, H, Q, R, h, i, m => (m _ List.mem_cons_self).1 H _ _ h fun x H1 q1 => (m _ List.mem_cons_self).2 H1 _ _ q1 fun y H2 q2 =>
      tPairs_mono (trs := r) q2 (fun ps H3 q => i _ _ q) fun t ht => m t (List.mem_cons_of_mem _ ht)
theorem trs_mono {σ : L2.St} : ∀ {es : Es}, ∀ t ∈ trsOf Z es, (∀ H Q R, t.1 σ H Q → (∀ v G, Q v G → R v G) → t.1 σ H R) ∧ (∀ H Q R, t.2 σ H Q → (∀ v G, Q v G → R v G) → t.2 σ H R)
  | .nil, t, h => by cases h
  | .cons _ .nil, t, h => by cases h
  | .cons a (.cons b r), t, h => by
    rcases List.mem_cons.mp h with rfl | h
    · exact ⟨fun H Q R ⟨ι, en, st, r, hf⟩ i => ⟨ι, en, st, r, hf.mono fun w ι' st' H' _ _ _ q v rv => i v H' (q v rv)⟩, fun H Q R ⟨ι, en, st, r, hf⟩ i => ⟨ι, en, st, r, hf.mono fun w ι' st' H' _ _ _ q v rv => i v H' (q v rv)⟩⟩
    · exact trs_mono (es := r) t h
theorem pairs_fin {σ : L2.St} {en : En} : ∀ {es : Es} {H : Hp} {ι : List Addr} {st : Sto} {k : List (Key × W) → List Addr → Sto → Hp → Prop}, Even2 es → Rel Z.X.K σ H ι en st →
    Fin Z.X.K (fun c d H' => Z.x c d σ H') ι H (evd Z.cl es en st) k →
    tPairs (trsOf Z es) σ H fun ps H2 => ∃ ι2 st2 ws vs, Pre ι ι2 ∧ TK H H2 ∧ HRel Z.X.K H2 ι2 st2 ∧ RKv Z.X.K H2 ι2 ws vs ∧ ps = vs.map (fun kv => (kV kv.1, kv.2)) ∧ k ws ι2 st2 H2
  | .nil, H, ι, st, k, _, r, h => ⟨ι, st, [], [], Pre.refl _, TK.refl _, r.hr, .nil, rfl, h.now r.hr⟩
  | .cons _ .nil, _, _, _, _, e, _, _ => e.elim
  | .cons a (.cons b r), H, ι, st, k, e, rr, h => by
    have h : Fin Z.X.K (fun c d H' => Z.x c d σ H') ι H ((ev Z.cl a en st).bind fun x st1 => (ev Z.cl b en st1).bind fun y st2 => keyK y (fun st2 => evd Z.cl r en st2) x st2) k := h
    refine ⟨ι, en, st, rr, (Fin.split h).mono fun x ι1 st1 H1 p1 t1 z1 q1 xv rx => ?_⟩
    refine ⟨ι1, en, st1, rr.keep t1 p1 z1, (Fin.split q1).mono fun y ι2 st2 H2 p2 t2 z2 q2 yv ry => ?_⟩
    unfold keyK at q2
    split at q2
    · rename_i j ej
      have r2 : Rel Z.X.K σ H2 ι2 en st2 := (rr.keep t1 p1 z1).keep t2 p2 z2
      have q3 := pairs_fin (es := r) e r2 (Fin.split q2)
      refine tPairs_mono q3 ?_ trs_mono
      rintro ps H3 ⟨ι3, st3, ws, vs, p3, t3, z3, rk, rfl, q⟩
      have ex : xv = kV j := keyOf_rel (rx.keep t2 p2) ej
      subst ex
      exact ⟨ι3, st3, (j, y) :: ws, (j, yv) :: vs, (p1.trans p2).trans p3, (t1.trans t2).trans t3, z3, .cons (ry.keep t3 p3) rk, rfl, q.now z3⟩
    · exact q2.elim
theorem merge_rel {K : PySem.W.Frag} {H : Hp} {ι : List Addr} : ∀ (ws : List (Key × W)) (vs : List (Key × V)) (as : List (Key × W)) (bs : List (Key × V)), RKv K H ι ws vs → RKv K H ι as bs → RKv K H ι (ws.foldl (fun acc p => dputL p.1 p.2 acc) as) (mergeK bs vs)
  | [], _, _, _, r, h => by cases r; exact h
  | (k, w) :: ws, _, as, bs, r, h => by
    cases r with
    | cons r t =>
      have q := merge_rel ws _ _ _ t (putL_rel (k := k) r h)
      exact q
/-- a dict display of at most fifteen pairs -/
theorem w_dsp {ks : List (Option Expr)} {vs : List Expr} {es : Es} (h : SD Z pos ks vs es) (hall : ks.all (·.isSome) = true := by rfl) (hl : ks.length = vs.length := by rfl) (h0 : ks ≠ [] := by intro h; cases h)
    (h15 : ks.length ≤ 15 := by decide) : SE Z (.Dict ks vs pos) (.dsp es) := by
  refine pe_imp (pe_disp h.ps hall hl h0 h15) fun σ H Q h' => ?_
  obtain ⟨ι, en, st, r, hf⟩ := h'
  intro p hp
  have hf : Fin Z.X.K (fun c d H' => Z.x c d σ H') ι H ((evd Z.cl es en (st ++ [.dct []])).bind (dspK st.length)) _ := hf
  have z0 : HRel Z.X.K (upd H p (.dK [])) (ι ++ [p]) (st ++ [.dct []]) := r.hr.push hp ⟨[], upd_same, .nil⟩
  have q := pairs_fin h.ev (r.keep (TK.new hp) (Pre.snoc ι p) z0) (Fin.split (Fin.shift (Pre.snoc ι p) (TK.new hp) hf))
  refine tPairs_mono q ?_ trs_mono
  rintro ps H2 ⟨ι2, st2, ws, vs, p2, t2, z2, rk, rfl, q⟩
  have hpa : ι2[st.length]? = some p := p2 _ _ (by rw [← r.hr.len]; simp)
  unfold dspK at q
  split at q
  · rename_i e2
    split at q
    · rename_i h15
      obtain ⟨bs, hb, rb⟩ := z2.ob _ _ _ hpa e2
      cases rb
      have mu : Mut (H2 p) := by rw [hb]; exact True.intro
      refine ⟨hb, vs, rfl, by rw [← rk.len]; exact h15, ?_⟩
      have z3 := z2.set hpa (u := .dK (mergeK [] vs)) (o := .dct (mergeW ws)) ⟨_, upd_same, (merge_rel _ _ _ _ rk .nil).keep (TK.mut mu) (Pre.refl _)⟩
      exact q ι2 _ (Pre.refl _) (TK.mut mu) z3 _ (.ref hpa)
    · exact q.elim
  · exact q.elim
/-- {} -/
theorem w_dsp0 : SE Z (.Dict [] [] pos) (.dsp .nil) := by
  refine pe_imp pe_dnewK fun σ H Q h' => ?_
  obtain ⟨ι, en, st, r, hf⟩ := h'
  intro p hp
  have z0 : HRel Z.X.K (upd H p (.dK [])) (ι ++ [p]) (st ++ [.dct []]) := r.hr.push hp ⟨[], upd_same, .nil⟩
  have hf : Fin Z.X.K (fun c d H' => Z.x c d σ H') ι H (dspK st.length [] (st ++ [.dct []])) _ := hf
  unfold dspK at hf
  have e : (st ++ [Ob.dct []])[st.length]? = some (.dct []) := by simp
  rw [e] at hf
  have hf : Fin Z.X.K (fun c d H' => Z.x c d σ H') ι H (Res.ok (W.ref st.length) ((st ++ [Ob.dct []]).set st.length (.dct []))) _ := hf
  have e2 : (st ++ [Ob.dct []]).set st.length (.dct []) = st ++ [Ob.dct []] := by
    rw [List.set_append_right _ _ (Nat.le_refl _)]; simp
  rw [e2] at hf
  exact hf (ι ++ [p]) _ (Pre.snoc ι p) (TK.new hp) z0 (V.ref p) (RW.ref (by rw [← r.hr.len]; simp))
end
end Ci
/-! Ci12: small forms for the printed texts. -/
namespace Ci
open PySem L2 PyProof.Rows

section
variable {Z : Cz} {pos : Pos}
/-- a constant of the module is known -/
def ConP (K : PySem.W.Frag) (mg : Str → Option Value) (x : Str) (w : W) : Prop := ∃ v u, mg x = some u ∧ RelV v u ∧ ∀ H ι, RW K H ι w v
theorem w_con {x : Str} {w : W} (c : ConP Z.X.K Z.X.mg x w) (hg : Gl Z.X x) (hd : (x == ("__debug__" : Str)) = false := by decide) : SE Z (.Name x pos) (.con w) := by
  obtain ⟨v, u, hm, r, rw'⟩ := c
  exact w_glb hg hm r rw' hd
theorem Callee.blk {x : Str} {i : Nat} {ps : List Str} {a : Arguments} {b : List Stmt} {sc : Scope} (c : Callee Z x i ps a b sc) (s : Shared) (H : Hp) (scope : Scope) (C : Addr) (cl : List (Str × Addr)) (fp : List Addr) : Callee (Z.blk s H scope C cl fp) x i ps a b sc := ⟨c.ex⟩
theorem hsl_by {t : Tg} {l : List Nat} (h : (t.slots.all fun i => l.contains i) = true) : ∀ i ∈ t.slots, i ∈ l := fun i hi => by
  have := List.all_eq_true.mp h i hi
  exact List.contains_iff_mem.mp this
/-- a def of level n, by its name -/
def DefP (P : Program) (w : World) (K : PySem.W.Frag) (mg : Str → Option Value) (base : Heap) (tab : List Fd) (n i : Nat) (x : Str) (ps : List Str) (a : Arguments) (b : List Stmt) (sc : Scope) : Prop :=
  ∃ (f : Addr) (fd : FuncData), mg x = some (.ref f) ∧ FunD K x x a b sc [] [] f fd ∧ FnG P w K mg base n f fd ps (spR K (run tab n i) ps.length)
theorem DefP.callee {P : Program} {w : World} {K : PySem.W.Frag} {mg : Str → Option Value} {base : Heap} {tab : List Fd} {n i : Nat} {x : Str} {ps : List Str} {a : Arguments} {b : List Stmt} {sc : Scope}
    (h : DefP P w K mg base tab n i x ps a b sc) {N : List Str} {qual : Str} {sc' : Scope} {f' : Addr} {cdv : Value} {A : Around} {outer : List Env} {s : Shared} {H : Hp} {E : XK}
    (hr : Room n (A.deeper (envOfC qual sc' s.heap.objs.size f' cdv))) : Callee (bodyZ P w K mg base N qual sc' f' cdv A outer s H E (run tab n)) x i ps a b sc := by
  obtain ⟨f, fd, hm, F, G⟩ := h
  exact ⟨⟨f, fd, n, hm, F, hr, G⟩⟩
/-- what is wanted of a def's body -/
def BodyP (P : Program) (w : World) (K : PySem.W.Frag) (mg : Str → Option Value) (base : Heap) (tab : List Fd) (n : Nat) (N : List Str) (x : Str) (b : List Stmt) (sc : Scope) (c : S) : Prop :=
  ∀ (f : Addr) (cdv : Value) (A : Around) (outer : List Env) (s : Shared) (H : Hp) (E : XK), Room n (A.deeper (envOfC x sc s.heap.objs.size f cdv)) → A.guards = some [] → SB (bodyZ P w K mg base N x sc f cdv A outer s H E (run tab n)) (fun _ => true) b c
theorem DefP.succ {P : Program} {w : World} {K : PySem.W.Frag} {mg : Str → Option Value} {base : Heap} {tab : List Fd} {n i : Nat} {x : Str} {ps N : List Str} {a : Arguments} {b : List Stmt} {sc : Scope} {d : Fd}
    (h : DefP P w K mg base tab n i x ps a b sc) (hd : tab[i]? = some d) (S : FnScope N ps sc) (hN : N.length = d.nl) (hp : ps.length = d.np) (B : BodyP P w K mg base tab n N x b sc d.body) : DefP P w K mg base tab (n + 1) i x ps a b sc := by
  obtain ⟨f, fd, hm, F, _⟩ := h
  exact ⟨f, fd, hm, F, fn_run F hd S hN hp (B f)⟩
theorem DefP.zero {P : Program} {w : World} {K : PySem.W.Frag} {mg : Str → Option Value} {base : Heap} {tab : List Fd} {i : Nat} {x : Str} {ps : List Str} {a : Arguments} {b : List Stmt} {sc : Scope} {f : Addr} {fd : FuncData} (hm : mg x = some (.ref f)) (F : FunD K x x a b sc [] [] f fd) : DefP P w K mg base tab 0 i x ps a b sc :=
  ⟨f, fd, hm, F, fn_zero⟩
theorem kit_int {K : PySem.W.Frag} : ∀ t ∈ ["NoneType", "bool", "int", "str", "tuple", "list", "dict"], PySem.W.kitOne K (.type t) (.type "int") = some (isTy t "int") := fun t ht => kit_ty ((by decide +kernel : ∀ t ∈ ["NoneType", "bool", "int", "str", "tuple", "list", "dict"], kitB t "int" = some (isTy t "int")) t ht)
theorem kit_str {K : PySem.W.Frag} : ∀ t ∈ ["NoneType", "bool", "int", "str", "tuple", "list", "dict"], PySem.W.kitOne K (.type t) (.type "str") = some (isTy t "str") := fun t ht => kit_ty ((by decide +kernel : ∀ t ∈ ["NoneType", "bool", "int", "str", "tuple", "list", "dict"], kitB t "str" = some (isTy t "str")) t ht)
theorem kit_list {K : PySem.W.Frag} : ∀ t ∈ ["NoneType", "bool", "int", "str", "tuple", "list", "dict"], PySem.W.kitOne K (.type t) (.type "list") = some (isTy t "list") := fun t ht => kit_ty ((by decide +kernel : ∀ t ∈ ["NoneType", "bool", "int", "str", "tuple", "list", "dict"], kitB t "list" = some (isTy t "list")) t ht)
theorem kit_tuple {K : PySem.W.Frag} : ∀ t ∈ ["NoneType", "bool", "int", "str", "tuple", "list", "dict"], PySem.W.kitOne K (.type t) (.type "tuple") = some (isTy t "tuple") := fun t ht => kit_ty ((by decide +kernel : ∀ t ∈ ["NoneType", "bool", "int", "str", "tuple", "list", "dict"], kitB t "tuple" = some (isTy t "tuple")) t ht)
theorem kit_dict {K : PySem.W.Frag} : ∀ t ∈ ["NoneType", "bool", "int", "str", "tuple", "list", "dict"], PySem.W.kitOne K (.type t) (.type "dict") = some (isTy t "dict") := fun t ht => kit_ty ((by decide +kernel : ∀ t ∈ ["NoneType", "bool", "int", "str", "tuple", "list", "dict"], kitB t "dict" = some (isTy t "dict")) t ht)
theorem kit_bool {K : PySem.W.Frag} : ∀ t ∈ ["NoneType", "bool", "int", "str", "tuple", "list", "dict"], PySem.W.kitOne K (.type t) (.type "bool") = some (isTy t "bool") := fun t ht => kit_ty ((by decide +kernel : ∀ t ∈ ["NoneType", "bool", "int", "str", "tuple", "list", "dict"], kitB t "bool" = some (isTy t "bool")) t ht)
theorem funD_same {K : PySem.W.Frag} {x q x' q' : Str} {a a' : Arguments} {b b' : List Stmt} {sc sc' : Scope} {f : Addr} {fd fd' : FuncData} (F : FunD K x q a b sc [] [] f fd) (F' : FunD K x' q' a' b' sc' [] [] f fd') : fd = fd' := by
  obtain ⟨oc, od, dV, kV, doc, pm, an, cdv, ct, osl, e1, lk, hcd, _, _⟩ := F.ex
  obtain ⟨oc', od', dV', kV', doc', pm', an', cdv', ct', osl', e1', lk', hcd', _, _⟩ := F'.ex
  have := lk.symm.trans lk'
  injection this with this
  injection this with _ _ h _
  injection h
end
end Ci
/-! Cj0: what comes of a reckoning, in plain Lean. -/
namespace Ci
open PySem

def Wp {α : Type} (r : Res α) (Q : α → Sto → Prop) : Prop := ∃ a st, r = .ok a st ∧ Q a st
section
variable {α β : Type} {r : Res α} {Q R : α → Sto → Prop} {a : α} {st : Sto}
theorem wp_ok : Wp (.ok a st) Q = Q a st := propext ⟨fun ⟨_, _, e, h⟩ => (by cases e; exact h), fun h => ⟨_, _, rfl, h⟩⟩
theorem wp_bind {k : α → Sto → Res β} {Q : β → Sto → Prop} : Wp (r.bind k) Q = Wp r fun a st => Wp (k a st) Q := by
  refine propext ⟨fun ⟨b, st, e, h⟩ => ?_, fun ⟨a, st, e, b, st2, e2, h⟩ => ?_⟩
  · cases r with
    | ok a st1 => exact ⟨a, st1, rfl, b, st, e, h⟩
    | exc _ _ => cases e
    | bad => cases e
  · subst e
    exact ⟨b, st2, e2, h⟩
theorem wp_bad : Wp (.bad : Res α) Q = False := propext ⟨fun ⟨_, _, e, _⟩ => (by cases e), False.elim⟩
theorem Wp.mono (h : Wp r Q) (i : ∀ a st, Q a st → R a st) : Wp r R := let ⟨a, st, e, q⟩ := h; ⟨a, st, e, i a st q⟩
theorem wp_noexc : Wp (noexc r) Q = Wp r Q := by
  cases r with
  | exc x st => exact propext ⟨fun ⟨_, _, e, _⟩ => (by cases e), fun ⟨_, _, e, _⟩ => (by cases e)⟩
  | _ => rfl
end
/-- behind a statement the rest goes on -/
def Sk (cl : Nat → List W → Sto → Res W) (b : S) (Q : Out → Sto → Prop) (o : Out) (st : Sto) : Prop :=
  match o with
  | .nx e => Wp (ex cl b e st) Q
  | o => Q o st
section
variable {cl : Nat → List W → Sto → Res W} {en : En} {st : Sto} {Q : Out → Sto → Prop}
theorem wp_seq {a b : S} : Wp (ex cl (.seq a b) en st) Q = Wp (ex cl a en st) (Sk cl b Q) := by
  rw [ex, wp_bind]
  congr 1
  funext o st1
  cases o with
  | nx e => rfl
  | _ => exact wp_ok
theorem sk_nx {b : S} {e : En} : Sk cl b Q (.nx e) st = Wp (ex cl b e st) Q := rfl
theorem sk_rt {b : S} {v : W} : Sk cl b Q (.rt v) st = Q (.rt v) st := rfl
theorem sk_bk {b : S} {e : En} : Sk cl b Q (.bk e) st = Q (.bk e) st := rfl
theorem sk_ct {b : S} {e : En} : Sk cl b Q (.ct e) st = Q (.ct e) st := rfl
theorem sk_mono {b : S} {R : Out → Sto → Prop} {o : Out} (h : Sk cl b Q o st) (i : ∀ o st, Q o st → R o st) : Sk cl b R o st := by
  cases o with
  | nx e => exact Wp.mono h i
  | _ => exact i _ _ h
/-- a loop's ends -/
def Lk (I : En → Sto → Prop) (Q : Out → Sto → Prop) (o : Out) (st : Sto) : Prop :=
  match o with
  | .nx e => I e st
  | .ct e => I e st
  | .bk e => Q (.nx e) st
  | .rt v => Q (.rt v) st
theorem lk_nx {I : En → Sto → Prop} {e : En} : Lk I Q (.nx e) st = I e st := rfl
theorem lk_ct {I : En → Sto → Prop} {e : En} : Lk I Q (.ct e) st = I e st := rfl
theorem lk_bk {I : En → Sto → Prop} {e : En} : Lk I Q (.bk e) st = Q (.nx e) st := rfl
theorem lk_rt {I : En → Sto → Prop} {v : W} : Lk I Q (.rt v) st = Q (.rt v) st := rfl
end
section
variable {get : Sto → Nat → Option (Option W)} {as : W → En → Option En} {body : En → Sto → Res Out} {Q : Out → Sto → Prop}
theorem wp_forL (ws : List W) (I : Nat → En → Sto → Prop) (hg : ∀ k en st, I k en st → get st k = some ws[k]?)
    (step : ∀ k w en st, ws[k]? = some w → I k en st → ∃ en1, as w en = some en1 ∧ Wp (body en1 st) (Lk (I (k + 1)) Q)) (fin : ∀ en st, I ws.length en st → Q (.nx en) st) :
    ∀ (F k : Nat) (en : En) (st : Sto), k ≤ ws.length → ws.length < k + F → I k en st → Wp (forL get as body F k en st) Q
  | 0, k, en, st, h1, h2, _ => by omega
  | F + 1, k, en, st, h1, h2, i => by
    rw [forL, hg k en st i]
    rcases Nat.lt_or_ge k ws.length with h | h
    · rw [List.getElem?_eq_getElem h]
      obtain ⟨en1, e1, q⟩ := step k _ en st (List.getElem?_eq_getElem h) i
      simp only [e1, wp_bind]
      refine q.mono fun o st1 q => ?_
      cases o with
      | nx e => exact wp_forL ws I hg step fin F (k + 1) e st1 h (by omega) q
      | ct e => exact wp_forL ws I hg step fin F (k + 1) e st1 h (by omega) q
      | bk e => exact ⟨_, _, rfl, q⟩
      | rt v => exact ⟨_, _, rfl, q⟩
    · rw [List.getElem?_eq_none h]
      have : k = ws.length := Nat.le_antisymm h1 h
      subst this
      exact ⟨_, _, rfl, fin en st i⟩
theorem wp_lcL {en0 : En} {test : En → Sto → Res Bool} {elt : En → Sto → Res W} {D : Nat} {Q : W → Sto → Prop} (ws : List W) (I : Nat → Sto → Prop) (hg : ∀ k st, I k st → get st k = some ws[k]?)
    (step : ∀ k w st, ws[k]? = some w → I k st → ∃ en1, as w en0 = some en1 ∧ Wp (test en1 st) fun b st1 => match b with
      | true => Wp (elt en1 st1) fun y st2 => ∃ acc, st2[D]? = some (.lst acc) ∧ acc.length < sizeLine ∧ I (k + 1) (st2.set D (.lst (acc ++ [y])))
      | false => I (k + 1) st1) (fin : ∀ st, I ws.length st → Q (.ref D) st) :
    ∀ (F k : Nat) (st : Sto), k ≤ ws.length → ws.length < k + F → I k st → Wp (lcL get as en0 test elt D F k st) Q
  | 0, k, st, h1, h2, _ => by omega
  | F + 1, k, st, h1, h2, i => by
    rw [lcL, hg k st i]
    rcases Nat.lt_or_ge k ws.length with h | h
    · rw [List.getElem?_eq_getElem h]
      obtain ⟨en1, e1, q⟩ := step k _ st (List.getElem?_eq_getElem h) i
      simp only [e1, wp_bind]
      refine q.mono fun b st1 q => ?_
      cases b with
      | true =>
        simp only [iteK, wp_bind]
        refine Wp.mono q fun y st2 q => ?_
        obtain ⟨acc, ea, hl, q⟩ := q
        simp only [pushK, ea, if_pos hl]
        exact wp_lcL ws I hg step fin F (k + 1) _ h (by omega) q
      | false => exact wp_lcL ws I hg step fin F (k + 1) _ h (by omega) q
    · rw [List.getElem?_eq_none h]
      have : k = ws.length := Nat.le_antisymm h1 h
      subst this
      exact ⟨_, _, rfl, fin st i⟩
theorem wp_whlL {test : En → Sto → Res Bool} (I : Nat → En → Sto → Prop)
    (step : ∀ k en st, I k en st → Wp (test en st) fun b st1 => match b with
      | true => 0 < k ∧ Wp (body en st1) (Lk (fun e st => ∃ j, j < k ∧ I j e st) Q)
      | false => Q (.nx en) st1) :
    ∀ (F k : Nat) (en : En) (st : Sto), k < F → I k en st → Wp (whlL test body F en st) Q
  | 0, k, en, st, h1, _ => by omega
  | F + 1, k, en, st, h1, i => by
    rw [whlL, wp_bind]
    refine (step k en st i).mono fun b st1 q => ?_
    cases b with
    | false => exact ⟨_, _, rfl, q⟩
    | true =>
      simp only [iteK, wp_bind]
      refine q.2.mono fun o st2 q2 => ?_
      cases o with
      | nx e => obtain ⟨j, hj, q2⟩ := q2; exact wp_whlL I step F j e st2 (by omega) q2
      | ct e => obtain ⟨j, hj, q2⟩ := q2; exact wp_whlL I step F j e st2 (by omega) q2
      | bk e => exact ⟨_, _, rfl, q2⟩
      | rt v => exact ⟨_, _, rfl, q2⟩
end
/-- a def by its core -/
theorem wp_run {tab : List Fd} {n i : Nat} {d : Fd} {ws : List W} {st : Sto} {Q : W → Sto → Prop} (h : tab[i]? = some d) (hl : ws.length = d.np) (q : Wp (ex (run tab n) d.body (startE d.nl ws) st) fun o st' => Wp (retK o st') Q) : Wp (run tab (n + 1) i ws st) Q := by
  rw [run, h]
  simp only [hl, if_true, wp_bind]
  exact q

/-! ### stores that keep all but two objects -/
def Keep (d c : Nat) (st st' : Sto) : Prop := ∀ n o, n ≠ d → n ≠ c → st[n]? = some o → st'[n]? = some o
theorem Keep.refl {d c : Nat} {st : Sto} : Keep d c st st := fun _ _ _ _ h => h
theorem Keep.trans {d c : Nat} {a b e : Sto} (x : Keep d c a b) (y : Keep d c b e) : Keep d c a e := fun n o h1 h2 h => y n o h1 h2 (x n o h1 h2 h)
theorem Keep.new {d c : Nat} {st : Sto} {o : Ob} : Keep d c st (st ++ [o]) := fun n u _ _ h => by
  rw [List.getElem?_append_left (List.getElem?_eq_some_iff.mp h).1]; exact h
theorem Keep.set {d c : Nat} {st : Sto} {m : Nat} {o : Ob} (hm : m = d ∨ m = c) : Keep d c st (st.set m o) := fun n u h1 h2 h => by
  have : m ≠ n := fun e => by
    rcases hm with z | z
    · exact h1 (e ▸ z)
    · exact h2 (e ▸ z)
  rw [List.getElem?_set_ne this]; exact h
/-- a list that no draw touches -/
def Own (d c : Nat) (st : Sto) (n : Nat) (ws : List W) : Prop := st[n]? = some (.lst ws) ∧ n ≠ d ∧ n ≠ c
theorem Own.keep {d c n : Nat} {st st' : Sto} {ws : List W} (h : Own d c st n ws) (k : Keep d c st st') : Own d c st' n ws := ⟨k _ _ h.2.1 h.2.2 h.1, h.2⟩
/-- a source of draws -/
structure Deal (st : Sto) (d c : Nat) : Prop where
  ne : d ≠ c
  at_ : ∃ b : Int, st[d]? = some (.lst [.ref c, .int b])
  cel : ∃ ns : List Int, st[c]? = some (.lst (ns.map .int)) ∧ ns.length ≤ 63
theorem Deal.fresh {st : Sto} {d c : Nat} (h : Deal st d c) : st.length ≠ d ∧ st.length ≠ c := by
  obtain ⟨_, ⟨b, h1⟩, ns, h2, _⟩ := h
  have := (List.getElem?_eq_some_iff.mp h1).1
  have := (List.getElem?_eq_some_iff.mp h2).1
  omega
theorem getNew {st : Sto} {n : Nat} {o u : Ob} (h : st[n]? = some o) : (st ++ [u])[n]? = some o := by
  rw [List.getElem?_append_left (List.getElem?_eq_some_iff.mp h).1]; exact h
theorem getLast {st : Sto} {u : Ob} : (st ++ [u])[st.length]? = some u := by simp
theorem Deal.new {st : Sto} {d c : Nat} {o : Ob} (h : Deal st d c) : Deal (st ++ [o]) d c :=
  ⟨h.ne, h.at_.imp fun b e => getNew e, h.cel.imp fun ns e => ⟨getNew e.1, e.2⟩⟩
theorem Deal.own {st : Sto} {d c : Nat} {ws : List W} (h : Deal st d c) : Own d c (st ++ [.lst ws]) st.length ws := ⟨getLast, h.fresh⟩
end Ci
/-! Cj1: single statements; numbers, lists of numbers. -/
namespace Ci
open PySem

def Ik (cl : Nat → List W → Sto → Res W) (a b : S) (en : En) (Q : Out → Sto → Prop) (k : Bool) (st : Sto) : Prop :=
  match k with
  | true => Wp (ex cl a en st) Q
  | false => Wp (ex cl b en st) Q
section
variable {cl : Nat → List W → Sto → Res W} {en : En} {st : Sto} {Q : Out → Sto → Prop} {a b : S} {e c : E} {es : Es}
theorem ik_true : Ik cl a b en Q true st = Wp (ex cl a en st) Q := rfl
theorem ik_false : Ik cl a b en Q false st = Wp (ex cl b en st) Q := rfl
theorem wp_skip : Wp (ex cl .skip en st) Q = Q (.nx en) st := by rw [ex, wp_ok]
theorem wp_brk : Wp (ex cl .brk en st) Q = Q (.bk en) st := by rw [ex, wp_ok]
theorem wp_cnt : Wp (ex cl .cnt en st) Q = Q (.ct en) st := by rw [ex, wp_ok]
theorem wp_retN : Wp (ex cl .retN en st) Q = Q (.rt .non) st := by rw [ex, wp_ok]
theorem wp_ret : Wp (ex cl (.ret e) en st) Q = Wp (ev cl e en st) fun w st1 => Q (.rt w) st1 := by rw [ex, wp_bind]; simp only [wp_ok]
theorem wp_set {i : Nat} : Wp (ex cl (.set i e) en st) Q = Wp (ev cl e en st) fun w st1 => Wp (setK (.nm i) en w st1) Q := by rw [ex, wp_bind]
theorem wp_par {is : List Nat} : Wp (ex cl (.par is es) en st) Q = Wp (evs cl es en st) fun ws st1 => Wp (setsK (tgsOf is) en ws st1) Q := by rw [ex, wp_bind]
theorem wp_unp {t : Tg} : Wp (ex cl (.unp t e) en st) Q = Wp (ev cl e en st) fun w st1 => Wp (setK t en w st1) Q := by rw [ex, wp_bind]
theorem wp_sto {o i : E} : Wp (ex cl (.sto o i e) en st) Q = Wp (ev cl e en st) fun v st1 => Wp (ev cl o en st1) fun x st2 => Wp (ev cl i en st2) fun y st3 => Wp (stoK en v x y st3) Q := by rw [ex]; simp only [wp_bind]
theorem wp_aug {i : Nat} {o : BinO} : Wp (ex cl (.aug i o e) en st) Q = Wp (varK en[i]? fun x => (ev cl e en st).bind (augK i o en x)) Q := by rw [ex]
theorem wp_xpr : Wp (ex cl (.xpr e) en st) Q = Wp (ev cl e en st) fun _ st1 => Q (.nx en) st1 := by rw [ex, wp_bind]; simp only [wp_ok]
theorem wp_ite : Wp (ex cl (.ite c a b) en st) Q = Wp (truR (ev cl c en st)) (Ik cl a b en Q) := by
  rw [ex, wp_bind]
  congr 1
  funext k st1
  cases k <;> rfl
theorem wp_whl : Wp (ex cl (.whl c b) en st) Q = Wp (whlL (fun en st => truR (ev cl c en st)) (fun en st => ex cl b en st) FU en st) Q := by rw [ex]
theorem wp_for {t : Tg} {it : It} : Wp (ex cl (.for_ t it b) en st) Q = Wp (evi cl it en st) fun src st1 => Wp (forL src.get (asg t) (fun en st => ex cl b en st) FU 0 en st1) Q := by rw [ex, wp_bind]
theorem wp_tru {r : Res W} {Q : Bool → Sto → Prop} : Wp (truR r) Q = Wp r fun w st => Wp (truK0 w st) Q := by unfold truR; rw [wp_bind]
end
/-! ### single parts, by what they get -/
section
variable {α : Type} {st : Sto} {Q : W → Sto → Prop} {QL : α → Sto → Prop} {p q : Sto → Res α}
theorem wp_of {a : W} : Wp (Res.of (some (a, st))) Q = Q a st := wp_ok
theorem retK_rt {w : W} : retK (.rt w) st = .ok w st := rfl
theorem retK_nx {e : En} : retK (.nx e) st = .ok .non st := rfl
theorem of_some {a : W} : Res.of (some (a, st)) = .ok a st := rfl
theorem tru_bl {b : Bool} : tru st (.bl b) = some b := rfl
theorem tru_int {i : Int} : tru st (.int i) = some (i != 0) := rfl
theorem tru_non : tru st .non = some false := rfl
theorem tru_tup {ws : List W} : tru st (.tup ws) = some (!ws.isEmpty) := rfl
theorem tru_frl {ws : List W} : tru st (.frl ws) = some (!ws.isEmpty) := rfl
theorem tru_lst {n : Nat} {ws : List W} (h : st[n]? = some (.lst ws)) : tru st (.ref n) = some (!ws.isEmpty) := by simp only [tru, h]
theorem tru_dct {n : Nat} {ws : List (L2.Key × W)} (h : st[n]? = some (.dct ws)) : tru st (.ref n) = some (!ws.isEmpty) := by simp only [tru, h]
theorem truK0_bl {b : Bool} : truK0 (.bl b) st = .ok b st := rfl
theorem truK0_int {i : Int} : truK0 (.int i) st = .ok (i != 0) st := rfl
theorem truK0_tup {ws : List W} : truK0 (.tup ws) st = .ok (!ws.isEmpty) st := rfl
theorem truK0_frl {ws : List W} : truK0 (.frl ws) st = .ok (!ws.isEmpty) st := rfl
theorem truK0_non : truK0 .non st = .ok false st := rfl
theorem truK0_lst {n : Nat} {ws : List W} (h : st[n]? = some (.lst ws)) : truK0 (.ref n) st = .ok (!ws.isEmpty) st := by simp only [truK0, tru_lst h]
theorem scK_bl {stop b : Bool} {k : Sto → Res W} : scK stop k (.bl b) st = if b = stop then .ok (.bl b) st else k st := rfl
theorem iteK_true : iteK p q true st = p st := rfl
theorem iteK_false : iteK p q false st = q st := rfl
theorem cmp_eq {x y : W} : cmp .eq x y st = eqD st x y := rfl
theorem cmp_ne {x y : W} : cmp .ne x y st = (eqD st x y).map (!·) := rfl
theorem cmp_lt {i j : Int} : cmp .lt (.int i) (.int j) st = some (decide (i < j)) := rfl
theorem cmp_le {i j : Int} : cmp .le (.int i) (.int j) st = some (decide (i ≤ j)) := rfl
theorem cmp_gt {i j : Int} : cmp .gt (.int i) (.int j) st = some (decide (j < i)) := rfl
theorem cmp_ge {i j : Int} : cmp .ge (.int i) (.int j) st = some (decide (j ≤ i)) := rfl
theorem cmp_in {x y : W} : cmp .isin x y st = inW st x y := rfl
theorem cmp_notin {x y : W} : cmp .notin x y st = (inW st x y).map (!·) := rfl
theorem cmp_isN {x : W} : cmp .isN x .non st = some (isNon x) := rfl
theorem cmp_notN {x : W} : cmp .notN x .non st = some (!isNon x) := rfl
theorem eqD_int {i j : Int} : eqD st (.int i) (.int j) = some (i == j) := rfl
theorem eqD_str {i j : Str} : eqD st (.str i) (.str j) = some (i == j) := rfl
theorem inW_tup {x : W} {ws : List W} : inW st x (.tup ws) = if flatW x && ws.all flatW then some (ws.any fun y => eqF y x) else none := rfl
theorem bin_int {o : BinO} {i j : Int} : bin o (.int i) (.int j) st = (binI o i j).map fun k => (.int k, st) := rfl
theorem binI_add {i j : Int} : binI .add i j = some (i + j) := rfl
theorem binI_sub {i j : Int} : binI .sub i j = some (i - j) := rfl
theorem binI_mod {i j : Int} : binI .mod i j = if decide (0 < j) then some (i % j) else none := rfl
theorem binI_fdiv {i j : Int} : binI .fdiv i j = if divOk j then some (i / j) else none := rfl
theorem binI_mul {i j : Int} : binI .mul i j = if small64 i || small64 j || bigOk i j then some (i * j) else none := rfl
theorem binI_pow {i j : Int} : binI .pow i j = if powOk i j then some (i ^ j.toNat) else none := rfl
theorem binI_shl {i j : Int} : binI .shl i j = if powOk i j then some (i * 2 ^ j.toNat) else none := rfl
theorem binI_shr {i j : Int} : binI .shr i j = if decide (0 ≤ j) then some (i / 2 ^ j.toNat) else none := rfl
theorem binI_mod_pos {i j : Int} (h : 0 < j) : binI .mod i j = some (i % j) := by rw [binI_mod, if_pos (decide_eq_true h)]
theorem negK_int {i : Int} : negK (.int i) st = .ok (.int (-i)) st := rfl
theorem lstK_ok {ws : List W} (h : ws.length ≤ 1000) : lstK ws st = newR st (.lst ws) := if_pos (Nat.le_trans h (by decide))
theorem tupK_ok {ws : List W} (h : ws.length ≤ 1000) : tupK ws st = .ok (.tup ws) st := if_pos (Nat.le_trans h (by decide))
theorem wp_callK {cl : Nat → List W → Sto → Res W} {f : Nat} {ws : List W} : Wp (callK cl f none ws st) Q = Wp (cl f ws st) Q := rfl
theorem bi_int {i : Int} : bi .int [.int i] st = some (.int i, st) := rfl
theorem bi_abs {i : Int} : bi .abs [.int i] st = some (.int (if i < 0 then -i else i), st) := rfl
theorem bi_repr {w : W} {d : PyData} (h : toD st w = some d) (h2 : reprOk d = true) : bi .repr [w] st = some (.str d.shown, st) := by
  show (match toD st w with | some d => if reprOk d then some (W.str d.shown, st) else none | none => none) = _
  rw [h]
  exact if_pos h2
theorem bi_len_lst {n : Nat} {ws : List W} (h : st[n]? = some (.lst ws)) : bi .len [.ref n] st = some (.int ws.length, st) := by
  show (match dctOf st (.ref n) with | some kvs => some (W.int kvs.length, st) | none => (seqOf st (.ref n)).map fun xs : List W => (W.int xs.length, st)) = _
  simp only [dctOf, seqOf, h]
  rfl
theorem bi_len_tup {ws : List W} : bi .len [.tup ws] st = some (.int ws.length, st) := rfl
theorem bi_len_frl {ws : List W} : bi .len [.frl ws] st = some (.int ws.length, st) := rfl
theorem isLK_lst {n : Nat} {ws : List W} {k : Sto → Res W} (h : st[n]? = some (.lst ws)) : isLK k (.ref n) st = k st := by simp only [isLK, lstOf, h]
theorem mt_append {n : Nat} {ws : List W} {y : W} (h : st[n]? = some (.lst ws)) (hl : ws.length < sizeLine) : mt .append (.ref n) [y] st = some (.non, st.set n (.lst (ws ++ [y]))) := by
  simp only [mt, h]; exact if_pos hl
theorem mt_pop {n : Nat} {ws : List W} {y : W} (h : st[n]? = some (.lst (ws ++ [y]))) : mt .pop (.ref n) [] st = some (y, st.set n (.lst ws)) := by
  simp only [mt, h, List.dropLast_concat]
  simp
theorem setK_nm {i : Nat} {en : En} {w : W} {Q : Out → Sto → Prop} (h : i < en.length) : Wp (setK (.nm i) en w st) Q = Q (.nx (en.set i (some w))) st := by
  unfold setK
  rw [asg, if_pos h]
  exact wp_ok
theorem keyK_str {y : W} {k : Sto → Res (List (L2.Key × W))} {s : Str} : keyK y k (.str s) st = (k st).bind fun r st3 => .ok ((.inr s, y) :: r) st3 := rfl
theorem keyK_int {y : W} {k : Sto → Res (List (L2.Key × W))} {s : Int} : keyK y k (.int s) st = (k st).bind fun r st3 => .ok ((.inl s, y) :: r) st3 := rfl
theorem dspK_ok {n : Nat} {kvs : List (L2.Key × W)} (h : st[n]? = some (.dct [])) (hl : kvs.length ≤ 15) : dspK n kvs st = .ok (.ref n) (st.set n (.dct (mergeW kvs))) := by
  simp only [dspK, h]
  exact if_pos hl
theorem set_last {o u : Ob} : (st ++ [o]).set st.length u = st ++ [u] := by
  rw [List.set_append_right _ _ (Nat.le_refl _)]; simp
theorem setK_tp {ts : Tgs} {en : En} {ws : List W} : setK (.tp ts) en (.tup ws) st = match asgs ts ws en with | some en1 => .ok (.nx en1) st | none => .bad := rfl
theorem wp_evs_cons {cl : Nat → List W → Sto → Res W} {a : E} {es : Es} {en : En} {Q : List W → Sto → Prop} : Wp (evs cl (.cons a es) en st) Q = Wp (ev cl a en st) fun x st1 => Wp (evs cl es en st1) fun xs st2 => Q (x :: xs) st2 := by
  rw [evs]; simp only [wp_bind, wp_ok]
theorem wp_ite2 {b : Bool} {p q : Sto → Res α} {QL : α → Sto → Prop} : Wp (iteK p q b st) QL = if b then Wp (p st) QL else Wp (q st) QL := by cases b <;> rfl
theorem bin_cat {m k : Nat} {a b : List W} (h1 : st[m]? = some (.lst a)) (h2 : st[k]? = some (.lst b)) (hl : a.length + b.length ≤ 16777216) : bin .add (.ref m) (.ref k) st = some (.ref st.length, st ++ [.lst (a ++ b)]) := by
  simp only [bin, h1, h2]
  exact if_pos hl
theorem rep_one {α : Type} (x : α) : ∀ k : Nat, (List.replicate k [x]).flatten = List.replicate k x
  | 0 => rfl
  | k + 1 => by rw [List.replicate_succ, List.flatten_cons, rep_one x k]; rfl
theorem bin_rep {m k : Nat} {x : W} (h1 : st[m]? = some (.lst [x])) (hk : k ≤ 1000000) : bin .mul (.ref m) (.int (k : Int)) st = some (.ref st.length, st ++ [.lst (List.replicate k x)]) := by
  simp only [bin, h1]
  rw [if_pos, Int.toNat_natCast, rep_one]
  · rfl
  · rw [Bool.and_eq_true]
    refine ⟨decide_eq_true ⟨by omega, by omega⟩, decide_eq_true ?_⟩
    rw [Int.toNat_natCast]
    show 1 * k ≤ 16777216
    omega
theorem cut_from {ws : List W} {k : Nat} (h : k ≤ ws.length) : cutW ws (some (k : Int)) none = ws.drop k := by
  unfold cutW
  rw [HT.sIx_nat, show HT.sIx ws.length ws.length none = ws.length from rfl, Nat.min_eq_left h, List.take_of_length_le (by rw [List.length_drop]; omega)]
theorem slW_lst {m : Nat} {ws : List W} {lo hi : Option Int} (h : st[m]? = some (.lst ws)) : slW (.ref m) lo hi st = some (.ref st.length, st ++ [.lst (cutW ws lo hi)]) := by
  simp only [slW, h]
  rfl
end
/-! ### numbers -/
theorem pds_ints (ρ : Nat → Option PyData) : ∀ ns : List Int, pds ρ (ns.map .int) = some (ns.map .int)
  | [] => rfl
  | n :: ns => by rw [List.map_cons, pds, pds_ints ρ ns]; rfl
theorem toD_int {st : Sto} {i : Int} : toD st (.int i) = some (.int i) := rfl
theorem toD_bl {st : Sto} {i : Bool} : toD st (.bl i) = some (.bool i) := rfl
theorem toD_non {st : Sto} : toD st .non = some .none := rfl
theorem toD_str {st : Sto} {s : Str} : toD st (.str s) = some (.str s) := rfl
theorem toD_ints {st : Sto} {n : Nat} {ns : List Int} (h : st[n]? = some (.lst (ns.map .int))) : toD st (.ref n) = some (.list (ns.map .int)) := by
  show rho st 9 n = _
  rw [rho, h]
  simp only [pds_ints]
  rfl
theorem canLay_ints : ∀ ns : List Int, PyData.canLayAll0 (ns.map PyData.int) = true
  | [] => by simp only [List.map_nil, PyData.canLayAll0]
  | n :: ns => by
    simp only [List.map_cons, PyData.canLayAll0, PyData.canLay0, canLay_ints ns, Bool.and_self]
theorem depthAll_ints : ∀ ns : List Int, PyData.depthAll (ns.map PyData.int) = 0
  | [] => by simp only [List.map_nil, PyData.depthAll]
  | n :: ns => by
    simp only [List.map_cons, PyData.depthAll, PyData.depth, depthAll_ints ns, Nat.max_self]
theorem shaped_ints (ns : List Int) : shapedB (.list (ns.map .int)) = true := by
  simp only [shapedB, SeqAt.shaped, PyData.canLay0, PyData.depth, canLay_ints, depthAll_ints]
  decide
theorem shaped_tupints (ns : List Int) : shapedB (.tuple (ns.map .int)) = true := by
  simp only [shapedB, SeqAt.shaped, PyData.canLay0, PyData.depth, canLay_ints, depthAll_ints]
  decide
theorem shaped_nil : shapedB (.list []) = true := by
  simp only [shapedB, SeqAt.shaped, PyData.canLay0, PyData.canLayAll0, PyData.depth, PyData.depthAll]
  decide
theorem eqvAll_ints : ∀ ns ms : List Int, PyData.eqvAll (ns.map .int) (ms.map .int) = decide (ns = ms)
  | [], [] => by simp [PyData.eqvAll]
  | [], _ :: _ => by simp [PyData.eqvAll]
  | _ :: _, [] => by simp [PyData.eqvAll]
  | n :: ns, m :: ms => by
    simp only [List.map_cons, PyData.eqvAll, PyData.eqv, eqvAll_ints ns ms]
    by_cases h : n = m <;> by_cases h2 : ns = ms <;> simp [h, h2]
theorem eqD_ints {st : Sto} {a b : Nat} {ns ms : List Int} (h1 : st[a]? = some (.lst (ns.map .int))) (h2 : st[b]? = some (.lst (ms.map .int))) : eqD st (.ref a) (.ref b) = some (decide (ns = ms)) := by
  show (match toD st (.ref a), toD st (.ref b) with
    | some d, some e => if shapedB d && shapedB e then some (PyData.eqv d e) else none
    | _, _ => none) = _
  rw [toD_ints h1, toD_ints h2]
  simp only [shaped_ints, Bool.and_self, if_true, PyData.eqv, eqvAll_ints]
theorem eqD_nil {st : Sto} {a b : Nat} {ns : List Int} (h1 : st[a]? = some (.lst (ns.map .int))) (h2 : st[b]? = some (.lst [])) : eqD st (.ref a) (.ref b) = some ns.isEmpty := by
  rw [eqD_ints (ms := []) h1 h2]
  cases ns <;> rfl
end Ci
/-! Cj2: the laws' source of draws. -/
namespace Ci
open PySem

def anyT : E := (.and (.cmp .ne (.ix (.var 0) (.con (.int 0))) (.lst .nil)) (.cmp .eq (.ix (.ix (.var 0) (.con (.int 0))) (.neg (.con (.int 1)))) (.con (.int 0))))
def anyB : S := (.xpr (.mt .pop (.ix (.var 0) (.con (.int 0))) .nil))
def anyR : S :=
  (.seq (.ite (.cmp .ne (.ix (.var 0) (.con (.int 0))) (.lst .nil)) (.seq (.set 2 (.bi .int (.cons (.mt .pop (.ix (.var 0) (.con (.int 0))) .nil) .nil)))
  (.seq (.xpr (.mt .append (.ix (.var 0) (.con (.int 0))) (.cons (.bin .fdiv (.var 2) (.var 1)) .nil)))
  (.ret (.bin .mod (.var 2) (.var 1))))) .skip)
  (.seq (.sto (.var 0) (.con (.int 1)) (.bin .mod (.bi .int (.cons (.bin .add (.bin .mul (.ix (.var 0) (.con (.int 1))) (.con (.int 40693))) (.con (.int 71))) .nil)) (.con (.int 2147483647))))
  (.ret (.bin .mod (.bi .int (.cons (.bin .fdiv (.ix (.var 0) (.con (.int 1))) (.con (.int 64))) .nil)) (.var 1)))))
def cAny : S := (.seq (.whl anyT anyB) anyR)
theorem atW_nat (ws : List W) (k : Nat) : atW ws (k : Int) = ws[k]? := by
  unfold atW L2.atI L2.ixN
  rw [if_pos (by omega)]
  by_cases h : k < ws.length
  · rw [if_pos (by omega), Option.bind_some]
    rfl
  · rw [if_neg (by omega), List.getElem?_eq_none (by omega)]
    rfl
theorem atW_0 (ws : List W) : atW ws 0 = ws[0]? := atW_nat ws 0
theorem atW_1 (ws : List W) : atW ws 1 = ws[1]? := atW_nat ws 1
theorem atW_2 (ws : List W) : atW ws 2 = ws[2]? := atW_nat ws 2
theorem atW_last (ws : List W) : atW ws (-1) = ws[ws.length - 1]? := by
  unfold atW L2.atI L2.ixN
  rw [if_neg (by omega)]
  by_cases h : 0 < ws.length
  · rw [if_pos (by omega), Option.bind_some]
    congr 1
    omega
  · rw [if_neg (by omega), List.getElem?_eq_none (by omega)]
    rfl
theorem sub_lst {st : Sto} {n : Nat} {ws : List W} {i : Int} (h : st[n]? = some (.lst ws)) : sub st (.ref n) (.int i) = atW ws i := by
  simp only [sub, dctOf, h, ixW]
theorem sub_tup {st : Sto} {ws : List W} {i : Int} : sub st (.tup ws) (.int i) = atW ws i := rfl
theorem sub_frl {st : Sto} {ws : List W} {i : Int} : sub st (.frl ws) (.int i) = atW ws i := rfl
section
variable {cl : Nat → List W → Sto → Res W} {d c : Nat} {st : Sto}
/-- a source of draws with so many great numbers -/
structure DealN (st : Sto) (d c : Nat) (b : Int) (ns : List Int) : Prop where
  ne : d ≠ c
  at_ : st[d]? = some (.lst [.ref c, .int b])
  cel : st[c]? = some (.lst (ns.map .int))
  few : ns.length ≤ 63
theorem Deal.n (h : Deal st d c) : ∃ b ns, DealN st d c b ns := let ⟨n, ⟨b, h1⟩, ns, h2, h3⟩ := h; ⟨b, ns, n, h1, h2, h3⟩
theorem DealN.deal {b : Int} {ns : List Int} (h : DealN st d c b ns) : Deal st d c := ⟨h.ne, ⟨b, h.at_⟩, ns, h.cel, h.few⟩
theorem DealN.new {b : Int} {ns : List Int} {o : Ob} (h : DealN st d c b ns) : DealN (st ++ [o]) d c b ns := ⟨h.ne, getNew h.at_, getNew h.cel, h.few⟩
theorem DealN.put {b : Int} {ns ms : List Int} (h : DealN st d c b ns) (hm : ms.length ≤ 63) : DealN (st.set c (.lst (ms.map .int))) d c b ms :=
  ⟨h.ne, by rw [List.getElem?_set_ne h.ne.symm]; exact h.at_, by rw [List.getElem?_set_self (List.getElem?_eq_some_iff.mp h.cel).1], hm⟩
theorem DealN.turn {b b' : Int} {ns : List Int} (h : DealN st d c b ns) : DealN (st.set d (.lst [.ref c, .int b'])) d c b' ns :=
  ⟨h.ne, by rw [List.getElem?_set_self (List.getElem?_eq_some_iff.mp h.at_).1], by rw [List.getElem?_set_ne h.ne]; exact h.cel, h.few⟩
theorem any_test {x : Int} {y : Option W} {b : Int} {ns : List Int} (D : DealN st d c b ns) (Q : Bool → Sto → Prop) (h : ∀ k, (k = true → ns ≠ []) → Q k (st ++ [.lst []])) :
    Wp (truR (ev cl anyT [some (.ref d), some (.int x), y] st)) Q := by
  unfold anyT
  rcases List.eq_nil_or_concat ns with e | ⟨ms, y, e⟩
  · subst e
    try simp -implicitDefEqProofs only [wp_ok, wp_bind, wp_noexc, wp_seq, wp_skip, wp_brk, wp_cnt, wp_retN, wp_ret, wp_set, wp_par, wp_unp, wp_sto, wp_xpr, wp_ite, wp_for, wp_whl, wp_tru, sk_nx, sk_rt, sk_bk, sk_ct, lk_nx, lk_ct, lk_bk, lk_rt, ik_true, ik_false, ev, evs, evo, evi, evc, evd, keyK_str, keyK_int, retK_rt, retK_nx, iteK_true, iteK_false, truK0_bl, truK0_int, truK0_tup, truK0_frl, truK0_non, scK_bl, wp_callK, cmpO, cmp_eq, cmp_ne, cmp_lt, cmp_le, cmp_gt, cmp_ge, cmp_isN, cmp_notN, eqD_int, eqD_str, bin_int, binI_add, binI_sub, of_some, negK_int, setK_nm, setK_tp, setsK, asg, asgs, tgsOf, intK, rngK, srcK, subO, startE, newR, new, bi_int, bi_abs, bi_len_tup, bi_len_frl,  Option.map_some, Option.map_none, Option.bind_some, List.map_cons, List.map_nil, List.length_cons, List.length_nil, List.length_append, List.length_map, List.length_set, List.cons_append, List.nil_append, List.getElem?_cons_zero, List.getElem?_cons_succ, List.set_cons_zero, List.set_cons_succ, if_true, if_false, Bool.false_eq_true, Bool.true_eq_false, Bool.not_true, Bool.not_false, decide_true, decide_false, Nat.reduceEqDiff, Nat.zero_lt_succ, List.replicate_succ, List.replicate_zero, Nat.reduceSub, Nat.reduceAdd, Nat.reduceLT, Nat.reduceLeDiff, Nat.zero_le, id, lstK_ok, tupK_ok, sub_lst D.at_, sub_lst D.new.at_, atW_0, eqD_nil D.new.cel getLast, List.isEmpty_nil, Bool.not_true]
    exact h false (fun z => by cases z)
  · have hc := D.new (o := .lst []).cel
    rw [e, List.concat_eq_append, List.map_append, List.map_cons, List.map_nil] at hc
    have he : ns.isEmpty = false := by rw [e]; simp
    have hl : ∀ u : List W, (u ++ [W.int y])[(u ++ [W.int y]).length - 1]? = some (.int y) := fun u => by simp
    try simp -implicitDefEqProofs only [wp_ok, wp_bind, wp_noexc, wp_seq, wp_skip, wp_brk, wp_cnt, wp_retN, wp_ret, wp_set, wp_par, wp_unp, wp_sto, wp_xpr, wp_ite, wp_for, wp_whl, wp_tru, sk_nx, sk_rt, sk_bk, sk_ct, lk_nx, lk_ct, lk_bk, lk_rt, ik_true, ik_false, ev, evs, evo, evi, evc, evd, keyK_str, keyK_int, retK_rt, retK_nx, iteK_true, iteK_false, truK0_bl, truK0_int, truK0_tup, truK0_frl, truK0_non, scK_bl, wp_callK, cmpO, cmp_eq, cmp_ne, cmp_lt, cmp_le, cmp_gt, cmp_ge, cmp_isN, cmp_notN, eqD_int, eqD_str, bin_int, binI_add, binI_sub, of_some, negK_int, setK_nm, setK_tp, setsK, asg, asgs, tgsOf, intK, rngK, srcK, subO, startE, newR, new, bi_int, bi_abs, bi_len_tup, bi_len_frl,  Option.map_some, Option.map_none, Option.bind_some, List.map_cons, List.map_nil, List.length_cons, List.length_nil, List.length_append, List.length_map, List.length_set, List.cons_append, List.nil_append, List.getElem?_cons_zero, List.getElem?_cons_succ, List.set_cons_zero, List.set_cons_succ, if_true, if_false, Bool.false_eq_true, Bool.true_eq_false, Bool.not_true, Bool.not_false, decide_true, decide_false, Nat.reduceEqDiff, Nat.zero_lt_succ, List.replicate_succ, List.replicate_zero, Nat.reduceSub, Nat.reduceAdd, Nat.reduceLT, Nat.reduceLeDiff, Nat.zero_le, id, lstK_ok, tupK_ok, sub_lst D.at_, sub_lst D.new.at_, atW_0, eqD_nil D.new.cel getLast, he, Bool.not_false]
    try rw [if_neg (by decide)]
    try simp -implicitDefEqProofs only [wp_ok, wp_bind, wp_noexc, wp_seq, wp_skip, wp_brk, wp_cnt, wp_retN, wp_ret, wp_set, wp_par, wp_unp, wp_sto, wp_xpr, wp_ite, wp_for, wp_whl, wp_tru, sk_nx, sk_rt, sk_bk, sk_ct, lk_nx, lk_ct, lk_bk, lk_rt, ik_true, ik_false, ev, evs, evo, evi, evc, evd, keyK_str, keyK_int, retK_rt, retK_nx, iteK_true, iteK_false, truK0_bl, truK0_int, truK0_tup, truK0_frl, truK0_non, scK_bl, wp_callK, cmpO, cmp_eq, cmp_ne, cmp_lt, cmp_le, cmp_gt, cmp_ge, cmp_isN, cmp_notN, eqD_int, eqD_str, bin_int, binI_add, binI_sub, of_some, negK_int, setK_nm, setK_tp, setsK, asg, asgs, tgsOf, intK, rngK, srcK, subO, startE, newR, new, bi_int, bi_abs, bi_len_tup, bi_len_frl,  Option.map_some, Option.map_none, Option.bind_some, List.map_cons, List.map_nil, List.length_cons, List.length_nil, List.length_append, List.length_map, List.length_set, List.cons_append, List.nil_append, List.getElem?_cons_zero, List.getElem?_cons_succ, List.set_cons_zero, List.set_cons_succ, if_true, if_false, Bool.false_eq_true, Bool.true_eq_false, Bool.not_true, Bool.not_false, decide_true, decide_false, Nat.reduceEqDiff, Nat.zero_lt_succ, List.replicate_succ, List.replicate_zero, Nat.reduceSub, Nat.reduceAdd, Nat.reduceLT, Nat.reduceLeDiff, Nat.zero_le, id, lstK_ok, tupK_ok, sub_lst D.at_, sub_lst D.new.at_, atW_0, sub_lst hc]
    rw [show (-1 : Int) = -1 from rfl, atW_last, hl]
    try simp -implicitDefEqProofs only [wp_ok, wp_bind, wp_noexc, wp_seq, wp_skip, wp_brk, wp_cnt, wp_retN, wp_ret, wp_set, wp_par, wp_unp, wp_sto, wp_xpr, wp_ite, wp_for, wp_whl, wp_tru, sk_nx, sk_rt, sk_bk, sk_ct, lk_nx, lk_ct, lk_bk, lk_rt, ik_true, ik_false, ev, evs, evo, evi, evc, evd, keyK_str, keyK_int, retK_rt, retK_nx, iteK_true, iteK_false, truK0_bl, truK0_int, truK0_tup, truK0_frl, truK0_non, scK_bl, wp_callK, cmpO, cmp_eq, cmp_ne, cmp_lt, cmp_le, cmp_gt, cmp_ge, cmp_isN, cmp_notN, eqD_int, eqD_str, bin_int, binI_add, binI_sub, of_some, negK_int, setK_nm, setK_tp, setsK, asg, asgs, tgsOf, intK, rngK, srcK, subO, startE, newR, new, bi_int, bi_abs, bi_len_tup, bi_len_frl,  Option.map_some, Option.map_none, Option.bind_some, List.map_cons, List.map_nil, List.length_cons, List.length_nil, List.length_append, List.length_map, List.length_set, List.cons_append, List.nil_append, List.getElem?_cons_zero, List.getElem?_cons_succ, List.set_cons_zero, List.set_cons_succ, if_true, if_false, Bool.false_eq_true, Bool.true_eq_false, Bool.not_true, Bool.not_false, decide_true, decide_false, Nat.reduceEqDiff, Nat.zero_lt_succ, List.replicate_succ, List.replicate_zero, Nat.reduceSub, Nat.reduceAdd, Nat.reduceLT, Nat.reduceLeDiff, Nat.zero_le, id, lstK_ok, tupK_ok]
    exact h _ fun _ => by rw [e]; simp
def DrawQ (st : Sto) (d c : Nat) (m : Int) (w : W) (st' : Sto) : Prop := ∃ r : Int, w = .int r ∧ 0 ≤ r ∧ r < m ∧ Deal st' d c ∧ Keep d c st st'
theorem any_rest {m : Int} {b : Int} {ns : List Int} (D : DealN st d c b ns) (hm : 0 < m) (hd : divOk m = true) :
    Wp (ex cl anyR [some (.ref d), some (.int m), none] st) fun o st' => Wp (retK o st') (DrawQ st d c m) := by
  unfold anyR
  have k1 : Keep d c st (st ++ [Ob.lst []]) := Keep.new
  have D1 := D.new (o := Ob.lst [])
  rcases List.eq_nil_or_concat ns with e | ⟨ms, y, e⟩
  · subst e
    have D2 := D1.turn (b' := (b * 40693 + 71) % 2147483647)
    have hs : setI (W.ref d) (W.int 1) (W.int ((b * 40693 + 71) % 2147483647)) (st ++ [Ob.lst []]) = some ((st ++ [Ob.lst []]).set d (Ob.lst [W.ref c, W.int ((b * 40693 + 71) % 2147483647)])) := by
      simp only [setI, D1.at_]
      rfl
    have hmul : binI .mul b 40693 = some (b * 40693) := by rw [binI_mul, if_pos (by simp [small64])]
    have hf : ∀ x : Int, binI .fdiv x 64 = some (x / 64) := fun x => by rw [binI_fdiv, if_pos (by decide)]
    have hmo : ∀ x : Int, binI .mod x 2147483647 = some (x % 2147483647) := fun x => binI_mod_pos (by decide)
    try simp -implicitDefEqProofs only [wp_ok, wp_bind, wp_noexc, wp_seq, wp_skip, wp_brk, wp_cnt, wp_retN, wp_ret, wp_set, wp_par, wp_unp, wp_sto, wp_xpr, wp_ite, wp_for, wp_whl, wp_tru, sk_nx, sk_rt, sk_bk, sk_ct, lk_nx, lk_ct, lk_bk, lk_rt, ik_true, ik_false, ev, evs, evo, evi, evc, evd, keyK_str, keyK_int, retK_rt, retK_nx, iteK_true, iteK_false, truK0_bl, truK0_int, truK0_tup, truK0_frl, truK0_non, scK_bl, wp_callK, cmpO, cmp_eq, cmp_ne, cmp_lt, cmp_le, cmp_gt, cmp_ge, cmp_isN, cmp_notN, eqD_int, eqD_str, bin_int, binI_add, binI_sub, of_some, negK_int, setK_nm, setK_tp, setsK, asg, asgs, tgsOf, intK, rngK, srcK, subO, startE, newR, new, bi_int, bi_abs, bi_len_tup, bi_len_frl,  Option.map_some, Option.map_none, Option.bind_some, List.map_cons, List.map_nil, List.length_cons, List.length_nil, List.length_append, List.length_map, List.length_set, List.cons_append, List.nil_append, List.getElem?_cons_zero, List.getElem?_cons_succ, List.set_cons_zero, List.set_cons_succ, if_true, if_false, Bool.false_eq_true, Bool.true_eq_false, Bool.not_true, Bool.not_false, decide_true, decide_false, Nat.reduceEqDiff, Nat.zero_lt_succ, List.replicate_succ, List.replicate_zero, Nat.reduceSub, Nat.reduceAdd, Nat.reduceLT, Nat.reduceLeDiff, Nat.zero_le, id, lstK_ok, tupK_ok, sub_lst D.at_, sub_lst D1.at_, sub_lst D2.at_, atW_0, atW_1, eqD_nil D1.cel getLast, List.isEmpty_nil, Bool.not_true, hmul, hf, hmo, binI_mod_pos hm, hs, stoK]
    exact ⟨_, rfl, Int.emod_nonneg _ (by omega), Int.emod_lt_of_pos _ hm, D2.deal, k1.trans (Keep.set (.inl rfl))⟩
  · have he : ns.isEmpty = false := by rw [e]; simp
    have hc := D1.cel
    have e' : ns.map W.int = ms.map W.int ++ [W.int y] := by rw [e]; simp
    rw [e'] at hc
    have hfew : (ms ++ [y / m]).length ≤ 63 := by have := D.few; rw [e] at this; simpa using this
    have D3 := D1.put (ms := ms) (by simp at hfew; omega)
    have D4 := D3.put (ms := ms ++ [y / m]) hfew
    have hl : (ms.map W.int).length < sizeLine := by rw [List.length_map]; simp at hfew; unfold sizeLine; omega
    have hf : binI .fdiv y m = some (y / m) := by rw [binI_fdiv, if_pos hd]
    have hp := mt_pop hc
    have ha := mt_append (y := W.int (y / m)) D3.cel hl
    try simp -implicitDefEqProofs only [wp_ok, wp_bind, wp_noexc, wp_seq, wp_skip, wp_brk, wp_cnt, wp_retN, wp_ret, wp_set, wp_par, wp_unp, wp_sto, wp_xpr, wp_ite, wp_for, wp_whl, wp_tru, sk_nx, sk_rt, sk_bk, sk_ct, lk_nx, lk_ct, lk_bk, lk_rt, ik_true, ik_false, ev, evs, evo, evi, evc, evd, keyK_str, keyK_int, retK_rt, retK_nx, iteK_true, iteK_false, truK0_bl, truK0_int, truK0_tup, truK0_frl, truK0_non, scK_bl, wp_callK, cmpO, cmp_eq, cmp_ne, cmp_lt, cmp_le, cmp_gt, cmp_ge, cmp_isN, cmp_notN, eqD_int, eqD_str, bin_int, binI_add, binI_sub, of_some, negK_int, setK_nm, setK_tp, setsK, asg, asgs, tgsOf, intK, rngK, srcK, subO, startE, newR, new, bi_int, bi_abs, bi_len_tup, bi_len_frl,  Option.map_some, Option.map_none, Option.bind_some, List.map_cons, List.map_nil, List.length_cons, List.length_nil, List.length_append, List.length_map, List.length_set, List.cons_append, List.nil_append, List.getElem?_cons_zero, List.getElem?_cons_succ, List.set_cons_zero, List.set_cons_succ, if_true, if_false, Bool.false_eq_true, Bool.true_eq_false, Bool.not_true, Bool.not_false, decide_true, decide_false, Nat.reduceEqDiff, Nat.zero_lt_succ, List.replicate_succ, List.replicate_zero, Nat.reduceSub, Nat.reduceAdd, Nat.reduceLT, Nat.reduceLeDiff, Nat.zero_le, id, lstK_ok, tupK_ok, sub_lst D.at_, sub_lst D1.at_, atW_0, eqD_nil D1.cel getLast, he, Bool.not_false, isLK_lst D1.cel, hp, sub_lst D3.at_, isLK_lst D3.cel, hf, ha, binI_mod_pos hm]
    rw [List.map_append, List.map_cons, List.map_nil] at D4
    exact ⟨_, rfl, Int.emod_nonneg _ (by omega), Int.emod_lt_of_pos _ hm, D4.deal, (k1.trans (Keep.set (.inr rfl))).trans (Keep.set (.inr rfl))⟩
/-- a draw: a number from 0 to b - 1, the source goes on -/
theorem any_ok {tab : List Fd} {n i : Nat} {m : Int} (ht : tab[i]? = some ⟨2, 3, cAny⟩) (D : Deal st d c) (hm : 0 < m) (hd : divOk m = true) :
    Wp (run tab (n + 1) i [.ref d, .int m] st) (DrawQ st d c m) := by
  refine wp_run ht rfl ?_
  obtain ⟨b, ns, D⟩ := D.n
  unfold cAny
  simp only [startE, List.map_cons, List.map_nil, List.length_cons, List.length_nil, Nat.reduceAdd, Nat.reduceSub, List.replicate_succ, List.replicate_zero, List.cons_append, List.nil_append, wp_seq, wp_whl]
  refine wp_whlL (fun k en st' => en = [some (.ref d), some (.int m), none] ∧ ∃ ns, DealN st' d c b ns ∧ Keep d c st st' ∧ k = ns.length) ?_ FU ns.length _ _ (Nat.lt_of_le_of_lt D.few (by decide)) ⟨rfl, ns, D, Keep.refl, rfl⟩
  rintro k en st' ⟨rfl, ns, D, kp, rfl⟩
  refine any_test D _ fun k hk => ?_
  cases k with
  | false =>
    refine Wp.mono (any_rest D.new hm hd) fun o st2 q => q.mono ?_
    rintro w st3 ⟨r, h1, h2, h3, h4, h5⟩
    exact ⟨r, h1, h2, h3, h4, (kp.trans Keep.new).trans h5⟩
  | true =>
    have hn := hk rfl
    have D1 := D.new (o := Ob.lst [])
    rcases List.eq_nil_or_concat ns with e | ⟨ms, y, e⟩
    · exact absurd e hn
    · have hc := D1.cel
      have e' : ns.map W.int = ms.map W.int ++ [W.int y] := by rw [e]; simp
      rw [e'] at hc
      have hfew : ms.length + 1 ≤ 63 := by have := D.few; rw [e] at this; simpa using this
      have D3 := D1.put (ms := ms) (by omega)
      have hp := mt_pop hc
      refine ⟨by rw [e]; simp, ?_⟩
      unfold anyB
      try simp -implicitDefEqProofs only [wp_ok, wp_bind, wp_noexc, wp_seq, wp_skip, wp_brk, wp_cnt, wp_retN, wp_ret, wp_set, wp_par, wp_unp, wp_sto, wp_xpr, wp_ite, wp_for, wp_whl, wp_tru, sk_nx, sk_rt, sk_bk, sk_ct, lk_nx, lk_ct, lk_bk, lk_rt, ik_true, ik_false, ev, evs, evo, evi, evc, evd, keyK_str, keyK_int, retK_rt, retK_nx, iteK_true, iteK_false, truK0_bl, truK0_int, truK0_tup, truK0_frl, truK0_non, scK_bl, wp_callK, cmpO, cmp_eq, cmp_ne, cmp_lt, cmp_le, cmp_gt, cmp_ge, cmp_isN, cmp_notN, eqD_int, eqD_str, bin_int, binI_add, binI_sub, of_some, negK_int, setK_nm, setK_tp, setsK, asg, asgs, tgsOf, intK, rngK, srcK, subO, startE, newR, new, bi_int, bi_abs, bi_len_tup, bi_len_frl,  Option.map_some, Option.map_none, Option.bind_some, List.map_cons, List.map_nil, List.length_cons, List.length_nil, List.length_append, List.length_map, List.length_set, List.cons_append, List.nil_append, List.getElem?_cons_zero, List.getElem?_cons_succ, List.set_cons_zero, List.set_cons_succ, if_true, if_false, Bool.false_eq_true, Bool.true_eq_false, Bool.not_true, Bool.not_false, decide_true, decide_false, Nat.reduceEqDiff, Nat.zero_lt_succ, List.replicate_succ, List.replicate_zero, Nat.reduceSub, Nat.reduceAdd, Nat.reduceLT, Nat.reduceLeDiff, Nat.zero_le, id, lstK_ok, tupK_ok, sub_lst D1.at_, atW_0, isLK_lst D1.cel, hp]
      exact ⟨ms.length, by rw [e]; simp, by trivial, ms, D3, (kp.trans Keep.new).trans (Keep.set (.inr rfl)), rfl⟩
end
end Ci
/-! Cj3: one of some things; the source drawn from the script. -/
namespace Ci
open PySem

def cOf (f : Nat) : S := (.ret (.ix (.var 1) (.call f none (.cons (.var 0) (.cons (.bi .len (.cons (.var 1) .nil)) .nil)))))
def cMixed (f : Nat) : S :=
  (.seq (.par [2, 3] (.cons (.bi .list (.cons (.var 1) .nil)) (.cons (.lst .nil) .nil)))
  (.seq (.whl (.cmp .ne (.var 2) (.lst .nil)) (.xpr (.mt .append (.var 3) (.cons (.mt .popAt (.var 2) (.cons (.call f none (.cons (.var 0) (.cons (.bi .len (.cons (.var 2) .nil)) .nil))) .nil)) .nil))))
  (.ret (.var 3))))
theorem divOk_len {n : Nat} (h0 : 0 < n) (h : n < 1073741824) : divOk (n : Int) = true := by
  unfold divOk
  rw [decide_eq_true (by omega : 0 < (n : Int)), decide_eq_true (by omega : (n : Int) < 1073741824)]
  rfl
section
variable {tab : List Fd} {n i f : Nat} {st : Sto} {d c : Nat}
def OfQ (st : Sto) (d c : Nat) (ws : List W) (w : W) (st' : Sto) : Prop := w ∈ ws ∧ Deal st' d c ∧ Keep d c st st'
theorem of_ok {a : Nat} {ws : List W} (hf : tab[f]? = some ⟨2, 3, cAny⟩) (ht : tab[i]? = some ⟨2, 2, cOf f⟩) (D : Deal st d c) (O : Own d c st a ws) (h0 : 0 < ws.length) (h1 : ws.length < 1073741824) :
    Wp (run tab (n + 2) i [.ref d, .ref a] st) (OfQ st d c ws) := by
  refine wp_run ht rfl ?_
  unfold cOf
  try simp -implicitDefEqProofs only [wp_ok, wp_bind, wp_noexc, wp_seq, wp_skip, wp_brk, wp_cnt, wp_retN, wp_ret, wp_set, wp_par, wp_unp, wp_sto, wp_xpr, wp_ite, wp_for, wp_whl, wp_tru, sk_nx, sk_rt, sk_bk, sk_ct, lk_nx, lk_ct, lk_bk, lk_rt, ik_true, ik_false, ev, evs, evo, evi, evc, evd, keyK_str, keyK_int, retK_rt, retK_nx, iteK_true, iteK_false, truK0_bl, truK0_int, truK0_tup, truK0_frl, truK0_non, scK_bl, wp_callK, cmpO, cmp_eq, cmp_ne, cmp_lt, cmp_le, cmp_gt, cmp_ge, cmp_isN, cmp_notN, eqD_int, eqD_str, bin_int, binI_add, binI_sub, of_some, negK_int, setK_nm, setK_tp, setsK, asg, asgs, tgsOf, intK, rngK, srcK, subO, startE, newR, new, bi_int, bi_abs, bi_len_tup, bi_len_frl,  Option.map_some, Option.map_none, Option.bind_some, List.map_cons, List.map_nil, List.length_cons, List.length_nil, List.length_append, List.length_map, List.length_set, List.cons_append, List.nil_append, List.getElem?_cons_zero, List.getElem?_cons_succ, List.set_cons_zero, List.set_cons_succ, if_true, if_false, Bool.false_eq_true, Bool.true_eq_false, Bool.not_true, Bool.not_false, decide_true, decide_false, Nat.reduceEqDiff, Nat.zero_lt_succ, List.replicate_succ, List.replicate_zero, Nat.reduceSub, Nat.reduceAdd, Nat.reduceLT, Nat.reduceLeDiff, Nat.zero_le, id, lstK_ok, tupK_ok, bi_len_lst O.1]
  refine Wp.mono (any_ok hf D (by omega) (divOk_len h0 h1)) ?_
  rintro w st1 ⟨r, rfl, r0, r1, D1, k⟩
  obtain ⟨m, rfl⟩ := Int.eq_ofNat_of_zero_le r0
  have hm : m < ws.length := by omega
  have e : sub st1 (.ref a) (.int (m : Int)) = some ws[m] := by rw [sub_lst (O.keep k).1, atW_nat, List.getElem?_eq_getElem hm]
  try simp -implicitDefEqProofs only [wp_ok, wp_bind, wp_noexc, wp_seq, wp_skip, wp_brk, wp_cnt, wp_retN, wp_ret, wp_set, wp_par, wp_unp, wp_sto, wp_xpr, wp_ite, wp_for, wp_whl, wp_tru, sk_nx, sk_rt, sk_bk, sk_ct, lk_nx, lk_ct, lk_bk, lk_rt, ik_true, ik_false, ev, evs, evo, evi, evc, evd, keyK_str, keyK_int, retK_rt, retK_nx, iteK_true, iteK_false, truK0_bl, truK0_int, truK0_tup, truK0_frl, truK0_non, scK_bl, wp_callK, cmpO, cmp_eq, cmp_ne, cmp_lt, cmp_le, cmp_gt, cmp_ge, cmp_isN, cmp_notN, eqD_int, eqD_str, bin_int, binI_add, binI_sub, of_some, negK_int, setK_nm, setK_tp, setsK, asg, asgs, tgsOf, intK, rngK, srcK, subO, startE, newR, new, bi_int, bi_abs, bi_len_tup, bi_len_frl,  Option.map_some, Option.map_none, Option.bind_some, List.map_cons, List.map_nil, List.length_cons, List.length_nil, List.length_append, List.length_map, List.length_set, List.cons_append, List.nil_append, List.getElem?_cons_zero, List.getElem?_cons_succ, List.set_cons_zero, List.set_cons_succ, if_true, if_false, Bool.false_eq_true, Bool.true_eq_false, Bool.not_true, Bool.not_false, decide_true, decide_false, Nat.reduceEqDiff, Nat.zero_lt_succ, List.replicate_succ, List.replicate_zero, Nat.reduceSub, Nat.reduceAdd, Nat.reduceLT, Nat.reduceLeDiff, Nat.zero_le, id, lstK_ok, tupK_ok, e]
  exact ⟨List.getElem_mem hm, D1, k⟩
theorem of_tup {ws : List W} (hf : tab[f]? = some ⟨2, 3, cAny⟩) (ht : tab[i]? = some ⟨2, 2, cOf f⟩) (D : Deal st d c) (h0 : 0 < ws.length) (h1 : ws.length < 1073741824) :
    Wp (run tab (n + 2) i [.ref d, .tup ws] st) (OfQ st d c ws) := by
  refine wp_run ht rfl ?_
  unfold cOf
  try simp -implicitDefEqProofs only [wp_ok, wp_bind, wp_noexc, wp_seq, wp_skip, wp_brk, wp_cnt, wp_retN, wp_ret, wp_set, wp_par, wp_unp, wp_sto, wp_xpr, wp_ite, wp_for, wp_whl, wp_tru, sk_nx, sk_rt, sk_bk, sk_ct, lk_nx, lk_ct, lk_bk, lk_rt, ik_true, ik_false, ev, evs, evo, evi, evc, evd, keyK_str, keyK_int, retK_rt, retK_nx, iteK_true, iteK_false, truK0_bl, truK0_int, truK0_tup, truK0_frl, truK0_non, scK_bl, wp_callK, cmpO, cmp_eq, cmp_ne, cmp_lt, cmp_le, cmp_gt, cmp_ge, cmp_isN, cmp_notN, eqD_int, eqD_str, bin_int, binI_add, binI_sub, of_some, negK_int, setK_nm, setK_tp, setsK, asg, asgs, tgsOf, intK, rngK, srcK, subO, startE, newR, new, bi_int, bi_abs, bi_len_tup, bi_len_frl,  Option.map_some, Option.map_none, Option.bind_some, List.map_cons, List.map_nil, List.length_cons, List.length_nil, List.length_append, List.length_map, List.length_set, List.cons_append, List.nil_append, List.getElem?_cons_zero, List.getElem?_cons_succ, List.set_cons_zero, List.set_cons_succ, if_true, if_false, Bool.false_eq_true, Bool.true_eq_false, Bool.not_true, Bool.not_false, decide_true, decide_false, Nat.reduceEqDiff, Nat.zero_lt_succ, List.replicate_succ, List.replicate_zero, Nat.reduceSub, Nat.reduceAdd, Nat.reduceLT, Nat.reduceLeDiff, Nat.zero_le, id, lstK_ok, tupK_ok]
  refine Wp.mono (any_ok hf D (by omega) (divOk_len h0 h1)) ?_
  rintro w st1 ⟨r, rfl, r0, r1, D1, k⟩
  obtain ⟨m, rfl⟩ := Int.eq_ofNat_of_zero_le r0
  have hm : m < ws.length := by omega
  have e : sub st1 (.tup ws) (.int (m : Int)) = some ws[m] := by rw [sub_tup, atW_nat, List.getElem?_eq_getElem hm]
  try simp -implicitDefEqProofs only [wp_ok, wp_bind, wp_noexc, wp_seq, wp_skip, wp_brk, wp_cnt, wp_retN, wp_ret, wp_set, wp_par, wp_unp, wp_sto, wp_xpr, wp_ite, wp_for, wp_whl, wp_tru, sk_nx, sk_rt, sk_bk, sk_ct, lk_nx, lk_ct, lk_bk, lk_rt, ik_true, ik_false, ev, evs, evo, evi, evc, evd, keyK_str, keyK_int, retK_rt, retK_nx, iteK_true, iteK_false, truK0_bl, truK0_int, truK0_tup, truK0_frl, truK0_non, scK_bl, wp_callK, cmpO, cmp_eq, cmp_ne, cmp_lt, cmp_le, cmp_gt, cmp_ge, cmp_isN, cmp_notN, eqD_int, eqD_str, bin_int, binI_add, binI_sub, of_some, negK_int, setK_nm, setK_tp, setsK, asg, asgs, tgsOf, intK, rngK, srcK, subO, startE, newR, new, bi_int, bi_abs, bi_len_tup, bi_len_frl,  Option.map_some, Option.map_none, Option.bind_some, List.map_cons, List.map_nil, List.length_cons, List.length_nil, List.length_append, List.length_map, List.length_set, List.cons_append, List.nil_append, List.getElem?_cons_zero, List.getElem?_cons_succ, List.set_cons_zero, List.set_cons_succ, if_true, if_false, Bool.false_eq_true, Bool.true_eq_false, Bool.not_true, Bool.not_false, decide_true, decide_false, Nat.reduceEqDiff, Nat.zero_lt_succ, List.replicate_succ, List.replicate_zero, Nat.reduceSub, Nat.reduceAdd, Nat.reduceLT, Nat.reduceLeDiff, Nat.zero_le, id, lstK_ok, tupK_ok, e]
  exact ⟨List.getElem_mem hm, D1, k⟩
end

def cDraw : S :=
  (.seq (.set 2 (.lc [4] (.nm 4) (.val (.sl (.var 0) .nil (.cons (.con (.int 48)) .nil))) .nil (.bi .abs (.cons (.bi .int (.cons (.var 4) .nil)) .nil))))
  (.seq (.set 3 (.bin .add (.con (.int 7919)) (.bin .mul (.con (.int 104729)) (.var 1))))
  (.seq (.for_ (.nm 4) (.val (.var 2)) (.set 3 (.bin .mod (.bi .int (.cons (.bin .add (.bin .add (.bin .mul (.var 3) (.con (.int 48271))) (.bin .mod (.var 4) (.con (.int 2147483549)))) (.con (.int 11))) .nil)) (.con (.int 2147483647)))))
  (.ret (.lst (.cons (.rev (.lc [4] (.nm 4) (.val (.var 2)) (.cons (.cmp .ge (.var 4) (.bin .pow (.con (.int 10)) (.con (.int 18)))) .nil) (.var 4))) (.cons (.var 3) .nil)))))))
theorem cut48 (ns : List Int) : cutW (ns.map W.int) none (some 48) = (ns.take (min 48 ns.length)).map W.int := by
  unfold cutW
  rw [show HT.sIx (ns.map W.int).length 0 none = 0 from rfl, show HT.sIx (ns.map W.int).length (ns.map W.int).length (some 48) = min 48 (ns.map W.int).length from HT.sIx_nat _ _ 48]
  simp [List.map_take]
theorem srcOf_lst {st : Sto} {n : Nat} {ws : List W} (h : st[n]? = some (.lst ws)) : srcOf st (.ref n) = some (.live n) := by simp only [srcOf, h]
theorem get_live {st : Sto} {n k : Nat} {ws : List W} (h : st[n]? = some (.lst ws)) : (Src.live n).get st k = some ws[k]? := by simp only [Src.get, h]
theorem slW_frl {ws : List W} {lo hi : Option Int} {st : Sto} : slW (.frl ws) lo hi st = some (.ref st.length, st ++ [.lst (cutW ws lo hi)]) := rfl
theorem revW_lst {st : Sto} {n : Nat} {ws : List W} (h : st[n]? = some (.lst ws)) : revW (.ref n) st = some (.ref st.length, st ++ [.lst ws.reverse]) := by
  simp only [revW, lstOf, h]
  rfl
def DrawnQ (st : Sto) (w : W) (st' : Sto) : Prop := ∃ d c, w = .ref d ∧ Deal st' d c ∧ ∀ (m : Nat) (o : Ob), st[m]? = some o → st'[m]? = some o ∧ m ≠ d ∧ m ≠ c
theorem draw_ok {tab : List Fd} {n i : Nat} {st : Sto} {ns : List Int} {salt : Int} (ht : tab[i]? = some ⟨2, 5, cDraw⟩) (hs : small64 salt = true) (hl : ns.length ≤ 63) :
    Wp (run tab (n + 1) i [.frl (ns.map .int), .int salt] st) (DrawnQ st) := by
  refine wp_run ht rfl ?_
  unfold cDraw
  have h1 : binI .mul 104729 salt = some (104729 * salt) := by rw [binI_mul, if_pos (by rw [hs]; simp)]
  try simp -implicitDefEqProofs only [wp_ok, wp_bind, wp_noexc, wp_seq, wp_skip, wp_brk, wp_cnt, wp_retN, wp_ret, wp_set, wp_par, wp_unp, wp_sto, wp_xpr, wp_ite, wp_for, wp_whl, wp_tru, sk_nx, sk_rt, sk_bk, sk_ct, lk_nx, lk_ct, lk_bk, lk_rt, ik_true, ik_false, ev, evs, evo, evi, evc, evd, keyK_str, keyK_int, retK_rt, retK_nx, iteK_true, iteK_false, truK0_bl, truK0_int, truK0_tup, truK0_frl, truK0_non, scK_bl, wp_callK, cmpO, cmp_eq, cmp_ne, cmp_lt, cmp_le, cmp_gt, cmp_ge, cmp_isN, cmp_notN, eqD_int, eqD_str, bin_int, binI_add, binI_sub, of_some, negK_int, setK_nm, setK_tp, setsK, asg, asgs, tgsOf, intK, rngK, srcK, subO, startE, newR, new, bi_int, bi_abs, bi_len_tup, bi_len_frl,  Option.map_some, Option.map_none, Option.bind_some, List.map_cons, List.map_nil, List.length_cons, List.length_nil, List.length_append, List.length_map, List.length_set, List.cons_append, List.nil_append, List.getElem?_cons_zero, List.getElem?_cons_succ, List.set_cons_zero, List.set_cons_succ, if_true, if_false, Bool.false_eq_true, Bool.true_eq_false, Bool.not_true, Bool.not_false, decide_true, decide_false, Nat.reduceEqDiff, Nat.zero_lt_succ, List.replicate_succ, List.replicate_zero, Nat.reduceSub, Nat.reduceAdd, Nat.reduceLT, Nat.reduceLeDiff, Nat.zero_le, id, lstK_ok, tupK_ok, slW_frl, cut48]
  rw [srcOf_lst getLast]
  try simp -implicitDefEqProofs only [wp_ok, wp_bind, wp_noexc, wp_seq, wp_skip, wp_brk, wp_cnt, wp_retN, wp_ret, wp_set, wp_par, wp_unp, wp_sto, wp_xpr, wp_ite, wp_for, wp_whl, wp_tru, sk_nx, sk_rt, sk_bk, sk_ct, lk_nx, lk_ct, lk_bk, lk_rt, ik_true, ik_false, ev, evs, evo, evi, evc, evd, keyK_str, keyK_int, retK_rt, retK_nx, iteK_true, iteK_false, truK0_bl, truK0_int, truK0_tup, truK0_frl, truK0_non, scK_bl, wp_callK, cmpO, cmp_eq, cmp_ne, cmp_lt, cmp_le, cmp_gt, cmp_ge, cmp_isN, cmp_notN, eqD_int, eqD_str, bin_int, binI_add, binI_sub, of_some, negK_int, setK_nm, setK_tp, setsK, asg, asgs, tgsOf, intK, rngK, srcK, subO, startE, newR, new, bi_int, bi_abs, bi_len_tup, bi_len_frl,  Option.map_some, Option.map_none, Option.bind_some, List.map_cons, List.map_nil, List.length_cons, List.length_nil, List.length_append, List.length_map, List.length_set, List.cons_append, List.nil_append, List.getElem?_cons_zero, List.getElem?_cons_succ, List.set_cons_zero, List.set_cons_succ, if_true, if_false, Bool.false_eq_true, Bool.true_eq_false, Bool.not_true, Bool.not_false, decide_true, decide_false, Nat.reduceEqDiff, Nat.zero_lt_succ, List.replicate_succ, List.replicate_zero, Nat.reduceSub, Nat.reduceAdd, Nat.reduceLT, Nat.reduceLeDiff, Nat.zero_le, id, lstK_ok, tupK_ok]
  obtain ⟨cells, hcells⟩ : ∃ x, x = ns.take (min 48 ns.length) := ⟨_, rfl⟩
  obtain ⟨st1, hst1⟩ : ∃ x : Sto, x = st ++ [Ob.lst (cells.map W.int)] := ⟨_, rfl⟩
  have hlen : st.length + 1 = st1.length := by rw [hst1]; simp
  rw [← hcells, ← hst1, hlen]
  have hcl : cells.length ≤ 63 := by rw [hcells, List.length_take]; omega
  have g1 : st1[st.length]? = some (.lst (cells.map W.int)) := by rw [hst1]; exact getLast
  have old1 : ∀ (m : Nat) (o : Ob), st[m]? = some o → st1[m]? = some o := fun m o h => by rw [hst1]; exact getNew h
  refine wp_lcL (cells.map W.int) (fun k st' => ∃ ms : List Int, ms.length = k ∧ st' = st1 ++ [Ob.lst (ms.map W.int)]) ?_ ?_ ?_ FU 0 _ (Nat.zero_le _) ?_ ⟨[], rfl, rfl⟩
  · rintro k st' ⟨ms, _, rfl⟩
    exact get_live (getNew g1)
  · rintro k w st' hw ⟨ms, hk, rfl⟩
    rw [List.getElem?_map] at hw
    obtain ⟨x, hx, rfl⟩ := Option.map_eq_some_iff.mp hw
    have hkl := (List.getElem?_eq_some_iff.mp hx).1
    refine ⟨_, rfl, ?_⟩
    try simp -implicitDefEqProofs only [wp_ok, wp_bind, wp_noexc, wp_seq, wp_skip, wp_brk, wp_cnt, wp_retN, wp_ret, wp_set, wp_par, wp_unp, wp_sto, wp_xpr, wp_ite, wp_for, wp_whl, wp_tru, sk_nx, sk_rt, sk_bk, sk_ct, lk_nx, lk_ct, lk_bk, lk_rt, ik_true, ik_false, ev, evs, evo, evi, evc, evd, keyK_str, keyK_int, retK_rt, retK_nx, iteK_true, iteK_false, truK0_bl, truK0_int, truK0_tup, truK0_frl, truK0_non, scK_bl, wp_callK, cmpO, cmp_eq, cmp_ne, cmp_lt, cmp_le, cmp_gt, cmp_ge, cmp_isN, cmp_notN, eqD_int, eqD_str, bin_int, binI_add, binI_sub, of_some, negK_int, setK_nm, setK_tp, setsK, asg, asgs, tgsOf, intK, rngK, srcK, subO, startE, newR, new, bi_int, bi_abs, bi_len_tup, bi_len_frl,  Option.map_some, Option.map_none, Option.bind_some, List.map_cons, List.map_nil, List.length_cons, List.length_nil, List.length_append, List.length_map, List.length_set, List.cons_append, List.nil_append, List.getElem?_cons_zero, List.getElem?_cons_succ, List.set_cons_zero, List.set_cons_succ, if_true, if_false, Bool.false_eq_true, Bool.true_eq_false, Bool.not_true, Bool.not_false, decide_true, decide_false, Nat.reduceEqDiff, Nat.zero_lt_succ, List.replicate_succ, List.replicate_zero, Nat.reduceSub, Nat.reduceAdd, Nat.reduceLT, Nat.reduceLeDiff, Nat.zero_le, id, lstK_ok, tupK_ok, wipeE]
    refine ⟨ms.map W.int, getLast, by rw [List.length_map]; unfold sizeLine; omega, ms ++ [if x < 0 then -x else x], ?_, ?_⟩
    · simp [hk]
    · simp
  · rintro st' ⟨ms, hm, rfl⟩
    rw [List.length_map] at hm
    obtain ⟨st2, hst2⟩ : ∃ x : Sto, x = st1 ++ [Ob.lst (ms.map W.int)] := ⟨_, rfl⟩
    have g2 : st2[st1.length]? = some (.lst (ms.map W.int)) := by rw [hst2]; exact getLast
    have old2 : ∀ (m : Nat) (o : Ob), st[m]? = some o → st2[m]? = some o := fun m o h => by rw [hst2]; exact getNew (old1 m o h)
    have len2 : st.length < st2.length := by rw [hst2]; simp; omega
    rw [← hst2]
    try simp -implicitDefEqProofs only [wp_ok, wp_bind, wp_noexc, wp_seq, wp_skip, wp_brk, wp_cnt, wp_retN, wp_ret, wp_set, wp_par, wp_unp, wp_sto, wp_xpr, wp_ite, wp_for, wp_whl, wp_tru, sk_nx, sk_rt, sk_bk, sk_ct, lk_nx, lk_ct, lk_bk, lk_rt, ik_true, ik_false, ev, evs, evo, evi, evc, evd, keyK_str, keyK_int, retK_rt, retK_nx, iteK_true, iteK_false, truK0_bl, truK0_int, truK0_tup, truK0_frl, truK0_non, scK_bl, wp_callK, cmpO, cmp_eq, cmp_ne, cmp_lt, cmp_le, cmp_gt, cmp_ge, cmp_isN, cmp_notN, eqD_int, eqD_str, bin_int, binI_add, binI_sub, of_some, negK_int, setK_nm, setK_tp, setsK, asg, asgs, tgsOf, intK, rngK, srcK, subO, startE, newR, new, bi_int, bi_abs, bi_len_tup, bi_len_frl,  Option.map_some, Option.map_none, Option.bind_some, List.map_cons, List.map_nil, List.length_cons, List.length_nil, List.length_append, List.length_map, List.length_set, List.cons_append, List.nil_append, List.getElem?_cons_zero, List.getElem?_cons_succ, List.set_cons_zero, List.set_cons_succ, if_true, if_false, Bool.false_eq_true, Bool.true_eq_false, Bool.not_true, Bool.not_false, decide_true, decide_false, Nat.reduceEqDiff, Nat.zero_lt_succ, List.replicate_succ, List.replicate_zero, Nat.reduceSub, Nat.reduceAdd, Nat.reduceLT, Nat.reduceLeDiff, Nat.zero_le, id, lstK_ok, tupK_ok, h1, srcOf_lst g2]
    refine wp_forL (ms.map W.int) (fun k en st' => st' = st2 ∧ ∃ (b : Int) (x : Option W), en = [some (.frl (ns.map .int)), some (.int salt), some (.ref st1.length), some (.int b), x]) ?_ ?_ ?_ FU 0 _ _ (Nat.zero_le _) ?_ ⟨rfl, _, _, rfl⟩
    · rintro k en st' ⟨rfl, _⟩
      exact get_live g2
    · rintro k w en st' hw ⟨rfl, b, x, rfl⟩
      rw [List.getElem?_map] at hw
      obtain ⟨y, hy, rfl⟩ := Option.map_eq_some_iff.mp hw
      refine ⟨_, rfl, ?_⟩
      have hmul : binI .mul b 48271 = some (b * 48271) := by rw [binI_mul, if_pos (by simp [small64])]
      have hmo : ∀ x : Int, binI .mod x 2147483647 = some (x % 2147483647) := fun x => binI_mod_pos (by decide)
      have hmo2 : ∀ x : Int, binI .mod x 2147483549 = some (x % 2147483549) := fun x => binI_mod_pos (by decide)
      try simp -implicitDefEqProofs only [wp_ok, wp_bind, wp_noexc, wp_seq, wp_skip, wp_brk, wp_cnt, wp_retN, wp_ret, wp_set, wp_par, wp_unp, wp_sto, wp_xpr, wp_ite, wp_for, wp_whl, wp_tru, sk_nx, sk_rt, sk_bk, sk_ct, lk_nx, lk_ct, lk_bk, lk_rt, ik_true, ik_false, ev, evs, evo, evi, evc, evd, keyK_str, keyK_int, retK_rt, retK_nx, iteK_true, iteK_false, truK0_bl, truK0_int, truK0_tup, truK0_frl, truK0_non, scK_bl, wp_callK, cmpO, cmp_eq, cmp_ne, cmp_lt, cmp_le, cmp_gt, cmp_ge, cmp_isN, cmp_notN, eqD_int, eqD_str, bin_int, binI_add, binI_sub, of_some, negK_int, setK_nm, setK_tp, setsK, asg, asgs, tgsOf, intK, rngK, srcK, subO, startE, newR, new, bi_int, bi_abs, bi_len_tup, bi_len_frl,  Option.map_some, Option.map_none, Option.bind_some, List.map_cons, List.map_nil, List.length_cons, List.length_nil, List.length_append, List.length_map, List.length_set, List.cons_append, List.nil_append, List.getElem?_cons_zero, List.getElem?_cons_succ, List.set_cons_zero, List.set_cons_succ, if_true, if_false, Bool.false_eq_true, Bool.true_eq_false, Bool.not_true, Bool.not_false, decide_true, decide_false, Nat.reduceEqDiff, Nat.zero_lt_succ, List.replicate_succ, List.replicate_zero, Nat.reduceSub, Nat.reduceAdd, Nat.reduceLT, Nat.reduceLeDiff, Nat.zero_le, id, lstK_ok, tupK_ok, hmul, hmo, hmo2]
      exact ⟨by trivial, _, _, rfl⟩
    · rintro en st' ⟨rfl, b, x, rfl⟩
      have hp : binI .pow 10 18 = some 1000000000000000000 := by decide
      try simp -implicitDefEqProofs only [wp_ok, wp_bind, wp_noexc, wp_seq, wp_skip, wp_brk, wp_cnt, wp_retN, wp_ret, wp_set, wp_par, wp_unp, wp_sto, wp_xpr, wp_ite, wp_for, wp_whl, wp_tru, sk_nx, sk_rt, sk_bk, sk_ct, lk_nx, lk_ct, lk_bk, lk_rt, ik_true, ik_false, ev, evs, evo, evi, evc, evd, keyK_str, keyK_int, retK_rt, retK_nx, iteK_true, iteK_false, truK0_bl, truK0_int, truK0_tup, truK0_frl, truK0_non, scK_bl, wp_callK, cmpO, cmp_eq, cmp_ne, cmp_lt, cmp_le, cmp_gt, cmp_ge, cmp_isN, cmp_notN, eqD_int, eqD_str, bin_int, binI_add, binI_sub, of_some, negK_int, setK_nm, setK_tp, setsK, asg, asgs, tgsOf, intK, rngK, srcK, subO, startE, newR, new, bi_int, bi_abs, bi_len_tup, bi_len_frl,  Option.map_some, Option.map_none, Option.bind_some, List.map_cons, List.map_nil, List.length_cons, List.length_nil, List.length_append, List.length_map, List.length_set, List.cons_append, List.nil_append, List.getElem?_cons_zero, List.getElem?_cons_succ, List.set_cons_zero, List.set_cons_succ, if_true, if_false, Bool.false_eq_true, Bool.true_eq_false, Bool.not_true, Bool.not_false, decide_true, decide_false, Nat.reduceEqDiff, Nat.zero_lt_succ, List.replicate_succ, List.replicate_zero, Nat.reduceSub, Nat.reduceAdd, Nat.reduceLT, Nat.reduceLeDiff, Nat.zero_le, id, lstK_ok, tupK_ok, srcOf_lst g2]
      refine wp_lcL (ms.map W.int) (fun k st3 => ∃ us : List Int, us.length ≤ k ∧ st3 = st' ++ [Ob.lst (us.map W.int)]) ?_ ?_ ?_ FU 0 _ (Nat.zero_le _) ?_ ⟨[], Nat.le_refl _, rfl⟩
      · rintro k st3 ⟨us, _, rfl⟩
        exact get_live (getNew g2)
      · rintro k w st3 hw ⟨us, hk, rfl⟩
        rw [List.getElem?_map] at hw
        obtain ⟨y, hy, rfl⟩ := Option.map_eq_some_iff.mp hw
        have hkl := (List.getElem?_eq_some_iff.mp hy).1
        refine ⟨_, rfl, ?_⟩
        try simp -implicitDefEqProofs only [wp_ok, wp_bind, wp_noexc, wp_seq, wp_skip, wp_brk, wp_cnt, wp_retN, wp_ret, wp_set, wp_par, wp_unp, wp_sto, wp_xpr, wp_ite, wp_for, wp_whl, wp_tru, sk_nx, sk_rt, sk_bk, sk_ct, lk_nx, lk_ct, lk_bk, lk_rt, ik_true, ik_false, ev, evs, evo, evi, evc, evd, keyK_str, keyK_int, retK_rt, retK_nx, iteK_true, iteK_false, truK0_bl, truK0_int, truK0_tup, truK0_frl, truK0_non, scK_bl, wp_callK, cmpO, cmp_eq, cmp_ne, cmp_lt, cmp_le, cmp_gt, cmp_ge, cmp_isN, cmp_notN, eqD_int, eqD_str, bin_int, binI_add, binI_sub, of_some, negK_int, setK_nm, setK_tp, setsK, asg, asgs, tgsOf, intK, rngK, srcK, subO, startE, newR, new, bi_int, bi_abs, bi_len_tup, bi_len_frl,  Option.map_some, Option.map_none, Option.bind_some, List.map_cons, List.map_nil, List.length_cons, List.length_nil, List.length_append, List.length_map, List.length_set, List.cons_append, List.nil_append, List.getElem?_cons_zero, List.getElem?_cons_succ, List.set_cons_zero, List.set_cons_succ, if_true, if_false, Bool.false_eq_true, Bool.true_eq_false, Bool.not_true, Bool.not_false, decide_true, decide_false, Nat.reduceEqDiff, Nat.zero_lt_succ, List.replicate_succ, List.replicate_zero, Nat.reduceSub, Nat.reduceAdd, Nat.reduceLT, Nat.reduceLeDiff, Nat.zero_le, id, lstK_ok, tupK_ok, wipeE, hp]
        by_cases hc : (1000000000000000000 : Int) ≤ y
        · rw [decide_eq_true hc]
          try simp -implicitDefEqProofs only [wp_ok, wp_bind, wp_noexc, wp_seq, wp_skip, wp_brk, wp_cnt, wp_retN, wp_ret, wp_set, wp_par, wp_unp, wp_sto, wp_xpr, wp_ite, wp_for, wp_whl, wp_tru, sk_nx, sk_rt, sk_bk, sk_ct, lk_nx, lk_ct, lk_bk, lk_rt, ik_true, ik_false, ev, evs, evo, evi, evc, evd, keyK_str, keyK_int, retK_rt, retK_nx, iteK_true, iteK_false, truK0_bl, truK0_int, truK0_tup, truK0_frl, truK0_non, scK_bl, wp_callK, cmpO, cmp_eq, cmp_ne, cmp_lt, cmp_le, cmp_gt, cmp_ge, cmp_isN, cmp_notN, eqD_int, eqD_str, bin_int, binI_add, binI_sub, of_some, negK_int, setK_nm, setK_tp, setsK, asg, asgs, tgsOf, intK, rngK, srcK, subO, startE, newR, new, bi_int, bi_abs, bi_len_tup, bi_len_frl,  Option.map_some, Option.map_none, Option.bind_some, List.map_cons, List.map_nil, List.length_cons, List.length_nil, List.length_append, List.length_map, List.length_set, List.cons_append, List.nil_append, List.getElem?_cons_zero, List.getElem?_cons_succ, List.set_cons_zero, List.set_cons_succ, if_true, if_false, Bool.false_eq_true, Bool.true_eq_false, Bool.not_true, Bool.not_false, decide_true, decide_false, Nat.reduceEqDiff, Nat.zero_lt_succ, List.replicate_succ, List.replicate_zero, Nat.reduceSub, Nat.reduceAdd, Nat.reduceLT, Nat.reduceLeDiff, Nat.zero_le, id, lstK_ok, tupK_ok]
          refine ⟨us.map W.int, getLast, by rw [List.length_map]; unfold sizeLine; omega, us ++ [y], ?_, ?_⟩
          · simp; omega
          · simp
        · rw [decide_eq_false hc]
          try simp -implicitDefEqProofs only [wp_ok, wp_bind, wp_noexc, wp_seq, wp_skip, wp_brk, wp_cnt, wp_retN, wp_ret, wp_set, wp_par, wp_unp, wp_sto, wp_xpr, wp_ite, wp_for, wp_whl, wp_tru, sk_nx, sk_rt, sk_bk, sk_ct, lk_nx, lk_ct, lk_bk, lk_rt, ik_true, ik_false, ev, evs, evo, evi, evc, evd, keyK_str, keyK_int, retK_rt, retK_nx, iteK_true, iteK_false, truK0_bl, truK0_int, truK0_tup, truK0_frl, truK0_non, scK_bl, wp_callK, cmpO, cmp_eq, cmp_ne, cmp_lt, cmp_le, cmp_gt, cmp_ge, cmp_isN, cmp_notN, eqD_int, eqD_str, bin_int, binI_add, binI_sub, of_some, negK_int, setK_nm, setK_tp, setsK, asg, asgs, tgsOf, intK, rngK, srcK, subO, startE, newR, new, bi_int, bi_abs, bi_len_tup, bi_len_frl,  Option.map_some, Option.map_none, Option.bind_some, List.map_cons, List.map_nil, List.length_cons, List.length_nil, List.length_append, List.length_map, List.length_set, List.cons_append, List.nil_append, List.getElem?_cons_zero, List.getElem?_cons_succ, List.set_cons_zero, List.set_cons_succ, if_true, if_false, Bool.false_eq_true, Bool.true_eq_false, Bool.not_true, Bool.not_false, decide_true, decide_false, Nat.reduceEqDiff, Nat.zero_lt_succ, List.replicate_succ, List.replicate_zero, Nat.reduceSub, Nat.reduceAdd, Nat.reduceLT, Nat.reduceLeDiff, Nat.zero_le, id, lstK_ok, tupK_ok]
          exact ⟨us, by omega, rfl⟩
      · rintro st3 ⟨us, hu, rfl⟩
        rw [List.length_map] at hu
        try simp -implicitDefEqProofs only [wp_ok, wp_bind, wp_noexc, wp_seq, wp_skip, wp_brk, wp_cnt, wp_retN, wp_ret, wp_set, wp_par, wp_unp, wp_sto, wp_xpr, wp_ite, wp_for, wp_whl, wp_tru, sk_nx, sk_rt, sk_bk, sk_ct, lk_nx, lk_ct, lk_bk, lk_rt, ik_true, ik_false, ev, evs, evo, evi, evc, evd, keyK_str, keyK_int, retK_rt, retK_nx, iteK_true, iteK_false, truK0_bl, truK0_int, truK0_tup, truK0_frl, truK0_non, scK_bl, wp_callK, cmpO, cmp_eq, cmp_ne, cmp_lt, cmp_le, cmp_gt, cmp_ge, cmp_isN, cmp_notN, eqD_int, eqD_str, bin_int, binI_add, binI_sub, of_some, negK_int, setK_nm, setK_tp, setsK, asg, asgs, tgsOf, intK, rngK, srcK, subO, startE, newR, new, bi_int, bi_abs, bi_len_tup, bi_len_frl,  Option.map_some, Option.map_none, Option.bind_some, List.map_cons, List.map_nil, List.length_cons, List.length_nil, List.length_append, List.length_map, List.length_set, List.cons_append, List.nil_append, List.getElem?_cons_zero, List.getElem?_cons_succ, List.set_cons_zero, List.set_cons_succ, if_true, if_false, Bool.false_eq_true, Bool.true_eq_false, Bool.not_true, Bool.not_false, decide_true, decide_false, Nat.reduceEqDiff, Nat.zero_lt_succ, List.replicate_succ, List.replicate_zero, Nat.reduceSub, Nat.reduceAdd, Nat.reduceLT, Nat.reduceLeDiff, Nat.zero_le, id, lstK_ok, tupK_ok, revW_lst getLast]
        rw [← List.map_reverse]
        obtain ⟨st4, hst4⟩ : ∃ x : Sto, x = st' ++ [Ob.lst (us.map W.int)] ++ [Ob.lst (us.reverse.map W.int)] := ⟨_, rfl⟩
        have hl4 : st4.length = st'.length + 1 + 1 := by rw [hst4]; simp
        have g4 : st4[st'.length + 1]? = some (.lst (us.reverse.map W.int)) := by
          have : (st' ++ [Ob.lst (us.map W.int)]).length = st'.length + 1 := by simp
          rw [hst4, ← this]; exact getLast
        rw [← hst4, ← hl4]
        refine ⟨st4.length, st'.length + 1, by trivial, ⟨by omega, ⟨b, getLast⟩, us.reverse, getNew g4, by simp; omega⟩, fun m o h => ?_⟩
        have hm' := (List.getElem?_eq_some_iff.mp h).1
        exact ⟨getNew (by rw [hst4]; exact getNew (getNew (old2 m o h))), by omega, by omega⟩
      · rw [List.length_map]; unfold FU; omega
    · rw [List.length_map]; unfold FU; omega
  · rw [List.length_map]; unfold FU; omega
end Ci
/-! Cj4: lists of numbers compared, ranges, stores that only grow. -/
namespace Ci
open PySem

/-! ### order -/
theorem listLt_lexI : ∀ xs ys : List Int, PySem.W.listLt xs ys = lexI xs ys
  | [], [] => rfl
  | [], _ :: _ => rfl
  | _ :: _, [] => rfl
  | x :: xs, y :: ys => by
    rw [PySem.W.listLt, lexI, listLt_lexI xs ys]
    rfl
theorem dataLt_ints (xs ys : List Int) : PySem.W.dataLt (.list (xs.map .int)) (.list (ys.map .int)) = lexI xs ys := by
  rw [PySem.W.dataLt_list, ← listLt_lexI]
  exact PySem.W.lexAll_map xs ys
theorem alike_ints (xs ys : List Int) : PySem.W.alike (.list (xs.map .int)) (.list (ys.map .int)) = true := by
  rw [PySem.W.alike]
  exact PySem.W.alikeAll_map xs ys
theorem ordD_ints {f : PyData → PyData → Bool} {st : Sto} {a b : Nat} {xs ys : List Int} (h1 : st[a]? = some (.lst (xs.map .int))) (h2 : st[b]? = some (.lst (ys.map .int))) :
    ordD f st (.ref a) (.ref b) = some (f (.list (xs.map .int)) (.list (ys.map .int))) := by
  unfold ordD
  rw [toD_ints h1, toD_ints h2]
  simp only [alike_ints, noneD, PyData.depth, depthAll_ints]
  rfl
section
variable {st : Sto} {a b : Nat} {xs ys : List Int}
theorem cmp_lt_ints (h1 : st[a]? = some (.lst (xs.map .int))) (h2 : st[b]? = some (.lst (ys.map .int))) : cmp .lt (.ref a) (.ref b) st = some (lexI xs ys) := by
  rw [show cmp .lt (.ref a) (.ref b) st = ordD PySem.W.dataLt st (.ref a) (.ref b) from rfl, ordD_ints h1 h2, dataLt_ints]
theorem cmp_le_ints (h1 : st[a]? = some (.lst (xs.map .int))) (h2 : st[b]? = some (.lst (ys.map .int))) : cmp .le (.ref a) (.ref b) st = some (!lexI ys xs) := by
  rw [show cmp .le (.ref a) (.ref b) st = ordD (fun d e => !PySem.W.dataLt e d) st (.ref a) (.ref b) from rfl, ordD_ints h1 h2, dataLt_ints]
end
/-! ### ranges -/
theorem rngOf_nat {n : Nat} (h : n < 1000000) : rngOf [.int (n : Int)] = some (0, (n : Int)) := by
  have : rgOk 0 (n : Int) = true := by unfold rgOk; exact decide_eq_true ⟨by decide, by decide, by omega, by omega⟩
  simp only [rngOf, this, if_true]
theorem rngOf_two {a b : Int} (h : -1000000000 ≤ a) (h2 : a < 1000000000) (h3 : -1000000000 ≤ b) (h4 : b < 1000000000) : rngOf [.int a, .int b] = some (a, b) := by
  have : rgOk a b = true := by unfold rgOk; exact decide_eq_true ⟨by omega, by omega, by omega, by omega⟩
  simp only [rngOf, this, if_true]
theorem rngW_len (n : Nat) : (rngW 0 (n : Int)).length = n := by unfold rngW; simp
theorem rngW_get {n k : Nat} {w : W} (h : (rngW 0 (n : Int))[k]? = some w) : k < n ∧ w = .int k := by
  unfold rngW at h
  rw [List.getElem?_map] at h
  obtain ⟨j, hj, rfl⟩ := Option.map_eq_some_iff.mp h
  have hk := (List.getElem?_eq_some_iff.mp hj).1
  rw [List.length_range] at hk
  rw [List.getElem?_range hk] at hj
  cases hj
  exact ⟨by omega, by congr 1; omega⟩
theorem get_fix {ws : List W} {st : Sto} {k : Nat} : (Src.fix ws).get st k = some ws[k]? := rfl
/-- for i in range(n): no break within I, the body's own ends otherwise -/
theorem wp_rng {as : W → En → Option En} {body : En → Sto → Res Out} {Q : Out → Sto → Prop} {en : En} {st : Sto} (n : Nat) (hn : n < 1000000) (I : Nat → En → Sto → Prop)
    (step : ∀ k en st, k < n → I k en st → ∃ en1, as (.int (k : Int)) en = some en1 ∧ Wp (body en1 st) (Lk (I (k + 1)) Q)) (fin : ∀ en st, I n en st → Q (.nx en) st) (i0 : I 0 en st) :
    Wp (forL (Src.fix (rngW 0 (n : Int))).get as body FU 0 en st) Q := by
  refine wp_forL (rngW 0 (n : Int)) I (fun _ _ _ _ => rfl) ?_ ?_ FU 0 en st (Nat.zero_le _) ?_ i0
  · intro k w en st hw i
    obtain ⟨hk, rfl⟩ := rngW_get hw
    exact step k en st hk i
  · intro en st i
    rw [rngW_len] at i
    exact fin en st i
  · rw [rngW_len]; unfold FU; omega
/-! ### stores that grow -/
def Ext (st st' : Sto) : Prop := st.length ≤ st'.length ∧ ∀ (m : Nat) (o : Ob), st[m]? = some o → st'[m]? = some o
theorem Ext.refl {st : Sto} : Ext st st := ⟨Nat.le_refl _, fun _ _ h => h⟩
theorem Ext.trans {a b c : Sto} (x : Ext a b) (y : Ext b c) : Ext a c := ⟨Nat.le_trans x.1 y.1, fun m o h => y.2 m o (x.2 m o h)⟩
theorem Ext.new {st : Sto} {o : Ob} : Ext st (st ++ [o]) := ⟨by simp, fun m u h => getNew h⟩
/-- what lies behind the old end may change -/
theorem Ext.set {st st' : Sto} {m : Nat} {o : Ob} (h : Ext st st') (hm : st.length ≤ m) : Ext st (st'.set m o) := ⟨by rw [List.length_set]; exact h.1, fun k u e => by
  have := (List.getElem?_eq_some_iff.mp e).1
  rw [List.getElem?_set_ne (by omega)]
  exact h.2 k u e⟩
theorem Ext.keep {st st' : Sto} {d c : Nat} (h : Ext st st') : Keep d c st st' := fun m o _ _ e => h.2 m o e
theorem Deal.ext {st st' : Sto} {d c : Nat} (D : Deal st d c) (h : Ext st st') : Deal st' d c := ⟨D.ne, D.at_.imp fun _ e => h.2 _ _ e, D.cel.imp fun _ e => ⟨h.2 _ _ e.1, e.2⟩⟩
theorem Deal.lt {st : Sto} {d c : Nat} (D : Deal st d c) : d < st.length ∧ c < st.length := by
  obtain ⟨_, ⟨b, h1⟩, ns, h2, _⟩ := D
  exact ⟨(List.getElem?_eq_some_iff.mp h1).1, (List.getElem?_eq_some_iff.mp h2).1⟩
/-- a new list, nothing else changed -/
def NewL (st : Sto) (ws : List W) (w : W) (st' : Sto) : Prop := ∃ a, w = .ref a ∧ Ext st st' ∧ st.length ≤ a ∧ st'[a]? = some (.lst ws)
theorem own_of {st st' : Sto} {a d c : Nat} {ws : List W} (D : Deal st d c) (h : st.length ≤ a) (e : st'[a]? = some (.lst ws)) : Own d c st' a ws := ⟨e, by have := D.lt; omega, by have := D.lt; omega⟩
/-! ### texts of numbers -/
theorem reprOk_small {i : Int} (h0 : -(2 ^ 64) ≤ i) (h : i ≤ 2 ^ 64) : reprOk (.int i) = true := by
  show decide (i.natAbs.log2 < 1920) = true
  apply decide_eq_true
  by_cases e : i.natAbs = 0
  · rw [e]; decide
  · have : i.natAbs < 2 ^ 65 := by omega
    have := (Nat.log2_lt e).mpr this
    omega
theorem bi_repr_int {st : Sto} {i : Int} (h0 : -(2 ^ 64) ≤ i) (h : i ≤ 2 ^ 64) : bi .repr [.int i] st = some (.str (PyData.int i).shown, st) := bi_repr toD_int (reprOk_small h0 h)
theorem beq_str (s : Str) : (s == s) = true := by
  have : LawfulBEq Str := inferInstance
  exact beq_self_eq_true s
theorem powOk_1 {w : Nat} (h : w ≤ 1000000) : powOk 1 (w : Int) = true := by
  unfold powOk
  exact decide_eq_true ⟨by omega, by omega, by decide⟩
theorem divOk_pow {w : Nat} (h : w < 9000) : divOk (2 ^ w) = true := by
  unfold divOk
  have e : ((2 : Int) ^ w).natAbs = 2 ^ w := by rw [Int.natAbs_pow]; rfl
  rw [e, Nat.log2_two_pow, decide_eq_true h, Bool.or_true, decide_eq_true (Int.pow_pos (by decide))]
  rfl
end Ci
/-! Cj5: kinds, tuples, lists of truths. -/
namespace Ci
open PySem

section
variable {st : Sto} {i : Int} {b : Bool} {s : Str} {ws us : List W} {n : Nat}
theorem isi_int_int : isiK ["int"] (.int i) st = .ok (.bl true) st := rfl
theorem isi_int_bl : isiK ["int"] (.bl b) st = .ok (.bl true) st := rfl
theorem isi_int_non : isiK ["int"] .non st = .ok (.bl false) st := rfl
theorem isi_int_str : isiK ["int"] (.str s) st = .ok (.bl false) st := rfl
theorem isi_int_tup : isiK ["int"] (.tup ws) st = .ok (.bl false) st := rfl
theorem isi_bool_int : isiK ["bool"] (.int i) st = .ok (.bl false) st := rfl
theorem isi_bool_bl : isiK ["bool"] (.bl b) st = .ok (.bl true) st := rfl
theorem isi_tuple_tup : isiK ["tuple"] (.tup ws) st = .ok (.bl true) st := rfl
theorem isi_tuple_non : isiK ["tuple"] .non st = .ok (.bl false) st := rfl
theorem isi_tuple_int : isiK ["tuple"] (.int i) st = .ok (.bl false) st := rfl
theorem isi_tuple_bl : isiK ["tuple"] (.bl b) st = .ok (.bl false) st := rfl
theorem isi_tuple_str : isiK ["tuple"] (.str s) st = .ok (.bl false) st := rfl
theorem isi_tuple_lst (h : st[n]? = some (.lst ws)) : isiK ["tuple"] (.ref n) st = .ok (.bl false) st := by simp only [isiK, tyOf, h]; rfl
theorem isi_str_str : isiK ["str"] (.str s) st = .ok (.bl true) st := rfl
theorem isi_str_non : isiK ["str"] .non st = .ok (.bl false) st := rfl
theorem isi_str_int : isiK ["str"] (.int i) st = .ok (.bl false) st := rfl
theorem isi_str_tup : isiK ["str"] (.tup ws) st = .ok (.bl false) st := rfl
theorem isi_list_lst (h : st[n]? = some (.lst ws)) : isiK ["list"] (.ref n) st = .ok (.bl true) st := by simp only [isiK, tyOf, h]; rfl
theorem slW_tup {lo hi : Option Int} : slW (.tup ws) lo hi st = some (.tup (cutW ws lo hi), st) := rfl
theorem cut_drop {k : Nat} : cutW ws (some (k : Int)) none = ws.drop k := by
  unfold cutW
  rw [HT.sIx_nat, show HT.sIx ws.length ws.length none = ws.length from rfl]
  rcases Nat.le_total k ws.length with h | h
  · rw [Nat.min_eq_left h, List.take_of_length_le (by rw [List.length_drop]; omega)]
  · rw [Nat.min_eq_right h, List.drop_of_length_le (Nat.le_refl _), List.drop_of_length_le h, List.take_nil]
theorem cut_take {k : Nat} : cutW ws none (some (k : Int)) = ws.take k := by
  unfold cutW
  rw [HT.sIx_nat, show HT.sIx ws.length 0 none = 0 from rfl, List.drop_zero, Nat.sub_zero]
  rcases Nat.le_total k ws.length with h | h
  · rw [Nat.min_eq_left h]
  · rw [Nat.min_eq_right h, List.take_length, List.take_of_length_le h]
theorem bin_tup (h : ws.length + us.length ≤ 16777216) : bin .add (.tup ws) (.tup us) st = some (.tup (ws ++ us), st) := if_pos h
theorem bi_tuple_lst (h : st[n]? = some (.lst ws)) : bi .tuple [.ref n] st = some (.tup ws, st) := by simp only [bi, seqOf, h]; rfl
theorem bi_tuple_tup : bi .tuple [.tup ws] st = some (.tup ws, st) := rfl
theorem bi_list_tup : bi .list [.tup ws] st = some (.ref st.length, st ++ [.lst ws]) := rfl
theorem bi_list_lst (h : st[n]? = some (.lst ws)) : bi .list [.ref n] st = some (.ref st.length, st ++ [.lst ws]) := by simp only [bi, seqOf, h]; rfl
theorem blsOf_map {α : Type} (f : α → Bool) : ∀ l : List α, blsOf (l.map fun x => .bl (f x)) = some (l.map f)
  | [] => rfl
  | x :: l => by rw [List.map_cons, blsOf, blsOf_map f l]; rfl
theorem bi_all_lst {bs : List Bool} (h : st[n]? = some (.lst (bs.map .bl))) : bi .all [.ref n] st = some (.bl (bs.all id), st) := by
  have e : blsOf (bs.map .bl) = some bs := by
    have := blsOf_map id bs
    rw [List.map_id] at this
    exact this
  simp only [bi, lstOf, h, Option.bind_some, e]
  rfl
theorem bi_any_lst {bs : List Bool} (h : st[n]? = some (.lst (bs.map .bl))) : bi .any [.ref n] st = some (.bl (bs.any id), st) := by
  have e : blsOf (bs.map .bl) = some bs := by
    have := blsOf_map id bs
    rw [List.map_id] at this
    exact this
  simp only [bi, lstOf, h, Option.bind_some, e]
  rfl
theorem bi_repr_bl : bi .repr [.bl b] st = some (.str (PyData.bool b).shown, st) := rfl
theorem bi_repr_non : bi .repr [.non] st = some (.str PyData.none.shown, st) := rfl
theorem is_bl {x y : Bool} : cmp .isN (.bl x) (.bl y) st = some (decide (x = y)) := rfl
theorem isnot_bl {x y : Bool} : cmp .notN (.bl x) (.bl y) st = some (!decide (x = y)) := rfl
theorem eqD_data {x y : W} {d e : PyData} (h1 : toD st x = some d) (h2 : toD st y = some e) (h3 : shapedB d = true) (h4 : shapedB e = true) (hx : ∀ s, x ≠ .str s) (hx2 : ∀ i, x ≠ .int i) : eqD st x y = some (PyData.eqv d e) := by
  unfold eqD
  split
  · exact absurd rfl (hx _)
  · exact absurd rfl (hx2 _)
  · rw [h1, h2]
    simp only [h3, h4, Bool.and_self, if_true]
theorem eqD_tup {y : W} {d e : PyData} (h1 : toD st (.tup ws) = some d) (h2 : toD st y = some e) (h3 : shapedB d = true) (h4 : shapedB e = true) : eqD st (.tup ws) y = some (PyData.eqv d e) :=
  eqD_data h1 h2 h3 h4 (fun _ h => by cases h) fun _ h => by cases h
end
end Ci
namespace Law
open PySem L2 PyProof.Rows Ci
def top (i : Nat) : Stmt := PySem.Challenge.pw_anypasses_k03_runs_and_beginnings.main.body.getD i (.Pass ⟨0, 0, 0, 0⟩)
def k_KINDS : W := (.tup [(.str "divide"), (.str "index"), (.str "input"), (.str "stop")])
abbrev s0 : Stmt := top 1
abbrev N0 : List Str := ["value"]
abbrev ps0 : List Str := ["value"]
/-- is_integer(value); 0 value -/
def c0 : S :=
  (.ret (.and (.isi ["int"] (.var 0)) (.not (.isi ["bool"] (.var 0)))))
def d0 : Fd := ⟨1, 1, c0⟩
abbrev s1 : Stmt := top 2
abbrev N1 : List Str := ["value"]
abbrev ps1 : List Str := ["value"]
/-- is_number(value); 0 value -/
def c1 : S :=
  (.ret (.and (.call 0 none (.cons (.var 0) .nil)) (.cmp .ge (.var 0) (.con (.int 0)))))
def d1 : Fd := ⟨1, 1, c1⟩
abbrev s2 : Stmt := top 3
abbrev N2 : List Str := ["value", "sizes"]
abbrev ps2 : List Str := ["value", "sizes"]
/-- is_row_of(value, sizes); 0 value, 1 sizes -/
def c2 : S :=
  (.ret (.and (.isi ["tuple"] (.var 0)) (.cmp .isin (.bi .len (.cons (.var 0) .nil)) (.var 1))))
def d2 : Fd := ⟨2, 2, c2⟩
abbrev s3 : Stmt := top 4
abbrev N3 : List Str := ["value", "words"]
abbrev ps3 : List Str := ["value", "words"]
/-- is_word_of(value, words); 0 value, 1 words -/
def c3 : S :=
  (.ret (.and (.isi ["str"] (.var 0)) (.cmp .isin (.var 0) (.var 1))))
def d3 : Fd := ⟨2, 2, c3⟩
abbrev s4 : Stmt := top 7
abbrev N4 : List Str := ["value"]
abbrev ps4 : List Str := ["value"]
/-- is_end(value); 0 value -/
def c4 : S :=
  (.seq (.ite (.cmp .isN (.var 0) (.con .non)) (.ret (.con (.bl true))) .skip)
  (.seq (.ite (.or (.not (.call 2 none (.cons (.var 0) (.cons (.tup (.cons (.con (.int 2)) .nil)) .nil)))) (.not (.isi ["str"] (.ix (.var 0) (.con (.int 0)))))) (.ret (.con (.bl false))) .skip)
  (.seq (.ite (.cmp .eq (.ix (.var 0) (.con (.int 0))) (.con (.str "value"))) (.ret (.call 1 none (.cons (.ix (.var 0) (.con (.int 1))) .nil))) .skip)
  (.ret (.and (.cmp .eq (.ix (.var 0) (.con (.int 0))) (.con (.str "trap"))) (.call 3 none (.cons (.ix (.var 0) (.con (.int 1))) (.cons (.con k_KINDS) .nil))))))))
def d4 : Fd := ⟨1, 1, c4⟩
abbrev s5 : Stmt := top 8
abbrev N5 : List Str := ["value", "one"]
abbrev ps5 : List Str := ["value"]
/-- is_run(value); 0 value, 1 one -/
def c5 : S :=
  (.seq (.ite (.or (.not (.call 2 none (.cons (.var 0) (.cons (.tup (.cons (.con (.int 2)) .nil)) .nil)))) (.not (.isi ["tuple"] (.ix (.var 0) (.con (.int 0)))))) (.ret (.con (.bl false))) .skip)
  (.ret (.and (.bi .all (.cons (.lc [1] (.nm 1) (.val (.ix (.var 0) (.con (.int 0)))) .nil (.call 1 none (.cons (.var 1) .nil))) .nil)) (.call 4 none (.cons (.ix (.var 0) (.con (.int 1))) .nil)))))
def d5 : Fd := ⟨1, 2, c5⟩
abbrev s6 : Stmt := top 9
abbrev N6 : List Str := ["one", "other"]
abbrev ps6 : List Str := ["one", "other"]
/-- is_beginning(one, other); 0 one, 1 other -/
def c6 : S :=
  (.ret (.or (.cmp .eq (.var 0) (.var 1)) (.and (.cmp .isN (.ix (.var 0) (.con (.int 1))) (.con .non)) (.cmp .eq (.ix (.var 0) (.con (.int 0))) (.sl (.ix (.var 1) (.con (.int 0))) .nil (.cons (.bi .len (.cons (.ix (.var 0) (.con (.int 0))) .nil)) .nil))))))
def d6 : Fd := ⟨2, 2, c6⟩
abbrev s7 : Stmt := top 10
abbrev N7 : List Str := ["one", "other"]
abbrev ps7 : List Str := ["one", "other"]
/-- agree_so_far(one, other); 0 one, 1 other -/
def c7 : S :=
  (.ret (.or (.call 6 none (.cons (.var 0) (.cons (.var 1) .nil))) (.call 6 none (.cons (.var 1) (.cons (.var 0) .nil)))))
def d7 : Fd := ⟨2, 2, c7⟩
abbrev s8 : Stmt := top 12
abbrev N8 : List Str := ["_law_script", "_law_salt", "_law_cells", "_law_blend", "_law_cell"]
abbrev ps8 : List Str := ["_law_script", "_law_salt"]
/-- _law_draw(_law_script, _law_salt); 0 _law_script, 1 _law_salt, 2 _law_cells, 3 _law_blend, 4 _law_cell -/
def c8 : S :=
  (.seq (.set 2 (.lc [4] (.nm 4) (.val (.sl (.var 0) .nil (.cons (.con (.int 48)) .nil))) .nil (.bi .abs (.cons (.bi .int (.cons (.var 4) .nil)) .nil))))
  (.seq (.set 3 (.bin .add (.con (.int 7919)) (.bin .mul (.con (.int 104729)) (.var 1))))
  (.seq (.for_ (.nm 4) (.val (.var 2)) (.set 3 (.bin .mod (.bi .int (.cons (.bin .add (.bin .add (.bin .mul (.var 3) (.con (.int 48271))) (.bin .mod (.var 4) (.con (.int 2147483549)))) (.con (.int 11))) .nil)) (.con (.int 2147483647)))))
  (.ret (.lst (.cons (.rev (.lc [4] (.nm 4) (.val (.var 2)) (.cons (.cmp .ge (.var 4) (.bin .pow (.con (.int 10)) (.con (.int 18)))) .nil) (.var 4))) (.cons (.var 3) .nil)))))))
def d8 : Fd := ⟨2, 5, c8⟩
abbrev s9 : Stmt := top 13
abbrev N9 : List Str := ["_law_deal", "_law_bound", "_law_rest"]
abbrev ps9 : List Str := ["_law_deal", "_law_bound"]
/-- _law_any(_law_deal, _law_bound); 0 _law_deal, 1 _law_bound, 2 _law_rest -/
def c9 : S :=
  (.seq (.whl (.and (.cmp .ne (.ix (.var 0) (.con (.int 0))) (.lst .nil)) (.cmp .eq (.ix (.ix (.var 0) (.con (.int 0))) (.neg (.con (.int 1)))) (.con (.int 0)))) (.xpr (.mt .pop (.ix (.var 0) (.con (.int 0))) .nil)))
  (.seq (.ite (.cmp .ne (.ix (.var 0) (.con (.int 0))) (.lst .nil)) (.seq (.set 2 (.bi .int (.cons (.mt .pop (.ix (.var 0) (.con (.int 0))) .nil) .nil)))
  (.seq (.xpr (.mt .append (.ix (.var 0) (.con (.int 0))) (.cons (.bin .fdiv (.var 2) (.var 1)) .nil)))
  (.ret (.bin .mod (.var 2) (.var 1))))) .skip)
  (.seq (.sto (.var 0) (.con (.int 1)) (.bin .mod (.bi .int (.cons (.bin .add (.bin .mul (.ix (.var 0) (.con (.int 1))) (.con (.int 40693))) (.con (.int 71))) .nil)) (.con (.int 2147483647))))
  (.ret (.bin .mod (.bi .int (.cons (.bin .fdiv (.ix (.var 0) (.con (.int 1))) (.con (.int 64))) .nil)) (.var 1))))))
def d9 : Fd := ⟨2, 3, c9⟩
abbrev s10 : Stmt := top 14
abbrev N10 : List Str := ["_law_deal", "_law_some"]
abbrev ps10 : List Str := ["_law_deal", "_law_some"]
/-- _law_of(_law_deal, _law_some); 0 _law_deal, 1 _law_some -/
def c10 : S :=
  (.ret (.ix (.var 1) (.call 9 none (.cons (.var 0) (.cons (.bi .len (.cons (.var 1) .nil)) .nil)))))
def d10 : Fd := ⟨2, 2, c10⟩
abbrev s12 : Stmt := top 16
abbrev N12 : List Str := ["_law_deal", "_law_words", "_law_ends", "_law_turn"]
abbrev ps12 : List Str := ["_law_deal"]
/-- _law_run(_law_deal); 0 _law_deal, 1 _law_words, 2 _law_ends, 3 _law_turn -/
def c12 : S :=
  (.seq (.set 1 (.bi .tuple (.cons (.lc [3] (.nm 3) (.rng (.cons (.call 9 none (.cons (.var 0) (.cons (.con (.int 7)) .nil))) .nil)) .nil (.call 9 none (.cons (.var 0) (.cons (.con (.int 3)) .nil)))) .nil)))
  (.seq (.set 2 (.lst (.cons (.con .non) (.cons (.con .non) (.cons (.tup (.cons (.con (.str "value")) (.cons (.call 9 none (.cons (.var 0) (.cons (.con (.int 3)) .nil))) .nil))) (.cons (.tup (.cons (.con (.str "trap")) (.cons (.call 10 none (.cons (.var 0) (.cons (.lst (.cons (.con (.str "divide")) (.cons (.con (.str "index")) (.cons (.con (.str "input")) (.cons (.con (.str "stop")) .nil))))) .nil))) .nil))) .nil))))))
  (.ret (.tup (.cons (.var 1) (.cons (.call 10 none (.cons (.var 0) (.cons (.var 2) .nil))) .nil))))))
def d12 : Fd := ⟨1, 4, c12⟩
abbrev s13 : Stmt := top 17
abbrev N13 : List Str := ["_law_deal", "_law_run_here", "_law_words", "_law_end", "_law_form", "_law_at"]
abbrev ps13 : List Str := ["_law_deal", "_law_run_here"]
/-- _law_near(_law_deal, _law_run_here); 0 _law_deal, 1 _law_run_here, 2 _law_words, 3 _law_end, 4 _law_form, 5 _law_at -/
def c13 : S :=
  (.seq (.unp (.tp (.cons (.nm 2) (.cons (.nm 3) .nil))) (.var 1))
  (.seq (.par [4, 5] (.cons (.call 9 none (.cons (.var 0) (.cons (.con (.int 6)) .nil))) (.cons (.call 9 none (.cons (.var 0) (.cons (.bin .add (.bi .len (.cons (.var 2) .nil)) (.con (.int 1))) .nil))) .nil)))
  (.seq (.ite (.cmp .lt (.var 4) (.con (.int 2))) (.ret (.tup (.cons (.sl (.var 2) .nil (.cons (.var 5) .nil)) (.cons (.ite (.cmp .eq (.var 4) (.con (.int 0))) (.con .non) (.var 3)) .nil)))) .skip)
  (.seq (.ite (.cmp .eq (.var 4) (.con (.int 2))) (.ret (.tup (.cons (.bin .add (.bin .add (.sl (.var 2) .nil (.cons (.var 5) .nil)) (.tup (.cons (.con (.int 5)) .nil))) (.sl (.var 2) (.cons (.bin .add (.var 5) (.con (.int 1))) .nil) .nil)) (.cons (.var 3) .nil)))) .skip)
  (.seq (.ite (.cmp .eq (.var 4) (.con (.int 3))) (.ret (.tup (.cons (.bin .add (.var 2) (.tup (.cons (.call 9 none (.cons (.var 0) (.cons (.con (.int 2)) .nil))) .nil))) (.cons (.var 3) .nil)))) .skip)
  (.ret (.ite (.cmp .eq (.var 4) (.con (.int 4))) (.tup (.cons (.sl (.var 2) .nil (.cons (.var 5) .nil)) (.cons (.tup (.cons (.con (.str "trap")) (.cons (.con (.str "index")) .nil))) .nil))) (.var 1))))))))
def d13 : Fd := ⟨2, 6, c13⟩
abbrev s14 : Stmt := top 18
abbrev N14 : List Str := ["_law_run_here", "_law_at"]
abbrev ps14 : List Str := ["_law_run_here"]
/-- _law_cuts(_law_run_here); 0 _law_run_here, 1 _law_at -/
def c14 : S :=
  (.ret (.bin .add (.lst (.cons (.var 0) .nil)) (.lc [1] (.nm 1) (.rng (.cons (.bin .add (.bi .len (.cons (.ix (.var 0) (.con (.int 0))) .nil)) (.con (.int 1))) .nil)) .nil (.tup (.cons (.sl (.ix (.var 0) (.con (.int 0))) .nil (.cons (.var 1) .nil)) (.cons (.con .non) .nil))))))
def d14 : Fd := ⟨1, 2, c14⟩
abbrev s15 : Stmt := top 19
abbrev N15 : List Str := ["_law_script", "_law_deal", "_law_turn", "_law_one", "_law_other", "_law_first", "_law_second", "_law_words", "_law_end", "_law_odd"]
abbrev ps15 : List Str := ["_law_script"]
/-- law(_law_script); 0 _law_script, 1 _law_deal, 2 _law_turn, 3 _law_one, 4 _law_other, 5 _law_first, 6 _law_second, 7 _law_words, 8 _law_end, 9 _law_odd -/
def c15 : S :=
  (.seq (.set 1 (.call 8 none (.cons (.var 0) (.cons (.con (.int 3)) .nil))))
  (.seq (.for_ (.nm 2) (.rng (.cons (.con (.int 8)) .nil)) (.seq (.set 3 (.call 12 none (.cons (.var 1) .nil)))
  (.seq (.set 4 (.ite (.cmp .gt (.call 9 none (.cons (.var 1) (.cons (.con (.int 3)) .nil))) (.con (.int 0))) (.call 13 none (.cons (.var 1) (.cons (.var 3) .nil))) (.call 12 none (.cons (.var 1) .nil))))
  (.seq (.unp (.tp (.cons (.nm 3) (.cons (.nm 4) .nil))) (.ite (.cmp .eq (.call 9 none (.cons (.var 1) (.cons (.con (.int 2)) .nil))) (.con (.int 0))) (.tup (.cons (.var 3) (.cons (.var 4) .nil))) (.tup (.cons (.var 4) (.cons (.var 3) .nil)))))
  (.seq (.ite (.or (.cmp .notN (.call 5 (some [0]) (.cons (.var 3) .nil)) (.con (.bl true))) (.cmp .ne (.bi .repr (.cons (.call 6 (some [1, 0]) (.cons (.var 4) (.cons (.var 3) .nil))) .nil)) (.bi .repr (.cons (.cmp .isin (.var 3) (.call 14 none (.cons (.var 4) .nil))) .nil)))) (.ret (.con (.bl false))) .skip)
  (.seq (.ite (.cmp .ne (.bi .repr (.cons (.call 7 (some [1, 0]) (.cons (.var 4) (.cons (.var 3) .nil))) .nil)) (.bi .repr (.cons (.or (.cmp .isin (.var 3) (.call 14 none (.cons (.var 4) .nil))) (.cmp .isin (.var 4) (.call 14 none (.cons (.var 3) .nil)))) .nil))) (.ret (.con (.bl false))) .skip)
  (.seq (.par [5, 6] (.cons (.call 10 none (.cons (.var 1) (.cons (.call 14 none (.cons (.var 3) .nil)) .nil))) (.cons (.call 10 none (.cons (.var 1) (.cons (.call 14 none (.cons (.var 3) .nil)) .nil))) .nil)))
  (.ite (.or (.not (.call 7 none (.cons (.var 5) (.cons (.var 6) .nil)))) (.not (.call 6 none (.cons (.call 10 none (.cons (.var 1) (.cons (.call 14 none (.cons (.var 5) .nil)) .nil))) (.cons (.var 3) .nil))))) (.ret (.con (.bl false))) .skip))))))))
  (.seq (.unp (.tp (.cons (.nm 7) (.cons (.nm 8) .nil))) (.var 3))
  (.seq (.set 9 (.lst (.cons (.bi .list (.cons (.var 3) .nil)) (.cons (.tup (.cons (.var 7) .nil)) (.cons (.bin .add (.var 3) (.tup (.cons (.con (.int 0)) .nil))) (.cons (.tup (.cons (.bi .list (.cons (.var 7) .nil)) (.cons (.var 8) .nil))) (.cons (.tup (.cons (.bin .add (.var 7) (.tup (.cons (.con (.bl true)) .nil))) (.cons (.var 8) .nil))) (.cons (.tup (.cons (.bin .add (.var 7) (.tup (.cons (.neg (.con (.int 1))) .nil))) (.cons (.var 8) .nil))) (.cons (.con .non) (.cons (.tup (.cons (.var 7) (.cons (.con (.int 0)) .nil))) .nil))))))))))
  (.seq (.set 9 (.bin .add (.var 9) (.lst (.cons (.tup (.cons (.var 7) (.cons (.tup (.cons (.con (.str "value")) .nil)) .nil))) (.cons (.tup (.cons (.var 7) (.cons (.tup (.cons (.con (.str "value")) (.cons (.con .non) .nil))) .nil))) (.cons (.tup (.cons (.var 7) (.cons (.tup (.cons (.con (.str "trap")) (.cons (.con (.str "end")) .nil))) .nil))) (.cons (.tup (.cons (.var 7) (.cons (.lst (.cons (.con (.str "value")) (.cons (.con (.int 0)) .nil))) .nil))) (.cons (.tup (.cons (.var 7) (.cons (.tup (.cons (.con (.str "Value")) (.cons (.con (.int 0)) .nil))) .nil))) (.cons (.tup (.cons (.var 7) (.cons (.tup (.cons (.con (.str "trap")) (.cons (.con (.int 0)) .nil))) .nil))) .nil)))))))))
  (.ret (.cmp .isN (.call 5 none (.cons (.call 10 none (.cons (.var 1) (.cons (.var 9) .nil))) .nil)) (.con (.bl false)))))))))
def d15 : Fd := ⟨1, 10, c15⟩
def tab : List Fd := [d0, d1, d2, d3, d4, d5, d6, d7, d8, d9, d10, ⟨0, 0, .skip⟩, d12, d13, d14, d15]
/-! ### the walk -/
structure Fx (K : PySem.W.Frag) (mg : Str → Option Value) : Prop where
  f_abs : mg "abs" = none
  f_all : mg "all" = none
  f_bool : mg "bool" = none
  f_int : mg "int" = none
  f_isinstance : mg "isinstance" = none
  f_len : mg "len" = none
  f_list : mg "list" = none
  f_range : mg "range" = none
  f_repr : mg "repr" = none
  f_str : mg "str" = none
  f_tuple : mg "tuple" = none
  k_KINDS : ConP K mg "KINDS" k_KINDS
theorem sc0 : FnScope N0 ps0 (defScope s0) := ⟨rfl, rfl, rfl, by decide +kernel, rfl, by decide +kernel, by decide +kernel⟩
abbrev Q0 (P : Program) (w : World) (K : PySem.W.Frag) (mg : Str → Option Value) (base : Heap) (n : Nat) : Prop := DefP P w K mg base tab n 0 "is_integer" ps0 (defArgs s0) (defBody s0) (defScope s0)
theorem bd0 : ∀ (kV doc pm : Value) (an : Option Addr) (cdv ct : Value) (us : List Value), us.length = ps0.length → bindArgs (PySem.W.fnOf "is_integer" "is_integer" (defArgs s0) (defBody s0) (defScope s0) .none kV doc pm an cdv ct) ⟨us, []⟩ = pure (ps0.zip us) := fun _ _ _ _ _ _ us hl => match us, hl with | [_], _ => rfl
theorem sc1 : FnScope N1 ps1 (defScope s1) := ⟨rfl, rfl, rfl, by decide +kernel, rfl, by decide +kernel, by decide +kernel⟩
abbrev Q1 (P : Program) (w : World) (K : PySem.W.Frag) (mg : Str → Option Value) (base : Heap) (n : Nat) : Prop := DefP P w K mg base tab n 1 "is_number" ps1 (defArgs s1) (defBody s1) (defScope s1)
theorem bd1 : ∀ (kV doc pm : Value) (an : Option Addr) (cdv ct : Value) (us : List Value), us.length = ps1.length → bindArgs (PySem.W.fnOf "is_number" "is_number" (defArgs s1) (defBody s1) (defScope s1) .none kV doc pm an cdv ct) ⟨us, []⟩ = pure (ps1.zip us) := fun _ _ _ _ _ _ us hl => match us, hl with | [_], _ => rfl
theorem sc2 : FnScope N2 ps2 (defScope s2) := ⟨rfl, rfl, rfl, by decide +kernel, rfl, by decide +kernel, by decide +kernel⟩
abbrev Q2 (P : Program) (w : World) (K : PySem.W.Frag) (mg : Str → Option Value) (base : Heap) (n : Nat) : Prop := DefP P w K mg base tab n 2 "is_row_of" ps2 (defArgs s2) (defBody s2) (defScope s2)
theorem bd2 : ∀ (kV doc pm : Value) (an : Option Addr) (cdv ct : Value) (us : List Value), us.length = ps2.length → bindArgs (PySem.W.fnOf "is_row_of" "is_row_of" (defArgs s2) (defBody s2) (defScope s2) .none kV doc pm an cdv ct) ⟨us, []⟩ = pure (ps2.zip us) := fun _ _ _ _ _ _ us hl => match us, hl with | [_, _], _ => rfl
theorem sc3 : FnScope N3 ps3 (defScope s3) := ⟨rfl, rfl, rfl, by decide +kernel, rfl, by decide +kernel, by decide +kernel⟩
abbrev Q3 (P : Program) (w : World) (K : PySem.W.Frag) (mg : Str → Option Value) (base : Heap) (n : Nat) : Prop := DefP P w K mg base tab n 3 "is_word_of" ps3 (defArgs s3) (defBody s3) (defScope s3)
theorem bd3 : ∀ (kV doc pm : Value) (an : Option Addr) (cdv ct : Value) (us : List Value), us.length = ps3.length → bindArgs (PySem.W.fnOf "is_word_of" "is_word_of" (defArgs s3) (defBody s3) (defScope s3) .none kV doc pm an cdv ct) ⟨us, []⟩ = pure (ps3.zip us) := fun _ _ _ _ _ _ us hl => match us, hl with | [_, _], _ => rfl
theorem sc4 : FnScope N4 ps4 (defScope s4) := ⟨rfl, rfl, rfl, by decide +kernel, rfl, by decide +kernel, by decide +kernel⟩
abbrev Q4 (P : Program) (w : World) (K : PySem.W.Frag) (mg : Str → Option Value) (base : Heap) (n : Nat) : Prop := DefP P w K mg base tab n 4 "is_end" ps4 (defArgs s4) (defBody s4) (defScope s4)
theorem bd4 : ∀ (kV doc pm : Value) (an : Option Addr) (cdv ct : Value) (us : List Value), us.length = ps4.length → bindArgs (PySem.W.fnOf "is_end" "is_end" (defArgs s4) (defBody s4) (defScope s4) .none kV doc pm an cdv ct) ⟨us, []⟩ = pure (ps4.zip us) := fun _ _ _ _ _ _ us hl => match us, hl with | [_], _ => rfl
theorem sc5 : FnScope N5 ps5 (defScope s5) := ⟨rfl, rfl, rfl, by decide +kernel, rfl, by decide +kernel, by decide +kernel⟩
abbrev Q5 (P : Program) (w : World) (K : PySem.W.Frag) (mg : Str → Option Value) (base : Heap) (n : Nat) : Prop := DefP P w K mg base tab n 5 "is_run" ps5 (defArgs s5) (defBody s5) (defScope s5)
theorem bd5 : ∀ (kV doc pm : Value) (an : Option Addr) (cdv ct : Value) (us : List Value), us.length = ps5.length → bindArgs (PySem.W.fnOf "is_run" "is_run" (defArgs s5) (defBody s5) (defScope s5) .none kV doc pm an cdv ct) ⟨us, []⟩ = pure (ps5.zip us) := fun _ _ _ _ _ _ us hl => match us, hl with | [_], _ => rfl
theorem sc6 : FnScope N6 ps6 (defScope s6) := ⟨rfl, rfl, rfl, by decide +kernel, rfl, by decide +kernel, by decide +kernel⟩
abbrev Q6 (P : Program) (w : World) (K : PySem.W.Frag) (mg : Str → Option Value) (base : Heap) (n : Nat) : Prop := DefP P w K mg base tab n 6 "is_beginning" ps6 (defArgs s6) (defBody s6) (defScope s6)
theorem bd6 : ∀ (kV doc pm : Value) (an : Option Addr) (cdv ct : Value) (us : List Value), us.length = ps6.length → bindArgs (PySem.W.fnOf "is_beginning" "is_beginning" (defArgs s6) (defBody s6) (defScope s6) .none kV doc pm an cdv ct) ⟨us, []⟩ = pure (ps6.zip us) := fun _ _ _ _ _ _ us hl => match us, hl with | [_, _], _ => rfl
theorem sc7 : FnScope N7 ps7 (defScope s7) := ⟨rfl, rfl, rfl, by decide +kernel, rfl, by decide +kernel, by decide +kernel⟩
abbrev Q7 (P : Program) (w : World) (K : PySem.W.Frag) (mg : Str → Option Value) (base : Heap) (n : Nat) : Prop := DefP P w K mg base tab n 7 "agree_so_far" ps7 (defArgs s7) (defBody s7) (defScope s7)
theorem bd7 : ∀ (kV doc pm : Value) (an : Option Addr) (cdv ct : Value) (us : List Value), us.length = ps7.length → bindArgs (PySem.W.fnOf "agree_so_far" "agree_so_far" (defArgs s7) (defBody s7) (defScope s7) .none kV doc pm an cdv ct) ⟨us, []⟩ = pure (ps7.zip us) := fun _ _ _ _ _ _ us hl => match us, hl with | [_, _], _ => rfl
theorem sc8 : FnScope N8 ps8 (defScope s8) := ⟨rfl, rfl, rfl, by decide +kernel, rfl, by decide +kernel, by decide +kernel⟩
abbrev Q8 (P : Program) (w : World) (K : PySem.W.Frag) (mg : Str → Option Value) (base : Heap) (n : Nat) : Prop := DefP P w K mg base tab n 8 "_law_draw" ps8 (defArgs s8) (defBody s8) (defScope s8)
theorem bd8 : ∀ (kV doc pm : Value) (an : Option Addr) (cdv ct : Value) (us : List Value), us.length = ps8.length → bindArgs (PySem.W.fnOf "_law_draw" "_law_draw" (defArgs s8) (defBody s8) (defScope s8) .none kV doc pm an cdv ct) ⟨us, []⟩ = pure (ps8.zip us) := fun _ _ _ _ _ _ us hl => match us, hl with | [_, _], _ => rfl
theorem sc9 : FnScope N9 ps9 (defScope s9) := ⟨rfl, rfl, rfl, by decide +kernel, rfl, by decide +kernel, by decide +kernel⟩
abbrev Q9 (P : Program) (w : World) (K : PySem.W.Frag) (mg : Str → Option Value) (base : Heap) (n : Nat) : Prop := DefP P w K mg base tab n 9 "_law_any" ps9 (defArgs s9) (defBody s9) (defScope s9)
theorem bd9 : ∀ (kV doc pm : Value) (an : Option Addr) (cdv ct : Value) (us : List Value), us.length = ps9.length → bindArgs (PySem.W.fnOf "_law_any" "_law_any" (defArgs s9) (defBody s9) (defScope s9) .none kV doc pm an cdv ct) ⟨us, []⟩ = pure (ps9.zip us) := fun _ _ _ _ _ _ us hl => match us, hl with | [_, _], _ => rfl
theorem sc10 : FnScope N10 ps10 (defScope s10) := ⟨rfl, rfl, rfl, by decide +kernel, rfl, by decide +kernel, by decide +kernel⟩
abbrev Q10 (P : Program) (w : World) (K : PySem.W.Frag) (mg : Str → Option Value) (base : Heap) (n : Nat) : Prop := DefP P w K mg base tab n 10 "_law_of" ps10 (defArgs s10) (defBody s10) (defScope s10)
theorem bd10 : ∀ (kV doc pm : Value) (an : Option Addr) (cdv ct : Value) (us : List Value), us.length = ps10.length → bindArgs (PySem.W.fnOf "_law_of" "_law_of" (defArgs s10) (defBody s10) (defScope s10) .none kV doc pm an cdv ct) ⟨us, []⟩ = pure (ps10.zip us) := fun _ _ _ _ _ _ us hl => match us, hl with | [_, _], _ => rfl
theorem sc12 : FnScope N12 ps12 (defScope s12) := ⟨rfl, rfl, rfl, by decide +kernel, rfl, by decide +kernel, by decide +kernel⟩
abbrev Q12 (P : Program) (w : World) (K : PySem.W.Frag) (mg : Str → Option Value) (base : Heap) (n : Nat) : Prop := DefP P w K mg base tab n 12 "_law_run" ps12 (defArgs s12) (defBody s12) (defScope s12)
theorem bd12 : ∀ (kV doc pm : Value) (an : Option Addr) (cdv ct : Value) (us : List Value), us.length = ps12.length → bindArgs (PySem.W.fnOf "_law_run" "_law_run" (defArgs s12) (defBody s12) (defScope s12) .none kV doc pm an cdv ct) ⟨us, []⟩ = pure (ps12.zip us) := fun _ _ _ _ _ _ us hl => match us, hl with | [_], _ => rfl
theorem sc13 : FnScope N13 ps13 (defScope s13) := ⟨rfl, rfl, rfl, by decide +kernel, rfl, by decide +kernel, by decide +kernel⟩
abbrev Q13 (P : Program) (w : World) (K : PySem.W.Frag) (mg : Str → Option Value) (base : Heap) (n : Nat) : Prop := DefP P w K mg base tab n 13 "_law_near" ps13 (defArgs s13) (defBody s13) (defScope s13)
theorem bd13 : ∀ (kV doc pm : Value) (an : Option Addr) (cdv ct : Value) (us : List Value), us.length = ps13.length → bindArgs (PySem.W.fnOf "_law_near" "_law_near" (defArgs s13) (defBody s13) (defScope s13) .none kV doc pm an cdv ct) ⟨us, []⟩ = pure (ps13.zip us) := fun _ _ _ _ _ _ us hl => match us, hl with | [_, _], _ => rfl
theorem sc14 : FnScope N14 ps14 (defScope s14) := ⟨rfl, rfl, rfl, by decide +kernel, rfl, by decide +kernel, by decide +kernel⟩
abbrev Q14 (P : Program) (w : World) (K : PySem.W.Frag) (mg : Str → Option Value) (base : Heap) (n : Nat) : Prop := DefP P w K mg base tab n 14 "_law_cuts" ps14 (defArgs s14) (defBody s14) (defScope s14)
theorem bd14 : ∀ (kV doc pm : Value) (an : Option Addr) (cdv ct : Value) (us : List Value), us.length = ps14.length → bindArgs (PySem.W.fnOf "_law_cuts" "_law_cuts" (defArgs s14) (defBody s14) (defScope s14) .none kV doc pm an cdv ct) ⟨us, []⟩ = pure (ps14.zip us) := fun _ _ _ _ _ _ us hl => match us, hl with | [_], _ => rfl
theorem sc15 : FnScope N15 ps15 (defScope s15) := ⟨rfl, rfl, rfl, by decide +kernel, rfl, by decide +kernel, by decide +kernel⟩
abbrev Q15 (P : Program) (w : World) (K : PySem.W.Frag) (mg : Str → Option Value) (base : Heap) (n : Nat) : Prop := DefP P w K mg base tab n 15 "law" ps15 (defArgs s15) (defBody s15) (defScope s15)
theorem bd15 : ∀ (kV doc pm : Value) (an : Option Addr) (cdv ct : Value) (us : List Value), us.length = ps15.length → bindArgs (PySem.W.fnOf "law" "law" (defArgs s15) (defBody s15) (defScope s15) .none kV doc pm an cdv ct) ⟨us, []⟩ = pure (ps15.zip us) := fun _ _ _ _ _ _ us hl => match us, hl with | [_], _ => rfl
theorem kw5_0_0 : KwOk "is_run" ps5 ["value"] [0] 0 1 (defArgs s5) (defBody s5) (defScope s5) := fun _ _ _ _ _ _ us ws h1 h2 => match us, ws, h1, h2 with | [], [x0], _, _ => ⟨[x0], rfl, rfl, rfl⟩
theorem kw6_0_1_0 : KwOk "is_beginning" ps6 ["other", "one"] [1, 0] 0 2 (defArgs s6) (defBody s6) (defScope s6) := fun _ _ _ _ _ _ us ws h1 h2 => match us, ws, h1, h2 with | [], [x0, x1], _, _ => ⟨[x1, x0], rfl, rfl, rfl⟩
theorem kw7_0_1_0 : KwOk "agree_so_far" ps7 ["other", "one"] [1, 0] 0 2 (defArgs s7) (defBody s7) (defScope s7) := fun _ _ _ _ _ _ us ws h1 h2 => match us, ws, h1, h2 with | [], [x0, x1], _, _ => ⟨[x1, x0], rfl, rfl, rfl⟩
section
variable {P : Program} {w : World} {K : PySem.W.Frag} {mg : Str → Option Value} {base : Heap} {n : Nat}
theorem b0 (fx : Fx K mg)  : BodyP P w K mg base tab n N0 "is_integer" (defBody s0) (defScope s0) c0 := by
  intro f cdv A outer s H E hr hg
  have ok := bodyZ_ok (P := P) (w := w) (K := K) (mg := mg) (base := base) (outer := outer) (H := H) (E := E) (cl := run tab n) sc0.nd hr hg
  exact (s_one (s_ret (w_and (w_isi (w_var 0) rfl fx.f_isinstance rfl fx.f_int (by decide +kernel) kit_int) (w_one (w_not (w_isi (w_var 0) rfl fx.f_isinstance rfl fx.f_bool (by decide +kernel) kit_bool))))))
theorem b1 (fx : Fx K mg) (q_is_integer : Q0 P w K mg base n) : BodyP P w K mg base tab n N1 "is_number" (defBody s1) (defScope s1) c1 := by
  intro f cdv A outer s H E hr hg
  have ok := bodyZ_ok (P := P) (w := w) (K := K) (mg := mg) (base := base) (outer := outer) (H := H) (E := E) (cl := run tab n) sc1.nd hr hg
  exact (s_one (s_ret (w_and (w_call 0 ok (DefP.callee q_is_integer hr) rfl (w_cons (w_var 0) w_nil) bd0) (w_one (w_cmp .ge ok (w_var 0) w_int)))))
theorem b2 (fx : Fx K mg)  : BodyP P w K mg base tab n N2 "is_row_of" (defBody s2) (defScope s2) c2 := by
  intro f cdv A outer s H E hr hg
  have ok := bodyZ_ok (P := P) (w := w) (K := K) (mg := mg) (base := base) (outer := outer) (H := H) (E := E) (cl := run tab n) sc2.nd hr hg
  exact (s_one (s_ret (w_and (w_isi (w_var 0) rfl fx.f_isinstance rfl fx.f_tuple (by decide +kernel) kit_tuple) (w_one (w_cmp .isin ok (w_bi .len ok rfl fx.f_len (by decide +kernel) (w_cons (w_var 0) w_nil)) (w_var 1))))))
theorem b3 (fx : Fx K mg)  : BodyP P w K mg base tab n N3 "is_word_of" (defBody s3) (defScope s3) c3 := by
  intro f cdv A outer s H E hr hg
  have ok := bodyZ_ok (P := P) (w := w) (K := K) (mg := mg) (base := base) (outer := outer) (H := H) (E := E) (cl := run tab n) sc3.nd hr hg
  exact (s_one (s_ret (w_and (w_isi (w_var 0) rfl fx.f_isinstance rfl fx.f_str (by decide +kernel) kit_str) (w_one (w_cmp .isin ok (w_var 0) (w_var 1))))))
theorem b4 (fx : Fx K mg) (q_is_number : Q1 P w K mg base n) (q_is_row_of : Q2 P w K mg base n) (q_is_word_of : Q3 P w K mg base n) : BodyP P w K mg base tab n N4 "is_end" (defBody s4) (defScope s4) c4 := by
  intro f cdv A outer s H E hr hg
  have ok := bodyZ_ok (P := P) (w := w) (K := K) (mg := mg) (base := base) (outer := outer) (H := H) (E := E) (cl := run tab n) sc4.nd hr hg
  exact (s_cons (s_ite (t_cmp .isN ok (w_var 0) w_non) (s_one (s_ret w_bl)) s_nil)
  (s_cons (s_ite (SW.t (t_or (t_not (t_tru (w_call 2 ok (DefP.callee q_is_row_of hr) rfl (w_cons (w_var 0) (w_cons (w_tup (w_cons w_int w_nil)) w_nil)) bd2))) (t_or1 (t_not (t_tru (w_isi (w_ix ok (w_var 0) w_int) rfl fx.f_isinstance rfl fx.f_str (by decide +kernel) kit_str)))))) (s_one (s_ret w_bl)) s_nil)
  (s_cons (s_ite (t_cmp .eq ok (w_ix ok (w_var 0) w_int) w_str) (s_one (s_ret (w_call 1 ok (DefP.callee q_is_number hr) rfl (w_cons (w_ix ok (w_var 0) w_int) w_nil) bd1))) s_nil)
  (s_one (s_ret (w_and (w_cmp .eq ok (w_ix ok (w_var 0) w_int) w_str) (w_one (w_call 3 ok (DefP.callee q_is_word_of hr) rfl (w_cons (w_ix ok (w_var 0) w_int) (w_cons (w_con fx.k_KINDS rfl) w_nil)) bd3))))))))
theorem b5 (fx : Fx K mg) (q_is_number : Q1 P w K mg base n) (q_is_row_of : Q2 P w K mg base n) (q_is_end : Q4 P w K mg base n) : BodyP P w K mg base tab n N5 "is_run" (defBody s5) (defScope s5) c5 := by
  intro f cdv A outer s H E hr hg
  have ok := bodyZ_ok (P := P) (w := w) (K := K) (mg := mg) (base := base) (outer := outer) (H := H) (E := E) (cl := run tab n) sc5.nd hr hg
  exact (s_cons (s_ite (SW.t (t_or (t_not (t_tru (w_call 2 ok (DefP.callee q_is_row_of hr) rfl (w_cons (w_var 0) (w_cons (w_tup (w_cons w_int w_nil)) w_nil)) bd2))) (t_or1 (t_not (t_tru (w_isi (w_ix ok (w_var 0) w_int) rfl fx.f_isinstance rfl fx.f_tuple (by decide +kernel) kit_tuple)))))) (s_one (s_ret w_bl)) s_nil)
  (s_one (s_ret (w_and (w_bi .all ok rfl fx.f_all (by decide +kernel) (w_cons (w_lc (own := [("one", 1)]) ok (i_val (w_ix ok (w_var 0) w_int)) (blkOk_by (by kernel_rfl)) (fun _ _ _ _ _ => (g_nm 1 sc5.nd)) (fun s0 H0 C0 l0 fp0 => c_nil) (fun s0 H0 C0 l0 fp0 => (w_call 1 (Cz.Ok.blk ok s0 H0 _ C0 l0 fp0) (Callee.blk (DefP.callee q_is_number hr) s0 H0 _ C0 l0 fp0) rfl (w_cons (w_var 1) w_nil) bd1)) (hsl_by (by decide))) w_nil)) (w_one (w_call 4 ok (DefP.callee q_is_end hr) rfl (w_cons (w_ix ok (w_var 0) w_int) w_nil) bd4))))))
theorem b6 (fx : Fx K mg)  : BodyP P w K mg base tab n N6 "is_beginning" (defBody s6) (defScope s6) c6 := by
  intro f cdv A outer s H E hr hg
  have ok := bodyZ_ok (P := P) (w := w) (K := K) (mg := mg) (base := base) (outer := outer) (H := H) (E := E) (cl := run tab n) sc6.nd hr hg
  exact (s_one (s_ret (w_or (w_cmp .eq ok (w_var 0) (w_var 1)) (w_one (w_and (w_cmp .isN ok (w_ix ok (w_var 0) w_int) w_non) (w_one (w_cmp .eq ok (w_ix ok (w_var 0) w_int) (w_sl (w_ix ok (w_var 1) w_int) w_o0 (w_o1 (w_bi .len ok rfl fx.f_len (by decide +kernel) (w_cons (w_ix ok (w_var 0) w_int) w_nil)))))))))))
theorem b7 (fx : Fx K mg) (q_is_beginning : Q6 P w K mg base n) : BodyP P w K mg base tab n N7 "agree_so_far" (defBody s7) (defScope s7) c7 := by
  intro f cdv A outer s H E hr hg
  have ok := bodyZ_ok (P := P) (w := w) (K := K) (mg := mg) (base := base) (outer := outer) (H := H) (E := E) (cl := run tab n) sc7.nd hr hg
  exact (s_one (s_ret (w_or (w_call 6 ok (DefP.callee q_is_beginning hr) rfl (w_cons (w_var 0) (w_cons (w_var 1) w_nil)) bd6) (w_one (w_call 6 ok (DefP.callee q_is_beginning hr) rfl (w_cons (w_var 1) (w_cons (w_var 0) w_nil)) bd6)))))
theorem b8 (fx : Fx K mg)  : BodyP P w K mg base tab n N8 "_law_draw" (defBody s8) (defScope s8) c8 := by
  intro f cdv A outer s H E hr hg
  have ok := bodyZ_ok (P := P) (w := w) (K := K) (mg := mg) (base := base) (outer := outer) (H := H) (E := E) (cl := run tab n) sc8.nd hr hg
  exact (s_cons (s_setLc 2 (own := [("_law_cell", 4)]) ok (i_val (w_sl (w_var 0) w_o0 (w_o1 w_int))) (blkOk_by (by kernel_rfl)) (fun _ _ _ _ _ => (g_nm 4 sc8.nd)) (fun s0 H0 C0 l0 fp0 => c_nil) (fun s0 H0 C0 l0 fp0 => (w_bi .abs (Cz.Ok.blk ok s0 H0 _ C0 l0 fp0) rfl fx.f_abs (by decide +kernel) (w_cons (w_bi .int (Cz.Ok.blk ok s0 H0 _ C0 l0 fp0) rfl fx.f_int (by decide +kernel) (w_cons (w_var 4) w_nil)) w_nil))) (hsl_by (by decide)) (sw_true rfl rfl rfl (by decide +kernel)))
  (s_cons (s_set 3 sc8.nd (w_bin .add w_int (w_bin .mul w_int (w_var 1))))
  (s_cons (s_for ok bodyZ_pass (i_val (w_var 2)) (g_nm 4 sc8.nd) (fun _ _ => rfl) (s_one (s_set 3 sc8.nd (w_bin .mod (w_bi .int ok rfl fx.f_int (by decide +kernel) (w_cons (w_bin .add (w_bin .add (w_bin .mul (w_var 3) w_int) (w_bin .mod (w_var 4) w_int)) w_int) w_nil)) w_int))))
  (s_one (s_ret (w_lst (w_cons (w_rev (w_lc (own := [("_law_cell", 4)]) ok (i_val (w_var 2)) (blkOk_by (by kernel_rfl)) (fun _ _ _ _ _ => (g_nm 4 sc8.nd)) (fun s0 H0 C0 l0 fp0 => (c_one (t_cmp .ge (Cz.Ok.blk ok s0 H0 _ C0 l0 fp0) (w_var 4) (w_bin .pow w_int w_int)))) (fun s0 H0 C0 l0 fp0 => (w_var 4)) (hsl_by (by decide)))) (w_cons (w_var 3) w_nil))))))))
theorem b9 (fx : Fx K mg)  : BodyP P w K mg base tab n N9 "_law_any" (defBody s9) (defScope s9) c9 := by
  intro f cdv A outer s H E hr hg
  have ok := bodyZ_ok (P := P) (w := w) (K := K) (mg := mg) (base := base) (outer := outer) (H := H) (E := E) (cl := run tab n) sc9.nd hr hg
  exact (s_cons (s_whl bodyZ_pass (SW.t (t_and (t_cmp .ne ok (w_ix ok (w_var 0) w_int) (w_lst w_nil)) (t_and1 (t_cmp .eq ok (w_ix ok (w_ix ok (w_var 0) w_int) (w_neg w_int)) w_int)))) (s_one (s_expr (w_mt0 .pop PySem.F.slot_list_pop rfl (w_ix ok (w_var 0) w_int)))))
  (s_cons (s_ite (t_cmp .ne ok (w_ix ok (w_var 0) w_int) (w_lst w_nil)) (s_cons (s_set 2 sc9.nd (w_bi .int ok rfl fx.f_int (by decide +kernel) (w_cons (w_mt0 .pop PySem.F.slot_list_pop rfl (w_ix ok (w_var 0) w_int)) w_nil)))
  (s_cons (s_expr (w_mt .append PySem.F.slot_list_append rfl (w_ix ok (w_var 0) w_int) (w_cons (w_bin .fdiv (w_var 2) (w_var 1)) w_nil)))
  (s_one (s_ret (w_bin .mod (w_var 2) (w_var 1)))))) s_nil)
  (s_cons (s_sto ok (w_var 0) w_int (w_bin .mod (w_bi .int ok rfl fx.f_int (by decide +kernel) (w_cons (w_bin .add (w_bin .mul (w_ix ok (w_var 0) w_int) w_int) w_int) w_nil)) w_int))
  (s_one (s_ret (w_bin .mod (w_bi .int ok rfl fx.f_int (by decide +kernel) (w_cons (w_bin .fdiv (w_ix ok (w_var 0) w_int) w_int) w_nil)) (w_var 1)))))))
theorem b10 (fx : Fx K mg) (q__law_any : Q9 P w K mg base n) : BodyP P w K mg base tab n N10 "_law_of" (defBody s10) (defScope s10) c10 := by
  intro f cdv A outer s H E hr hg
  have ok := bodyZ_ok (P := P) (w := w) (K := K) (mg := mg) (base := base) (outer := outer) (H := H) (E := E) (cl := run tab n) sc10.nd hr hg
  exact (s_one (s_ret (w_ix ok (w_var 1) (w_call 9 ok (DefP.callee q__law_any hr) rfl (w_cons (w_var 0) (w_cons (w_bi .len ok rfl fx.f_len (by decide +kernel) (w_cons (w_var 1) w_nil)) w_nil)) bd9))))
theorem b12 (fx : Fx K mg) (q__law_any : Q9 P w K mg base n) (q__law_of : Q10 P w K mg base n) : BodyP P w K mg base tab n N12 "_law_run" (defBody s12) (defScope s12) c12 := by
  intro f cdv A outer s H E hr hg
  have ok := bodyZ_ok (P := P) (w := w) (K := K) (mg := mg) (base := base) (outer := outer) (H := H) (E := E) (cl := run tab n) sc12.nd hr hg
  exact (s_cons (s_set 1 sc12.nd (w_bi .tuple ok rfl fx.f_tuple (by decide +kernel) (w_cons (w_lc (own := [("_law_turn", 3)]) ok (i_rng1 rfl fx.f_range (w_call 9 ok (DefP.callee q__law_any hr) rfl (w_cons (w_var 0) (w_cons w_int w_nil)) bd9)) (blkOk_by (by kernel_rfl)) (fun _ _ _ _ _ => (g_nm 3 sc12.nd)) (fun s0 H0 C0 l0 fp0 => c_nil) (fun s0 H0 C0 l0 fp0 => (w_call 9 (Cz.Ok.blk ok s0 H0 _ C0 l0 fp0) (Callee.blk (DefP.callee q__law_any hr) s0 H0 _ C0 l0 fp0) rfl (w_cons (w_var 0) (w_cons w_int w_nil)) bd9)) (hsl_by (by decide))) w_nil)))
  (s_cons (s_set 2 sc12.nd (w_lst (w_cons w_non (w_cons w_non (w_cons (w_tup (w_cons w_str (w_cons (w_call 9 ok (DefP.callee q__law_any hr) rfl (w_cons (w_var 0) (w_cons w_int w_nil)) bd9) w_nil))) (w_cons (w_tup (w_cons w_str (w_cons (w_call 10 ok (DefP.callee q__law_of hr) rfl (w_cons (w_var 0) (w_cons (w_lst (w_cons w_str (w_cons w_str (w_cons w_str (w_cons w_str w_nil))))) w_nil)) bd10) w_nil))) w_nil))))))
  (s_one (s_ret (w_tup (w_cons (w_var 1) (w_cons (w_call 10 ok (DefP.callee q__law_of hr) rfl (w_cons (w_var 0) (w_cons (w_var 2) w_nil)) bd10) w_nil)))))))
theorem b13 (fx : Fx K mg) (q__law_any : Q9 P w K mg base n) : BodyP P w K mg base tab n N13 "_law_near" (defBody s13) (defScope s13) c13 := by
  intro f cdv A outer s H E hr hg
  have ok := bodyZ_ok (P := P) (w := w) (K := K) (mg := mg) (base := base) (outer := outer) (H := H) (E := E) (cl := run tab n) sc13.nd hr hg
  exact (s_cons (s_unp (w_var 1) (g_tp rfl (gs_cons (g_nm 2 sc13.nd) (gs_cons (g_nm 3 sc13.nd) gs_nil)) (fun _ _ _ h => asgs_len h)) (fun _ _ => rfl))
  (s_cons (s_par2 4 5 ok (w_cons (w_call 9 ok (DefP.callee q__law_any hr) rfl (w_cons (w_var 0) (w_cons w_int w_nil)) bd9) (w_cons (w_call 9 ok (DefP.callee q__law_any hr) rfl (w_cons (w_var 0) (w_cons (w_bin .add (w_bi .len ok rfl fx.f_len (by decide +kernel) (w_cons (w_var 2) w_nil)) w_int) w_nil)) bd9) w_nil)) rfl)
  (s_cons (s_ite (t_cmp .lt ok (w_var 4) w_int) (s_one (s_ret (w_tup (w_cons (w_sl (w_var 2) w_o0 (w_o1 (w_var 5))) (w_cons (w_ite (t_cmp .eq ok (w_var 4) w_int) w_non (w_var 3)) w_nil))))) s_nil)
  (s_cons (s_ite (t_cmp .eq ok (w_var 4) w_int) (s_one (s_ret (w_tup (w_cons (w_bin .add (w_bin .add (w_sl (w_var 2) w_o0 (w_o1 (w_var 5))) (w_tup (w_cons w_int w_nil))) (w_sl (w_var 2) (w_o1 (w_bin .add (w_var 5) w_int)) w_o0)) (w_cons (w_var 3) w_nil))))) s_nil)
  (s_cons (s_ite (t_cmp .eq ok (w_var 4) w_int) (s_one (s_ret (w_tup (w_cons (w_bin .add (w_var 2) (w_tup (w_cons (w_call 9 ok (DefP.callee q__law_any hr) rfl (w_cons (w_var 0) (w_cons w_int w_nil)) bd9) w_nil))) (w_cons (w_var 3) w_nil))))) s_nil)
  (s_one (s_ret (w_ite (t_cmp .eq ok (w_var 4) w_int) (w_tup (w_cons (w_sl (w_var 2) w_o0 (w_o1 (w_var 5))) (w_cons (w_tup (w_cons w_str (w_cons w_str w_nil))) w_nil))) (w_var 1)))))))))
theorem b14 (fx : Fx K mg)  : BodyP P w K mg base tab n N14 "_law_cuts" (defBody s14) (defScope s14) c14 := by
  intro f cdv A outer s H E hr hg
  have ok := bodyZ_ok (P := P) (w := w) (K := K) (mg := mg) (base := base) (outer := outer) (H := H) (E := E) (cl := run tab n) sc14.nd hr hg
  exact (s_one (s_ret (w_bin .add (w_lst (w_cons (w_var 0) w_nil)) (w_lc (own := [("_law_at", 1)]) ok (i_rng1 rfl fx.f_range (w_bin .add (w_bi .len ok rfl fx.f_len (by decide +kernel) (w_cons (w_ix ok (w_var 0) w_int) w_nil)) w_int)) (blkOk_by (by kernel_rfl)) (fun _ _ _ _ _ => (g_nm 1 sc14.nd)) (fun s0 H0 C0 l0 fp0 => c_nil) (fun s0 H0 C0 l0 fp0 => (w_tup (w_cons (w_sl (w_ix (Cz.Ok.blk ok s0 H0 _ C0 l0 fp0) (w_var 0) w_int) w_o0 (w_o1 (w_var 1))) (w_cons w_non w_nil)))) (hsl_by (by decide))))))
theorem b15 (fx : Fx K mg) (q_is_run : Q5 P w K mg base n) (q_is_beginning : Q6 P w K mg base n) (q_agree_so_far : Q7 P w K mg base n) (q__law_draw : Q8 P w K mg base n) (q__law_any : Q9 P w K mg base n) (q__law_of : Q10 P w K mg base n) (q__law_run : Q12 P w K mg base n) (q__law_near : Q13 P w K mg base n) (q__law_cuts : Q14 P w K mg base n) : BodyP P w K mg base tab n N15 "law" (defBody s15) (defScope s15) c15 := by
  intro f cdv A outer s H E hr hg
  have ok := bodyZ_ok (P := P) (w := w) (K := K) (mg := mg) (base := base) (outer := outer) (H := H) (E := E) (cl := run tab n) sc15.nd hr hg
  exact (s_cons (s_set 1 sc15.nd (w_call 8 ok (DefP.callee q__law_draw hr) rfl (w_cons (w_var 0) (w_cons w_int w_nil)) bd8))
  (s_cons (s_for ok bodyZ_pass (i_rng1 rfl fx.f_range w_int) (g_nm 2 sc15.nd) (fun _ _ => rfl) (s_cons (s_set 3 sc15.nd (w_call 12 ok (DefP.callee q__law_run hr) rfl (w_cons (w_var 1) w_nil) bd12))
  (s_cons (s_set 4 sc15.nd (w_ite (t_cmp .gt ok (w_call 9 ok (DefP.callee q__law_any hr) rfl (w_cons (w_var 1) (w_cons w_int w_nil)) bd9) w_int) (w_call 13 ok (DefP.callee q__law_near hr) rfl (w_cons (w_var 1) (w_cons (w_var 3) w_nil)) bd13) (w_call 12 ok (DefP.callee q__law_run hr) rfl (w_cons (w_var 1) w_nil) bd12)))
  (s_cons (s_unp (w_ite (t_cmp .eq ok (w_call 9 ok (DefP.callee q__law_any hr) rfl (w_cons (w_var 1) (w_cons w_int w_nil)) bd9) w_int) (w_tup (w_cons (w_var 3) (w_cons (w_var 4) w_nil))) (w_tup (w_cons (w_var 4) (w_cons (w_var 3) w_nil)))) (g_tp rfl (gs_cons (g_nm 3 sc15.nd) (gs_cons (g_nm 4 sc15.nd) gs_nil)) (fun _ _ _ h => asgs_len h)) (fun _ _ => rfl))
  (s_cons (s_ite (SW.t (t_or (t_cmp .notN ok (w_callK0 5 ok (DefP.callee q_is_run hr) rfl (k_cons (w_var 3) k_nil) kw5_0_0) w_bl) (t_or1 (t_cmp .ne ok (w_bi .repr ok rfl fx.f_repr (by decide +kernel) (w_cons (w_callK0 6 ok (DefP.callee q_is_beginning hr) rfl (k_cons (w_var 4) (k_cons (w_var 3) k_nil)) kw6_0_1_0) w_nil)) (w_bi .repr ok rfl fx.f_repr (by decide +kernel) (w_cons (w_cmp .isin ok (w_var 3) (w_call 14 ok (DefP.callee q__law_cuts hr) rfl (w_cons (w_var 4) w_nil) bd14)) w_nil)))))) (s_one (s_ret w_bl)) s_nil)
  (s_cons (s_ite (t_cmp .ne ok (w_bi .repr ok rfl fx.f_repr (by decide +kernel) (w_cons (w_callK0 7 ok (DefP.callee q_agree_so_far hr) rfl (k_cons (w_var 4) (k_cons (w_var 3) k_nil)) kw7_0_1_0) w_nil)) (w_bi .repr ok rfl fx.f_repr (by decide +kernel) (w_cons (w_or (w_cmp .isin ok (w_var 3) (w_call 14 ok (DefP.callee q__law_cuts hr) rfl (w_cons (w_var 4) w_nil) bd14)) (w_one (w_cmp .isin ok (w_var 4) (w_call 14 ok (DefP.callee q__law_cuts hr) rfl (w_cons (w_var 3) w_nil) bd14)))) w_nil))) (s_one (s_ret w_bl)) s_nil)
  (s_cons (s_par2 5 6 ok (w_cons (w_call 10 ok (DefP.callee q__law_of hr) rfl (w_cons (w_var 1) (w_cons (w_call 14 ok (DefP.callee q__law_cuts hr) rfl (w_cons (w_var 3) w_nil) bd14) w_nil)) bd10) (w_cons (w_call 10 ok (DefP.callee q__law_of hr) rfl (w_cons (w_var 1) (w_cons (w_call 14 ok (DefP.callee q__law_cuts hr) rfl (w_cons (w_var 3) w_nil) bd14) w_nil)) bd10) w_nil)) rfl)
  (s_one (s_ite (SW.t (t_or (t_not (t_tru (w_call 7 ok (DefP.callee q_agree_so_far hr) rfl (w_cons (w_var 5) (w_cons (w_var 6) w_nil)) bd7))) (t_or1 (t_not (t_tru (w_call 6 ok (DefP.callee q_is_beginning hr) rfl (w_cons (w_call 10 ok (DefP.callee q__law_of hr) rfl (w_cons (w_var 1) (w_cons (w_call 14 ok (DefP.callee q__law_cuts hr) rfl (w_cons (w_var 5) w_nil) bd14) w_nil)) bd10) (w_cons (w_var 3) w_nil)) bd6)))))) (s_one (s_ret w_bl)) s_nil)))))))))
  (s_cons (s_unp (w_var 3) (g_tp rfl (gs_cons (g_nm 7 sc15.nd) (gs_cons (g_nm 8 sc15.nd) gs_nil)) (fun _ _ _ h => asgs_len h)) (fun _ _ => rfl))
  (s_cons (s_set 9 sc15.nd (w_lst (w_cons (w_bi .list ok rfl fx.f_list (by decide +kernel) (w_cons (w_var 3) w_nil)) (w_cons (w_tup (w_cons (w_var 7) w_nil)) (w_cons (w_bin .add (w_var 3) (w_tup (w_cons w_int w_nil))) (w_cons (w_tup (w_cons (w_bi .list ok rfl fx.f_list (by decide +kernel) (w_cons (w_var 7) w_nil)) (w_cons (w_var 8) w_nil))) (w_cons (w_tup (w_cons (w_bin .add (w_var 7) (w_tup (w_cons w_bl w_nil))) (w_cons (w_var 8) w_nil))) (w_cons (w_tup (w_cons (w_bin .add (w_var 7) (w_tup (w_cons (w_neg w_int) w_nil))) (w_cons (w_var 8) w_nil))) (w_cons w_non (w_cons (w_tup (w_cons (w_var 7) (w_cons w_int w_nil))) w_nil))))))))))
  (s_cons (s_set 9 sc15.nd (w_bin .add (w_var 9) (w_lst (w_cons (w_tup (w_cons (w_var 7) (w_cons (w_tup (w_cons w_str w_nil)) w_nil))) (w_cons (w_tup (w_cons (w_var 7) (w_cons (w_tup (w_cons w_str (w_cons w_non w_nil))) w_nil))) (w_cons (w_tup (w_cons (w_var 7) (w_cons (w_tup (w_cons w_str (w_cons w_str w_nil))) w_nil))) (w_cons (w_tup (w_cons (w_var 7) (w_cons (w_lst (w_cons w_str (w_cons w_int w_nil))) w_nil))) (w_cons (w_tup (w_cons (w_var 7) (w_cons (w_tup (w_cons w_str (w_cons w_int w_nil))) w_nil))) (w_cons (w_tup (w_cons (w_var 7) (w_cons (w_tup (w_cons w_str (w_cons w_int w_nil))) w_nil))) w_nil)))))))))
  (s_one (s_ret (w_cmp .isN ok (w_call 5 ok (DefP.callee q_is_run hr) rfl (w_cons (w_call 10 ok (DefP.callee q__law_of hr) rfl (w_cons (w_var 1) (w_cons (w_var 9) w_nil)) bd10) w_nil) bd5) w_bl))))))))
theorem all (fx : Fx K mg) (z0 : Q0 P w K mg base 0) (z1 : Q1 P w K mg base 0) (z2 : Q2 P w K mg base 0) (z3 : Q3 P w K mg base 0) (z4 : Q4 P w K mg base 0) (z5 : Q5 P w K mg base 0) (z6 : Q6 P w K mg base 0) (z7 : Q7 P w K mg base 0) (z8 : Q8 P w K mg base 0) (z9 : Q9 P w K mg base 0) (z10 : Q10 P w K mg base 0) (z12 : Q12 P w K mg base 0) (z13 : Q13 P w K mg base 0) (z14 : Q14 P w K mg base 0) (z15 : Q15 P w K mg base 0) : ∀ n, Q0 P w K mg base n ∧ Q1 P w K mg base n ∧ Q2 P w K mg base n ∧ Q3 P w K mg base n ∧ Q4 P w K mg base n ∧ Q5 P w K mg base n ∧ Q6 P w K mg base n ∧ Q7 P w K mg base n ∧ Q8 P w K mg base n ∧ Q9 P w K mg base n ∧ Q10 P w K mg base n ∧ Q12 P w K mg base n ∧ Q13 P w K mg base n ∧ Q14 P w K mg base n ∧ Q15 P w K mg base n
  | 0 => ⟨z0, z1, z2, z3, z4, z5, z6, z7, z8, z9, z10, z12, z13, z14, z15⟩
  | n + 1 => by
    obtain ⟨q0, q1, q2, q3, q4, q5, q6, q7, q8, q9, q10, q12, q13, q14, q15⟩ := all fx z0 z1 z2 z3 z4 z5 z6 z7 z8 z9 z10 z12 z13 z14 z15 n
    exact ⟨q0.succ (d := d0) rfl sc0 rfl rfl (b0 fx ), q1.succ (d := d1) rfl sc1 rfl rfl (b1 fx q0), q2.succ (d := d2) rfl sc2 rfl rfl (b2 fx ), q3.succ (d := d3) rfl sc3 rfl rfl (b3 fx ), q4.succ (d := d4) rfl sc4 rfl rfl (b4 fx q1 q2 q3), q5.succ (d := d5) rfl sc5 rfl rfl (b5 fx q1 q2 q4), q6.succ (d := d6) rfl sc6 rfl rfl (b6 fx ), q7.succ (d := d7) rfl sc7 rfl rfl (b7 fx q6), q8.succ (d := d8) rfl sc8 rfl rfl (b8 fx ), q9.succ (d := d9) rfl sc9 rfl rfl (b9 fx ), q10.succ (d := d10) rfl sc10 rfl rfl (b10 fx q9), q12.succ (d := d12) rfl sc12 rfl rfl (b12 fx q9 q10), q13.succ (d := d13) rfl sc13 rfl rfl (b13 fx q9), q14.succ (d := d14) rfl sc14 rfl rfl (b14 fx ), q15.succ (d := d15) rfl sc15 rfl rfl (b15 fx q5 q6 q7 q8 q9 q10 q12 q13 q14)⟩
end
/-! ### the head -/
def fn : List He.DefD := [⟨("is_integer", none), "is_integer", "is_integer", defArgs s0, defBody s0, defScope s0, [], []⟩, ⟨("is_number", none), "is_number", "is_number", defArgs s1, defBody s1, defScope s1, [], []⟩, ⟨("is_row_of", none), "is_row_of", "is_row_of", defArgs s2, defBody s2, defScope s2, [], []⟩, ⟨("is_word_of", none), "is_word_of", "is_word_of", defArgs s3, defBody s3, defScope s3, [], []⟩, ⟨("is_end", none), "is_end", "is_end", defArgs s4, defBody s4, defScope s4, [], []⟩, ⟨("is_run", none), "is_run", "is_run", defArgs s5, defBody s5, defScope s5, [], []⟩, ⟨("is_beginning", none), "is_beginning", "is_beginning", defArgs s6, defBody s6, defScope s6, [], []⟩, ⟨("agree_so_far", none), "agree_so_far", "agree_so_far", defArgs s7, defBody s7, defScope s7, [], []⟩, ⟨("_law_draw", none), "_law_draw", "_law_draw", defArgs s8, defBody s8, defScope s8, [], []⟩, ⟨("_law_any", none), "_law_any", "_law_any", defArgs s9, defBody s9, defScope s9, [], []⟩, ⟨("_law_of", none), "_law_of", "_law_of", defArgs s10, defBody s10, defScope s10, [], []⟩, ⟨("_law_run", none), "_law_run", "_law_run", defArgs s12, defBody s12, defScope s12, [], []⟩, ⟨("_law_near", none), "_law_near", "_law_near", defArgs s13, defBody s13, defScope s13, [], []⟩, ⟨("_law_cuts", none), "_law_cuts", "_law_cuts", defArgs s14, defBody s14, defScope s14, [], []⟩, ⟨("law", none), "law", "law", defArgs s15, defBody s15, defScope s15, [], []⟩]
def fa : List He.Fa := [.glo "is_integer", .glo "is_number", .glo "is_row_of", .glo "is_word_of", .glo "is_end", .glo "is_run", .glo "is_beginning", .glo "agree_so_far", .glo "_law_draw", .glo "_law_any", .glo "_law_of", .glo "_law_run", .glo "_law_near", .glo "_law_cuts", .glo "law", .free "abs", .free "all", .free "bool", .free "int", .free "isinstance", .free "len", .free "list", .free "range", .free "repr", .free "str", .free "tuple"]
def cons : List (Str × W) := [("KINDS", k_KINDS)]
abbrev R : PySem.W.OpenRow := PySem.W.OpenLaw.row PySem.Challenge.rw_anypasses_k03_runs_and_beginnings
abbrev hk : PySem.W.Hook := hookC 4 fa fn cons
def ob (s : PySem.W.SharedT) : AlC := obsC 4 fa fn cons (HandSHeadRun.getT s)
theorem ob_eq (s : PySem.W.SharedT) : ob s = hk.obs s.abs := obsC_eq (HandSHeadRun.getT_eq s)
abbrev loose : List Str := ["is_integer", "is_number", "is_row_of", "is_word_of", "KINDS", "is_end", "is_run", "is_beginning", "agree_so_far", "_law_draw", "_law_any", "_law_of", "_law_mixed", "_law_run", "_law_near", "_law_cuts"]
theorem runs (w : World) : HandSHeadRun.RunEq R (PySem.W.view R.prog [19]) hk ob 4000 loose w := by
  intro os
  kernel_rfl
theorem facts {P : Program} {w : World} {K : PySem.W.Frag} {h : Heap} {mg : Str → Option Value} {f : Addr} (X : K.In h) (G : h.Ns mainGlobals mg) (hfa : mg ("law" : Str) = some (.ref f)) (c : SaysC fa fn cons K) :
    ∃ fd : FuncData, (∀ (s : Shared) (v : Value), BindsTo s fd ⟨[v], []⟩ [("_law_script", v)]) ∧ ∀ base : Heap, K.In base → base.Ns mainGlobals mg → FnG P w K mg base 20 f fd ps15 (spR K (run tab 20 15) 1) := by
  obtain ⟨fd0, F0⟩ := c.1.def_ 0 rfl
  have m0 := He.glo_ok X G (c.1.fact 0 (f := .glo "is_integer") rfl)
  obtain ⟨fd1, F1⟩ := c.1.def_ 1 rfl
  have m1 := He.glo_ok X G (c.1.fact 1 (f := .glo "is_number") rfl)
  obtain ⟨fd2, F2⟩ := c.1.def_ 2 rfl
  have m2 := He.glo_ok X G (c.1.fact 2 (f := .glo "is_row_of") rfl)
  obtain ⟨fd3, F3⟩ := c.1.def_ 3 rfl
  have m3 := He.glo_ok X G (c.1.fact 3 (f := .glo "is_word_of") rfl)
  obtain ⟨fd4, F4⟩ := c.1.def_ 4 rfl
  have m4 := He.glo_ok X G (c.1.fact 4 (f := .glo "is_end") rfl)
  obtain ⟨fd5, F5⟩ := c.1.def_ 5 rfl
  have m5 := He.glo_ok X G (c.1.fact 5 (f := .glo "is_run") rfl)
  obtain ⟨fd6, F6⟩ := c.1.def_ 6 rfl
  have m6 := He.glo_ok X G (c.1.fact 6 (f := .glo "is_beginning") rfl)
  obtain ⟨fd7, F7⟩ := c.1.def_ 7 rfl
  have m7 := He.glo_ok X G (c.1.fact 7 (f := .glo "agree_so_far") rfl)
  obtain ⟨fd8, F8⟩ := c.1.def_ 8 rfl
  have m8 := He.glo_ok X G (c.1.fact 8 (f := .glo "_law_draw") rfl)
  obtain ⟨fd9, F9⟩ := c.1.def_ 9 rfl
  have m9 := He.glo_ok X G (c.1.fact 9 (f := .glo "_law_any") rfl)
  obtain ⟨fd10, F10⟩ := c.1.def_ 10 rfl
  have m10 := He.glo_ok X G (c.1.fact 10 (f := .glo "_law_of") rfl)
  obtain ⟨fd12, F12⟩ := c.1.def_ 11 rfl
  have m12 := He.glo_ok X G (c.1.fact 11 (f := .glo "_law_run") rfl)
  obtain ⟨fd13, F13⟩ := c.1.def_ 12 rfl
  have m13 := He.glo_ok X G (c.1.fact 12 (f := .glo "_law_near") rfl)
  obtain ⟨fd14, F14⟩ := c.1.def_ 13 rfl
  have m14 := He.glo_ok X G (c.1.fact 13 (f := .glo "_law_cuts") rfl)
  obtain ⟨fd15, F15⟩ := c.1.def_ 14 rfl
  have m15 := He.glo_ok X G (c.1.fact 14 (f := .glo "law") rfl)
  have e := hfa.symm.trans m15
  cases e
  have fx : Fx K mg := ⟨He.free_ok X G (c.1.fact 15 (f := .free "abs") rfl), He.free_ok X G (c.1.fact 16 (f := .free "all") rfl), He.free_ok X G (c.1.fact 17 (f := .free "bool") rfl), He.free_ok X G (c.1.fact 18 (f := .free "int") rfl), He.free_ok X G (c.1.fact 19 (f := .free "isinstance") rfl), He.free_ok X G (c.1.fact 20 (f := .free "len") rfl), He.free_ok X G (c.1.fact 21 (f := .free "list") rfl), He.free_ok X G (c.1.fact 22 (f := .free "range") rfl), He.free_ok X G (c.1.fact 23 (f := .free "repr") rfl), He.free_ok X G (c.1.fact 24 (f := .free "str") rfl), He.free_ok X G (c.1.fact 25 (f := .free "tuple") rfl), con_ok c X G 0 (p := ("KINDS", k_KINDS)) rfl⟩
  have b := FunD.bindsA (ps := ps15) F15 bd15
  refine ⟨fd15, fun s v => b s [v] rfl, fun base _ _ => ?_⟩
  obtain ⟨q0, q1, q2, q3, q4, q5, q6, q7, q8, q9, q10, q12, q13, q14, q15⟩ := all (P := P) (w := w) (base := base) fx (DefP.zero m0 F0) (DefP.zero m1 F1) (DefP.zero m2 F2) (DefP.zero m3 F3) (DefP.zero m4 F4) (DefP.zero m5 F5) (DefP.zero m6 F6) (DefP.zero m7 F7) (DefP.zero m8 F8) (DefP.zero m9 F9) (DefP.zero m10 F10) (DefP.zero m12 F12) (DefP.zero m13 F13) (DefP.zero m14 F14) (DefP.zero m15 F15) 20
  obtain ⟨f1, fd1, h1, FF, GG⟩ := q15
  have e1 := h1.symm.trans m15
  cases e1
  have e2 : fd1 = fd15 := funD_same FF F15
  rw [← e2]
  exact GG
theorem walked (hlaw : ∀ ns : List Int, ns.length ≤ 63 → ∃ st, run tab 20 15 [.frl (ns.map .int)] [] = .ok (.bl true) st) : (PySem.Challenge.rw_anypasses_k03_runs_and_beginnings).Holds := by
  w_on; o_law
  refine HandSHeadRun.head_any (r := R) (q := PySem.W.view R.prog [19]) (H := hk) (ob := ob) (M := 4000) (loose := loose) (d := HandSHeadRun.topDef R.prog 19) (kwd := []) ob_eq
    (by kernel_rfl) (fun s => by kernel_rfl) runs (by kernel_rfl) (by kernel_rfl) (by kernel_rfl) (by rfl) (by first | assumption | decide +kernel) (by decide +kernel) ⟨rfl, rfl, rfl, rfl, rfl, by decide +kernel⟩ ?hw ?hc
  case hw => w_witness2
  case hc =>
    refine walkG (l := PySem.Challenge.rw_anypasses_k03_runs_and_beginnings) (n := 63) (k := 20) (x := "_law_script") (r := run tab 20 15) rfl (by decide) (by kernel_rfl) ⟨rfl, by decide, by decide⟩ ?F hlaw
    intro w mg fa h Y G hmg0
    obtain ⟨K, KX, c⟩ := Y
    have hmg : mg ("law" : PySem.Str) = some (.ref fa) := by
      have e : (HandSHeadRun.topDef R.prog 19).name = ("law" : PySem.Str) := by kernel_rfl
      rw [← e]
      exact hmg0
    obtain ⟨fd, hb, hF⟩ := facts (P := (PySem.Challenge.rw_anypasses_k03_runs_and_beginnings).prog) (w := w) KX G hmg c
    exact ⟨K, fd, KX, hb, hF⟩
end Law
/-! K03: what is a run, what is a beginning. -/
namespace K03
open PySem Ci Law

def isNum : W → Bool
  | .int i => decide (0 ≤ i)
  | _ => false
def isI : W → Bool
  | .int _ => true
  | _ => false
inductive Atom : W → Prop
  | int (i : Int) : Atom (.int i)
  | bl (b : Bool) : Atom (.bl b)
  | non : Atom .non
  | str (s : Str) : Atom (.str s)
section
variable {n : Nat} {st : Sto}
theorem num_ok {w : W} (h : Atom w) : Wp (Ci.run tab (n + 2) 1 [w] st) fun r st' => r = .bl (isNum w) ∧ st' = st := by
  refine wp_run (d := d1) rfl rfl ?_
  show Wp (ex _ c1 _ _) _
  unfold c1
  have int_ok : Wp (Ci.run tab (n + 1) 0 [w] st) fun r st' => r = .bl (isI w) ∧ st' = st := by
    refine wp_run (d := d0) rfl rfl ?_
    show Wp (ex _ c0 _ _) _
    unfold c0
    cases h
    all_goals try simp -implicitDefEqProofs only [wp_ok, wp_bind, wp_noexc, wp_seq, wp_skip, wp_brk, wp_cnt, wp_retN, wp_ret, wp_set, wp_par, wp_unp, wp_sto, wp_xpr, wp_ite, wp_for, wp_whl, wp_tru, sk_nx, sk_rt, sk_bk, sk_ct, lk_nx, lk_ct, lk_bk, lk_rt, ik_true, ik_false, ev, evs, evo, evi, evc, evd, keyK_str, keyK_int, retK_rt, retK_nx, iteK_true, iteK_false, truK0_bl, truK0_int, truK0_tup, truK0_frl, truK0_non, scK_bl, wp_callK, cmpO, cmp_eq, cmp_ne, cmp_lt, cmp_le, cmp_gt, cmp_ge, cmp_isN, cmp_notN, eqD_int, eqD_str, bin_int, binI_add, binI_sub, of_some, negK_int, setK_nm, setK_tp, setsK, asg, asgs, tgsOf, intK, rngK, srcK, subO, startE, newR, new, bi_int, bi_abs, bi_len_tup, bi_len_frl,  Option.map_some, Option.map_none, Option.bind_some, List.map_cons, List.map_nil, List.length_cons, List.length_nil, List.length_append, List.length_map, List.length_set, List.cons_append, List.nil_append, List.getElem?_cons_zero, List.getElem?_cons_succ, List.set_cons_zero, List.set_cons_succ, if_true, if_false, Bool.false_eq_true, Bool.true_eq_false, Bool.not_true, Bool.not_false, decide_true, decide_false, Nat.reduceEqDiff, Nat.zero_lt_succ, List.replicate_succ, List.replicate_zero, Nat.reduceSub, Nat.reduceAdd, Nat.reduceLT, Nat.reduceLeDiff, Nat.zero_le, id, lstK_ok, tupK_ok, d0, isi_int_int, isi_int_bl, isi_int_non, isi_int_str, isi_int_tup, isi_bool_int, isi_bool_bl, isi_tuple_tup, isi_tuple_non, isi_tuple_int, isi_tuple_bl, isi_tuple_str, isi_str_str, isi_str_non, isi_str_int, isi_str_tup, Bool.not_true, Bool.not_false]
    all_goals exact ⟨by first | rfl | trivial, by first | rfl | trivial⟩
  try simp -implicitDefEqProofs only [wp_ok, wp_bind, wp_noexc, wp_seq, wp_skip, wp_brk, wp_cnt, wp_retN, wp_ret, wp_set, wp_par, wp_unp, wp_sto, wp_xpr, wp_ite, wp_for, wp_whl, wp_tru, sk_nx, sk_rt, sk_bk, sk_ct, lk_nx, lk_ct, lk_bk, lk_rt, ik_true, ik_false, ev, evs, evo, evi, evc, evd, keyK_str, keyK_int, retK_rt, retK_nx, iteK_true, iteK_false, truK0_bl, truK0_int, truK0_tup, truK0_frl, truK0_non, scK_bl, wp_callK, cmpO, cmp_eq, cmp_ne, cmp_lt, cmp_le, cmp_gt, cmp_ge, cmp_isN, cmp_notN, eqD_int, eqD_str, bin_int, binI_add, binI_sub, of_some, negK_int, setK_nm, setK_tp, setsK, asg, asgs, tgsOf, intK, rngK, srcK, subO, startE, newR, new, bi_int, bi_abs, bi_len_tup, bi_len_frl,  Option.map_some, Option.map_none, Option.bind_some, List.map_cons, List.map_nil, List.length_cons, List.length_nil, List.length_append, List.length_map, List.length_set, List.cons_append, List.nil_append, List.getElem?_cons_zero, List.getElem?_cons_succ, List.set_cons_zero, List.set_cons_succ, if_true, if_false, Bool.false_eq_true, Bool.true_eq_false, Bool.not_true, Bool.not_false, decide_true, decide_false, Nat.reduceEqDiff, Nat.zero_lt_succ, List.replicate_succ, List.replicate_zero, Nat.reduceSub, Nat.reduceAdd, Nat.reduceLT, Nat.reduceLeDiff, Nat.zero_le, id, lstK_ok, tupK_ok, d1]
  refine int_ok.mono ?_
  rintro r st1 ⟨rfl, rfl⟩
  cases h
  all_goals try simp -implicitDefEqProofs only [wp_ok, wp_bind, wp_noexc, wp_seq, wp_skip, wp_brk, wp_cnt, wp_retN, wp_ret, wp_set, wp_par, wp_unp, wp_sto, wp_xpr, wp_ite, wp_for, wp_whl, wp_tru, sk_nx, sk_rt, sk_bk, sk_ct, lk_nx, lk_ct, lk_bk, lk_rt, ik_true, ik_false, ev, evs, evo, evi, evc, evd, keyK_str, keyK_int, retK_rt, retK_nx, iteK_true, iteK_false, truK0_bl, truK0_int, truK0_tup, truK0_frl, truK0_non, scK_bl, wp_callK, cmpO, cmp_eq, cmp_ne, cmp_lt, cmp_le, cmp_gt, cmp_ge, cmp_isN, cmp_notN, eqD_int, eqD_str, bin_int, binI_add, binI_sub, of_some, negK_int, setK_nm, setK_tp, setsK, asg, asgs, tgsOf, intK, rngK, srcK, subO, startE, newR, new, bi_int, bi_abs, bi_len_tup, bi_len_frl,  Option.map_some, Option.map_none, Option.bind_some, List.map_cons, List.map_nil, List.length_cons, List.length_nil, List.length_append, List.length_map, List.length_set, List.cons_append, List.nil_append, List.getElem?_cons_zero, List.getElem?_cons_succ, List.set_cons_zero, List.set_cons_succ, if_true, if_false, Bool.false_eq_true, Bool.true_eq_false, Bool.not_true, Bool.not_false, decide_true, decide_false, Nat.reduceEqDiff, Nat.zero_lt_succ, List.replicate_succ, List.replicate_zero, Nat.reduceSub, Nat.reduceAdd, Nat.reduceLT, Nat.reduceLeDiff, Nat.zero_le, id, lstK_ok, tupK_ok, isI, isNum]
  all_goals exact ⟨by first | rfl | trivial, by first | rfl | trivial⟩
theorem row2_tup {ws : List W} : Wp (Ci.run tab (n + 1) 2 [.tup ws, .tup [.int 2]] st) fun r st' => r = .bl (decide (ws.length = 2)) ∧ st' = st := by
  refine wp_run (d := d2) rfl rfl ?_
  show Wp (ex _ c2 _ _) _
  unfold c2
  have e : inW st (.int (ws.length : Int)) (.tup [.int 2]) = some (decide (ws.length = 2)) := by
    rw [inW_tup]
    simp only [flatW, List.all_cons, List.all_nil, Bool.and_self, if_true, List.any_cons, List.any_nil, eqF, Bool.or_false]
    congr 1
    by_cases h : ws.length = 2
    · rw [h]; rfl
    · rw [decide_eq_false h]; exact beq_eq_false_iff_ne.mpr (by omega)
  try simp -implicitDefEqProofs only [wp_ok, wp_bind, wp_noexc, wp_seq, wp_skip, wp_brk, wp_cnt, wp_retN, wp_ret, wp_set, wp_par, wp_unp, wp_sto, wp_xpr, wp_ite, wp_for, wp_whl, wp_tru, sk_nx, sk_rt, sk_bk, sk_ct, lk_nx, lk_ct, lk_bk, lk_rt, ik_true, ik_false, ev, evs, evo, evi, evc, evd, keyK_str, keyK_int, retK_rt, retK_nx, iteK_true, iteK_false, truK0_bl, truK0_int, truK0_tup, truK0_frl, truK0_non, scK_bl, wp_callK, cmpO, cmp_eq, cmp_ne, cmp_lt, cmp_le, cmp_gt, cmp_ge, cmp_isN, cmp_notN, eqD_int, eqD_str, bin_int, binI_add, binI_sub, of_some, negK_int, setK_nm, setK_tp, setsK, asg, asgs, tgsOf, intK, rngK, srcK, subO, startE, newR, new, bi_int, bi_abs, bi_len_tup, bi_len_frl,  Option.map_some, Option.map_none, Option.bind_some, List.map_cons, List.map_nil, List.length_cons, List.length_nil, List.length_append, List.length_map, List.length_set, List.cons_append, List.nil_append, List.getElem?_cons_zero, List.getElem?_cons_succ, List.set_cons_zero, List.set_cons_succ, if_true, if_false, Bool.false_eq_true, Bool.true_eq_false, Bool.not_true, Bool.not_false, decide_true, decide_false, Nat.reduceEqDiff, Nat.zero_lt_succ, List.replicate_succ, List.replicate_zero, Nat.reduceSub, Nat.reduceAdd, Nat.reduceLT, Nat.reduceLeDiff, Nat.zero_le, id, lstK_ok, tupK_ok, d2, isi_int_int, isi_int_bl, isi_int_non, isi_int_str, isi_int_tup, isi_bool_int, isi_bool_bl, isi_tuple_tup, isi_tuple_non, isi_tuple_int, isi_tuple_bl, isi_tuple_str, isi_str_str, isi_str_non, isi_str_int, isi_str_tup, cmp_in, e]
  exact ⟨by trivial, by trivial⟩
theorem row2_no {w : W} (h : isiK ["tuple"] w st = .ok (.bl false) st) : Wp (Ci.run tab (n + 1) 2 [w, .tup [.int 2]] st) fun r st' => r = .bl false ∧ st' = st := by
  refine wp_run (d := d2) rfl rfl ?_
  show Wp (ex _ c2 _ _) _
  unfold c2
  try simp -implicitDefEqProofs only [wp_ok, wp_bind, wp_noexc, wp_seq, wp_skip, wp_brk, wp_cnt, wp_retN, wp_ret, wp_set, wp_par, wp_unp, wp_sto, wp_xpr, wp_ite, wp_for, wp_whl, wp_tru, sk_nx, sk_rt, sk_bk, sk_ct, lk_nx, lk_ct, lk_bk, lk_rt, ik_true, ik_false, ev, evs, evo, evi, evc, evd, keyK_str, keyK_int, retK_rt, retK_nx, iteK_true, iteK_false, truK0_bl, truK0_int, truK0_tup, truK0_frl, truK0_non, scK_bl, wp_callK, cmpO, cmp_eq, cmp_ne, cmp_lt, cmp_le, cmp_gt, cmp_ge, cmp_isN, cmp_notN, eqD_int, eqD_str, bin_int, binI_add, binI_sub, of_some, negK_int, setK_nm, setK_tp, setsK, asg, asgs, tgsOf, intK, rngK, srcK, subO, startE, newR, new, bi_int, bi_abs, bi_len_tup, bi_len_frl,  Option.map_some, Option.map_none, Option.bind_some, List.map_cons, List.map_nil, List.length_cons, List.length_nil, List.length_append, List.length_map, List.length_set, List.cons_append, List.nil_append, List.getElem?_cons_zero, List.getElem?_cons_succ, List.set_cons_zero, List.set_cons_succ, if_true, if_false, Bool.false_eq_true, Bool.true_eq_false, Bool.not_true, Bool.not_false, decide_true, decide_false, Nat.reduceEqDiff, Nat.zero_lt_succ, List.replicate_succ, List.replicate_zero, Nat.reduceSub, Nat.reduceAdd, Nat.reduceLT, Nat.reduceLeDiff, Nat.zero_le, id, lstK_ok, tupK_ok, d2, h]
  exact ⟨by trivial, by trivial⟩
theorem word_ok {s : Str} : Wp (Ci.run tab (n + 1) 3 [.str s, k_KINDS] st) fun r st' => r = .bl (["divide", "index", "input", "stop"].any fun k => (k : Str) == s) ∧ st' = st := by
  refine wp_run (d := d3) rfl rfl ?_
  show Wp (ex _ c3 _ _) _
  unfold c3
  have e : inW st (.str s) k_KINDS = some (["divide", "index", "input", "stop"].any fun k => (k : Str) == s) := rfl
  try simp -implicitDefEqProofs only [wp_ok, wp_bind, wp_noexc, wp_seq, wp_skip, wp_brk, wp_cnt, wp_retN, wp_ret, wp_set, wp_par, wp_unp, wp_sto, wp_xpr, wp_ite, wp_for, wp_whl, wp_tru, sk_nx, sk_rt, sk_bk, sk_ct, lk_nx, lk_ct, lk_bk, lk_rt, ik_true, ik_false, ev, evs, evo, evi, evc, evd, keyK_str, keyK_int, retK_rt, retK_nx, iteK_true, iteK_false, truK0_bl, truK0_int, truK0_tup, truK0_frl, truK0_non, scK_bl, wp_callK, cmpO, cmp_eq, cmp_ne, cmp_lt, cmp_le, cmp_gt, cmp_ge, cmp_isN, cmp_notN, eqD_int, eqD_str, bin_int, binI_add, binI_sub, of_some, negK_int, setK_nm, setK_tp, setsK, asg, asgs, tgsOf, intK, rngK, srcK, subO, startE, newR, new, bi_int, bi_abs, bi_len_tup, bi_len_frl,  Option.map_some, Option.map_none, Option.bind_some, List.map_cons, List.map_nil, List.length_cons, List.length_nil, List.length_append, List.length_map, List.length_set, List.cons_append, List.nil_append, List.getElem?_cons_zero, List.getElem?_cons_succ, List.set_cons_zero, List.set_cons_succ, if_true, if_false, Bool.false_eq_true, Bool.true_eq_false, Bool.not_true, Bool.not_false, decide_true, decide_false, Nat.reduceEqDiff, Nat.zero_lt_succ, List.replicate_succ, List.replicate_zero, Nat.reduceSub, Nat.reduceAdd, Nat.reduceLT, Nat.reduceLeDiff, Nat.zero_le, id, lstK_ok, tupK_ok, d3, isi_int_int, isi_int_bl, isi_int_non, isi_int_str, isi_int_tup, isi_bool_int, isi_bool_bl, isi_tuple_tup, isi_tuple_non, isi_tuple_int, isi_tuple_bl, isi_tuple_str, isi_str_str, isi_str_non, isi_str_int, isi_str_tup, cmp_in, e]
  exact ⟨by trivial, by trivial⟩
theorem word_int {i : Int} : Wp (Ci.run tab (n + 1) 3 [.int i, k_KINDS] st) fun r st' => r = .bl false ∧ st' = st := by
  refine wp_run (d := d3) rfl rfl ?_
  show Wp (ex _ c3 _ _) _
  unfold c3
  try simp -implicitDefEqProofs only [wp_ok, wp_bind, wp_noexc, wp_seq, wp_skip, wp_brk, wp_cnt, wp_retN, wp_ret, wp_set, wp_par, wp_unp, wp_sto, wp_xpr, wp_ite, wp_for, wp_whl, wp_tru, sk_nx, sk_rt, sk_bk, sk_ct, lk_nx, lk_ct, lk_bk, lk_rt, ik_true, ik_false, ev, evs, evo, evi, evc, evd, keyK_str, keyK_int, retK_rt, retK_nx, iteK_true, iteK_false, truK0_bl, truK0_int, truK0_tup, truK0_frl, truK0_non, scK_bl, wp_callK, cmpO, cmp_eq, cmp_ne, cmp_lt, cmp_le, cmp_gt, cmp_ge, cmp_isN, cmp_notN, eqD_int, eqD_str, bin_int, binI_add, binI_sub, of_some, negK_int, setK_nm, setK_tp, setsK, asg, asgs, tgsOf, intK, rngK, srcK, subO, startE, newR, new, bi_int, bi_abs, bi_len_tup, bi_len_frl,  Option.map_some, Option.map_none, Option.bind_some, List.map_cons, List.map_nil, List.length_cons, List.length_nil, List.length_append, List.length_map, List.length_set, List.cons_append, List.nil_append, List.getElem?_cons_zero, List.getElem?_cons_succ, List.set_cons_zero, List.set_cons_succ, if_true, if_false, Bool.false_eq_true, Bool.true_eq_false, Bool.not_true, Bool.not_false, decide_true, decide_false, Nat.reduceEqDiff, Nat.zero_lt_succ, List.replicate_succ, List.replicate_zero, Nat.reduceSub, Nat.reduceAdd, Nat.reduceLT, Nat.reduceLeDiff, Nat.zero_le, id, lstK_ok, tupK_ok, d3, isi_int_int, isi_int_bl, isi_int_non, isi_int_str, isi_int_tup, isi_bool_int, isi_bool_bl, isi_tuple_tup, isi_tuple_non, isi_tuple_int, isi_tuple_bl, isi_tuple_str, isi_str_str, isi_str_non, isi_str_int, isi_str_tup]
  exact ⟨by trivial, by trivial⟩
/-! ### ends -/
theorem end_non : Wp (Ci.run tab (n + 3) 4 [.non] st) fun r st' => r = .bl true ∧ st' = st := by
  refine wp_run (d := d4) rfl rfl ?_
  show Wp (ex _ c4 _ _) _
  unfold c4
  try simp -implicitDefEqProofs only [wp_ok, wp_bind, wp_noexc, wp_seq, wp_skip, wp_brk, wp_cnt, wp_retN, wp_ret, wp_set, wp_par, wp_unp, wp_sto, wp_xpr, wp_ite, wp_for, wp_whl, wp_tru, sk_nx, sk_rt, sk_bk, sk_ct, lk_nx, lk_ct, lk_bk, lk_rt, ik_true, ik_false, ev, evs, evo, evi, evc, evd, keyK_str, keyK_int, retK_rt, retK_nx, iteK_true, iteK_false, truK0_bl, truK0_int, truK0_tup, truK0_frl, truK0_non, scK_bl, wp_callK, cmpO, cmp_eq, cmp_ne, cmp_lt, cmp_le, cmp_gt, cmp_ge, cmp_isN, cmp_notN, eqD_int, eqD_str, bin_int, binI_add, binI_sub, of_some, negK_int, setK_nm, setK_tp, setsK, asg, asgs, tgsOf, intK, rngK, srcK, subO, startE, newR, new, bi_int, bi_abs, bi_len_tup, bi_len_frl,  Option.map_some, Option.map_none, Option.bind_some, List.map_cons, List.map_nil, List.length_cons, List.length_nil, List.length_append, List.length_map, List.length_set, List.cons_append, List.nil_append, List.getElem?_cons_zero, List.getElem?_cons_succ, List.set_cons_zero, List.set_cons_succ, if_true, if_false, Bool.false_eq_true, Bool.true_eq_false, Bool.not_true, Bool.not_false, decide_true, decide_false, Nat.reduceEqDiff, Nat.zero_lt_succ, List.replicate_succ, List.replicate_zero, Nat.reduceSub, Nat.reduceAdd, Nat.reduceLT, Nat.reduceLeDiff, Nat.zero_le, id, lstK_ok, tupK_ok, d4, isNon]
  exact ⟨by trivial, by trivial⟩
theorem end_no {w : W} (h : isiK ["tuple"] w st = .ok (.bl false) st) (h2 : isNon w = false) : Wp (Ci.run tab (n + 3) 4 [w] st) fun r st' => r = .bl false ∧ st' = st := by
  refine wp_run (d := d4) rfl rfl ?_
  show Wp (ex _ c4 _ _) _
  unfold c4
  try simp -implicitDefEqProofs only [wp_ok, wp_bind, wp_noexc, wp_seq, wp_skip, wp_brk, wp_cnt, wp_retN, wp_ret, wp_set, wp_par, wp_unp, wp_sto, wp_xpr, wp_ite, wp_for, wp_whl, wp_tru, sk_nx, sk_rt, sk_bk, sk_ct, lk_nx, lk_ct, lk_bk, lk_rt, ik_true, ik_false, ev, evs, evo, evi, evc, evd, keyK_str, keyK_int, retK_rt, retK_nx, iteK_true, iteK_false, truK0_bl, truK0_int, truK0_tup, truK0_frl, truK0_non, scK_bl, wp_callK, cmpO, cmp_eq, cmp_ne, cmp_lt, cmp_le, cmp_gt, cmp_ge, cmp_isN, cmp_notN, eqD_int, eqD_str, bin_int, binI_add, binI_sub, of_some, negK_int, setK_nm, setK_tp, setsK, asg, asgs, tgsOf, intK, rngK, srcK, subO, startE, newR, new, bi_int, bi_abs, bi_len_tup, bi_len_frl,  Option.map_some, Option.map_none, Option.bind_some, List.map_cons, List.map_nil, List.length_cons, List.length_nil, List.length_append, List.length_map, List.length_set, List.cons_append, List.nil_append, List.getElem?_cons_zero, List.getElem?_cons_succ, List.set_cons_zero, List.set_cons_succ, if_true, if_false, Bool.false_eq_true, Bool.true_eq_false, Bool.not_true, Bool.not_false, decide_true, decide_false, Nat.reduceEqDiff, Nat.zero_lt_succ, List.replicate_succ, List.replicate_zero, Nat.reduceSub, Nat.reduceAdd, Nat.reduceLT, Nat.reduceLeDiff, Nat.zero_le, id, lstK_ok, tupK_ok, d4, h2, tupK_ok]
  refine (row2_no h).mono ?_
  rintro r st1 ⟨rfl, rfl⟩
  try simp -implicitDefEqProofs only [wp_ok, wp_bind, wp_noexc, wp_seq, wp_skip, wp_brk, wp_cnt, wp_retN, wp_ret, wp_set, wp_par, wp_unp, wp_sto, wp_xpr, wp_ite, wp_for, wp_whl, wp_tru, sk_nx, sk_rt, sk_bk, sk_ct, lk_nx, lk_ct, lk_bk, lk_rt, ik_true, ik_false, ev, evs, evo, evi, evc, evd, keyK_str, keyK_int, retK_rt, retK_nx, iteK_true, iteK_false, truK0_bl, truK0_int, truK0_tup, truK0_frl, truK0_non, scK_bl, wp_callK, cmpO, cmp_eq, cmp_ne, cmp_lt, cmp_le, cmp_gt, cmp_ge, cmp_isN, cmp_notN, eqD_int, eqD_str, bin_int, binI_add, binI_sub, of_some, negK_int, setK_nm, setK_tp, setsK, asg, asgs, tgsOf, intK, rngK, srcK, subO, startE, newR, new, bi_int, bi_abs, bi_len_tup, bi_len_frl,  Option.map_some, Option.map_none, Option.bind_some, List.map_cons, List.map_nil, List.length_cons, List.length_nil, List.length_append, List.length_map, List.length_set, List.cons_append, List.nil_append, List.getElem?_cons_zero, List.getElem?_cons_succ, List.set_cons_zero, List.set_cons_succ, if_true, if_false, Bool.false_eq_true, Bool.true_eq_false, Bool.not_true, Bool.not_false, decide_true, decide_false, Nat.reduceEqDiff, Nat.zero_lt_succ, List.replicate_succ, List.replicate_zero, Nat.reduceSub, Nat.reduceAdd, Nat.reduceLT, Nat.reduceLeDiff, Nat.zero_le, id, lstK_ok, tupK_ok, Bool.not_false]
  exact ⟨by trivial, by trivial⟩
theorem end_short {w : W} : Wp (Ci.run tab (n + 3) 4 [.tup [w]] st) fun r st' => r = .bl false ∧ st' = st := by
  refine wp_run (d := d4) rfl rfl ?_
  show Wp (ex _ c4 _ _) _
  unfold c4
  try simp -implicitDefEqProofs only [wp_ok, wp_bind, wp_noexc, wp_seq, wp_skip, wp_brk, wp_cnt, wp_retN, wp_ret, wp_set, wp_par, wp_unp, wp_sto, wp_xpr, wp_ite, wp_for, wp_whl, wp_tru, sk_nx, sk_rt, sk_bk, sk_ct, lk_nx, lk_ct, lk_bk, lk_rt, ik_true, ik_false, ev, evs, evo, evi, evc, evd, keyK_str, keyK_int, retK_rt, retK_nx, iteK_true, iteK_false, truK0_bl, truK0_int, truK0_tup, truK0_frl, truK0_non, scK_bl, wp_callK, cmpO, cmp_eq, cmp_ne, cmp_lt, cmp_le, cmp_gt, cmp_ge, cmp_isN, cmp_notN, eqD_int, eqD_str, bin_int, binI_add, binI_sub, of_some, negK_int, setK_nm, setK_tp, setsK, asg, asgs, tgsOf, intK, rngK, srcK, subO, startE, newR, new, bi_int, bi_abs, bi_len_tup, bi_len_frl,  Option.map_some, Option.map_none, Option.bind_some, List.map_cons, List.map_nil, List.length_cons, List.length_nil, List.length_append, List.length_map, List.length_set, List.cons_append, List.nil_append, List.getElem?_cons_zero, List.getElem?_cons_succ, List.set_cons_zero, List.set_cons_succ, if_true, if_false, Bool.false_eq_true, Bool.true_eq_false, Bool.not_true, Bool.not_false, decide_true, decide_false, Nat.reduceEqDiff, Nat.zero_lt_succ, List.replicate_succ, List.replicate_zero, Nat.reduceSub, Nat.reduceAdd, Nat.reduceLT, Nat.reduceLeDiff, Nat.zero_le, id, lstK_ok, tupK_ok, d4, isNon]
  refine row2_tup.mono ?_
  rintro r st1 ⟨rfl, rfl⟩
  try simp -implicitDefEqProofs only [wp_ok, wp_bind, wp_noexc, wp_seq, wp_skip, wp_brk, wp_cnt, wp_retN, wp_ret, wp_set, wp_par, wp_unp, wp_sto, wp_xpr, wp_ite, wp_for, wp_whl, wp_tru, sk_nx, sk_rt, sk_bk, sk_ct, lk_nx, lk_ct, lk_bk, lk_rt, ik_true, ik_false, ev, evs, evo, evi, evc, evd, keyK_str, keyK_int, retK_rt, retK_nx, iteK_true, iteK_false, truK0_bl, truK0_int, truK0_tup, truK0_frl, truK0_non, scK_bl, wp_callK, cmpO, cmp_eq, cmp_ne, cmp_lt, cmp_le, cmp_gt, cmp_ge, cmp_isN, cmp_notN, eqD_int, eqD_str, bin_int, binI_add, binI_sub, of_some, negK_int, setK_nm, setK_tp, setsK, asg, asgs, tgsOf, intK, rngK, srcK, subO, startE, newR, new, bi_int, bi_abs, bi_len_tup, bi_len_frl,  Option.map_some, Option.map_none, Option.bind_some, List.map_cons, List.map_nil, List.length_cons, List.length_nil, List.length_append, List.length_map, List.length_set, List.cons_append, List.nil_append, List.getElem?_cons_zero, List.getElem?_cons_succ, List.set_cons_zero, List.set_cons_succ, if_true, if_false, Bool.false_eq_true, Bool.true_eq_false, Bool.not_true, Bool.not_false, decide_true, decide_false, Nat.reduceEqDiff, Nat.zero_lt_succ, List.replicate_succ, List.replicate_zero, Nat.reduceSub, Nat.reduceAdd, Nat.reduceLT, Nat.reduceLeDiff, Nat.zero_le, id, lstK_ok, tupK_ok]
  try simp -implicitDefEqProofs only [wp_ok, wp_bind, wp_noexc, wp_seq, wp_skip, wp_brk, wp_cnt, wp_retN, wp_ret, wp_set, wp_par, wp_unp, wp_sto, wp_xpr, wp_ite, wp_for, wp_whl, wp_tru, sk_nx, sk_rt, sk_bk, sk_ct, lk_nx, lk_ct, lk_bk, lk_rt, ik_true, ik_false, ev, evs, evo, evi, evc, evd, keyK_str, keyK_int, retK_rt, retK_nx, iteK_true, iteK_false, truK0_bl, truK0_int, truK0_tup, truK0_frl, truK0_non, scK_bl, wp_callK, cmpO, cmp_eq, cmp_ne, cmp_lt, cmp_le, cmp_gt, cmp_ge, cmp_isN, cmp_notN, eqD_int, eqD_str, bin_int, binI_add, binI_sub, of_some, negK_int, setK_nm, setK_tp, setsK, asg, asgs, tgsOf, intK, rngK, srcK, subO, startE, newR, new, bi_int, bi_abs, bi_len_tup, bi_len_frl,  Option.map_some, Option.map_none, Option.bind_some, List.map_cons, List.map_nil, List.length_cons, List.length_nil, List.length_append, List.length_map, List.length_set, List.cons_append, List.nil_append, List.getElem?_cons_zero, List.getElem?_cons_succ, List.set_cons_zero, List.set_cons_succ, if_true, if_false, Bool.false_eq_true, Bool.true_eq_false, Bool.not_true, Bool.not_false, decide_true, decide_false, Nat.reduceEqDiff, Nat.zero_lt_succ, List.replicate_succ, List.replicate_zero, Nat.reduceSub, Nat.reduceAdd, Nat.reduceLT, Nat.reduceLeDiff, Nat.zero_le, id, lstK_ok, tupK_ok]
  exact ⟨by trivial, by trivial⟩
theorem end_pair {s : Str} {w : W} {b : Bool} (h : (s == ("value" : Str)) = true → Wp (Ci.run tab (n + 2) 1 [w] st) fun r st' => r = .bl b ∧ st' = st)
    (h2 : (s == ("value" : Str)) = false → (s == ("trap" : Str)) = true → Wp (Ci.run tab (n + 2) 3 [w, k_KINDS] st) fun r st' => r = .bl b ∧ st' = st) (h3 : (s == ("value" : Str)) = false → (s == ("trap" : Str)) = false → b = false) :
    Wp (Ci.run tab (n + 3) 4 [.tup [.str s, w]] st) fun r st' => r = .bl b ∧ st' = st := by
  refine wp_run (d := d4) rfl rfl ?_
  show Wp (ex _ c4 _ _) _
  unfold c4
  have e0 : ∀ st : Sto, sub st (.tup [.str s, w]) (.int 0) = some (.str s) := fun _ => rfl
  have e1 : ∀ st : Sto, sub st (.tup [.str s, w]) (.int 1) = some w := fun _ => rfl
  try simp -implicitDefEqProofs only [wp_ok, wp_bind, wp_noexc, wp_seq, wp_skip, wp_brk, wp_cnt, wp_retN, wp_ret, wp_set, wp_par, wp_unp, wp_sto, wp_xpr, wp_ite, wp_for, wp_whl, wp_tru, sk_nx, sk_rt, sk_bk, sk_ct, lk_nx, lk_ct, lk_bk, lk_rt, ik_true, ik_false, ev, evs, evo, evi, evc, evd, keyK_str, keyK_int, retK_rt, retK_nx, iteK_true, iteK_false, truK0_bl, truK0_int, truK0_tup, truK0_frl, truK0_non, scK_bl, wp_callK, cmpO, cmp_eq, cmp_ne, cmp_lt, cmp_le, cmp_gt, cmp_ge, cmp_isN, cmp_notN, eqD_int, eqD_str, bin_int, binI_add, binI_sub, of_some, negK_int, setK_nm, setK_tp, setsK, asg, asgs, tgsOf, intK, rngK, srcK, subO, startE, newR, new, bi_int, bi_abs, bi_len_tup, bi_len_frl,  Option.map_some, Option.map_none, Option.bind_some, List.map_cons, List.map_nil, List.length_cons, List.length_nil, List.length_append, List.length_map, List.length_set, List.cons_append, List.nil_append, List.getElem?_cons_zero, List.getElem?_cons_succ, List.set_cons_zero, List.set_cons_succ, if_true, if_false, Bool.false_eq_true, Bool.true_eq_false, Bool.not_true, Bool.not_false, decide_true, decide_false, Nat.reduceEqDiff, Nat.zero_lt_succ, List.replicate_succ, List.replicate_zero, Nat.reduceSub, Nat.reduceAdd, Nat.reduceLT, Nat.reduceLeDiff, Nat.zero_le, id, lstK_ok, tupK_ok, d4, isNon]
  refine row2_tup.mono ?_
  rintro r st1 ⟨rfl, rfl⟩
  try simp -implicitDefEqProofs only [wp_ok, wp_bind, wp_noexc, wp_seq, wp_skip, wp_brk, wp_cnt, wp_retN, wp_ret, wp_set, wp_par, wp_unp, wp_sto, wp_xpr, wp_ite, wp_for, wp_whl, wp_tru, sk_nx, sk_rt, sk_bk, sk_ct, lk_nx, lk_ct, lk_bk, lk_rt, ik_true, ik_false, ev, evs, evo, evi, evc, evd, keyK_str, keyK_int, retK_rt, retK_nx, iteK_true, iteK_false, truK0_bl, truK0_int, truK0_tup, truK0_frl, truK0_non, scK_bl, wp_callK, cmpO, cmp_eq, cmp_ne, cmp_lt, cmp_le, cmp_gt, cmp_ge, cmp_isN, cmp_notN, eqD_int, eqD_str, bin_int, binI_add, binI_sub, of_some, negK_int, setK_nm, setK_tp, setsK, asg, asgs, tgsOf, intK, rngK, srcK, subO, startE, newR, new, bi_int, bi_abs, bi_len_tup, bi_len_frl,  Option.map_some, Option.map_none, Option.bind_some, List.map_cons, List.map_nil, List.length_cons, List.length_nil, List.length_append, List.length_map, List.length_set, List.cons_append, List.nil_append, List.getElem?_cons_zero, List.getElem?_cons_succ, List.set_cons_zero, List.set_cons_succ, if_true, if_false, Bool.false_eq_true, Bool.true_eq_false, Bool.not_true, Bool.not_false, decide_true, decide_false, Nat.reduceEqDiff, Nat.zero_lt_succ, List.replicate_succ, List.replicate_zero, Nat.reduceSub, Nat.reduceAdd, Nat.reduceLT, Nat.reduceLeDiff, Nat.zero_le, id, lstK_ok, tupK_ok, e0, isi_int_int, isi_int_bl, isi_int_non, isi_int_str, isi_int_tup, isi_bool_int, isi_bool_bl, isi_tuple_tup, isi_tuple_non, isi_tuple_int, isi_tuple_bl, isi_tuple_str, isi_str_str, isi_str_non, isi_str_int, isi_str_tup]
  try simp -implicitDefEqProofs only [wp_ok, wp_bind, wp_noexc, wp_seq, wp_skip, wp_brk, wp_cnt, wp_retN, wp_ret, wp_set, wp_par, wp_unp, wp_sto, wp_xpr, wp_ite, wp_for, wp_whl, wp_tru, sk_nx, sk_rt, sk_bk, sk_ct, lk_nx, lk_ct, lk_bk, lk_rt, ik_true, ik_false, ev, evs, evo, evi, evc, evd, keyK_str, keyK_int, retK_rt, retK_nx, iteK_true, iteK_false, truK0_bl, truK0_int, truK0_tup, truK0_frl, truK0_non, scK_bl, wp_callK, cmpO, cmp_eq, cmp_ne, cmp_lt, cmp_le, cmp_gt, cmp_ge, cmp_isN, cmp_notN, eqD_int, eqD_str, bin_int, binI_add, binI_sub, of_some, negK_int, setK_nm, setK_tp, setsK, asg, asgs, tgsOf, intK, rngK, srcK, subO, startE, newR, new, bi_int, bi_abs, bi_len_tup, bi_len_frl,  Option.map_some, Option.map_none, Option.bind_some, List.map_cons, List.map_nil, List.length_cons, List.length_nil, List.length_append, List.length_map, List.length_set, List.cons_append, List.nil_append, List.getElem?_cons_zero, List.getElem?_cons_succ, List.set_cons_zero, List.set_cons_succ, if_true, if_false, Bool.false_eq_true, Bool.true_eq_false, Bool.not_true, Bool.not_false, decide_true, decide_false, Nat.reduceEqDiff, Nat.zero_lt_succ, List.replicate_succ, List.replicate_zero, Nat.reduceSub, Nat.reduceAdd, Nat.reduceLT, Nat.reduceLeDiff, Nat.zero_le, id, lstK_ok, tupK_ok, e0, e1, isi_int_int, isi_int_bl, isi_int_non, isi_int_str, isi_int_tup, isi_bool_int, isi_bool_bl, isi_tuple_tup, isi_tuple_non, isi_tuple_int, isi_tuple_bl, isi_tuple_str, isi_str_str, isi_str_non, isi_str_int, isi_str_tup]
  cases hs : (s == ("value" : Str)) with
  | true =>
    try simp -implicitDefEqProofs only [wp_ok, wp_bind, wp_noexc, wp_seq, wp_skip, wp_brk, wp_cnt, wp_retN, wp_ret, wp_set, wp_par, wp_unp, wp_sto, wp_xpr, wp_ite, wp_for, wp_whl, wp_tru, sk_nx, sk_rt, sk_bk, sk_ct, lk_nx, lk_ct, lk_bk, lk_rt, ik_true, ik_false, ev, evs, evo, evi, evc, evd, keyK_str, keyK_int, retK_rt, retK_nx, iteK_true, iteK_false, truK0_bl, truK0_int, truK0_tup, truK0_frl, truK0_non, scK_bl, wp_callK, cmpO, cmp_eq, cmp_ne, cmp_lt, cmp_le, cmp_gt, cmp_ge, cmp_isN, cmp_notN, eqD_int, eqD_str, bin_int, binI_add, binI_sub, of_some, negK_int, setK_nm, setK_tp, setsK, asg, asgs, tgsOf, intK, rngK, srcK, subO, startE, newR, new, bi_int, bi_abs, bi_len_tup, bi_len_frl,  Option.map_some, Option.map_none, Option.bind_some, List.map_cons, List.map_nil, List.length_cons, List.length_nil, List.length_append, List.length_map, List.length_set, List.cons_append, List.nil_append, List.getElem?_cons_zero, List.getElem?_cons_succ, List.set_cons_zero, List.set_cons_succ, if_true, if_false, Bool.false_eq_true, Bool.true_eq_false, Bool.not_true, Bool.not_false, decide_true, decide_false, Nat.reduceEqDiff, Nat.zero_lt_succ, List.replicate_succ, List.replicate_zero, Nat.reduceSub, Nat.reduceAdd, Nat.reduceLT, Nat.reduceLeDiff, Nat.zero_le, id, lstK_ok, tupK_ok, e0, e1, hs, isi_int_int, isi_int_bl, isi_int_non, isi_int_str, isi_int_tup, isi_bool_int, isi_bool_bl, isi_tuple_tup, isi_tuple_non, isi_tuple_int, isi_tuple_bl, isi_tuple_str, isi_str_str, isi_str_non, isi_str_int, isi_str_tup, Bool.not_true]
    refine (h hs).mono ?_
    rintro r st2 ⟨rfl, rfl⟩
    exact ⟨rfl, rfl⟩
  | false =>
    try simp -implicitDefEqProofs only [wp_ok, wp_bind, wp_noexc, wp_seq, wp_skip, wp_brk, wp_cnt, wp_retN, wp_ret, wp_set, wp_par, wp_unp, wp_sto, wp_xpr, wp_ite, wp_for, wp_whl, wp_tru, sk_nx, sk_rt, sk_bk, sk_ct, lk_nx, lk_ct, lk_bk, lk_rt, ik_true, ik_false, ev, evs, evo, evi, evc, evd, keyK_str, keyK_int, retK_rt, retK_nx, iteK_true, iteK_false, truK0_bl, truK0_int, truK0_tup, truK0_frl, truK0_non, scK_bl, wp_callK, cmpO, cmp_eq, cmp_ne, cmp_lt, cmp_le, cmp_gt, cmp_ge, cmp_isN, cmp_notN, eqD_int, eqD_str, bin_int, binI_add, binI_sub, of_some, negK_int, setK_nm, setK_tp, setsK, asg, asgs, tgsOf, intK, rngK, srcK, subO, startE, newR, new, bi_int, bi_abs, bi_len_tup, bi_len_frl,  Option.map_some, Option.map_none, Option.bind_some, List.map_cons, List.map_nil, List.length_cons, List.length_nil, List.length_append, List.length_map, List.length_set, List.cons_append, List.nil_append, List.getElem?_cons_zero, List.getElem?_cons_succ, List.set_cons_zero, List.set_cons_succ, if_true, if_false, Bool.false_eq_true, Bool.true_eq_false, Bool.not_true, Bool.not_false, decide_true, decide_false, Nat.reduceEqDiff, Nat.zero_lt_succ, List.replicate_succ, List.replicate_zero, Nat.reduceSub, Nat.reduceAdd, Nat.reduceLT, Nat.reduceLeDiff, Nat.zero_le, id, lstK_ok, tupK_ok, e0, e1, hs, isi_int_int, isi_int_bl, isi_int_non, isi_int_str, isi_int_tup, isi_bool_int, isi_bool_bl, isi_tuple_tup, isi_tuple_non, isi_tuple_int, isi_tuple_bl, isi_tuple_str, isi_str_str, isi_str_non, isi_str_int, isi_str_tup, Bool.not_true]
    cases ht : (s == ("trap" : Str)) with
    | true =>
      try simp -implicitDefEqProofs only [wp_ok, wp_bind, wp_noexc, wp_seq, wp_skip, wp_brk, wp_cnt, wp_retN, wp_ret, wp_set, wp_par, wp_unp, wp_sto, wp_xpr, wp_ite, wp_for, wp_whl, wp_tru, sk_nx, sk_rt, sk_bk, sk_ct, lk_nx, lk_ct, lk_bk, lk_rt, ik_true, ik_false, ev, evs, evo, evi, evc, evd, keyK_str, keyK_int, retK_rt, retK_nx, iteK_true, iteK_false, truK0_bl, truK0_int, truK0_tup, truK0_frl, truK0_non, scK_bl, wp_callK, cmpO, cmp_eq, cmp_ne, cmp_lt, cmp_le, cmp_gt, cmp_ge, cmp_isN, cmp_notN, eqD_int, eqD_str, bin_int, binI_add, binI_sub, of_some, negK_int, setK_nm, setK_tp, setsK, asg, asgs, tgsOf, intK, rngK, srcK, subO, startE, newR, new, bi_int, bi_abs, bi_len_tup, bi_len_frl,  Option.map_some, Option.map_none, Option.bind_some, List.map_cons, List.map_nil, List.length_cons, List.length_nil, List.length_append, List.length_map, List.length_set, List.cons_append, List.nil_append, List.getElem?_cons_zero, List.getElem?_cons_succ, List.set_cons_zero, List.set_cons_succ, if_true, if_false, Bool.false_eq_true, Bool.true_eq_false, Bool.not_true, Bool.not_false, decide_true, decide_false, Nat.reduceEqDiff, Nat.zero_lt_succ, List.replicate_succ, List.replicate_zero, Nat.reduceSub, Nat.reduceAdd, Nat.reduceLT, Nat.reduceLeDiff, Nat.zero_le, id, lstK_ok, tupK_ok, e0, e1, isi_int_int, isi_int_bl, isi_int_non, isi_int_str, isi_int_tup, isi_bool_int, isi_bool_bl, isi_tuple_tup, isi_tuple_non, isi_tuple_int, isi_tuple_bl, isi_tuple_str, isi_str_str, isi_str_non, isi_str_int, isi_str_tup]
      refine (h2 hs ht).mono ?_
      rintro r st2 ⟨rfl, rfl⟩
      exact ⟨rfl, rfl⟩
    | false =>
      try simp -implicitDefEqProofs only [wp_ok, wp_bind, wp_noexc, wp_seq, wp_skip, wp_brk, wp_cnt, wp_retN, wp_ret, wp_set, wp_par, wp_unp, wp_sto, wp_xpr, wp_ite, wp_for, wp_whl, wp_tru, sk_nx, sk_rt, sk_bk, sk_ct, lk_nx, lk_ct, lk_bk, lk_rt, ik_true, ik_false, ev, evs, evo, evi, evc, evd, keyK_str, keyK_int, retK_rt, retK_nx, iteK_true, iteK_false, truK0_bl, truK0_int, truK0_tup, truK0_frl, truK0_non, scK_bl, wp_callK, cmpO, cmp_eq, cmp_ne, cmp_lt, cmp_le, cmp_gt, cmp_ge, cmp_isN, cmp_notN, eqD_int, eqD_str, bin_int, binI_add, binI_sub, of_some, negK_int, setK_nm, setK_tp, setsK, asg, asgs, tgsOf, intK, rngK, srcK, subO, startE, newR, new, bi_int, bi_abs, bi_len_tup, bi_len_frl,  Option.map_some, Option.map_none, Option.bind_some, List.map_cons, List.map_nil, List.length_cons, List.length_nil, List.length_append, List.length_map, List.length_set, List.cons_append, List.nil_append, List.getElem?_cons_zero, List.getElem?_cons_succ, List.set_cons_zero, List.set_cons_succ, if_true, if_false, Bool.false_eq_true, Bool.true_eq_false, Bool.not_true, Bool.not_false, decide_true, decide_false, Nat.reduceEqDiff, Nat.zero_lt_succ, List.replicate_succ, List.replicate_zero, Nat.reduceSub, Nat.reduceAdd, Nat.reduceLT, Nat.reduceLeDiff, Nat.zero_le, id, lstK_ok, tupK_ok]
      exact ⟨by rw [h3 hs ht], by trivial⟩
end
end K03
/-! K03b: runs as data. -/
namespace K03
open PySem Ci Law

def rw (a : List Int) (e : W) : W := .tup [.tup (a.map .int), e]
inductive GE : W → Prop
  | non : GE .non
  | val (i : Int) (h : 0 ≤ i) : GE (.tup [.str "value", .int i])
  | trap (k : Str) (h : (["divide", "index", "input", "stop"].any fun x => (x : Str) == k) = true) (hk : PyData.strOk k = true) : GE (.tup [.str "trap", .str k])
def eD : W → PyData
  | .tup [.str a, .int i] => .tuple [.str a, .int i]
  | .tup [.str a, .str b] => .tuple [.str a, .str b]
  | _ => .none
def rd (a : List Int) (e : W) : PyData := .tuple [.tuple (a.map .int), eD e]
section
variable {n : Nat} {st : Sto} {a b : List Int} {e f : W}
theorem end_good (h : GE e) : Wp (Ci.run tab (n + 3) 4 [e] st) fun r st' => r = .bl true ∧ st' = st := by
  cases h with
  | non => exact end_non
  | val i h =>
    refine end_pair (fun _ => ?_) (fun z => by cases (show (true : Bool) = false from z)) (fun z => by cases (show (true : Bool) = false from z))
    have := num_ok (n := n) (st := st) (Atom.int i)
    rw [isNum, decide_eq_true h] at this
    exact this
  | trap k h hk =>
    refine end_pair (fun z => by cases (show (false : Bool) = true from z)) (fun _ _ => ?_) (fun _ z => by cases (show (true : Bool) = false from z))
    have := word_ok (n := n + 1) (st := st) (s := k)
    rw [h] at this
    exact this
theorem toD_end (ρ : Nat → Option PyData) (h : GE e) : pd ρ e = some (eD e) := by cases h <;> rfl
theorem toD_run (h : GE e) : toD st (rw a e) = some (rd a e) := by
  show pd _ (rw a e) = _
  rw [rw, pd, pds, pd, pds_ints, pds, toD_end _ h, pds]
  rfl
theorem lay_end (h : GE e) : (eD e).canLay0 = true ∧ (eD e).depth ≤ 1 := by
  cases h with
  | non => exact ⟨by decide +kernel, by decide +kernel⟩
  | val i h => exact ⟨by simp only [eD, PyData.canLay0, PyData.canLayAll0]; decide +kernel, by simp only [eD, PyData.depth, PyData.depthAll]; decide⟩
  | trap k h hk => exact ⟨by simp only [eD, PyData.canLay0, PyData.canLayAll0, hk]; decide +kernel, by simp only [eD, PyData.depth, PyData.depthAll]; decide⟩
theorem lay_run (h : GE e) : (rd a e).canLay0 = true ∧ (rd a e).depth ≤ 2 := by
  obtain ⟨h1, h2⟩ := lay_end h
  constructor
  · simp only [rd, PyData.canLay0, PyData.canLayAll0, canLay_ints, h1, Bool.and_self]
  · simp only [rd, PyData.depth, PyData.depthAll, depthAll_ints]
    omega
theorem shaped_run (h : GE e) : shapedB (rd a e) = true := by
  obtain ⟨h1, h2⟩ := lay_run (a := a) h
  simp only [shapedB, SeqAt.shaped, h1, Bool.true_and]
  exact decide_eq_true (by omega)
theorem eqv_none (h : GE e) : PyData.eqv .none (eD e) = isNon e := by
  cases h with
  | non => simp only [eD, PyData.eqv, isNon]
  | val i h => simp only [eD, PyData.eqv, isNon]
  | trap k h hk => simp only [eD, PyData.eqv, isNon]
theorem eqv_end (h : GE e) : PyData.eqv (eD e) (eD e) = true := by
  cases h with
  | non => simp only [eD, PyData.eqv]
  | val i h => simp only [eD, PyData.eqv, PyData.eqvAll, beq_self_eq_true, beq_str, Bool.and_self]
  | trap k h hk => simp only [eD, PyData.eqv, PyData.eqvAll, beq_str, Bool.and_self]
theorem eqv_rd : PyData.eqv (rd a e) (rd b f) = (decide (a = b) && PyData.eqv (eD e) (eD f)) := by
  simp only [rd, PyData.eqv, PyData.eqvAll, eqvAll_ints, Bool.and_true]
def beg (a : List Int) (e : W) (b : List Int) (f : W) : Bool := PyData.eqv (rd a e) (rd b f) || (isNon e && decide (a = b.take a.length))
theorem beg_ok (h : GE e) (h' : GE f) : Wp (Ci.run tab (n + 1) 6 [rw a e, rw b f] st) fun r st' => r = .bl (beg a e b f) ∧ st' = st := by
  refine wp_run (d := d6) rfl rfl ?_
  show Wp (ex _ c6 _ _) _
  unfold c6
  have q := eqD_tup (st := st) (toD_run (a := a) h) (toD_run (st := st) (a := b) h') (shaped_run h) (shaped_run h')
  have q : eqD st (rw a e) (rw b f) = _ := q
  have x0 : ∀ (a : List Int) (e : W), sub st (rw a e) (.int 0) = some (.tup (a.map .int)) := fun _ _ => rfl
  have x1 : ∀ (a : List Int) (e : W), sub st (rw a e) (.int 1) = some e := fun _ _ => rfl
  have tt : toD st (.tup (a.map .int)) = some (.tuple (a.map .int)) := by show pd _ _ = _; rw [pd, pds_ints]; rfl
  have tt2 : toD st (.tup ((b.map W.int).take a.length)) = some (.tuple ((b.take a.length).map .int)) := by rw [← List.map_take]; show pd _ _ = _; rw [pd, pds_ints]; rfl
  have q2 := eqD_tup (st := st) tt tt2 (shaped_tupints _) (shaped_tupints _)
  have e2 : PyData.eqv (.tuple (a.map .int)) (.tuple ((b.take a.length).map .int)) = decide (a = b.take a.length) := by simp only [PyData.eqv, eqvAll_ints]
  rw [e2] at q2
  try simp -implicitDefEqProofs only [wp_ok, wp_bind, wp_noexc, wp_seq, wp_skip, wp_brk, wp_cnt, wp_retN, wp_ret, wp_set, wp_par, wp_unp, wp_sto, wp_xpr, wp_ite, wp_for, wp_whl, wp_tru, sk_nx, sk_rt, sk_bk, sk_ct, lk_nx, lk_ct, lk_bk, lk_rt, ik_true, ik_false, ev, evs, evo, evi, evc, evd, keyK_str, keyK_int, retK_rt, retK_nx, iteK_true, iteK_false, truK0_bl, truK0_int, truK0_tup, truK0_frl, truK0_non, scK_bl, wp_callK, cmpO, cmp_eq, cmp_ne, cmp_lt, cmp_le, cmp_gt, cmp_ge, cmp_isN, cmp_notN, eqD_int, eqD_str, bin_int, binI_add, binI_sub, of_some, negK_int, setK_nm, setK_tp, setsK, asg, asgs, tgsOf, intK, rngK, srcK, subO, startE, newR, new, bi_int, bi_abs, bi_len_tup, bi_len_frl,  Option.map_some, Option.map_none, Option.bind_some, List.map_cons, List.map_nil, List.length_cons, List.length_nil, List.length_append, List.length_map, List.length_set, List.cons_append, List.nil_append, List.getElem?_cons_zero, List.getElem?_cons_succ, List.set_cons_zero, List.set_cons_succ, if_true, if_false, Bool.false_eq_true, Bool.true_eq_false, Bool.not_true, Bool.not_false, decide_true, decide_false, Nat.reduceEqDiff, Nat.zero_lt_succ, List.replicate_succ, List.replicate_zero, Nat.reduceSub, Nat.reduceAdd, Nat.reduceLT, Nat.reduceLeDiff, Nat.zero_le, id, lstK_ok, tupK_ok, d6, q]
  unfold beg
  cases PyData.eqv (rd a e) (rd b f) with
  | true =>
    try simp -implicitDefEqProofs only [wp_ok, wp_bind, wp_noexc, wp_seq, wp_skip, wp_brk, wp_cnt, wp_retN, wp_ret, wp_set, wp_par, wp_unp, wp_sto, wp_xpr, wp_ite, wp_for, wp_whl, wp_tru, sk_nx, sk_rt, sk_bk, sk_ct, lk_nx, lk_ct, lk_bk, lk_rt, ik_true, ik_false, ev, evs, evo, evi, evc, evd, keyK_str, keyK_int, retK_rt, retK_nx, iteK_true, iteK_false, truK0_bl, truK0_int, truK0_tup, truK0_frl, truK0_non, scK_bl, wp_callK, cmpO, cmp_eq, cmp_ne, cmp_lt, cmp_le, cmp_gt, cmp_ge, cmp_isN, cmp_notN, eqD_int, eqD_str, bin_int, binI_add, binI_sub, of_some, negK_int, setK_nm, setK_tp, setsK, asg, asgs, tgsOf, intK, rngK, srcK, subO, startE, newR, new, bi_int, bi_abs, bi_len_tup, bi_len_frl,  Option.map_some, Option.map_none, Option.bind_some, List.map_cons, List.map_nil, List.length_cons, List.length_nil, List.length_append, List.length_map, List.length_set, List.cons_append, List.nil_append, List.getElem?_cons_zero, List.getElem?_cons_succ, List.set_cons_zero, List.set_cons_succ, if_true, if_false, Bool.false_eq_true, Bool.true_eq_false, Bool.not_true, Bool.not_false, decide_true, decide_false, Nat.reduceEqDiff, Nat.zero_lt_succ, List.replicate_succ, List.replicate_zero, Nat.reduceSub, Nat.reduceAdd, Nat.reduceLT, Nat.reduceLeDiff, Nat.zero_le, id, lstK_ok, tupK_ok]
    exact ⟨by first | rfl | trivial, by first | rfl | trivial⟩
  | false =>
    try simp -implicitDefEqProofs only [wp_ok, wp_bind, wp_noexc, wp_seq, wp_skip, wp_brk, wp_cnt, wp_retN, wp_ret, wp_set, wp_par, wp_unp, wp_sto, wp_xpr, wp_ite, wp_for, wp_whl, wp_tru, sk_nx, sk_rt, sk_bk, sk_ct, lk_nx, lk_ct, lk_bk, lk_rt, ik_true, ik_false, ev, evs, evo, evi, evc, evd, keyK_str, keyK_int, retK_rt, retK_nx, iteK_true, iteK_false, truK0_bl, truK0_int, truK0_tup, truK0_frl, truK0_non, scK_bl, wp_callK, cmpO, cmp_eq, cmp_ne, cmp_lt, cmp_le, cmp_gt, cmp_ge, cmp_isN, cmp_notN, eqD_int, eqD_str, bin_int, binI_add, binI_sub, of_some, negK_int, setK_nm, setK_tp, setsK, asg, asgs, tgsOf, intK, rngK, srcK, subO, startE, newR, new, bi_int, bi_abs, bi_len_tup, bi_len_frl,  Option.map_some, Option.map_none, Option.bind_some, List.map_cons, List.map_nil, List.length_cons, List.length_nil, List.length_append, List.length_map, List.length_set, List.cons_append, List.nil_append, List.getElem?_cons_zero, List.getElem?_cons_succ, List.set_cons_zero, List.set_cons_succ, if_true, if_false, Bool.false_eq_true, Bool.true_eq_false, Bool.not_true, Bool.not_false, decide_true, decide_false, Nat.reduceEqDiff, Nat.zero_lt_succ, List.replicate_succ, List.replicate_zero, Nat.reduceSub, Nat.reduceAdd, Nat.reduceLT, Nat.reduceLeDiff, Nat.zero_le, id, lstK_ok, tupK_ok, x1]
    cases isNon e with
    | false =>
      try simp -implicitDefEqProofs only [wp_ok, wp_bind, wp_noexc, wp_seq, wp_skip, wp_brk, wp_cnt, wp_retN, wp_ret, wp_set, wp_par, wp_unp, wp_sto, wp_xpr, wp_ite, wp_for, wp_whl, wp_tru, sk_nx, sk_rt, sk_bk, sk_ct, lk_nx, lk_ct, lk_bk, lk_rt, ik_true, ik_false, ev, evs, evo, evi, evc, evd, keyK_str, keyK_int, retK_rt, retK_nx, iteK_true, iteK_false, truK0_bl, truK0_int, truK0_tup, truK0_frl, truK0_non, scK_bl, wp_callK, cmpO, cmp_eq, cmp_ne, cmp_lt, cmp_le, cmp_gt, cmp_ge, cmp_isN, cmp_notN, eqD_int, eqD_str, bin_int, binI_add, binI_sub, of_some, negK_int, setK_nm, setK_tp, setsK, asg, asgs, tgsOf, intK, rngK, srcK, subO, startE, newR, new, bi_int, bi_abs, bi_len_tup, bi_len_frl,  Option.map_some, Option.map_none, Option.bind_some, List.map_cons, List.map_nil, List.length_cons, List.length_nil, List.length_append, List.length_map, List.length_set, List.cons_append, List.nil_append, List.getElem?_cons_zero, List.getElem?_cons_succ, List.set_cons_zero, List.set_cons_succ, if_true, if_false, Bool.false_eq_true, Bool.true_eq_false, Bool.not_true, Bool.not_false, decide_true, decide_false, Nat.reduceEqDiff, Nat.zero_lt_succ, List.replicate_succ, List.replicate_zero, Nat.reduceSub, Nat.reduceAdd, Nat.reduceLT, Nat.reduceLeDiff, Nat.zero_le, id, lstK_ok, tupK_ok]
      exact ⟨by first | rfl | trivial, by first | rfl | trivial⟩
    | true =>
      try simp -implicitDefEqProofs only [wp_ok, wp_bind, wp_noexc, wp_seq, wp_skip, wp_brk, wp_cnt, wp_retN, wp_ret, wp_set, wp_par, wp_unp, wp_sto, wp_xpr, wp_ite, wp_for, wp_whl, wp_tru, sk_nx, sk_rt, sk_bk, sk_ct, lk_nx, lk_ct, lk_bk, lk_rt, ik_true, ik_false, ev, evs, evo, evi, evc, evd, keyK_str, keyK_int, retK_rt, retK_nx, iteK_true, iteK_false, truK0_bl, truK0_int, truK0_tup, truK0_frl, truK0_non, scK_bl, wp_callK, cmpO, cmp_eq, cmp_ne, cmp_lt, cmp_le, cmp_gt, cmp_ge, cmp_isN, cmp_notN, eqD_int, eqD_str, bin_int, binI_add, binI_sub, of_some, negK_int, setK_nm, setK_tp, setsK, asg, asgs, tgsOf, intK, rngK, srcK, subO, startE, newR, new, bi_int, bi_abs, bi_len_tup, bi_len_frl,  Option.map_some, Option.map_none, Option.bind_some, List.map_cons, List.map_nil, List.length_cons, List.length_nil, List.length_append, List.length_map, List.length_set, List.cons_append, List.nil_append, List.getElem?_cons_zero, List.getElem?_cons_succ, List.set_cons_zero, List.set_cons_succ, if_true, if_false, Bool.false_eq_true, Bool.true_eq_false, Bool.not_true, Bool.not_false, decide_true, decide_false, Nat.reduceEqDiff, Nat.zero_lt_succ, List.replicate_succ, List.replicate_zero, Nat.reduceSub, Nat.reduceAdd, Nat.reduceLT, Nat.reduceLeDiff, Nat.zero_le, id, lstK_ok, tupK_ok, x0, slW_tup, cut_take, q2]
      exact ⟨by first | rfl | trivial, by first | rfl | trivial⟩
theorem agree_ok (h : GE e) (h' : GE f) : Wp (Ci.run tab (n + 2) 7 [rw a e, rw b f] st) fun r st' => r = .bl (beg a e b f || beg b f a e) ∧ st' = st := by
  refine wp_run (d := d7) rfl rfl ?_
  show Wp (ex _ c7 _ _) _
  unfold c7
  try simp -implicitDefEqProofs only [wp_ok, wp_bind, wp_noexc, wp_seq, wp_skip, wp_brk, wp_cnt, wp_retN, wp_ret, wp_set, wp_par, wp_unp, wp_sto, wp_xpr, wp_ite, wp_for, wp_whl, wp_tru, sk_nx, sk_rt, sk_bk, sk_ct, lk_nx, lk_ct, lk_bk, lk_rt, ik_true, ik_false, ev, evs, evo, evi, evc, evd, keyK_str, keyK_int, retK_rt, retK_nx, iteK_true, iteK_false, truK0_bl, truK0_int, truK0_tup, truK0_frl, truK0_non, scK_bl, wp_callK, cmpO, cmp_eq, cmp_ne, cmp_lt, cmp_le, cmp_gt, cmp_ge, cmp_isN, cmp_notN, eqD_int, eqD_str, bin_int, binI_add, binI_sub, of_some, negK_int, setK_nm, setK_tp, setsK, asg, asgs, tgsOf, intK, rngK, srcK, subO, startE, newR, new, bi_int, bi_abs, bi_len_tup, bi_len_frl,  Option.map_some, Option.map_none, Option.bind_some, List.map_cons, List.map_nil, List.length_cons, List.length_nil, List.length_append, List.length_map, List.length_set, List.cons_append, List.nil_append, List.getElem?_cons_zero, List.getElem?_cons_succ, List.set_cons_zero, List.set_cons_succ, if_true, if_false, Bool.false_eq_true, Bool.true_eq_false, Bool.not_true, Bool.not_false, decide_true, decide_false, Nat.reduceEqDiff, Nat.zero_lt_succ, List.replicate_succ, List.replicate_zero, Nat.reduceSub, Nat.reduceAdd, Nat.reduceLT, Nat.reduceLeDiff, Nat.zero_le, id, lstK_ok, tupK_ok, d7]
  refine (beg_ok h h').mono ?_
  rintro r st1 ⟨rfl, rfl⟩
  cases beg a e b f with
  | true =>
    try simp -implicitDefEqProofs only [wp_ok, wp_bind, wp_noexc, wp_seq, wp_skip, wp_brk, wp_cnt, wp_retN, wp_ret, wp_set, wp_par, wp_unp, wp_sto, wp_xpr, wp_ite, wp_for, wp_whl, wp_tru, sk_nx, sk_rt, sk_bk, sk_ct, lk_nx, lk_ct, lk_bk, lk_rt, ik_true, ik_false, ev, evs, evo, evi, evc, evd, keyK_str, keyK_int, retK_rt, retK_nx, iteK_true, iteK_false, truK0_bl, truK0_int, truK0_tup, truK0_frl, truK0_non, scK_bl, wp_callK, cmpO, cmp_eq, cmp_ne, cmp_lt, cmp_le, cmp_gt, cmp_ge, cmp_isN, cmp_notN, eqD_int, eqD_str, bin_int, binI_add, binI_sub, of_some, negK_int, setK_nm, setK_tp, setsK, asg, asgs, tgsOf, intK, rngK, srcK, subO, startE, newR, new, bi_int, bi_abs, bi_len_tup, bi_len_frl,  Option.map_some, Option.map_none, Option.bind_some, List.map_cons, List.map_nil, List.length_cons, List.length_nil, List.length_append, List.length_map, List.length_set, List.cons_append, List.nil_append, List.getElem?_cons_zero, List.getElem?_cons_succ, List.set_cons_zero, List.set_cons_succ, if_true, if_false, Bool.false_eq_true, Bool.true_eq_false, Bool.not_true, Bool.not_false, decide_true, decide_false, Nat.reduceEqDiff, Nat.zero_lt_succ, List.replicate_succ, List.replicate_zero, Nat.reduceSub, Nat.reduceAdd, Nat.reduceLT, Nat.reduceLeDiff, Nat.zero_le, id, lstK_ok, tupK_ok]
    exact ⟨by first | rfl | trivial, by first | rfl | trivial⟩
  | false =>
    try simp -implicitDefEqProofs only [wp_ok, wp_bind, wp_noexc, wp_seq, wp_skip, wp_brk, wp_cnt, wp_retN, wp_ret, wp_set, wp_par, wp_unp, wp_sto, wp_xpr, wp_ite, wp_for, wp_whl, wp_tru, sk_nx, sk_rt, sk_bk, sk_ct, lk_nx, lk_ct, lk_bk, lk_rt, ik_true, ik_false, ev, evs, evo, evi, evc, evd, keyK_str, keyK_int, retK_rt, retK_nx, iteK_true, iteK_false, truK0_bl, truK0_int, truK0_tup, truK0_frl, truK0_non, scK_bl, wp_callK, cmpO, cmp_eq, cmp_ne, cmp_lt, cmp_le, cmp_gt, cmp_ge, cmp_isN, cmp_notN, eqD_int, eqD_str, bin_int, binI_add, binI_sub, of_some, negK_int, setK_nm, setK_tp, setsK, asg, asgs, tgsOf, intK, rngK, srcK, subO, startE, newR, new, bi_int, bi_abs, bi_len_tup, bi_len_frl,  Option.map_some, Option.map_none, Option.bind_some, List.map_cons, List.map_nil, List.length_cons, List.length_nil, List.length_append, List.length_map, List.length_set, List.cons_append, List.nil_append, List.getElem?_cons_zero, List.getElem?_cons_succ, List.set_cons_zero, List.set_cons_succ, if_true, if_false, Bool.false_eq_true, Bool.true_eq_false, Bool.not_true, Bool.not_false, decide_true, decide_false, Nat.reduceEqDiff, Nat.zero_lt_succ, List.replicate_succ, List.replicate_zero, Nat.reduceSub, Nat.reduceAdd, Nat.reduceLT, Nat.reduceLeDiff, Nat.zero_le, id, lstK_ok, tupK_ok]
    refine (beg_ok h' h).mono ?_
    rintro r st1 ⟨rfl, rfl⟩
    exact ⟨by first | rfl | trivial, by first | rfl | trivial⟩
/-! ### cuts -/
def cutsL (b : List Int) (f : W) : List W := rw b f :: (List.range (b.length + 1)).map fun i => rw (b.take i) .non
theorem cuts_ok (hl : b.length ≤ 1000) : Wp (Ci.run tab (n + 1) 14 [rw b f] st) (NewL st (cutsL b f)) := by
  refine wp_run (d := d14) rfl rfl ?_
  show Wp (ex _ c14 _ _) _
  unfold c14
  have x0 : ∀ st : Sto, sub st (rw b f) (.int 0) = some (.tup (b.map .int)) := fun _ => rfl
  have hr : rngOf [W.int ((b.length : Int) + 1)] = some (0, ((b.length + 1 : Nat) : Int)) := rngOf_nat (n := b.length + 1) (by omega)
  obtain ⟨st1, hst1⟩ : ∃ x : Sto, x = st ++ [Ob.lst [rw b f]] := ⟨_, rfl⟩
  have g1 : st1[st.length]? = some (.lst [rw b f]) := by rw [hst1]; exact getLast
  have hl1 : st.length + 1 = st1.length := by rw [hst1]; simp
  have e1 : Ext st st1 := by rw [hst1]; exact Ext.new
  try simp -implicitDefEqProofs only [wp_ok, wp_bind, wp_noexc, wp_seq, wp_skip, wp_brk, wp_cnt, wp_retN, wp_ret, wp_set, wp_par, wp_unp, wp_sto, wp_xpr, wp_ite, wp_for, wp_whl, wp_tru, sk_nx, sk_rt, sk_bk, sk_ct, lk_nx, lk_ct, lk_bk, lk_rt, ik_true, ik_false, ev, evs, evo, evi, evc, evd, keyK_str, keyK_int, retK_rt, retK_nx, iteK_true, iteK_false, truK0_bl, truK0_int, truK0_tup, truK0_frl, truK0_non, scK_bl, wp_callK, cmpO, cmp_eq, cmp_ne, cmp_lt, cmp_le, cmp_gt, cmp_ge, cmp_isN, cmp_notN, eqD_int, eqD_str, bin_int, binI_add, binI_sub, of_some, negK_int, setK_nm, setK_tp, setsK, asg, asgs, tgsOf, intK, rngK, srcK, subO, startE, newR, new, bi_int, bi_abs, bi_len_tup, bi_len_frl,  Option.map_some, Option.map_none, Option.bind_some, List.map_cons, List.map_nil, List.length_cons, List.length_nil, List.length_append, List.length_map, List.length_set, List.cons_append, List.nil_append, List.getElem?_cons_zero, List.getElem?_cons_succ, List.set_cons_zero, List.set_cons_succ, if_true, if_false, Bool.false_eq_true, Bool.true_eq_false, Bool.not_true, Bool.not_false, decide_true, decide_false, Nat.reduceEqDiff, Nat.zero_lt_succ, List.replicate_succ, List.replicate_zero, Nat.reduceSub, Nat.reduceAdd, Nat.reduceLT, Nat.reduceLeDiff, Nat.zero_le, id, lstK_ok, tupK_ok, x0, hr, d14]
  rw [← hst1, hl1]
  have rl : (rngW 0 ((b.length + 1 : Nat) : Int)).length = b.length + 1 := rngW_len _
  refine wp_lcL (rngW 0 ((b.length + 1 : Nat) : Int)) (fun k st' => st' = st1 ++ [Ob.lst ((List.range k).map fun i => rw (b.take i) .non)]) (fun _ _ _ => rfl) ?_ ?_ FU 0 _ (Nat.zero_le _) (by rw [rl]; unfold FU; omega) rfl
  · rintro k w st' hw rfl
    obtain ⟨hk, rfl⟩ := rngW_get hw
    refine ⟨_, rfl, ?_⟩
    try simp -implicitDefEqProofs only [wp_ok, wp_bind, wp_noexc, wp_seq, wp_skip, wp_brk, wp_cnt, wp_retN, wp_ret, wp_set, wp_par, wp_unp, wp_sto, wp_xpr, wp_ite, wp_for, wp_whl, wp_tru, sk_nx, sk_rt, sk_bk, sk_ct, lk_nx, lk_ct, lk_bk, lk_rt, ik_true, ik_false, ev, evs, evo, evi, evc, evd, keyK_str, keyK_int, retK_rt, retK_nx, iteK_true, iteK_false, truK0_bl, truK0_int, truK0_tup, truK0_frl, truK0_non, scK_bl, wp_callK, cmpO, cmp_eq, cmp_ne, cmp_lt, cmp_le, cmp_gt, cmp_ge, cmp_isN, cmp_notN, eqD_int, eqD_str, bin_int, binI_add, binI_sub, of_some, negK_int, setK_nm, setK_tp, setsK, asg, asgs, tgsOf, intK, rngK, srcK, subO, startE, newR, new, bi_int, bi_abs, bi_len_tup, bi_len_frl,  Option.map_some, Option.map_none, Option.bind_some, List.map_cons, List.map_nil, List.length_cons, List.length_nil, List.length_append, List.length_map, List.length_set, List.cons_append, List.nil_append, List.getElem?_cons_zero, List.getElem?_cons_succ, List.set_cons_zero, List.set_cons_succ, if_true, if_false, Bool.false_eq_true, Bool.true_eq_false, Bool.not_true, Bool.not_false, decide_true, decide_false, Nat.reduceEqDiff, Nat.zero_lt_succ, List.replicate_succ, List.replicate_zero, Nat.reduceSub, Nat.reduceAdd, Nat.reduceLT, Nat.reduceLeDiff, Nat.zero_le, id, lstK_ok, tupK_ok, wipeE, x0, slW_tup, cut_take]
    refine ⟨_, getLast, by rw [List.length_map, List.length_range]; unfold sizeLine; omega, ?_⟩
    rw [List.range_succ, List.map_append, set_last]
    simp only [List.map_cons, List.map_nil, rw, List.map_take]
  · rintro st' rfl
    rw [rl]
    unfold cutsL
    have hL : ((List.range (b.length + 1)).map fun i => rw (b.take i) .non).length = b.length + 1 := by simp
    generalize ((List.range (b.length + 1)).map fun i => rw (b.take i) .non) = L at *
    have h2 := bin_cat (st := st1 ++ [Ob.lst L]) (getNew g1) getLast (by simp; omega)
    have h3 : (st1 ++ [Ob.lst L]).length = st1.length + 1 := by simp
    rw [h3] at h2
    try simp -implicitDefEqProofs only [wp_ok, wp_bind, wp_noexc, wp_seq, wp_skip, wp_brk, wp_cnt, wp_retN, wp_ret, wp_set, wp_par, wp_unp, wp_sto, wp_xpr, wp_ite, wp_for, wp_whl, wp_tru, sk_nx, sk_rt, sk_bk, sk_ct, lk_nx, lk_ct, lk_bk, lk_rt, ik_true, ik_false, ev, evs, evo, evi, evc, evd, keyK_str, keyK_int, retK_rt, retK_nx, iteK_true, iteK_false, truK0_bl, truK0_int, truK0_tup, truK0_frl, truK0_non, scK_bl, wp_callK, cmpO, cmp_eq, cmp_ne, cmp_lt, cmp_le, cmp_gt, cmp_ge, cmp_isN, cmp_notN, eqD_int, eqD_str, bin_int, binI_add, binI_sub, of_some, negK_int, setK_nm, setK_tp, setsK, asg, asgs, tgsOf, intK, rngK, srcK, subO, startE, newR, new, bi_int, bi_abs, bi_len_tup, bi_len_frl,  Option.map_some, Option.map_none, Option.bind_some, List.map_cons, List.map_nil, List.length_cons, List.length_nil, List.length_append, List.length_map, List.length_set, List.cons_append, List.nil_append, List.getElem?_cons_zero, List.getElem?_cons_succ, List.set_cons_zero, List.set_cons_succ, if_true, if_false, Bool.false_eq_true, Bool.true_eq_false, Bool.not_true, Bool.not_false, decide_true, decide_false, Nat.reduceEqDiff, Nat.zero_lt_succ, List.replicate_succ, List.replicate_zero, Nat.reduceSub, Nat.reduceAdd, Nat.reduceLT, Nat.reduceLeDiff, Nat.zero_le, id, lstK_ok, tupK_ok, h2]
    refine ⟨st1.length + 1, by first | rfl | trivial, e1.trans (Ext.new.trans Ext.new), by have := e1.1; omega, ?_⟩
    rw [← h3]
    exact getLast
def cutsD (b : List Int) (f : W) : List PyData := rd b f :: (List.range (b.length + 1)).map fun i => rd (b.take i) .non
theorem pds_map {α : Type} (ρ : Nat → Option PyData) (f : α → W) (g : α → PyData) (h : ∀ x, pd ρ (f x) = some (g x)) : ∀ l : List α, pds ρ (l.map f) = some (l.map g)
  | [] => rfl
  | x :: l => by rw [List.map_cons, pds, h x, pds_map ρ f g h l]; rfl
theorem pd_run (ρ : Nat → Option PyData) (h : GE e) : pd ρ (rw a e) = some (rd a e) := by
  rw [rw, pd, pds, pd, pds_ints, pds, toD_end _ h, pds]
  rfl
theorem lay_list : ∀ {l : List PyData}, (∀ x ∈ l, x.canLay0 = true ∧ x.depth ≤ 2) → PyData.canLayAll0 l = true ∧ PyData.depthAll l ≤ 2
  | [], _ => by simp only [PyData.canLayAll0, PyData.depthAll]; decide
  | x :: l, h => by
    obtain ⟨h1, h2⟩ := h x List.mem_cons_self
    obtain ⟨h3, h4⟩ := lay_list fun y hy => h y (List.mem_cons_of_mem _ hy)
    simp only [PyData.canLayAll0, PyData.depthAll, h1, h3, Bool.and_self, true_and]
    omega
theorem any_take {a b : List Int} : ((List.range (b.length + 1)).any fun i => decide (b.take i = a)) = decide (a = b.take a.length) := by
  rw [Bool.eq_iff_iff, List.any_eq_true, decide_eq_true_eq]
  constructor
  · rintro ⟨i, _, h⟩
    have h := of_decide_eq_true h
    rw [← h, List.length_take, List.take_eq_take_iff]
    omega
  · intro h
    have hl := congrArg List.length h
    rw [List.length_take] at hl
    exact ⟨a.length, List.mem_range.mpr (by omega), decide_eq_true h.symm⟩
theorem in_cuts {p : Nat} (h : GE e) (h' : GE f) (g : st[p]? = some (.lst (cutsL b f))) : inW st (rw a e) (.ref p) = some (beg a e b f) := by
  have e1 : inW st (rw a e) (.ref p) = inD st (rw a e) (cutsL b f) := by simp only [inW, g]
  have e2 : pds (rho st 8) (cutsL b f) = some (cutsD b f) := by
    rw [cutsL, pds, pd_run _ h', pds_map _ _ (fun i => rd (b.take i) .non) fun i => pd_run _ GE.non]
    rfl
  have e3 : shapedB (.list (cutsD b f)) = true := by
    obtain ⟨h1, h2⟩ := lay_list (l := cutsD b f) fun x hx => by
      rcases List.mem_cons.mp hx with rfl | hx
      · exact lay_run h'
      · obtain ⟨i, _, rfl⟩ := List.mem_map.mp hx
        exact lay_run GE.non
    simp only [shapedB, SeqAt.shaped, PyData.canLay0, PyData.depth, h1, Bool.true_and]
    exact decide_eq_true (by omega)
  rw [e1, inD, toD_run h, e2]
  simp only [shaped_run h, e3, Bool.and_self, if_true]
  congr 1
  rw [cutsD, List.any_cons, List.any_map, beg, PySem.W.eqv_comm (rd b f)]
  congr 1
  have : ((fun z => PyData.eqv z (rd a e)) ∘ fun i => rd (b.take i) .non) = fun i => (decide (b.take i = a) && isNon e) := by
    funext i
    show PyData.eqv (rd (b.take i) .non) (rd a e) = _
    rw [eqv_rd, ← eqv_none h]
    rfl
  rw [this]
  cases isNon e with
  | true =>
    simp only [Bool.and_true, Bool.true_and]
    exact any_take
  | false => simp
end
end K03
/-! K03c: what is a run; runs drawn. -/
namespace K03
open PySem Ci Law

section
variable {n : Nat} {st : Sto} {a b : List Int} {e f : W}
/-! ### is_run -/
theorem run_no {w : W} (h : isiK ["tuple"] w st = .ok (.bl false) st) : Wp (Ci.run tab (n + 4) 5 [w] st) fun r _ => r = .bl false := by
  refine wp_run (d := d5) rfl rfl ?_
  show Wp (ex _ c5 _ _) _
  unfold c5
  try simp -implicitDefEqProofs only [wp_ok, wp_bind, wp_noexc, wp_seq, wp_skip, wp_brk, wp_cnt, wp_retN, wp_ret, wp_set, wp_par, wp_unp, wp_sto, wp_xpr, wp_ite, wp_for, wp_whl, wp_tru, sk_nx, sk_rt, sk_bk, sk_ct, lk_nx, lk_ct, lk_bk, lk_rt, ik_true, ik_false, ev, evs, evo, evi, evc, evd, keyK_str, keyK_int, retK_rt, retK_nx, iteK_true, iteK_false, truK0_bl, truK0_int, truK0_tup, truK0_frl, truK0_non, scK_bl, wp_callK, cmpO, cmp_eq, cmp_ne, cmp_lt, cmp_le, cmp_gt, cmp_ge, cmp_isN, cmp_notN, eqD_int, eqD_str, bin_int, binI_add, binI_sub, of_some, negK_int, setK_nm, setK_tp, setsK, asg, asgs, tgsOf, intK, rngK, srcK, subO, startE, newR, new, bi_int, bi_abs, bi_len_tup, bi_len_frl,  Option.map_some, Option.map_none, Option.bind_some, List.map_cons, List.map_nil, List.length_cons, List.length_nil, List.length_append, List.length_map, List.length_set, List.cons_append, List.nil_append, List.getElem?_cons_zero, List.getElem?_cons_succ, List.set_cons_zero, List.set_cons_succ, if_true, if_false, Bool.false_eq_true, Bool.true_eq_false, Bool.not_true, Bool.not_false, decide_true, decide_false, Nat.reduceEqDiff, Nat.zero_lt_succ, List.replicate_succ, List.replicate_zero, Nat.reduceSub, Nat.reduceAdd, Nat.reduceLT, Nat.reduceLeDiff, Nat.zero_le, id, lstK_ok, tupK_ok, d5]
  refine (row2_no h).mono ?_
  rintro r st1 ⟨rfl, rfl⟩
  try simp -implicitDefEqProofs only [wp_ok, wp_bind, wp_noexc, wp_seq, wp_skip, wp_brk, wp_cnt, wp_retN, wp_ret, wp_set, wp_par, wp_unp, wp_sto, wp_xpr, wp_ite, wp_for, wp_whl, wp_tru, sk_nx, sk_rt, sk_bk, sk_ct, lk_nx, lk_ct, lk_bk, lk_rt, ik_true, ik_false, ev, evs, evo, evi, evc, evd, keyK_str, keyK_int, retK_rt, retK_nx, iteK_true, iteK_false, truK0_bl, truK0_int, truK0_tup, truK0_frl, truK0_non, scK_bl, wp_callK, cmpO, cmp_eq, cmp_ne, cmp_lt, cmp_le, cmp_gt, cmp_ge, cmp_isN, cmp_notN, eqD_int, eqD_str, bin_int, binI_add, binI_sub, of_some, negK_int, setK_nm, setK_tp, setsK, asg, asgs, tgsOf, intK, rngK, srcK, subO, startE, newR, new, bi_int, bi_abs, bi_len_tup, bi_len_frl,  Option.map_some, Option.map_none, Option.bind_some, List.map_cons, List.map_nil, List.length_cons, List.length_nil, List.length_append, List.length_map, List.length_set, List.cons_append, List.nil_append, List.getElem?_cons_zero, List.getElem?_cons_succ, List.set_cons_zero, List.set_cons_succ, if_true, if_false, Bool.false_eq_true, Bool.true_eq_false, Bool.not_true, Bool.not_false, decide_true, decide_false, Nat.reduceEqDiff, Nat.zero_lt_succ, List.replicate_succ, List.replicate_zero, Nat.reduceSub, Nat.reduceAdd, Nat.reduceLT, Nat.reduceLeDiff, Nat.zero_le, id, lstK_ok, tupK_ok]
theorem run_len {ws : List W} (h : ws.length ≠ 2) : Wp (Ci.run tab (n + 4) 5 [.tup ws] st) fun r _ => r = .bl false := by
  refine wp_run (d := d5) rfl rfl ?_
  show Wp (ex _ c5 _ _) _
  unfold c5
  try simp -implicitDefEqProofs only [wp_ok, wp_bind, wp_noexc, wp_seq, wp_skip, wp_brk, wp_cnt, wp_retN, wp_ret, wp_set, wp_par, wp_unp, wp_sto, wp_xpr, wp_ite, wp_for, wp_whl, wp_tru, sk_nx, sk_rt, sk_bk, sk_ct, lk_nx, lk_ct, lk_bk, lk_rt, ik_true, ik_false, ev, evs, evo, evi, evc, evd, keyK_str, keyK_int, retK_rt, retK_nx, iteK_true, iteK_false, truK0_bl, truK0_int, truK0_tup, truK0_frl, truK0_non, scK_bl, wp_callK, cmpO, cmp_eq, cmp_ne, cmp_lt, cmp_le, cmp_gt, cmp_ge, cmp_isN, cmp_notN, eqD_int, eqD_str, bin_int, binI_add, binI_sub, of_some, negK_int, setK_nm, setK_tp, setsK, asg, asgs, tgsOf, intK, rngK, srcK, subO, startE, newR, new, bi_int, bi_abs, bi_len_tup, bi_len_frl,  Option.map_some, Option.map_none, Option.bind_some, List.map_cons, List.map_nil, List.length_cons, List.length_nil, List.length_append, List.length_map, List.length_set, List.cons_append, List.nil_append, List.getElem?_cons_zero, List.getElem?_cons_succ, List.set_cons_zero, List.set_cons_succ, if_true, if_false, Bool.false_eq_true, Bool.true_eq_false, Bool.not_true, Bool.not_false, decide_true, decide_false, Nat.reduceEqDiff, Nat.zero_lt_succ, List.replicate_succ, List.replicate_zero, Nat.reduceSub, Nat.reduceAdd, Nat.reduceLT, Nat.reduceLeDiff, Nat.zero_le, id, lstK_ok, tupK_ok, d5]
  refine row2_tup.mono ?_
  rintro r st1 ⟨rfl, rfl⟩
  rw [decide_eq_false h]
  try simp -implicitDefEqProofs only [wp_ok, wp_bind, wp_noexc, wp_seq, wp_skip, wp_brk, wp_cnt, wp_retN, wp_ret, wp_set, wp_par, wp_unp, wp_sto, wp_xpr, wp_ite, wp_for, wp_whl, wp_tru, sk_nx, sk_rt, sk_bk, sk_ct, lk_nx, lk_ct, lk_bk, lk_rt, ik_true, ik_false, ev, evs, evo, evi, evc, evd, keyK_str, keyK_int, retK_rt, retK_nx, iteK_true, iteK_false, truK0_bl, truK0_int, truK0_tup, truK0_frl, truK0_non, scK_bl, wp_callK, cmpO, cmp_eq, cmp_ne, cmp_lt, cmp_le, cmp_gt, cmp_ge, cmp_isN, cmp_notN, eqD_int, eqD_str, bin_int, binI_add, binI_sub, of_some, negK_int, setK_nm, setK_tp, setsK, asg, asgs, tgsOf, intK, rngK, srcK, subO, startE, newR, new, bi_int, bi_abs, bi_len_tup, bi_len_frl,  Option.map_some, Option.map_none, Option.bind_some, List.map_cons, List.map_nil, List.length_cons, List.length_nil, List.length_append, List.length_map, List.length_set, List.cons_append, List.nil_append, List.getElem?_cons_zero, List.getElem?_cons_succ, List.set_cons_zero, List.set_cons_succ, if_true, if_false, Bool.false_eq_true, Bool.true_eq_false, Bool.not_true, Bool.not_false, decide_true, decide_false, Nat.reduceEqDiff, Nat.zero_lt_succ, List.replicate_succ, List.replicate_zero, Nat.reduceSub, Nat.reduceAdd, Nat.reduceLT, Nat.reduceLeDiff, Nat.zero_le, id, lstK_ok, tupK_ok]
theorem run_no0 {w w2 : W} (h : isiK ["tuple"] w st = .ok (.bl false) st) : Wp (Ci.run tab (n + 4) 5 [.tup [w, w2]] st) fun r _ => r = .bl false := by
  refine wp_run (d := d5) rfl rfl ?_
  show Wp (ex _ c5 _ _) _
  unfold c5
  have x0 : ∀ st : Sto, sub st (.tup [w, w2]) (.int 0) = some w := fun _ => rfl
  try simp -implicitDefEqProofs only [wp_ok, wp_bind, wp_noexc, wp_seq, wp_skip, wp_brk, wp_cnt, wp_retN, wp_ret, wp_set, wp_par, wp_unp, wp_sto, wp_xpr, wp_ite, wp_for, wp_whl, wp_tru, sk_nx, sk_rt, sk_bk, sk_ct, lk_nx, lk_ct, lk_bk, lk_rt, ik_true, ik_false, ev, evs, evo, evi, evc, evd, keyK_str, keyK_int, retK_rt, retK_nx, iteK_true, iteK_false, truK0_bl, truK0_int, truK0_tup, truK0_frl, truK0_non, scK_bl, wp_callK, cmpO, cmp_eq, cmp_ne, cmp_lt, cmp_le, cmp_gt, cmp_ge, cmp_isN, cmp_notN, eqD_int, eqD_str, bin_int, binI_add, binI_sub, of_some, negK_int, setK_nm, setK_tp, setsK, asg, asgs, tgsOf, intK, rngK, srcK, subO, startE, newR, new, bi_int, bi_abs, bi_len_tup, bi_len_frl,  Option.map_some, Option.map_none, Option.bind_some, List.map_cons, List.map_nil, List.length_cons, List.length_nil, List.length_append, List.length_map, List.length_set, List.cons_append, List.nil_append, List.getElem?_cons_zero, List.getElem?_cons_succ, List.set_cons_zero, List.set_cons_succ, if_true, if_false, Bool.false_eq_true, Bool.true_eq_false, Bool.not_true, Bool.not_false, decide_true, decide_false, Nat.reduceEqDiff, Nat.zero_lt_succ, List.replicate_succ, List.replicate_zero, Nat.reduceSub, Nat.reduceAdd, Nat.reduceLT, Nat.reduceLeDiff, Nat.zero_le, id, lstK_ok, tupK_ok, d5]
  refine row2_tup.mono ?_
  rintro r st1 ⟨rfl, rfl⟩
  try simp -implicitDefEqProofs only [wp_ok, wp_bind, wp_noexc, wp_seq, wp_skip, wp_brk, wp_cnt, wp_retN, wp_ret, wp_set, wp_par, wp_unp, wp_sto, wp_xpr, wp_ite, wp_for, wp_whl, wp_tru, sk_nx, sk_rt, sk_bk, sk_ct, lk_nx, lk_ct, lk_bk, lk_rt, ik_true, ik_false, ev, evs, evo, evi, evc, evd, keyK_str, keyK_int, retK_rt, retK_nx, iteK_true, iteK_false, truK0_bl, truK0_int, truK0_tup, truK0_frl, truK0_non, scK_bl, wp_callK, cmpO, cmp_eq, cmp_ne, cmp_lt, cmp_le, cmp_gt, cmp_ge, cmp_isN, cmp_notN, eqD_int, eqD_str, bin_int, binI_add, binI_sub, of_some, negK_int, setK_nm, setK_tp, setsK, asg, asgs, tgsOf, intK, rngK, srcK, subO, startE, newR, new, bi_int, bi_abs, bi_len_tup, bi_len_frl,  Option.map_some, Option.map_none, Option.bind_some, List.map_cons, List.map_nil, List.length_cons, List.length_nil, List.length_append, List.length_map, List.length_set, List.cons_append, List.nil_append, List.getElem?_cons_zero, List.getElem?_cons_succ, List.set_cons_zero, List.set_cons_succ, if_true, if_false, Bool.false_eq_true, Bool.true_eq_false, Bool.not_true, Bool.not_false, decide_true, decide_false, Nat.reduceEqDiff, Nat.zero_lt_succ, List.replicate_succ, List.replicate_zero, Nat.reduceSub, Nat.reduceAdd, Nat.reduceLT, Nat.reduceLeDiff, Nat.zero_le, id, lstK_ok, tupK_ok, x0, h]
theorem run_of {ws : List W} {w2 : W} {b : Bool} (hw : ∀ w ∈ ws, Atom w) (hl : ws.length ≤ 1000) (he : ∀ st', Ext st st' → Wp (Ci.run tab (n + 3) 4 [w2] st') fun r st'' => r = .bl b ∧ st'' = st') :
    Wp (Ci.run tab (n + 4) 5 [.tup [.tup ws, w2]] st) fun r st' => r = .bl (ws.all isNum && b) ∧ Ext st st' := by
  refine wp_run (d := d5) rfl rfl ?_
  show Wp (ex _ c5 _ _) _
  unfold c5
  have x0 : ∀ st : Sto, sub st (.tup [.tup ws, w2]) (.int 0) = some (.tup ws) := fun _ => rfl
  have x1 : ∀ st : Sto, sub st (.tup [.tup ws, w2]) (.int 1) = some w2 := fun _ => rfl
  have hsrc : ∀ st : Sto, srcOf st (.tup ws) = some (.fix ws) := fun _ => rfl
  try simp -implicitDefEqProofs only [wp_ok, wp_bind, wp_noexc, wp_seq, wp_skip, wp_brk, wp_cnt, wp_retN, wp_ret, wp_set, wp_par, wp_unp, wp_sto, wp_xpr, wp_ite, wp_for, wp_whl, wp_tru, sk_nx, sk_rt, sk_bk, sk_ct, lk_nx, lk_ct, lk_bk, lk_rt, ik_true, ik_false, ev, evs, evo, evi, evc, evd, keyK_str, keyK_int, retK_rt, retK_nx, iteK_true, iteK_false, truK0_bl, truK0_int, truK0_tup, truK0_frl, truK0_non, scK_bl, wp_callK, cmpO, cmp_eq, cmp_ne, cmp_lt, cmp_le, cmp_gt, cmp_ge, cmp_isN, cmp_notN, eqD_int, eqD_str, bin_int, binI_add, binI_sub, of_some, negK_int, setK_nm, setK_tp, setsK, asg, asgs, tgsOf, intK, rngK, srcK, subO, startE, newR, new, bi_int, bi_abs, bi_len_tup, bi_len_frl,  Option.map_some, Option.map_none, Option.bind_some, List.map_cons, List.map_nil, List.length_cons, List.length_nil, List.length_append, List.length_map, List.length_set, List.cons_append, List.nil_append, List.getElem?_cons_zero, List.getElem?_cons_succ, List.set_cons_zero, List.set_cons_succ, if_true, if_false, Bool.false_eq_true, Bool.true_eq_false, Bool.not_true, Bool.not_false, decide_true, decide_false, Nat.reduceEqDiff, Nat.zero_lt_succ, List.replicate_succ, List.replicate_zero, Nat.reduceSub, Nat.reduceAdd, Nat.reduceLT, Nat.reduceLeDiff, Nat.zero_le, id, lstK_ok, tupK_ok, d5]
  refine row2_tup.mono ?_
  rintro r st1 ⟨rfl, rfl⟩
  try simp -implicitDefEqProofs only [wp_ok, wp_bind, wp_noexc, wp_seq, wp_skip, wp_brk, wp_cnt, wp_retN, wp_ret, wp_set, wp_par, wp_unp, wp_sto, wp_xpr, wp_ite, wp_for, wp_whl, wp_tru, sk_nx, sk_rt, sk_bk, sk_ct, lk_nx, lk_ct, lk_bk, lk_rt, ik_true, ik_false, ev, evs, evo, evi, evc, evd, keyK_str, keyK_int, retK_rt, retK_nx, iteK_true, iteK_false, truK0_bl, truK0_int, truK0_tup, truK0_frl, truK0_non, scK_bl, wp_callK, cmpO, cmp_eq, cmp_ne, cmp_lt, cmp_le, cmp_gt, cmp_ge, cmp_isN, cmp_notN, eqD_int, eqD_str, bin_int, binI_add, binI_sub, of_some, negK_int, setK_nm, setK_tp, setsK, asg, asgs, tgsOf, intK, rngK, srcK, subO, startE, newR, new, bi_int, bi_abs, bi_len_tup, bi_len_frl,  Option.map_some, Option.map_none, Option.bind_some, List.map_cons, List.map_nil, List.length_cons, List.length_nil, List.length_append, List.length_map, List.length_set, List.cons_append, List.nil_append, List.getElem?_cons_zero, List.getElem?_cons_succ, List.set_cons_zero, List.set_cons_succ, if_true, if_false, Bool.false_eq_true, Bool.true_eq_false, Bool.not_true, Bool.not_false, decide_true, decide_false, Nat.reduceEqDiff, Nat.zero_lt_succ, List.replicate_succ, List.replicate_zero, Nat.reduceSub, Nat.reduceAdd, Nat.reduceLT, Nat.reduceLeDiff, Nat.zero_le, id, lstK_ok, tupK_ok, x0, isi_int_int, isi_int_bl, isi_int_non, isi_int_str, isi_int_tup, isi_bool_int, isi_bool_bl, isi_tuple_tup, isi_tuple_non, isi_tuple_int, isi_tuple_bl, isi_tuple_str, isi_str_str, isi_str_non, isi_str_int, isi_str_tup, hsrc]
  refine wp_lcL ws (fun k st' => st' = st1 ++ [Ob.lst (((ws.take k).map isNum).map .bl)]) (fun _ _ _ => rfl) ?_ ?_ FU 0 _ (Nat.zero_le _) (by unfold FU; omega) rfl
  · rintro k w st' hk rfl
    have hkl := (List.getElem?_eq_some_iff.mp hk).1
    refine ⟨_, rfl, ?_⟩
    try simp -implicitDefEqProofs only [wp_ok, wp_bind, wp_noexc, wp_seq, wp_skip, wp_brk, wp_cnt, wp_retN, wp_ret, wp_set, wp_par, wp_unp, wp_sto, wp_xpr, wp_ite, wp_for, wp_whl, wp_tru, sk_nx, sk_rt, sk_bk, sk_ct, lk_nx, lk_ct, lk_bk, lk_rt, ik_true, ik_false, ev, evs, evo, evi, evc, evd, keyK_str, keyK_int, retK_rt, retK_nx, iteK_true, iteK_false, truK0_bl, truK0_int, truK0_tup, truK0_frl, truK0_non, scK_bl, wp_callK, cmpO, cmp_eq, cmp_ne, cmp_lt, cmp_le, cmp_gt, cmp_ge, cmp_isN, cmp_notN, eqD_int, eqD_str, bin_int, binI_add, binI_sub, of_some, negK_int, setK_nm, setK_tp, setsK, asg, asgs, tgsOf, intK, rngK, srcK, subO, startE, newR, new, bi_int, bi_abs, bi_len_tup, bi_len_frl,  Option.map_some, Option.map_none, Option.bind_some, List.map_cons, List.map_nil, List.length_cons, List.length_nil, List.length_append, List.length_map, List.length_set, List.cons_append, List.nil_append, List.getElem?_cons_zero, List.getElem?_cons_succ, List.set_cons_zero, List.set_cons_succ, if_true, if_false, Bool.false_eq_true, Bool.true_eq_false, Bool.not_true, Bool.not_false, decide_true, decide_false, Nat.reduceEqDiff, Nat.zero_lt_succ, List.replicate_succ, List.replicate_zero, Nat.reduceSub, Nat.reduceAdd, Nat.reduceLT, Nat.reduceLeDiff, Nat.zero_le, id, lstK_ok, tupK_ok, wipeE]
    refine (num_ok (n := n + 1) (hw w (List.mem_of_getElem? hk))).mono ?_
    rintro r st2 ⟨rfl, rfl⟩
    try simp -implicitDefEqProofs only [wp_ok, wp_bind, wp_noexc, wp_seq, wp_skip, wp_brk, wp_cnt, wp_retN, wp_ret, wp_set, wp_par, wp_unp, wp_sto, wp_xpr, wp_ite, wp_for, wp_whl, wp_tru, sk_nx, sk_rt, sk_bk, sk_ct, lk_nx, lk_ct, lk_bk, lk_rt, ik_true, ik_false, ev, evs, evo, evi, evc, evd, keyK_str, keyK_int, retK_rt, retK_nx, iteK_true, iteK_false, truK0_bl, truK0_int, truK0_tup, truK0_frl, truK0_non, scK_bl, wp_callK, cmpO, cmp_eq, cmp_ne, cmp_lt, cmp_le, cmp_gt, cmp_ge, cmp_isN, cmp_notN, eqD_int, eqD_str, bin_int, binI_add, binI_sub, of_some, negK_int, setK_nm, setK_tp, setsK, asg, asgs, tgsOf, intK, rngK, srcK, subO, startE, newR, new, bi_int, bi_abs, bi_len_tup, bi_len_frl,  Option.map_some, Option.map_none, Option.bind_some, List.map_cons, List.map_nil, List.length_cons, List.length_nil, List.length_append, List.length_map, List.length_set, List.cons_append, List.nil_append, List.getElem?_cons_zero, List.getElem?_cons_succ, List.set_cons_zero, List.set_cons_succ, if_true, if_false, Bool.false_eq_true, Bool.true_eq_false, Bool.not_true, Bool.not_false, decide_true, decide_false, Nat.reduceEqDiff, Nat.zero_lt_succ, List.replicate_succ, List.replicate_zero, Nat.reduceSub, Nat.reduceAdd, Nat.reduceLT, Nat.reduceLeDiff, Nat.zero_le, id, lstK_ok, tupK_ok]
    refine ⟨_, getLast, by simp only [List.length_map, List.length_take]; unfold sizeLine; omega, ?_⟩
    rw [set_last, List.take_succ_eq_append_getElem hkl, (List.getElem?_eq_some_iff.mp hk).2]
    simp
  · rintro st' rfl
    rw [List.take_length]
    have h2 := bi_all_lst (st := st1 ++ [Ob.lst ((ws.map isNum).map .bl)]) (bs := ws.map isNum) getLast
    try simp -implicitDefEqProofs only [wp_ok, wp_bind, wp_noexc, wp_seq, wp_skip, wp_brk, wp_cnt, wp_retN, wp_ret, wp_set, wp_par, wp_unp, wp_sto, wp_xpr, wp_ite, wp_for, wp_whl, wp_tru, sk_nx, sk_rt, sk_bk, sk_ct, lk_nx, lk_ct, lk_bk, lk_rt, ik_true, ik_false, ev, evs, evo, evi, evc, evd, keyK_str, keyK_int, retK_rt, retK_nx, iteK_true, iteK_false, truK0_bl, truK0_int, truK0_tup, truK0_frl, truK0_non, scK_bl, wp_callK, cmpO, cmp_eq, cmp_ne, cmp_lt, cmp_le, cmp_gt, cmp_ge, cmp_isN, cmp_notN, eqD_int, eqD_str, bin_int, binI_add, binI_sub, of_some, negK_int, setK_nm, setK_tp, setsK, asg, asgs, tgsOf, intK, rngK, srcK, subO, startE, newR, new, bi_int, bi_abs, bi_len_tup, bi_len_frl,  Option.map_some, Option.map_none, Option.bind_some, List.map_cons, List.map_nil, List.length_cons, List.length_nil, List.length_append, List.length_map, List.length_set, List.cons_append, List.nil_append, List.getElem?_cons_zero, List.getElem?_cons_succ, List.set_cons_zero, List.set_cons_succ, if_true, if_false, Bool.false_eq_true, Bool.true_eq_false, Bool.not_true, Bool.not_false, decide_true, decide_false, Nat.reduceEqDiff, Nat.zero_lt_succ, List.replicate_succ, List.replicate_zero, Nat.reduceSub, Nat.reduceAdd, Nat.reduceLT, Nat.reduceLeDiff, Nat.zero_le, id, lstK_ok, tupK_ok, h2]
    have e : (ws.map isNum).all id = ws.all isNum := by rw [List.all_map]; rfl
    rw [e]
    cases ws.all isNum with
    | false =>
      try simp -implicitDefEqProofs only [wp_ok, wp_bind, wp_noexc, wp_seq, wp_skip, wp_brk, wp_cnt, wp_retN, wp_ret, wp_set, wp_par, wp_unp, wp_sto, wp_xpr, wp_ite, wp_for, wp_whl, wp_tru, sk_nx, sk_rt, sk_bk, sk_ct, lk_nx, lk_ct, lk_bk, lk_rt, ik_true, ik_false, ev, evs, evo, evi, evc, evd, keyK_str, keyK_int, retK_rt, retK_nx, iteK_true, iteK_false, truK0_bl, truK0_int, truK0_tup, truK0_frl, truK0_non, scK_bl, wp_callK, cmpO, cmp_eq, cmp_ne, cmp_lt, cmp_le, cmp_gt, cmp_ge, cmp_isN, cmp_notN, eqD_int, eqD_str, bin_int, binI_add, binI_sub, of_some, negK_int, setK_nm, setK_tp, setsK, asg, asgs, tgsOf, intK, rngK, srcK, subO, startE, newR, new, bi_int, bi_abs, bi_len_tup, bi_len_frl,  Option.map_some, Option.map_none, Option.bind_some, List.map_cons, List.map_nil, List.length_cons, List.length_nil, List.length_append, List.length_map, List.length_set, List.cons_append, List.nil_append, List.getElem?_cons_zero, List.getElem?_cons_succ, List.set_cons_zero, List.set_cons_succ, if_true, if_false, Bool.false_eq_true, Bool.true_eq_false, Bool.not_true, Bool.not_false, decide_true, decide_false, Nat.reduceEqDiff, Nat.zero_lt_succ, List.replicate_succ, List.replicate_zero, Nat.reduceSub, Nat.reduceAdd, Nat.reduceLT, Nat.reduceLeDiff, Nat.zero_le, id, lstK_ok, tupK_ok, Bool.false_and]
      exact ⟨by first | rfl | trivial, Ext.new⟩
    | true =>
      try simp -implicitDefEqProofs only [wp_ok, wp_bind, wp_noexc, wp_seq, wp_skip, wp_brk, wp_cnt, wp_retN, wp_ret, wp_set, wp_par, wp_unp, wp_sto, wp_xpr, wp_ite, wp_for, wp_whl, wp_tru, sk_nx, sk_rt, sk_bk, sk_ct, lk_nx, lk_ct, lk_bk, lk_rt, ik_true, ik_false, ev, evs, evo, evi, evc, evd, keyK_str, keyK_int, retK_rt, retK_nx, iteK_true, iteK_false, truK0_bl, truK0_int, truK0_tup, truK0_frl, truK0_non, scK_bl, wp_callK, cmpO, cmp_eq, cmp_ne, cmp_lt, cmp_le, cmp_gt, cmp_ge, cmp_isN, cmp_notN, eqD_int, eqD_str, bin_int, binI_add, binI_sub, of_some, negK_int, setK_nm, setK_tp, setsK, asg, asgs, tgsOf, intK, rngK, srcK, subO, startE, newR, new, bi_int, bi_abs, bi_len_tup, bi_len_frl,  Option.map_some, Option.map_none, Option.bind_some, List.map_cons, List.map_nil, List.length_cons, List.length_nil, List.length_append, List.length_map, List.length_set, List.cons_append, List.nil_append, List.getElem?_cons_zero, List.getElem?_cons_succ, List.set_cons_zero, List.set_cons_succ, if_true, if_false, Bool.false_eq_true, Bool.true_eq_false, Bool.not_true, Bool.not_false, decide_true, decide_false, Nat.reduceEqDiff, Nat.zero_lt_succ, List.replicate_succ, List.replicate_zero, Nat.reduceSub, Nat.reduceAdd, Nat.reduceLT, Nat.reduceLeDiff, Nat.zero_le, id, lstK_ok, tupK_ok, x1, Bool.true_and]
      refine (he _ Ext.new).mono ?_
      rintro r st2 ⟨rfl, rfl⟩
      exact ⟨rfl, Ext.new⟩
theorem atoms_ints (a : List Int) : ∀ w ∈ a.map W.int, Atom w := fun w hw => by
  obtain ⟨i, _, rfl⟩ := List.mem_map.mp hw
  exact .int i
theorem all_ints (h : ∀ x ∈ a, 0 ≤ x) : (a.map W.int).all isNum = true := by
  rw [List.all_eq_true]
  intro w hw
  obtain ⟨i, hi, rfl⟩ := List.mem_map.mp hw
  exact decide_eq_true (h i hi)
theorem run_good (h : GE e) (h0 : ∀ x ∈ a, 0 ≤ x) (hl : a.length ≤ 1000) : Wp (Ci.run tab (n + 4) 5 [rw a e] st) fun r st' => r = .bl true ∧ Ext st st' := by
  refine (run_of (b := true) (atoms_ints a) (by rw [List.length_map]; exact hl) fun st' _ => end_good h).mono ?_
  rintro r st' ⟨rfl, e⟩
  rw [all_ints h0]
  exact ⟨rfl, e⟩
/-! ### cuts of one run -/
def Cut (b : List Int) (f : W) (a : List Int) (e : W) : Prop := (a = b ∧ e = f) ∨ (e = .non ∧ ∃ i, a = b.take i)
theorem cut_mem {w : W} (h : w ∈ cutsL b f) : ∃ a e, w = rw a e ∧ Cut b f a e := by
  rcases List.mem_cons.mp h with rfl | h
  · exact ⟨b, f, rfl, .inl ⟨rfl, rfl⟩⟩
  · obtain ⟨i, _, rfl⟩ := List.mem_map.mp h
    exact ⟨b.take i, .non, rfl, .inr ⟨rfl, i, rfl⟩⟩
theorem Cut.ge (h : Cut b f a e) (g : GE f) : GE e := by
  rcases h with ⟨_, rfl⟩ | ⟨rfl, _⟩
  · exact g
  · exact .non
theorem Cut.len (h : Cut b f a e) : a.length ≤ b.length := by
  rcases h with ⟨rfl, _⟩ | ⟨_, i, rfl⟩
  · exact Nat.le_refl _
  · rw [List.length_take]; omega
theorem beg_refl (h : GE e) : beg a e a e = true := by
  rw [beg, eqv_rd, eqv_end h, decide_eq_true rfl]
  rfl
theorem beg_cut (h : ∃ i, a = b.take i) : beg a .non b f = true := by
  obtain ⟨i, rfl⟩ := h
  rw [beg, decide_eq_true (p := (b.take i = b.take (b.take i).length)) (by rw [List.length_take, List.take_eq_take_iff]; omega)]
  simp [isNon]
theorem cut_beg (h : Cut b f a e) (g : GE f) : beg a e b f = true := by
  rcases h with ⟨rfl, rfl⟩ | ⟨rfl, h⟩
  · exact beg_refl g
  · exact beg_cut h
theorem cut_cut {c : List Int} {u : W} (h : Cut b f a e) (h2 : Cut a e c u) : Cut b f c u := by
  rcases h with ⟨rfl, rfl⟩ | ⟨rfl, i, rfl⟩
  · exact h2
  · rcases h2 with ⟨rfl, rfl⟩ | ⟨rfl, j, rfl⟩
    · exact .inr ⟨rfl, i, rfl⟩
    · exact .inr ⟨rfl, min j i, by rw [List.take_take]⟩
theorem cut_agree {c : List Int} {u : W} (h : Cut b f a e) (h2 : Cut b f c u) (g : GE f) : (beg a e c u || beg c u a e) = true := by
  rcases h with ⟨rfl, rfl⟩ | ⟨rfl, i, rfl⟩
  · rw [cut_beg h2 g]; simp
  · rcases h2 with ⟨rfl, rfl⟩ | ⟨rfl, j, rfl⟩
    · rw [beg_cut ⟨i, rfl⟩]; rfl
    · rcases Nat.le_total i j with h | h
      · rw [beg_cut (a := b.take i) (b := b.take j) ⟨i, by rw [List.take_take, Nat.min_eq_left h]⟩]; rfl
      · rw [beg_cut (a := b.take j) (b := b.take i) ⟨j, by rw [List.take_take, Nat.min_eq_left h]⟩]; simp
end
theorem Deal.set {st : Sto} {d c m : Nat} {o : Ob} (D : Deal st d c) (h1 : m ≠ d) (h2 : m ≠ c) : Deal (st.set m o) d c :=
  ⟨D.ne, D.at_.imp fun _ e => by rw [List.getElem?_set_ne h1]; exact e, D.cel.imp fun _ e => ⟨by rw [List.getElem?_set_ne h2]; exact e.1, e.2⟩⟩
/-- a run that was drawn -/
def RunQ (d c : Nat) (m : Nat) (w : W) (st' : Sto) : Prop := ∃ a e, w = rw a e ∧ GE e ∧ (∀ x ∈ a, (0 : Int) ≤ x) ∧ a.length ≤ m ∧ Deal st' d c
section
variable {n : Nat} {st : Sto} {d c : Nat}
theorem kinds_mem {w : W} (h : w ∈ [W.str "divide", .str "index", .str "input", .str "stop"]) : GE (.tup [.str "trap", w]) := by
  simp only [List.mem_cons, List.mem_nil_iff, or_false] at h
  rcases h with rfl | rfl | rfl | rfl <;> exact .trap _ (by decide +kernel) (by decide +kernel)
theorem drawn_ok (D : Deal st d c) : Wp (Ci.run tab (n + 3) 12 [.ref d] st) (RunQ d c 6) := by
  refine wp_run (d := d12) rfl rfl ?_
  show Wp (ex _ c12 _ _) _
  unfold c12
  try simp -implicitDefEqProofs only [wp_ok, wp_bind, wp_noexc, wp_seq, wp_skip, wp_brk, wp_cnt, wp_retN, wp_ret, wp_set, wp_par, wp_unp, wp_sto, wp_xpr, wp_ite, wp_for, wp_whl, wp_tru, sk_rt, sk_bk, sk_ct, lk_nx, lk_ct, lk_bk, lk_rt, ik_true, ik_false, ev, evs, evo, evi, evc, evd, keyK_str, keyK_int, retK_rt, retK_nx, iteK_true, iteK_false, truK0_bl, truK0_int, truK0_tup, truK0_frl, truK0_non, scK_bl, wp_callK, cmpO, cmp_eq, cmp_ne, cmp_lt, cmp_le, cmp_gt, cmp_ge, cmp_isN, cmp_notN, eqD_int, eqD_str, bin_int, binI_add, binI_sub, of_some, negK_int, setK_nm, setK_tp, setsK, asg, asgs, tgsOf, intK, rngK, srcK, subO, startE, newR, new, bi_int, bi_abs, bi_len_tup, bi_len_frl,  Option.map_some, Option.map_none, Option.bind_some, List.map_cons, List.map_nil, List.length_cons, List.length_nil, List.length_append, List.length_map, List.length_set, List.cons_append, List.nil_append, List.getElem?_cons_zero, List.getElem?_cons_succ, List.set_cons_zero, List.set_cons_succ, if_true, if_false, Bool.false_eq_true, Bool.true_eq_false, Bool.not_true, Bool.not_false, decide_true, decide_false, Nat.reduceEqDiff, Nat.zero_lt_succ, List.replicate_succ, List.replicate_zero, Nat.reduceSub, Nat.reduceAdd, Nat.reduceLT, Nat.reduceLeDiff, Nat.zero_le, id, lstK_ok, tupK_ok, d12]
  refine (any_ok (n := n + 1) (i := 9) rfl D (by decide) (by decide)).mono ?_
  rintro w st1 ⟨r, rfl, r0, r7, D1, -⟩
  obtain ⟨m, rfl⟩ := Int.eq_ofNat_of_zero_le r0
  have hm : m < 7 := by omega
  have hr : rngOf [W.int (m : Int)] = some (0, (m : Int)) := rngOf_nat (by omega)
  try simp -implicitDefEqProofs only [wp_ok, wp_bind, wp_noexc, wp_seq, wp_skip, wp_brk, wp_cnt, wp_retN, wp_ret, wp_set, wp_par, wp_unp, wp_sto, wp_xpr, wp_ite, wp_for, wp_whl, wp_tru, sk_rt, sk_bk, sk_ct, lk_nx, lk_ct, lk_bk, lk_rt, ik_true, ik_false, ev, evs, evo, evi, evc, evd, keyK_str, keyK_int, retK_rt, retK_nx, iteK_true, iteK_false, truK0_bl, truK0_int, truK0_tup, truK0_frl, truK0_non, scK_bl, wp_callK, cmpO, cmp_eq, cmp_ne, cmp_lt, cmp_le, cmp_gt, cmp_ge, cmp_isN, cmp_notN, eqD_int, eqD_str, bin_int, binI_add, binI_sub, of_some, negK_int, setK_nm, setK_tp, setsK, asg, asgs, tgsOf, intK, rngK, srcK, subO, startE, newR, new, bi_int, bi_abs, bi_len_tup, bi_len_frl,  Option.map_some, Option.map_none, Option.bind_some, List.map_cons, List.map_nil, List.length_cons, List.length_nil, List.length_append, List.length_map, List.length_set, List.cons_append, List.nil_append, List.getElem?_cons_zero, List.getElem?_cons_succ, List.set_cons_zero, List.set_cons_succ, if_true, if_false, Bool.false_eq_true, Bool.true_eq_false, Bool.not_true, Bool.not_false, decide_true, decide_false, Nat.reduceEqDiff, Nat.zero_lt_succ, List.replicate_succ, List.replicate_zero, Nat.reduceSub, Nat.reduceAdd, Nat.reduceLT, Nat.reduceLeDiff, Nat.zero_le, id, lstK_ok, tupK_ok, hr]
  have rl := rngW_len m
  have fr := D1.fresh
  refine wp_lcL (rngW 0 (m : Int)) (fun k st' => Deal st' d c ∧ ∃ a : List Int, st'[st1.length]? = some (.lst (a.map .int)) ∧ a.length = k ∧ ∀ x ∈ a, 0 ≤ x) (fun _ _ _ => rfl) ?_ ?_ FU 0 _ (Nat.zero_le _) (by rw [rl]; unfold FU; omega) ⟨D1.new, [], getLast, rfl, fun x hx => by cases hx⟩
  · rintro k w st' hw ⟨D2, a, g, ha, hp⟩
    obtain ⟨hk, rfl⟩ := rngW_get hw
    refine ⟨_, rfl, ?_⟩
    try simp -implicitDefEqProofs only [wp_ok, wp_bind, wp_noexc, wp_seq, wp_skip, wp_brk, wp_cnt, wp_retN, wp_ret, wp_set, wp_par, wp_unp, wp_sto, wp_xpr, wp_ite, wp_for, wp_whl, wp_tru, sk_nx, sk_rt, sk_bk, sk_ct, lk_nx, lk_ct, lk_bk, lk_rt, ik_true, ik_false, ev, evs, evo, evi, evc, evd, keyK_str, keyK_int, retK_rt, retK_nx, iteK_true, iteK_false, truK0_bl, truK0_int, truK0_tup, truK0_frl, truK0_non, scK_bl, wp_callK, cmpO, cmp_eq, cmp_ne, cmp_lt, cmp_le, cmp_gt, cmp_ge, cmp_isN, cmp_notN, eqD_int, eqD_str, bin_int, binI_add, binI_sub, of_some, negK_int, setK_nm, setK_tp, setsK, asg, asgs, tgsOf, intK, rngK, srcK, subO, startE, newR, new, bi_int, bi_abs, bi_len_tup, bi_len_frl,  Option.map_some, Option.map_none, Option.bind_some, List.map_cons, List.map_nil, List.length_cons, List.length_nil, List.length_append, List.length_map, List.length_set, List.cons_append, List.nil_append, List.getElem?_cons_zero, List.getElem?_cons_succ, List.set_cons_zero, List.set_cons_succ, if_true, if_false, Bool.false_eq_true, Bool.true_eq_false, Bool.not_true, Bool.not_false, decide_true, decide_false, Nat.reduceEqDiff, Nat.zero_lt_succ, List.replicate_succ, List.replicate_zero, Nat.reduceSub, Nat.reduceAdd, Nat.reduceLT, Nat.reduceLeDiff, Nat.zero_le, id, lstK_ok, tupK_ok, wipeE]
    refine (any_ok (n := n + 1) (i := 9) rfl D2 (by decide) (by decide)).mono ?_
    rintro w st2 ⟨r, rfl, r0, r3, D3, k3⟩
    have g3 := k3 _ _ fr.1 fr.2 g
    try simp -implicitDefEqProofs only [wp_ok, wp_bind, wp_noexc, wp_seq, wp_skip, wp_brk, wp_cnt, wp_retN, wp_ret, wp_set, wp_par, wp_unp, wp_sto, wp_xpr, wp_ite, wp_for, wp_whl, wp_tru, sk_nx, sk_rt, sk_bk, sk_ct, lk_nx, lk_ct, lk_bk, lk_rt, ik_true, ik_false, ev, evs, evo, evi, evc, evd, keyK_str, keyK_int, retK_rt, retK_nx, iteK_true, iteK_false, truK0_bl, truK0_int, truK0_tup, truK0_frl, truK0_non, scK_bl, wp_callK, cmpO, cmp_eq, cmp_ne, cmp_lt, cmp_le, cmp_gt, cmp_ge, cmp_isN, cmp_notN, eqD_int, eqD_str, bin_int, binI_add, binI_sub, of_some, negK_int, setK_nm, setK_tp, setsK, asg, asgs, tgsOf, intK, rngK, srcK, subO, startE, newR, new, bi_int, bi_abs, bi_len_tup, bi_len_frl,  Option.map_some, Option.map_none, Option.bind_some, List.map_cons, List.map_nil, List.length_cons, List.length_nil, List.length_append, List.length_map, List.length_set, List.cons_append, List.nil_append, List.getElem?_cons_zero, List.getElem?_cons_succ, List.set_cons_zero, List.set_cons_succ, if_true, if_false, Bool.false_eq_true, Bool.true_eq_false, Bool.not_true, Bool.not_false, decide_true, decide_false, Nat.reduceEqDiff, Nat.zero_lt_succ, List.replicate_succ, List.replicate_zero, Nat.reduceSub, Nat.reduceAdd, Nat.reduceLT, Nat.reduceLeDiff, Nat.zero_le, id, lstK_ok, tupK_ok]
    refine ⟨_, g3, by rw [List.length_map]; unfold sizeLine; omega, Deal.set D3 fr.1 fr.2, a ++ [r], ?_, by simp [ha], ?_⟩
    · rw [List.getElem?_set_self (List.getElem?_eq_some_iff.mp g3).1, List.map_append]
      rfl
    · intro x hx
      rcases List.mem_append.mp hx with hx | hx
      · exact hp x hx
      · rw [List.mem_singleton.mp hx]; exact r0
  · rintro st2 ⟨D2, a, g, ha, hp⟩
    rw [rl] at ha
    try simp -implicitDefEqProofs only [wp_ok, wp_bind, wp_noexc, wp_seq, wp_skip, wp_brk, wp_cnt, wp_retN, wp_ret, wp_set, wp_par, wp_unp, wp_sto, wp_xpr, wp_ite, wp_for, wp_whl, wp_tru, sk_rt, sk_bk, sk_ct, lk_nx, lk_ct, lk_bk, lk_rt, ik_true, ik_false, ev, evs, evo, evi, evc, evd, keyK_str, keyK_int, retK_rt, retK_nx, iteK_true, iteK_false, truK0_bl, truK0_int, truK0_tup, truK0_frl, truK0_non, scK_bl, wp_callK, cmpO, cmp_eq, cmp_ne, cmp_lt, cmp_le, cmp_gt, cmp_ge, cmp_isN, cmp_notN, eqD_int, eqD_str, bin_int, binI_add, binI_sub, of_some, negK_int, setK_nm, setK_tp, setsK, asg, asgs, tgsOf, intK, rngK, srcK, subO, startE, newR, new, bi_int, bi_abs, bi_len_tup, bi_len_frl,  Option.map_some, Option.map_none, Option.bind_some, List.map_cons, List.map_nil, List.length_cons, List.length_nil, List.length_append, List.length_map, List.length_set, List.cons_append, List.nil_append, List.getElem?_cons_zero, List.getElem?_cons_succ, List.set_cons_zero, List.set_cons_succ, if_true, if_false, Bool.false_eq_true, Bool.true_eq_false, Bool.not_true, Bool.not_false, decide_true, decide_false, Nat.reduceEqDiff, Nat.zero_lt_succ, List.replicate_succ, List.replicate_zero, Nat.reduceSub, Nat.reduceAdd, Nat.reduceLT, Nat.reduceLeDiff, Nat.zero_le, id, lstK_ok, tupK_ok, bi_tuple_lst g]
    rw [sk_nx]
    try simp -implicitDefEqProofs only [wp_ok, wp_bind, wp_noexc, wp_seq, wp_skip, wp_brk, wp_cnt, wp_retN, wp_ret, wp_set, wp_par, wp_unp, wp_sto, wp_xpr, wp_ite, wp_for, wp_whl, wp_tru, sk_rt, sk_bk, sk_ct, lk_nx, lk_ct, lk_bk, lk_rt, ik_true, ik_false, ev, evs, evo, evi, evc, evd, keyK_str, keyK_int, retK_rt, retK_nx, iteK_true, iteK_false, truK0_bl, truK0_int, truK0_tup, truK0_frl, truK0_non, scK_bl, wp_callK, cmpO, cmp_eq, cmp_ne, cmp_lt, cmp_le, cmp_gt, cmp_ge, cmp_isN, cmp_notN, eqD_int, eqD_str, bin_int, binI_add, binI_sub, of_some, negK_int, setK_nm, setK_tp, setsK, asg, asgs, tgsOf, intK, rngK, srcK, subO, startE, newR, new, bi_int, bi_abs, bi_len_tup, bi_len_frl,  Option.map_some, Option.map_none, Option.bind_some, List.map_cons, List.map_nil, List.length_cons, List.length_nil, List.length_append, List.length_map, List.length_set, List.cons_append, List.nil_append, List.getElem?_cons_zero, List.getElem?_cons_succ, List.set_cons_zero, List.set_cons_succ, if_true, if_false, Bool.false_eq_true, Bool.true_eq_false, Bool.not_true, Bool.not_false, decide_true, decide_false, Nat.reduceEqDiff, Nat.zero_lt_succ, List.replicate_succ, List.replicate_zero, Nat.reduceSub, Nat.reduceAdd, Nat.reduceLT, Nat.reduceLeDiff, Nat.zero_le, id, lstK_ok, tupK_ok]
    refine (any_ok (n := n + 1) (i := 9) rfl D2 (by decide) (by decide)).mono ?_
    rintro w st3 ⟨r, rfl, r0, r3, D3, -⟩
    try simp -implicitDefEqProofs only [wp_ok, wp_bind, wp_noexc, wp_seq, wp_skip, wp_brk, wp_cnt, wp_retN, wp_ret, wp_set, wp_par, wp_unp, wp_sto, wp_xpr, wp_ite, wp_for, wp_whl, wp_tru, sk_rt, sk_bk, sk_ct, lk_nx, lk_ct, lk_bk, lk_rt, ik_true, ik_false, ev, evs, evo, evi, evc, evd, keyK_str, keyK_int, retK_rt, retK_nx, iteK_true, iteK_false, truK0_bl, truK0_int, truK0_tup, truK0_frl, truK0_non, scK_bl, wp_callK, cmpO, cmp_eq, cmp_ne, cmp_lt, cmp_le, cmp_gt, cmp_ge, cmp_isN, cmp_notN, eqD_int, eqD_str, bin_int, binI_add, binI_sub, of_some, negK_int, setK_nm, setK_tp, setsK, asg, asgs, tgsOf, intK, rngK, srcK, subO, startE, newR, new, bi_int, bi_abs, bi_len_tup, bi_len_frl,  Option.map_some, Option.map_none, Option.bind_some, List.map_cons, List.map_nil, List.length_cons, List.length_nil, List.length_append, List.length_map, List.length_set, List.cons_append, List.nil_append, List.getElem?_cons_zero, List.getElem?_cons_succ, List.set_cons_zero, List.set_cons_succ, if_true, if_false, Bool.false_eq_true, Bool.true_eq_false, Bool.not_true, Bool.not_false, decide_true, decide_false, Nat.reduceEqDiff, Nat.zero_lt_succ, List.replicate_succ, List.replicate_zero, Nat.reduceSub, Nat.reduceAdd, Nat.reduceLT, Nat.reduceLeDiff, Nat.zero_le, id, lstK_ok, tupK_ok]
    refine (of_ok (n := n) (f := 9) (i := 10) rfl rfl D3.new D3.own (by show 0 < 4; decide) (by show 4 < 1073741824; decide)).mono ?_
    rintro w st4 ⟨hw, D4, -⟩
    have hk := kinds_mem hw
    try simp -implicitDefEqProofs only [wp_ok, wp_bind, wp_noexc, wp_seq, wp_skip, wp_brk, wp_cnt, wp_retN, wp_ret, wp_set, wp_par, wp_unp, wp_sto, wp_xpr, wp_ite, wp_for, wp_whl, wp_tru, sk_rt, sk_bk, sk_ct, lk_nx, lk_ct, lk_bk, lk_rt, ik_true, ik_false, ev, evs, evo, evi, evc, evd, keyK_str, keyK_int, retK_rt, retK_nx, iteK_true, iteK_false, truK0_bl, truK0_int, truK0_tup, truK0_frl, truK0_non, scK_bl, wp_callK, cmpO, cmp_eq, cmp_ne, cmp_lt, cmp_le, cmp_gt, cmp_ge, cmp_isN, cmp_notN, eqD_int, eqD_str, bin_int, binI_add, binI_sub, of_some, negK_int, setK_nm, setK_tp, setsK, asg, asgs, tgsOf, intK, rngK, srcK, subO, startE, newR, new, bi_int, bi_abs, bi_len_tup, bi_len_frl,  Option.map_some, Option.map_none, Option.bind_some, List.map_cons, List.map_nil, List.length_cons, List.length_nil, List.length_append, List.length_map, List.length_set, List.cons_append, List.nil_append, List.getElem?_cons_zero, List.getElem?_cons_succ, List.set_cons_zero, List.set_cons_succ, if_true, if_false, Bool.false_eq_true, Bool.true_eq_false, Bool.not_true, Bool.not_false, decide_true, decide_false, Nat.reduceEqDiff, Nat.zero_lt_succ, List.replicate_succ, List.replicate_zero, Nat.reduceSub, Nat.reduceAdd, Nat.reduceLT, Nat.reduceLeDiff, Nat.zero_le, id, lstK_ok, tupK_ok]
    rw [sk_nx]
    try simp -implicitDefEqProofs only [wp_ok, wp_bind, wp_noexc, wp_seq, wp_skip, wp_brk, wp_cnt, wp_retN, wp_ret, wp_set, wp_par, wp_unp, wp_sto, wp_xpr, wp_ite, wp_for, wp_whl, wp_tru, sk_rt, sk_bk, sk_ct, lk_nx, lk_ct, lk_bk, lk_rt, ik_true, ik_false, ev, evs, evo, evi, evc, evd, keyK_str, keyK_int, retK_rt, retK_nx, iteK_true, iteK_false, truK0_bl, truK0_int, truK0_tup, truK0_frl, truK0_non, scK_bl, wp_callK, cmpO, cmp_eq, cmp_ne, cmp_lt, cmp_le, cmp_gt, cmp_ge, cmp_isN, cmp_notN, eqD_int, eqD_str, bin_int, binI_add, binI_sub, of_some, negK_int, setK_nm, setK_tp, setsK, asg, asgs, tgsOf, intK, rngK, srcK, subO, startE, newR, new, bi_int, bi_abs, bi_len_tup, bi_len_frl,  Option.map_some, Option.map_none, Option.bind_some, List.map_cons, List.map_nil, List.length_cons, List.length_nil, List.length_append, List.length_map, List.length_set, List.cons_append, List.nil_append, List.getElem?_cons_zero, List.getElem?_cons_succ, List.set_cons_zero, List.set_cons_succ, if_true, if_false, Bool.false_eq_true, Bool.true_eq_false, Bool.not_true, Bool.not_false, decide_true, decide_false, Nat.reduceEqDiff, Nat.zero_lt_succ, List.replicate_succ, List.replicate_zero, Nat.reduceSub, Nat.reduceAdd, Nat.reduceLT, Nat.reduceLeDiff, Nat.zero_le, id, lstK_ok, tupK_ok]
    refine (of_ok (n := n) (f := 9) (i := 10) rfl rfl D4.new D4.own (by show 0 < 4; decide) (by show 4 < 1073741824; decide)).mono ?_
    rintro w2 st5 ⟨hw2, D5, -⟩
    try simp -implicitDefEqProofs only [wp_ok, wp_bind, wp_noexc, wp_seq, wp_skip, wp_brk, wp_cnt, wp_retN, wp_ret, wp_set, wp_par, wp_unp, wp_sto, wp_xpr, wp_ite, wp_for, wp_whl, wp_tru, sk_rt, sk_bk, sk_ct, lk_nx, lk_ct, lk_bk, lk_rt, ik_true, ik_false, ev, evs, evo, evi, evc, evd, keyK_str, keyK_int, retK_rt, retK_nx, iteK_true, iteK_false, truK0_bl, truK0_int, truK0_tup, truK0_frl, truK0_non, scK_bl, wp_callK, cmpO, cmp_eq, cmp_ne, cmp_lt, cmp_le, cmp_gt, cmp_ge, cmp_isN, cmp_notN, eqD_int, eqD_str, bin_int, binI_add, binI_sub, of_some, negK_int, setK_nm, setK_tp, setsK, asg, asgs, tgsOf, intK, rngK, srcK, subO, startE, newR, new, bi_int, bi_abs, bi_len_tup, bi_len_frl,  Option.map_some, Option.map_none, Option.bind_some, List.map_cons, List.map_nil, List.length_cons, List.length_nil, List.length_append, List.length_map, List.length_set, List.cons_append, List.nil_append, List.getElem?_cons_zero, List.getElem?_cons_succ, List.set_cons_zero, List.set_cons_succ, if_true, if_false, Bool.false_eq_true, Bool.true_eq_false, Bool.not_true, Bool.not_false, decide_true, decide_false, Nat.reduceEqDiff, Nat.zero_lt_succ, List.replicate_succ, List.replicate_zero, Nat.reduceSub, Nat.reduceAdd, Nat.reduceLT, Nat.reduceLeDiff, Nat.zero_le, id, lstK_ok, tupK_ok]
    refine ⟨a, w2, by first | rfl | trivial, ?_, hp, by omega, D5⟩
    simp only [List.mem_cons, List.mem_nil_iff, or_false] at hw2
    rcases hw2 with rfl | rfl | rfl | rfl
    · exact .non
    · exact .non
    · exact .val r r0
    · exact hk
end
end K03
/-! K03d: the law. -/
namespace K03
open PySem Ci Law

section
variable {n : Nat} {st : Sto} {d c : Nat}
theorem near_ok {a : List Int} {e : W} (D : Deal st d c) (g : GE e) (h0 : ∀ x ∈ a, (0 : Int) ≤ x) (hl : a.length ≤ 6) : Wp (Ci.run tab (n + 2) 13 [.ref d, .tup [.tup (a.map .int), e]] st) (RunQ d c 8) := by
  refine wp_run (d := d13) rfl rfl ?_
  show Wp (ex _ c13 _ _) _
  unfold c13
  try simp -implicitDefEqProofs only [wp_ok, wp_bind, wp_noexc, wp_seq, wp_skip, wp_brk, wp_cnt, wp_retN, wp_ret, wp_set, wp_par, wp_unp, wp_sto, wp_xpr, wp_ite, wp_for, wp_whl, wp_tru, sk_rt, sk_bk, sk_ct, lk_nx, lk_ct, lk_bk, lk_rt, ik_true, ik_false, ev, evs, evo, evi, evc, evd, keyK_str, keyK_int, retK_rt, retK_nx, iteK_true, iteK_false, truK0_bl, truK0_int, truK0_tup, truK0_frl, truK0_non, scK_bl, wp_callK, cmpO, cmp_eq, cmp_ne, cmp_lt, cmp_le, cmp_gt, cmp_ge, cmp_isN, cmp_notN, eqD_int, eqD_str, bin_int, binI_add, binI_sub, of_some, negK_int, setK_nm, setK_tp, setsK, asg, asgs, tgsOf, intK, rngK, srcK, subO, startE, newR, new, bi_int, bi_abs, bi_len_tup, bi_len_frl,  Option.map_some, Option.map_none, Option.bind_some, List.map_cons, List.map_nil, List.length_cons, List.length_nil, List.length_append, List.length_map, List.length_set, List.cons_append, List.nil_append, List.getElem?_cons_zero, List.getElem?_cons_succ, List.set_cons_zero, List.set_cons_succ, if_true, if_false, Bool.false_eq_true, Bool.true_eq_false, Bool.not_true, Bool.not_false, decide_true, decide_false, Nat.reduceEqDiff, Nat.zero_lt_succ, List.replicate_succ, List.replicate_zero, Nat.reduceSub, Nat.reduceAdd, Nat.reduceLT, Nat.reduceLeDiff, Nat.zero_le, id, lstK_ok, tupK_ok, d13]
  rw [sk_nx]
  try simp -implicitDefEqProofs only [wp_ok, wp_bind, wp_noexc, wp_seq, wp_skip, wp_brk, wp_cnt, wp_retN, wp_ret, wp_set, wp_par, wp_unp, wp_sto, wp_xpr, wp_ite, wp_for, wp_whl, wp_tru, sk_rt, sk_bk, sk_ct, lk_nx, lk_ct, lk_bk, lk_rt, ik_true, ik_false, ev, evs, evo, evi, evc, evd, keyK_str, keyK_int, retK_rt, retK_nx, iteK_true, iteK_false, truK0_bl, truK0_int, truK0_tup, truK0_frl, truK0_non, scK_bl, wp_callK, cmpO, cmp_eq, cmp_ne, cmp_lt, cmp_le, cmp_gt, cmp_ge, cmp_isN, cmp_notN, eqD_int, eqD_str, bin_int, binI_add, binI_sub, of_some, negK_int, setK_nm, setK_tp, setsK, asg, asgs, tgsOf, intK, rngK, srcK, subO, startE, newR, new, bi_int, bi_abs, bi_len_tup, bi_len_frl,  Option.map_some, Option.map_none, Option.bind_some, List.map_cons, List.map_nil, List.length_cons, List.length_nil, List.length_append, List.length_map, List.length_set, List.cons_append, List.nil_append, List.getElem?_cons_zero, List.getElem?_cons_succ, List.set_cons_zero, List.set_cons_succ, if_true, if_false, Bool.false_eq_true, Bool.true_eq_false, Bool.not_true, Bool.not_false, decide_true, decide_false, Nat.reduceEqDiff, Nat.zero_lt_succ, List.replicate_succ, List.replicate_zero, Nat.reduceSub, Nat.reduceAdd, Nat.reduceLT, Nat.reduceLeDiff, Nat.zero_le, id, lstK_ok, tupK_ok]
  refine (any_ok (n := n) (i := 9) rfl D (by decide) (by decide)).mono ?_
  rintro w st1 ⟨r, rfl, r0, r6, D1, -⟩
  try simp -implicitDefEqProofs only [wp_ok, wp_bind, wp_noexc, wp_seq, wp_skip, wp_brk, wp_cnt, wp_retN, wp_ret, wp_set, wp_par, wp_unp, wp_sto, wp_xpr, wp_ite, wp_for, wp_whl, wp_tru, sk_rt, sk_bk, sk_ct, lk_nx, lk_ct, lk_bk, lk_rt, ik_true, ik_false, ev, evs, evo, evi, evc, evd, keyK_str, keyK_int, retK_rt, retK_nx, iteK_true, iteK_false, truK0_bl, truK0_int, truK0_tup, truK0_frl, truK0_non, scK_bl, wp_callK, cmpO, cmp_eq, cmp_ne, cmp_lt, cmp_le, cmp_gt, cmp_ge, cmp_isN, cmp_notN, eqD_int, eqD_str, bin_int, binI_add, binI_sub, of_some, negK_int, setK_nm, setK_tp, setsK, asg, asgs, tgsOf, intK, rngK, srcK, subO, startE, newR, new, bi_int, bi_abs, bi_len_tup, bi_len_frl,  Option.map_some, Option.map_none, Option.bind_some, List.map_cons, List.map_nil, List.length_cons, List.length_nil, List.length_append, List.length_map, List.length_set, List.cons_append, List.nil_append, List.getElem?_cons_zero, List.getElem?_cons_succ, List.set_cons_zero, List.set_cons_succ, if_true, if_false, Bool.false_eq_true, Bool.true_eq_false, Bool.not_true, Bool.not_false, decide_true, decide_false, Nat.reduceEqDiff, Nat.zero_lt_succ, List.replicate_succ, List.replicate_zero, Nat.reduceSub, Nat.reduceAdd, Nat.reduceLT, Nat.reduceLeDiff, Nat.zero_le, id, lstK_ok, tupK_ok]
  have e1 : ((a.length : Nat) : Int) + 1 = ((a.length + 1 : Nat) : Int) := by omega
  rw [e1]
  refine (any_ok (n := n) (i := 9) rfl D1 (by omega) (divOk_len (by omega) (by omega))).mono ?_
  rintro w st2 ⟨q, rfl, q0, q6, D2, -⟩
  obtain ⟨k, rfl⟩ := Int.eq_ofNat_of_zero_le q0
  have hk : k ≤ a.length := by omega
  have ek : (k : Int) + 1 = ((k + 1 : Nat) : Int) := by omega
  have pt : ∀ x ∈ a.take k, (0 : Int) ≤ x := fun x hx => h0 x (List.mem_of_mem_take hx)
  have pd : ∀ x ∈ a.drop (k + 1), (0 : Int) ≤ x := fun x hx => h0 x (List.mem_of_mem_drop hx)
  have lt : (a.take k).length ≤ 6 := by rw [List.length_take]; omega
  have ld : (a.take k).length + (a.drop (k + 1)).length ≤ 6 := by rw [List.length_take, List.length_drop]; omega
  try simp -implicitDefEqProofs only [wp_ok, wp_bind, wp_noexc, wp_seq, wp_skip, wp_brk, wp_cnt, wp_retN, wp_ret, wp_set, wp_par, wp_unp, wp_sto, wp_xpr, wp_ite, wp_for, wp_whl, wp_tru, sk_rt, sk_bk, sk_ct, lk_nx, lk_ct, lk_bk, lk_rt, ik_true, ik_false, ev, evs, evo, evi, evc, evd, keyK_str, keyK_int, retK_rt, retK_nx, iteK_true, iteK_false, truK0_bl, truK0_int, truK0_tup, truK0_frl, truK0_non, scK_bl, wp_callK, cmpO, cmp_eq, cmp_ne, cmp_lt, cmp_le, cmp_gt, cmp_ge, cmp_isN, cmp_notN, eqD_int, eqD_str, bin_int, binI_add, binI_sub, of_some, negK_int, setK_nm, setK_tp, setsK, asg, asgs, tgsOf, intK, rngK, srcK, subO, startE, newR, new, bi_int, bi_abs, bi_len_tup, bi_len_frl,  Option.map_some, Option.map_none, Option.bind_some, List.map_cons, List.map_nil, List.length_cons, List.length_nil, List.length_append, List.length_map, List.length_set, List.cons_append, List.nil_append, List.getElem?_cons_zero, List.getElem?_cons_succ, List.set_cons_zero, List.set_cons_succ, if_true, if_false, Bool.false_eq_true, Bool.true_eq_false, Bool.not_true, Bool.not_false, decide_true, decide_false, Nat.reduceEqDiff, Nat.zero_lt_succ, List.replicate_succ, List.replicate_zero, Nat.reduceSub, Nat.reduceAdd, Nat.reduceLT, Nat.reduceLeDiff, Nat.zero_le, id, lstK_ok, tupK_ok]
  rw [sk_nx]
  by_cases c2 : r < 2
  · try simp -implicitDefEqProofs only [wp_ok, wp_bind, wp_noexc, wp_seq, wp_skip, wp_brk, wp_cnt, wp_retN, wp_ret, wp_set, wp_par, wp_unp, wp_sto, wp_xpr, wp_ite, wp_for, wp_whl, wp_tru, sk_rt, sk_bk, sk_ct, lk_nx, lk_ct, lk_bk, lk_rt, ik_true, ik_false, ev, evs, evo, evi, evc, evd, keyK_str, keyK_int, retK_rt, retK_nx, iteK_true, iteK_false, truK0_bl, truK0_int, truK0_tup, truK0_frl, truK0_non, scK_bl, wp_callK, cmpO, cmp_eq, cmp_ne, cmp_lt, cmp_le, cmp_gt, cmp_ge, cmp_isN, cmp_notN, eqD_int, eqD_str, bin_int, binI_add, binI_sub, of_some, negK_int, setK_nm, setK_tp, setsK, asg, asgs, tgsOf, intK, rngK, srcK, subO, startE, newR, new, bi_int, bi_abs, bi_len_tup, bi_len_frl,  Option.map_some, Option.map_none, Option.bind_some, List.map_cons, List.map_nil, List.length_cons, List.length_nil, List.length_append, List.length_map, List.length_set, List.cons_append, List.nil_append, List.getElem?_cons_zero, List.getElem?_cons_succ, List.set_cons_zero, List.set_cons_succ, if_true, if_false, Bool.false_eq_true, Bool.true_eq_false, Bool.not_true, Bool.not_false, decide_true, decide_false, Nat.reduceEqDiff, Nat.zero_lt_succ, List.replicate_succ, List.replicate_zero, Nat.reduceSub, Nat.reduceAdd, Nat.reduceLT, Nat.reduceLeDiff, Nat.zero_le, id, lstK_ok, tupK_ok, decide_eq_true c2, slW_tup, cut_take, ← List.map_take]
    by_cases c0 : r = 0
    · subst c0
      try simp -implicitDefEqProofs only [wp_ok, wp_bind, wp_noexc, wp_seq, wp_skip, wp_brk, wp_cnt, wp_retN, wp_ret, wp_set, wp_par, wp_unp, wp_sto, wp_xpr, wp_ite, wp_for, wp_whl, wp_tru, sk_rt, sk_bk, sk_ct, lk_nx, lk_ct, lk_bk, lk_rt, ik_true, ik_false, ev, evs, evo, evi, evc, evd, keyK_str, keyK_int, retK_rt, retK_nx, iteK_true, iteK_false, truK0_bl, truK0_int, truK0_tup, truK0_frl, truK0_non, scK_bl, wp_callK, cmpO, cmp_eq, cmp_ne, cmp_lt, cmp_le, cmp_gt, cmp_ge, cmp_isN, cmp_notN, eqD_int, eqD_str, bin_int, binI_add, binI_sub, of_some, negK_int, setK_nm, setK_tp, setsK, asg, asgs, tgsOf, intK, rngK, srcK, subO, startE, newR, new, bi_int, bi_abs, bi_len_tup, bi_len_frl,  Option.map_some, Option.map_none, Option.bind_some, List.map_cons, List.map_nil, List.length_cons, List.length_nil, List.length_append, List.length_map, List.length_set, List.cons_append, List.nil_append, List.getElem?_cons_zero, List.getElem?_cons_succ, List.set_cons_zero, List.set_cons_succ, if_true, if_false, Bool.false_eq_true, Bool.true_eq_false, Bool.not_true, Bool.not_false, decide_true, decide_false, Nat.reduceEqDiff, Nat.zero_lt_succ, List.replicate_succ, List.replicate_zero, Nat.reduceSub, Nat.reduceAdd, Nat.reduceLT, Nat.reduceLeDiff, Nat.zero_le, id, lstK_ok, tupK_ok, beq_self_eq_true]
      exact ⟨a.take k, .non, by first | rfl | trivial, .non, pt, by omega, D2⟩
    · rw [beq_eq_false_iff_ne.mpr c0]
      try simp -implicitDefEqProofs only [wp_ok, wp_bind, wp_noexc, wp_seq, wp_skip, wp_brk, wp_cnt, wp_retN, wp_ret, wp_set, wp_par, wp_unp, wp_sto, wp_xpr, wp_ite, wp_for, wp_whl, wp_tru, sk_rt, sk_bk, sk_ct, lk_nx, lk_ct, lk_bk, lk_rt, ik_true, ik_false, ev, evs, evo, evi, evc, evd, keyK_str, keyK_int, retK_rt, retK_nx, iteK_true, iteK_false, truK0_bl, truK0_int, truK0_tup, truK0_frl, truK0_non, scK_bl, wp_callK, cmpO, cmp_eq, cmp_ne, cmp_lt, cmp_le, cmp_gt, cmp_ge, cmp_isN, cmp_notN, eqD_int, eqD_str, bin_int, binI_add, binI_sub, of_some, negK_int, setK_nm, setK_tp, setsK, asg, asgs, tgsOf, intK, rngK, srcK, subO, startE, newR, new, bi_int, bi_abs, bi_len_tup, bi_len_frl,  Option.map_some, Option.map_none, Option.bind_some, List.map_cons, List.map_nil, List.length_cons, List.length_nil, List.length_append, List.length_map, List.length_set, List.cons_append, List.nil_append, List.getElem?_cons_zero, List.getElem?_cons_succ, List.set_cons_zero, List.set_cons_succ, if_true, if_false, Bool.false_eq_true, Bool.true_eq_false, Bool.not_true, Bool.not_false, decide_true, decide_false, Nat.reduceEqDiff, Nat.zero_lt_succ, List.replicate_succ, List.replicate_zero, Nat.reduceSub, Nat.reduceAdd, Nat.reduceLT, Nat.reduceLeDiff, Nat.zero_le, id, lstK_ok, tupK_ok]
      exact ⟨a.take k, e, by first | rfl | trivial, g, pt, by omega, D2⟩
  · try simp -implicitDefEqProofs only [wp_ok, wp_bind, wp_noexc, wp_seq, wp_skip, wp_brk, wp_cnt, wp_retN, wp_ret, wp_set, wp_par, wp_unp, wp_sto, wp_xpr, wp_ite, wp_for, wp_whl, wp_tru, sk_rt, sk_bk, sk_ct, lk_nx, lk_ct, lk_bk, lk_rt, ik_true, ik_false, ev, evs, evo, evi, evc, evd, keyK_str, keyK_int, retK_rt, retK_nx, iteK_true, iteK_false, truK0_bl, truK0_int, truK0_tup, truK0_frl, truK0_non, scK_bl, wp_callK, cmpO, cmp_eq, cmp_ne, cmp_lt, cmp_le, cmp_gt, cmp_ge, cmp_isN, cmp_notN, eqD_int, eqD_str, bin_int, binI_add, binI_sub, of_some, negK_int, setK_nm, setK_tp, setsK, asg, asgs, tgsOf, intK, rngK, srcK, subO, startE, newR, new, bi_int, bi_abs, bi_len_tup, bi_len_frl,  Option.map_some, Option.map_none, Option.bind_some, List.map_cons, List.map_nil, List.length_cons, List.length_nil, List.length_append, List.length_map, List.length_set, List.cons_append, List.nil_append, List.getElem?_cons_zero, List.getElem?_cons_succ, List.set_cons_zero, List.set_cons_succ, if_true, if_false, Bool.false_eq_true, Bool.true_eq_false, Bool.not_true, Bool.not_false, decide_true, decide_false, Nat.reduceEqDiff, Nat.zero_lt_succ, List.replicate_succ, List.replicate_zero, Nat.reduceSub, Nat.reduceAdd, Nat.reduceLT, Nat.reduceLeDiff, Nat.zero_le, id, lstK_ok, tupK_ok, decide_eq_false c2]
    rw [sk_nx]
    by_cases c3 : r = 2
    · subst c3
      have b1 := bin_tup (st := st2) (ws := (a.take k).map W.int) (us := [W.int 5]) (by simp; omega)
      have b2 := bin_tup (st := st2) (ws := (a.take k).map W.int ++ [W.int 5]) (us := (a.drop (k + 1)).map W.int) (by rw [List.length_append, List.length_map, List.length_map]; simp only [List.length_cons, List.length_nil]; omega)
      try simp -implicitDefEqProofs only [wp_ok, wp_bind, wp_noexc, wp_seq, wp_skip, wp_brk, wp_cnt, wp_retN, wp_ret, wp_set, wp_par, wp_unp, wp_sto, wp_xpr, wp_ite, wp_for, wp_whl, wp_tru, sk_rt, sk_bk, sk_ct, lk_nx, lk_ct, lk_bk, lk_rt, ik_true, ik_false, ev, evs, evo, evi, evc, evd, keyK_str, keyK_int, retK_rt, retK_nx, iteK_true, iteK_false, truK0_bl, truK0_int, truK0_tup, truK0_frl, truK0_non, scK_bl, wp_callK, cmpO, cmp_eq, cmp_ne, cmp_lt, cmp_le, cmp_gt, cmp_ge, cmp_isN, cmp_notN, eqD_int, eqD_str, bin_int, binI_add, binI_sub, of_some, negK_int, setK_nm, setK_tp, setsK, asg, asgs, tgsOf, intK, rngK, srcK, subO, startE, newR, new, bi_int, bi_abs, bi_len_tup, bi_len_frl,  Option.map_some, Option.map_none, Option.bind_some, List.map_cons, List.map_nil, List.length_cons, List.length_nil, List.length_append, List.length_map, List.length_set, List.cons_append, List.nil_append, List.getElem?_cons_zero, List.getElem?_cons_succ, List.set_cons_zero, List.set_cons_succ, if_true, if_false, Bool.false_eq_true, Bool.true_eq_false, Bool.not_true, Bool.not_false, decide_true, decide_false, Nat.reduceEqDiff, Nat.zero_lt_succ, List.replicate_succ, List.replicate_zero, Nat.reduceSub, Nat.reduceAdd, Nat.reduceLT, Nat.reduceLeDiff, Nat.zero_le, id, lstK_ok, tupK_ok, beq_self_eq_true, slW_tup, cut_take, ek, cut_drop, ← List.map_take, ← List.map_drop, b1, b2]
      refine ⟨a.take k ++ [5] ++ a.drop (k + 1), e, ?_, g, ?_, ?_, D2⟩
      · simp [rw]
      · intro x hx
        rcases List.mem_append.mp hx with hx | hx
        · rcases List.mem_append.mp hx with hx | hx
          · exact pt x hx
          · rw [List.mem_singleton.mp hx]; decide
        · exact pd x hx
      · simp only [List.length_append, List.length_cons, List.length_nil]; omega
    · try simp -implicitDefEqProofs only [wp_ok, wp_bind, wp_noexc, wp_seq, wp_skip, wp_brk, wp_cnt, wp_retN, wp_ret, wp_set, wp_par, wp_unp, wp_sto, wp_xpr, wp_ite, wp_for, wp_whl, wp_tru, sk_rt, sk_bk, sk_ct, lk_nx, lk_ct, lk_bk, lk_rt, ik_true, ik_false, ev, evs, evo, evi, evc, evd, keyK_str, keyK_int, retK_rt, retK_nx, iteK_true, iteK_false, truK0_bl, truK0_int, truK0_tup, truK0_frl, truK0_non, scK_bl, wp_callK, cmpO, cmp_eq, cmp_ne, cmp_lt, cmp_le, cmp_gt, cmp_ge, cmp_isN, cmp_notN, eqD_int, eqD_str, bin_int, binI_add, binI_sub, of_some, negK_int, setK_nm, setK_tp, setsK, asg, asgs, tgsOf, intK, rngK, srcK, subO, startE, newR, new, bi_int, bi_abs, bi_len_tup, bi_len_frl,  Option.map_some, Option.map_none, Option.bind_some, List.map_cons, List.map_nil, List.length_cons, List.length_nil, List.length_append, List.length_map, List.length_set, List.cons_append, List.nil_append, List.getElem?_cons_zero, List.getElem?_cons_succ, List.set_cons_zero, List.set_cons_succ, if_true, if_false, Bool.false_eq_true, Bool.true_eq_false, Bool.not_true, Bool.not_false, decide_true, decide_false, Nat.reduceEqDiff, Nat.zero_lt_succ, List.replicate_succ, List.replicate_zero, Nat.reduceSub, Nat.reduceAdd, Nat.reduceLT, Nat.reduceLeDiff, Nat.zero_le, id, lstK_ok, tupK_ok, beq_eq_false_iff_ne.mpr c3]
      rw [sk_nx]
      by_cases c4 : r = 3
      · subst c4
        try simp -implicitDefEqProofs only [wp_ok, wp_bind, wp_noexc, wp_seq, wp_skip, wp_brk, wp_cnt, wp_retN, wp_ret, wp_set, wp_par, wp_unp, wp_sto, wp_xpr, wp_ite, wp_for, wp_whl, wp_tru, sk_rt, sk_bk, sk_ct, lk_nx, lk_ct, lk_bk, lk_rt, ik_true, ik_false, ev, evs, evo, evi, evc, evd, keyK_str, keyK_int, retK_rt, retK_nx, iteK_true, iteK_false, truK0_bl, truK0_int, truK0_tup, truK0_frl, truK0_non, scK_bl, wp_callK, cmpO, cmp_eq, cmp_ne, cmp_lt, cmp_le, cmp_gt, cmp_ge, cmp_isN, cmp_notN, eqD_int, eqD_str, bin_int, binI_add, binI_sub, of_some, negK_int, setK_nm, setK_tp, setsK, asg, asgs, tgsOf, intK, rngK, srcK, subO, startE, newR, new, bi_int, bi_abs, bi_len_tup, bi_len_frl,  Option.map_some, Option.map_none, Option.bind_some, List.map_cons, List.map_nil, List.length_cons, List.length_nil, List.length_append, List.length_map, List.length_set, List.cons_append, List.nil_append, List.getElem?_cons_zero, List.getElem?_cons_succ, List.set_cons_zero, List.set_cons_succ, if_true, if_false, Bool.false_eq_true, Bool.true_eq_false, Bool.not_true, Bool.not_false, decide_true, decide_false, Nat.reduceEqDiff, Nat.zero_lt_succ, List.replicate_succ, List.replicate_zero, Nat.reduceSub, Nat.reduceAdd, Nat.reduceLT, Nat.reduceLeDiff, Nat.zero_le, id, lstK_ok, tupK_ok, beq_self_eq_true]
        refine (any_ok (n := n) (i := 9) rfl D2 (by decide) (by decide)).mono ?_
        rintro w st3 ⟨z, rfl, z0, -, D3, -⟩
        have b1 := bin_tup (st := st3) (ws := a.map W.int) (us := [W.int z]) (by simp; omega)
        try simp -implicitDefEqProofs only [wp_ok, wp_bind, wp_noexc, wp_seq, wp_skip, wp_brk, wp_cnt, wp_retN, wp_ret, wp_set, wp_par, wp_unp, wp_sto, wp_xpr, wp_ite, wp_for, wp_whl, wp_tru, sk_rt, sk_bk, sk_ct, lk_nx, lk_ct, lk_bk, lk_rt, ik_true, ik_false, ev, evs, evo, evi, evc, evd, keyK_str, keyK_int, retK_rt, retK_nx, iteK_true, iteK_false, truK0_bl, truK0_int, truK0_tup, truK0_frl, truK0_non, scK_bl, wp_callK, cmpO, cmp_eq, cmp_ne, cmp_lt, cmp_le, cmp_gt, cmp_ge, cmp_isN, cmp_notN, eqD_int, eqD_str, bin_int, binI_add, binI_sub, of_some, negK_int, setK_nm, setK_tp, setsK, asg, asgs, tgsOf, intK, rngK, srcK, subO, startE, newR, new, bi_int, bi_abs, bi_len_tup, bi_len_frl,  Option.map_some, Option.map_none, Option.bind_some, List.map_cons, List.map_nil, List.length_cons, List.length_nil, List.length_append, List.length_map, List.length_set, List.cons_append, List.nil_append, List.getElem?_cons_zero, List.getElem?_cons_succ, List.set_cons_zero, List.set_cons_succ, if_true, if_false, Bool.false_eq_true, Bool.true_eq_false, Bool.not_true, Bool.not_false, decide_true, decide_false, Nat.reduceEqDiff, Nat.zero_lt_succ, List.replicate_succ, List.replicate_zero, Nat.reduceSub, Nat.reduceAdd, Nat.reduceLT, Nat.reduceLeDiff, Nat.zero_le, id, lstK_ok, tupK_ok, b1]
        refine ⟨a ++ [z], e, ?_, g, ?_, ?_, D3⟩
        · simp [rw]
        · intro x hx
          rcases List.mem_append.mp hx with hx | hx
          · exact h0 x hx
          · rw [List.mem_singleton.mp hx]; exact z0
        · simp only [List.length_append, List.length_cons, List.length_nil]; omega
      · try simp -implicitDefEqProofs only [wp_ok, wp_bind, wp_noexc, wp_seq, wp_skip, wp_brk, wp_cnt, wp_retN, wp_ret, wp_set, wp_par, wp_unp, wp_sto, wp_xpr, wp_ite, wp_for, wp_whl, wp_tru, sk_rt, sk_bk, sk_ct, lk_nx, lk_ct, lk_bk, lk_rt, ik_true, ik_false, ev, evs, evo, evi, evc, evd, keyK_str, keyK_int, retK_rt, retK_nx, iteK_true, iteK_false, truK0_bl, truK0_int, truK0_tup, truK0_frl, truK0_non, scK_bl, wp_callK, cmpO, cmp_eq, cmp_ne, cmp_lt, cmp_le, cmp_gt, cmp_ge, cmp_isN, cmp_notN, eqD_int, eqD_str, bin_int, binI_add, binI_sub, of_some, negK_int, setK_nm, setK_tp, setsK, asg, asgs, tgsOf, intK, rngK, srcK, subO, startE, newR, new, bi_int, bi_abs, bi_len_tup, bi_len_frl,  Option.map_some, Option.map_none, Option.bind_some, List.map_cons, List.map_nil, List.length_cons, List.length_nil, List.length_append, List.length_map, List.length_set, List.cons_append, List.nil_append, List.getElem?_cons_zero, List.getElem?_cons_succ, List.set_cons_zero, List.set_cons_succ, if_true, if_false, Bool.false_eq_true, Bool.true_eq_false, Bool.not_true, Bool.not_false, decide_true, decide_false, Nat.reduceEqDiff, Nat.zero_lt_succ, List.replicate_succ, List.replicate_zero, Nat.reduceSub, Nat.reduceAdd, Nat.reduceLT, Nat.reduceLeDiff, Nat.zero_le, id, lstK_ok, tupK_ok, beq_eq_false_iff_ne.mpr c4]
        rw [sk_nx]
        by_cases c5 : r = 4
        · subst c5
          try simp -implicitDefEqProofs only [wp_ok, wp_bind, wp_noexc, wp_seq, wp_skip, wp_brk, wp_cnt, wp_retN, wp_ret, wp_set, wp_par, wp_unp, wp_sto, wp_xpr, wp_ite, wp_for, wp_whl, wp_tru, sk_rt, sk_bk, sk_ct, lk_nx, lk_ct, lk_bk, lk_rt, ik_true, ik_false, ev, evs, evo, evi, evc, evd, keyK_str, keyK_int, retK_rt, retK_nx, iteK_true, iteK_false, truK0_bl, truK0_int, truK0_tup, truK0_frl, truK0_non, scK_bl, wp_callK, cmpO, cmp_eq, cmp_ne, cmp_lt, cmp_le, cmp_gt, cmp_ge, cmp_isN, cmp_notN, eqD_int, eqD_str, bin_int, binI_add, binI_sub, of_some, negK_int, setK_nm, setK_tp, setsK, asg, asgs, tgsOf, intK, rngK, srcK, subO, startE, newR, new, bi_int, bi_abs, bi_len_tup, bi_len_frl,  Option.map_some, Option.map_none, Option.bind_some, List.map_cons, List.map_nil, List.length_cons, List.length_nil, List.length_append, List.length_map, List.length_set, List.cons_append, List.nil_append, List.getElem?_cons_zero, List.getElem?_cons_succ, List.set_cons_zero, List.set_cons_succ, if_true, if_false, Bool.false_eq_true, Bool.true_eq_false, Bool.not_true, Bool.not_false, decide_true, decide_false, Nat.reduceEqDiff, Nat.zero_lt_succ, List.replicate_succ, List.replicate_zero, Nat.reduceSub, Nat.reduceAdd, Nat.reduceLT, Nat.reduceLeDiff, Nat.zero_le, id, lstK_ok, tupK_ok, beq_self_eq_true, slW_tup, cut_take, ← List.map_take]
          exact ⟨a.take k, _, by first | rfl | trivial, .trap "index" (by decide +kernel) (by decide +kernel), pt, by omega, D2⟩
        · try simp -implicitDefEqProofs only [wp_ok, wp_bind, wp_noexc, wp_seq, wp_skip, wp_brk, wp_cnt, wp_retN, wp_ret, wp_set, wp_par, wp_unp, wp_sto, wp_xpr, wp_ite, wp_for, wp_whl, wp_tru, sk_rt, sk_bk, sk_ct, lk_nx, lk_ct, lk_bk, lk_rt, ik_true, ik_false, ev, evs, evo, evi, evc, evd, keyK_str, keyK_int, retK_rt, retK_nx, iteK_true, iteK_false, truK0_bl, truK0_int, truK0_tup, truK0_frl, truK0_non, scK_bl, wp_callK, cmpO, cmp_eq, cmp_ne, cmp_lt, cmp_le, cmp_gt, cmp_ge, cmp_isN, cmp_notN, eqD_int, eqD_str, bin_int, binI_add, binI_sub, of_some, negK_int, setK_nm, setK_tp, setsK, asg, asgs, tgsOf, intK, rngK, srcK, subO, startE, newR, new, bi_int, bi_abs, bi_len_tup, bi_len_frl,  Option.map_some, Option.map_none, Option.bind_some, List.map_cons, List.map_nil, List.length_cons, List.length_nil, List.length_append, List.length_map, List.length_set, List.cons_append, List.nil_append, List.getElem?_cons_zero, List.getElem?_cons_succ, List.set_cons_zero, List.set_cons_succ, if_true, if_false, Bool.false_eq_true, Bool.true_eq_false, Bool.not_true, Bool.not_false, decide_true, decide_false, Nat.reduceEqDiff, Nat.zero_lt_succ, List.replicate_succ, List.replicate_zero, Nat.reduceSub, Nat.reduceAdd, Nat.reduceLT, Nat.reduceLeDiff, Nat.zero_le, id, lstK_ok, tupK_ok, beq_eq_false_iff_ne.mpr c5]
          exact ⟨a, e, by first | rfl | trivial, g, h0, by omega, D2⟩
end
def EnOk (ns : List Int) (d k : Nat) (en : En) : Prop := ∃ x2 x3 x4 x5 x6 x7 x8 x9 : Option W, en = [some (.frl (ns.map .int)), some (.ref d), x2, x3, x4, x5, x6, x7, x8, x9] ∧ (0 < k → ∃ a e, x3 = some (rw a e) ∧ GE e ∧ (∀ x ∈ a, (0 : Int) ≤ x) ∧ a.length ≤ 8)
def body : S := match c15 with
  | .seq _ (.seq (.for_ _ _ b) _) => b
  | _ => .skip
theorem body_ok {ns : List Int} {d c k : Nat} {en : En} {st : Sto} {Q : Out → Sto → Prop} (D : Deal st d c) (he : EnOk ns d k en) : Wp (ex (Ci.run tab 19) body en st) (Lk (fun e st' => EnOk ns d (k + 1) e ∧ Deal st' d c) Q) := by
  obtain ⟨x2, x3, x4, x5, x6, x7, x8, x9, rfl, -⟩ := he
  unfold body c15
  show Wp (ex (Ci.run tab 19) (.seq _ _) _ st) _
  try simp -implicitDefEqProofs only [wp_ok, wp_bind, wp_noexc, wp_seq, wp_skip, wp_brk, wp_cnt, wp_retN, wp_ret, wp_set, wp_par, wp_unp, wp_sto, wp_xpr, wp_ite, wp_for, wp_whl, wp_tru, sk_rt, sk_bk, sk_ct, lk_nx, lk_ct, lk_bk, lk_rt, ik_true, ik_false, ev, evs, evo, evi, evc, evd, keyK_str, keyK_int, retK_rt, retK_nx, iteK_true, iteK_false, truK0_bl, truK0_int, truK0_tup, truK0_frl, truK0_non, scK_bl, wp_callK, cmpO, cmp_eq, cmp_ne, cmp_lt, cmp_le, cmp_gt, cmp_ge, cmp_isN, cmp_notN, eqD_int, eqD_str, bin_int, binI_add, binI_sub, of_some, negK_int, setK_nm, setK_tp, setsK, asg, asgs, tgsOf, intK, rngK, srcK, subO, startE, newR, new, bi_int, bi_abs, bi_len_tup, bi_len_frl,  Option.map_some, Option.map_none, Option.bind_some, List.map_cons, List.map_nil, List.length_cons, List.length_nil, List.length_append, List.length_map, List.length_set, List.cons_append, List.nil_append, List.getElem?_cons_zero, List.getElem?_cons_succ, List.set_cons_zero, List.set_cons_succ, if_true, if_false, Bool.false_eq_true, Bool.true_eq_false, Bool.not_true, Bool.not_false, decide_true, decide_false, Nat.reduceEqDiff, Nat.zero_lt_succ, List.replicate_succ, List.replicate_zero, Nat.reduceSub, Nat.reduceAdd, Nat.reduceLT, Nat.reduceLeDiff, Nat.zero_le, id, lstK_ok, tupK_ok]
  refine (drawn_ok (n := 16) D).mono ?_
  rintro w st1 ⟨a, e, rfl, ge, a0, al, D1⟩
  try simp -implicitDefEqProofs only [wp_ok, wp_bind, wp_noexc, wp_seq, wp_skip, wp_brk, wp_cnt, wp_retN, wp_ret, wp_set, wp_par, wp_unp, wp_sto, wp_xpr, wp_ite, wp_for, wp_whl, wp_tru, sk_rt, sk_bk, sk_ct, lk_nx, lk_ct, lk_bk, lk_rt, ik_true, ik_false, ev, evs, evo, evi, evc, evd, keyK_str, keyK_int, retK_rt, retK_nx, iteK_true, iteK_false, truK0_bl, truK0_int, truK0_tup, truK0_frl, truK0_non, scK_bl, wp_callK, cmpO, cmp_eq, cmp_ne, cmp_lt, cmp_le, cmp_gt, cmp_ge, cmp_isN, cmp_notN, eqD_int, eqD_str, bin_int, binI_add, binI_sub, of_some, negK_int, setK_nm, setK_tp, setsK, asg, asgs, tgsOf, intK, rngK, srcK, subO, startE, newR, new, bi_int, bi_abs, bi_len_tup, bi_len_frl,  Option.map_some, Option.map_none, Option.bind_some, List.map_cons, List.map_nil, List.length_cons, List.length_nil, List.length_append, List.length_map, List.length_set, List.cons_append, List.nil_append, List.getElem?_cons_zero, List.getElem?_cons_succ, List.set_cons_zero, List.set_cons_succ, if_true, if_false, Bool.false_eq_true, Bool.true_eq_false, Bool.not_true, Bool.not_false, decide_true, decide_false, Nat.reduceEqDiff, Nat.zero_lt_succ, List.replicate_succ, List.replicate_zero, Nat.reduceSub, Nat.reduceAdd, Nat.reduceLT, Nat.reduceLeDiff, Nat.zero_le, id, lstK_ok, tupK_ok]
  rw [sk_nx, wp_seq, wp_set]
  refine Wp.mono (Q := fun w st3 => ∃ b f, w = rw b f ∧ GE f ∧ (∀ x ∈ b, (0 : Int) ≤ x) ∧ b.length ≤ 8 ∧ Deal st3 d c) ?_ ?_
  · try simp -implicitDefEqProofs only [wp_ok, wp_bind, wp_noexc, wp_seq, wp_skip, wp_brk, wp_cnt, wp_retN, wp_ret, wp_set, wp_par, wp_unp, wp_sto, wp_xpr, wp_ite, wp_for, wp_whl, wp_tru, sk_rt, sk_bk, sk_ct, lk_nx, lk_ct, lk_bk, lk_rt, ik_true, ik_false, ev, evs, evo, evi, evc, evd, keyK_str, keyK_int, retK_rt, retK_nx, iteK_true, iteK_false, truK0_bl, truK0_int, truK0_tup, truK0_frl, truK0_non, scK_bl, wp_callK, cmpO, cmp_eq, cmp_ne, cmp_lt, cmp_le, cmp_gt, cmp_ge, cmp_isN, cmp_notN, eqD_int, eqD_str, bin_int, binI_add, binI_sub, of_some, negK_int, setK_nm, setK_tp, setsK, asg, asgs, tgsOf, intK, rngK, srcK, subO, startE, newR, new, bi_int, bi_abs, bi_len_tup, bi_len_frl,  Option.map_some, Option.map_none, Option.bind_some, List.map_cons, List.map_nil, List.length_cons, List.length_nil, List.length_append, List.length_map, List.length_set, List.cons_append, List.nil_append, List.getElem?_cons_zero, List.getElem?_cons_succ, List.set_cons_zero, List.set_cons_succ, if_true, if_false, Bool.false_eq_true, Bool.true_eq_false, Bool.not_true, Bool.not_false, decide_true, decide_false, Nat.reduceEqDiff, Nat.zero_lt_succ, List.replicate_succ, List.replicate_zero, Nat.reduceSub, Nat.reduceAdd, Nat.reduceLT, Nat.reduceLeDiff, Nat.zero_le, id, lstK_ok, tupK_ok]
    refine (any_ok (n := 18) (i := 9) rfl D1 (by decide) (by decide)).mono ?_
    rintro w st2 ⟨r, rfl, -, -, D2, -⟩
    by_cases h : 0 < r
    · try simp -implicitDefEqProofs only [wp_ok, wp_bind, wp_noexc, wp_seq, wp_skip, wp_brk, wp_cnt, wp_retN, wp_ret, wp_set, wp_par, wp_unp, wp_sto, wp_xpr, wp_ite, wp_for, wp_whl, wp_tru, sk_rt, sk_bk, sk_ct, lk_nx, lk_ct, lk_bk, lk_rt, ik_true, ik_false, ev, evs, evo, evi, evc, evd, keyK_str, keyK_int, retK_rt, retK_nx, iteK_true, iteK_false, truK0_bl, truK0_int, truK0_tup, truK0_frl, truK0_non, scK_bl, wp_callK, cmpO, cmp_eq, cmp_ne, cmp_lt, cmp_le, cmp_gt, cmp_ge, cmp_isN, cmp_notN, eqD_int, eqD_str, bin_int, binI_add, binI_sub, of_some, negK_int, setK_nm, setK_tp, setsK, asg, asgs, tgsOf, intK, rngK, srcK, subO, startE, newR, new, bi_int, bi_abs, bi_len_tup, bi_len_frl,  Option.map_some, Option.map_none, Option.bind_some, List.map_cons, List.map_nil, List.length_cons, List.length_nil, List.length_append, List.length_map, List.length_set, List.cons_append, List.nil_append, List.getElem?_cons_zero, List.getElem?_cons_succ, List.set_cons_zero, List.set_cons_succ, if_true, if_false, Bool.false_eq_true, Bool.true_eq_false, Bool.not_true, Bool.not_false, decide_true, decide_false, Nat.reduceEqDiff, Nat.zero_lt_succ, List.replicate_succ, List.replicate_zero, Nat.reduceSub, Nat.reduceAdd, Nat.reduceLT, Nat.reduceLeDiff, Nat.zero_le, id, lstK_ok, tupK_ok, decide_eq_true h]
      refine (near_ok (n := 17) D2 ge a0 al).mono ?_
      rintro w st3 ⟨b, f, rfl, gf, b0, bl, D3⟩
      exact ⟨b, f, rfl, gf, b0, bl, D3⟩
    · try simp -implicitDefEqProofs only [wp_ok, wp_bind, wp_noexc, wp_seq, wp_skip, wp_brk, wp_cnt, wp_retN, wp_ret, wp_set, wp_par, wp_unp, wp_sto, wp_xpr, wp_ite, wp_for, wp_whl, wp_tru, sk_rt, sk_bk, sk_ct, lk_nx, lk_ct, lk_bk, lk_rt, ik_true, ik_false, ev, evs, evo, evi, evc, evd, keyK_str, keyK_int, retK_rt, retK_nx, iteK_true, iteK_false, truK0_bl, truK0_int, truK0_tup, truK0_frl, truK0_non, scK_bl, wp_callK, cmpO, cmp_eq, cmp_ne, cmp_lt, cmp_le, cmp_gt, cmp_ge, cmp_isN, cmp_notN, eqD_int, eqD_str, bin_int, binI_add, binI_sub, of_some, negK_int, setK_nm, setK_tp, setsK, asg, asgs, tgsOf, intK, rngK, srcK, subO, startE, newR, new, bi_int, bi_abs, bi_len_tup, bi_len_frl,  Option.map_some, Option.map_none, Option.bind_some, List.map_cons, List.map_nil, List.length_cons, List.length_nil, List.length_append, List.length_map, List.length_set, List.cons_append, List.nil_append, List.getElem?_cons_zero, List.getElem?_cons_succ, List.set_cons_zero, List.set_cons_succ, if_true, if_false, Bool.false_eq_true, Bool.true_eq_false, Bool.not_true, Bool.not_false, decide_true, decide_false, Nat.reduceEqDiff, Nat.zero_lt_succ, List.replicate_succ, List.replicate_zero, Nat.reduceSub, Nat.reduceAdd, Nat.reduceLT, Nat.reduceLeDiff, Nat.zero_le, id, lstK_ok, tupK_ok, decide_eq_false h]
      refine (drawn_ok (n := 16) D2).mono ?_
      rintro w st3 ⟨b, f, rfl, gf, b0, bl, D3⟩
      exact ⟨b, f, rfl, gf, b0, by omega, D3⟩
  rintro w st3 ⟨b, f, rfl, gf, b0, bl, D3⟩
  try simp -implicitDefEqProofs only [wp_ok, wp_bind, wp_noexc, wp_seq, wp_skip, wp_brk, wp_cnt, wp_retN, wp_ret, wp_set, wp_par, wp_unp, wp_sto, wp_xpr, wp_ite, wp_for, wp_whl, wp_tru, sk_rt, sk_bk, sk_ct, lk_nx, lk_ct, lk_bk, lk_rt, ik_true, ik_false, ev, evs, evo, evi, evc, evd, keyK_str, keyK_int, retK_rt, retK_nx, iteK_true, iteK_false, truK0_bl, truK0_int, truK0_tup, truK0_frl, truK0_non, scK_bl, wp_callK, cmpO, cmp_eq, cmp_ne, cmp_lt, cmp_le, cmp_gt, cmp_ge, cmp_isN, cmp_notN, eqD_int, eqD_str, bin_int, binI_add, binI_sub, of_some, negK_int, setK_nm, setK_tp, setsK, asg, asgs, tgsOf, intK, rngK, srcK, subO, startE, newR, new, bi_int, bi_abs, bi_len_tup, bi_len_frl,  Option.map_some, Option.map_none, Option.bind_some, List.map_cons, List.map_nil, List.length_cons, List.length_nil, List.length_append, List.length_map, List.length_set, List.cons_append, List.nil_append, List.getElem?_cons_zero, List.getElem?_cons_succ, List.set_cons_zero, List.set_cons_succ, if_true, if_false, Bool.false_eq_true, Bool.true_eq_false, Bool.not_true, Bool.not_false, decide_true, decide_false, Nat.reduceEqDiff, Nat.zero_lt_succ, List.replicate_succ, List.replicate_zero, Nat.reduceSub, Nat.reduceAdd, Nat.reduceLT, Nat.reduceLeDiff, Nat.zero_le, id, lstK_ok, tupK_ok]
  rw [sk_nx, wp_seq, wp_unp]
  refine Wp.mono (Q := fun w st4 => ∃ a e b f, w = .tup [rw a e, rw b f] ∧ GE e ∧ GE f ∧ (∀ x ∈ a, (0 : Int) ≤ x) ∧ (∀ x ∈ b, (0 : Int) ≤ x) ∧ a.length ≤ 8 ∧ b.length ≤ 8 ∧ Deal st4 d c) ?_ ?_
  · try simp -implicitDefEqProofs only [wp_ok, wp_bind, wp_noexc, wp_seq, wp_skip, wp_brk, wp_cnt, wp_retN, wp_ret, wp_set, wp_par, wp_unp, wp_sto, wp_xpr, wp_ite, wp_for, wp_whl, wp_tru, sk_rt, sk_bk, sk_ct, lk_nx, lk_ct, lk_bk, lk_rt, ik_true, ik_false, ev, evs, evo, evi, evc, evd, keyK_str, keyK_int, retK_rt, retK_nx, iteK_true, iteK_false, truK0_bl, truK0_int, truK0_tup, truK0_frl, truK0_non, scK_bl, wp_callK, cmpO, cmp_eq, cmp_ne, cmp_lt, cmp_le, cmp_gt, cmp_ge, cmp_isN, cmp_notN, eqD_int, eqD_str, bin_int, binI_add, binI_sub, of_some, negK_int, setK_nm, setK_tp, setsK, asg, asgs, tgsOf, intK, rngK, srcK, subO, startE, newR, new, bi_int, bi_abs, bi_len_tup, bi_len_frl,  Option.map_some, Option.map_none, Option.bind_some, List.map_cons, List.map_nil, List.length_cons, List.length_nil, List.length_append, List.length_map, List.length_set, List.cons_append, List.nil_append, List.getElem?_cons_zero, List.getElem?_cons_succ, List.set_cons_zero, List.set_cons_succ, if_true, if_false, Bool.false_eq_true, Bool.true_eq_false, Bool.not_true, Bool.not_false, decide_true, decide_false, Nat.reduceEqDiff, Nat.zero_lt_succ, List.replicate_succ, List.replicate_zero, Nat.reduceSub, Nat.reduceAdd, Nat.reduceLT, Nat.reduceLeDiff, Nat.zero_le, id, lstK_ok, tupK_ok]
    refine (any_ok (n := 18) (i := 9) rfl D3 (by decide) (by decide)).mono ?_
    rintro w st4 ⟨r2, rfl, -, -, D4, -⟩
    by_cases h : r2 = 0
    · subst h
      try simp -implicitDefEqProofs only [wp_ok, wp_bind, wp_noexc, wp_seq, wp_skip, wp_brk, wp_cnt, wp_retN, wp_ret, wp_set, wp_par, wp_unp, wp_sto, wp_xpr, wp_ite, wp_for, wp_whl, wp_tru, sk_rt, sk_bk, sk_ct, lk_nx, lk_ct, lk_bk, lk_rt, ik_true, ik_false, ev, evs, evo, evi, evc, evd, keyK_str, keyK_int, retK_rt, retK_nx, iteK_true, iteK_false, truK0_bl, truK0_int, truK0_tup, truK0_frl, truK0_non, scK_bl, wp_callK, cmpO, cmp_eq, cmp_ne, cmp_lt, cmp_le, cmp_gt, cmp_ge, cmp_isN, cmp_notN, eqD_int, eqD_str, bin_int, binI_add, binI_sub, of_some, negK_int, setK_nm, setK_tp, setsK, asg, asgs, tgsOf, intK, rngK, srcK, subO, startE, newR, new, bi_int, bi_abs, bi_len_tup, bi_len_frl,  Option.map_some, Option.map_none, Option.bind_some, List.map_cons, List.map_nil, List.length_cons, List.length_nil, List.length_append, List.length_map, List.length_set, List.cons_append, List.nil_append, List.getElem?_cons_zero, List.getElem?_cons_succ, List.set_cons_zero, List.set_cons_succ, if_true, if_false, Bool.false_eq_true, Bool.true_eq_false, Bool.not_true, Bool.not_false, decide_true, decide_false, Nat.reduceEqDiff, Nat.zero_lt_succ, List.replicate_succ, List.replicate_zero, Nat.reduceSub, Nat.reduceAdd, Nat.reduceLT, Nat.reduceLeDiff, Nat.zero_le, id, lstK_ok, tupK_ok, beq_self_eq_true]
      exact ⟨a, e, b, f, by first | rfl | trivial, ge, gf, a0, b0, by omega, bl, D4⟩
    · try simp -implicitDefEqProofs only [wp_ok, wp_bind, wp_noexc, wp_seq, wp_skip, wp_brk, wp_cnt, wp_retN, wp_ret, wp_set, wp_par, wp_unp, wp_sto, wp_xpr, wp_ite, wp_for, wp_whl, wp_tru, sk_rt, sk_bk, sk_ct, lk_nx, lk_ct, lk_bk, lk_rt, ik_true, ik_false, ev, evs, evo, evi, evc, evd, keyK_str, keyK_int, retK_rt, retK_nx, iteK_true, iteK_false, truK0_bl, truK0_int, truK0_tup, truK0_frl, truK0_non, scK_bl, wp_callK, cmpO, cmp_eq, cmp_ne, cmp_lt, cmp_le, cmp_gt, cmp_ge, cmp_isN, cmp_notN, eqD_int, eqD_str, bin_int, binI_add, binI_sub, of_some, negK_int, setK_nm, setK_tp, setsK, asg, asgs, tgsOf, intK, rngK, srcK, subO, startE, newR, new, bi_int, bi_abs, bi_len_tup, bi_len_frl,  Option.map_some, Option.map_none, Option.bind_some, List.map_cons, List.map_nil, List.length_cons, List.length_nil, List.length_append, List.length_map, List.length_set, List.cons_append, List.nil_append, List.getElem?_cons_zero, List.getElem?_cons_succ, List.set_cons_zero, List.set_cons_succ, if_true, if_false, Bool.false_eq_true, Bool.true_eq_false, Bool.not_true, Bool.not_false, decide_true, decide_false, Nat.reduceEqDiff, Nat.zero_lt_succ, List.replicate_succ, List.replicate_zero, Nat.reduceSub, Nat.reduceAdd, Nat.reduceLT, Nat.reduceLeDiff, Nat.zero_le, id, lstK_ok, tupK_ok, beq_eq_false_iff_ne.mpr h]
      exact ⟨b, f, a, e, by first | rfl | trivial, gf, ge, b0, a0, bl, by omega, D4⟩
  rintro w st4 ⟨a, e, b, f, rfl, ge, gf, a0, b0, al, bl, D4⟩
  try simp -implicitDefEqProofs only [wp_ok, wp_bind, wp_noexc, wp_seq, wp_skip, wp_brk, wp_cnt, wp_retN, wp_ret, wp_set, wp_par, wp_unp, wp_sto, wp_xpr, wp_ite, wp_for, wp_whl, wp_tru, sk_rt, sk_bk, sk_ct, lk_nx, lk_ct, lk_bk, lk_rt, ik_true, ik_false, ev, evs, evo, evi, evc, evd, keyK_str, keyK_int, retK_rt, retK_nx, iteK_true, iteK_false, truK0_bl, truK0_int, truK0_tup, truK0_frl, truK0_non, scK_bl, wp_callK, cmpO, cmp_eq, cmp_ne, cmp_lt, cmp_le, cmp_gt, cmp_ge, cmp_isN, cmp_notN, eqD_int, eqD_str, bin_int, binI_add, binI_sub, of_some, negK_int, setK_nm, setK_tp, setsK, asg, asgs, tgsOf, intK, rngK, srcK, subO, startE, newR, new, bi_int, bi_abs, bi_len_tup, bi_len_frl,  Option.map_some, Option.map_none, Option.bind_some, List.map_cons, List.map_nil, List.length_cons, List.length_nil, List.length_append, List.length_map, List.length_set, List.cons_append, List.nil_append, List.getElem?_cons_zero, List.getElem?_cons_succ, List.set_cons_zero, List.set_cons_succ, if_true, if_false, Bool.false_eq_true, Bool.true_eq_false, Bool.not_true, Bool.not_false, decide_true, decide_false, Nat.reduceEqDiff, Nat.zero_lt_succ, List.replicate_succ, List.replicate_zero, Nat.reduceSub, Nat.reduceAdd, Nat.reduceLT, Nat.reduceLeDiff, Nat.zero_le, id, lstK_ok, tupK_ok]
  rw [sk_nx]
  have hp1 : ∀ (w0 : W) (st : Sto) (Q : W → Sto → Prop), Wp (callK (Ci.run tab 19) 5 (some [0]) [w0] st) Q = Wp (Ci.run tab 19 5 [w0] st) Q := fun _ _ _ => rfl
  have hp2 : ∀ (w0 w1 : W) (st : Sto) (Q : W → Sto → Prop), Wp (callK (Ci.run tab 19) 6 (some [1, 0]) [w0, w1] st) Q = Wp (Ci.run tab 19 6 [w1, w0] st) Q := fun _ _ _ _ => rfl
  have hp3 : ∀ (w0 w1 : W) (st : Sto) (Q : W → Sto → Prop), Wp (callK (Ci.run tab 19) 7 (some [1, 0]) [w0, w1] st) Q = Wp (Ci.run tab 19 7 [w1, w0] st) Q := fun _ _ _ _ => rfl
  try simp -implicitDefEqProofs only [wp_ok, wp_bind, wp_noexc, wp_seq, wp_skip, wp_brk, wp_cnt, wp_retN, wp_ret, wp_set, wp_par, wp_unp, wp_sto, wp_xpr, wp_ite, wp_for, wp_whl, wp_tru, sk_rt, sk_bk, sk_ct, lk_nx, lk_ct, lk_bk, lk_rt, ik_true, ik_false, ev, evs, evo, evi, evc, evd, keyK_str, keyK_int, retK_rt, retK_nx, iteK_true, iteK_false, truK0_bl, truK0_int, truK0_tup, truK0_frl, truK0_non, scK_bl, wp_callK, cmpO, cmp_eq, cmp_ne, cmp_lt, cmp_le, cmp_gt, cmp_ge, cmp_isN, cmp_notN, eqD_int, eqD_str, bin_int, binI_add, binI_sub, of_some, negK_int, setK_nm, setK_tp, setsK, asg, asgs, tgsOf, intK, rngK, srcK, subO, startE, newR, new, bi_int, bi_abs, bi_len_tup, bi_len_frl,  Option.map_some, Option.map_none, Option.bind_some, List.map_cons, List.map_nil, List.length_cons, List.length_nil, List.length_append, List.length_map, List.length_set, List.cons_append, List.nil_append, List.getElem?_cons_zero, List.getElem?_cons_succ, List.set_cons_zero, List.set_cons_succ, if_true, if_false, Bool.false_eq_true, Bool.true_eq_false, Bool.not_true, Bool.not_false, decide_true, decide_false, Nat.reduceEqDiff, Nat.zero_lt_succ, List.replicate_succ, List.replicate_zero, Nat.reduceSub, Nat.reduceAdd, Nat.reduceLT, Nat.reduceLeDiff, Nat.zero_le, id, lstK_ok, tupK_ok, hp1]
  refine (run_good (n := 15) ge a0 (by omega)).mono ?_
  rintro r st5 ⟨rfl, e5⟩
  try simp -implicitDefEqProofs only [wp_ok, wp_bind, wp_noexc, wp_seq, wp_skip, wp_brk, wp_cnt, wp_retN, wp_ret, wp_set, wp_par, wp_unp, wp_sto, wp_xpr, wp_ite, wp_for, wp_whl, wp_tru, sk_rt, sk_bk, sk_ct, lk_nx, lk_ct, lk_bk, lk_rt, ik_true, ik_false, ev, evs, evo, evi, evc, evd, keyK_str, keyK_int, retK_rt, retK_nx, iteK_true, iteK_false, truK0_bl, truK0_int, truK0_tup, truK0_frl, truK0_non, scK_bl, wp_callK, cmpO, cmp_eq, cmp_ne, cmp_lt, cmp_le, cmp_gt, cmp_ge, cmp_isN, cmp_notN, eqD_int, eqD_str, bin_int, binI_add, binI_sub, of_some, negK_int, setK_nm, setK_tp, setsK, asg, asgs, tgsOf, intK, rngK, srcK, subO, startE, newR, new, bi_int, bi_abs, bi_len_tup, bi_len_frl,  Option.map_some, Option.map_none, Option.bind_some, List.map_cons, List.map_nil, List.length_cons, List.length_nil, List.length_append, List.length_map, List.length_set, List.cons_append, List.nil_append, List.getElem?_cons_zero, List.getElem?_cons_succ, List.set_cons_zero, List.set_cons_succ, if_true, if_false, Bool.false_eq_true, Bool.true_eq_false, Bool.not_true, Bool.not_false, decide_true, decide_false, Nat.reduceEqDiff, Nat.zero_lt_succ, List.replicate_succ, List.replicate_zero, Nat.reduceSub, Nat.reduceAdd, Nat.reduceLT, Nat.reduceLeDiff, Nat.zero_le, id, lstK_ok, tupK_ok, isnot_bl, hp2]
  refine (beg_ok (n := 18) ge gf).mono ?_
  rintro r st6 ⟨rfl, rfl⟩
  try simp -implicitDefEqProofs only [wp_ok, wp_bind, wp_noexc, wp_seq, wp_skip, wp_brk, wp_cnt, wp_retN, wp_ret, wp_set, wp_par, wp_unp, wp_sto, wp_xpr, wp_ite, wp_for, wp_whl, wp_tru, sk_rt, sk_bk, sk_ct, lk_nx, lk_ct, lk_bk, lk_rt, ik_true, ik_false, ev, evs, evo, evi, evc, evd, keyK_str, keyK_int, retK_rt, retK_nx, iteK_true, iteK_false, truK0_bl, truK0_int, truK0_tup, truK0_frl, truK0_non, scK_bl, wp_callK, cmpO, cmp_eq, cmp_ne, cmp_lt, cmp_le, cmp_gt, cmp_ge, cmp_isN, cmp_notN, eqD_int, eqD_str, bin_int, binI_add, binI_sub, of_some, negK_int, setK_nm, setK_tp, setsK, asg, asgs, tgsOf, intK, rngK, srcK, subO, startE, newR, new, bi_int, bi_abs, bi_len_tup, bi_len_frl,  Option.map_some, Option.map_none, Option.bind_some, List.map_cons, List.map_nil, List.length_cons, List.length_nil, List.length_append, List.length_map, List.length_set, List.cons_append, List.nil_append, List.getElem?_cons_zero, List.getElem?_cons_succ, List.set_cons_zero, List.set_cons_succ, if_true, if_false, Bool.false_eq_true, Bool.true_eq_false, Bool.not_true, Bool.not_false, decide_true, decide_false, Nat.reduceEqDiff, Nat.zero_lt_succ, List.replicate_succ, List.replicate_zero, Nat.reduceSub, Nat.reduceAdd, Nat.reduceLT, Nat.reduceLeDiff, Nat.zero_le, id, lstK_ok, tupK_ok, bi_repr_bl]
  refine (cuts_ok (n := 18) (by omega)).mono ?_
  rintro w st7 ⟨p7, rfl, e7, -, g7⟩
  have q7 := in_cuts (a := a) ge gf g7
  try simp -implicitDefEqProofs only [wp_ok, wp_bind, wp_noexc, wp_seq, wp_skip, wp_brk, wp_cnt, wp_retN, wp_ret, wp_set, wp_par, wp_unp, wp_sto, wp_xpr, wp_ite, wp_for, wp_whl, wp_tru, sk_rt, sk_bk, sk_ct, lk_nx, lk_ct, lk_bk, lk_rt, ik_true, ik_false, ev, evs, evo, evi, evc, evd, keyK_str, keyK_int, retK_rt, retK_nx, iteK_true, iteK_false, truK0_bl, truK0_int, truK0_tup, truK0_frl, truK0_non, scK_bl, wp_callK, cmpO, cmp_eq, cmp_ne, cmp_lt, cmp_le, cmp_gt, cmp_ge, cmp_isN, cmp_notN, eqD_int, eqD_str, bin_int, binI_add, binI_sub, of_some, negK_int, setK_nm, setK_tp, setsK, asg, asgs, tgsOf, intK, rngK, srcK, subO, startE, newR, new, bi_int, bi_abs, bi_len_tup, bi_len_frl,  Option.map_some, Option.map_none, Option.bind_some, List.map_cons, List.map_nil, List.length_cons, List.length_nil, List.length_append, List.length_map, List.length_set, List.cons_append, List.nil_append, List.getElem?_cons_zero, List.getElem?_cons_succ, List.set_cons_zero, List.set_cons_succ, if_true, if_false, Bool.false_eq_true, Bool.true_eq_false, Bool.not_true, Bool.not_false, decide_true, decide_false, Nat.reduceEqDiff, Nat.zero_lt_succ, List.replicate_succ, List.replicate_zero, Nat.reduceSub, Nat.reduceAdd, Nat.reduceLT, Nat.reduceLeDiff, Nat.zero_le, id, lstK_ok, tupK_ok, cmp_in, q7, bi_repr_bl, beq_str]
  rw [sk_nx]
  have D7 := D4.ext (e5.trans e7)
  -- they agree
  try simp -implicitDefEqProofs only [wp_ok, wp_bind, wp_noexc, wp_seq, wp_skip, wp_brk, wp_cnt, wp_retN, wp_ret, wp_set, wp_par, wp_unp, wp_sto, wp_xpr, wp_ite, wp_for, wp_whl, wp_tru, sk_rt, sk_bk, sk_ct, lk_nx, lk_ct, lk_bk, lk_rt, ik_true, ik_false, ev, evs, evo, evi, evc, evd, keyK_str, keyK_int, retK_rt, retK_nx, iteK_true, iteK_false, truK0_bl, truK0_int, truK0_tup, truK0_frl, truK0_non, scK_bl, wp_callK, cmpO, cmp_eq, cmp_ne, cmp_lt, cmp_le, cmp_gt, cmp_ge, cmp_isN, cmp_notN, eqD_int, eqD_str, bin_int, binI_add, binI_sub, of_some, negK_int, setK_nm, setK_tp, setsK, asg, asgs, tgsOf, intK, rngK, srcK, subO, startE, newR, new, bi_int, bi_abs, bi_len_tup, bi_len_frl,  Option.map_some, Option.map_none, Option.bind_some, List.map_cons, List.map_nil, List.length_cons, List.length_nil, List.length_append, List.length_map, List.length_set, List.cons_append, List.nil_append, List.getElem?_cons_zero, List.getElem?_cons_succ, List.set_cons_zero, List.set_cons_succ, if_true, if_false, Bool.false_eq_true, Bool.true_eq_false, Bool.not_true, Bool.not_false, decide_true, decide_false, Nat.reduceEqDiff, Nat.zero_lt_succ, List.replicate_succ, List.replicate_zero, Nat.reduceSub, Nat.reduceAdd, Nat.reduceLT, Nat.reduceLeDiff, Nat.zero_le, id, lstK_ok, tupK_ok, hp3]
  refine (agree_ok (n := 17) ge gf).mono ?_
  rintro r st8 ⟨rfl, rfl⟩
  try simp -implicitDefEqProofs only [wp_ok, wp_bind, wp_noexc, wp_seq, wp_skip, wp_brk, wp_cnt, wp_retN, wp_ret, wp_set, wp_par, wp_unp, wp_sto, wp_xpr, wp_ite, wp_for, wp_whl, wp_tru, sk_rt, sk_bk, sk_ct, lk_nx, lk_ct, lk_bk, lk_rt, ik_true, ik_false, ev, evs, evo, evi, evc, evd, keyK_str, keyK_int, retK_rt, retK_nx, iteK_true, iteK_false, truK0_bl, truK0_int, truK0_tup, truK0_frl, truK0_non, scK_bl, wp_callK, cmpO, cmp_eq, cmp_ne, cmp_lt, cmp_le, cmp_gt, cmp_ge, cmp_isN, cmp_notN, eqD_int, eqD_str, bin_int, binI_add, binI_sub, of_some, negK_int, setK_nm, setK_tp, setsK, asg, asgs, tgsOf, intK, rngK, srcK, subO, startE, newR, new, bi_int, bi_abs, bi_len_tup, bi_len_frl,  Option.map_some, Option.map_none, Option.bind_some, List.map_cons, List.map_nil, List.length_cons, List.length_nil, List.length_append, List.length_map, List.length_set, List.cons_append, List.nil_append, List.getElem?_cons_zero, List.getElem?_cons_succ, List.set_cons_zero, List.set_cons_succ, if_true, if_false, Bool.false_eq_true, Bool.true_eq_false, Bool.not_true, Bool.not_false, decide_true, decide_false, Nat.reduceEqDiff, Nat.zero_lt_succ, List.replicate_succ, List.replicate_zero, Nat.reduceSub, Nat.reduceAdd, Nat.reduceLT, Nat.reduceLeDiff, Nat.zero_le, id, lstK_ok, tupK_ok, bi_repr_bl]
  refine (cuts_ok (n := 18) (by omega)).mono ?_
  rintro w st9 ⟨p9, rfl, e9, -, g9⟩
  have q9 := in_cuts (a := a) ge gf g9
  have D9 := D7.ext e9
  have rest : ∀ st10, Deal st10 d c → Sk (Ci.run tab 19) ((S.par [5, 6] (Es.cons (E.call 10 none (Es.cons (E.var 1) (Es.cons (E.call 14 none (Es.cons (E.var 3) Es.nil)) Es.nil))) (Es.cons (E.call 10 none (Es.cons (E.var 1) (Es.cons (E.call 14 none (Es.cons (E.var 3) Es.nil)) Es.nil))) Es.nil))).seq
      (S.ite ((E.call 7 none (Es.cons (E.var 5) (Es.cons (E.var 6) Es.nil))).not.or (E.call 6 none (Es.cons (E.call 10 none (Es.cons (E.var 1) (Es.cons (E.call 14 none (Es.cons (E.var 5) Es.nil)) Es.nil))) (Es.cons (E.var 3) Es.nil))).not) (S.ret (E.con (W.bl false))) S.skip))
      (Lk (fun e st' => EnOk ns d (k + 1) e ∧ Deal st' d c) Q) (.nx [some (.frl (ns.map .int)), some (.ref d), x2, some (rw a e), some (rw b f), x5, x6, x7, x8, x9]) st10 := by
    intro st10 D10
    rw [sk_nx]
    have oc : ∀ {b : List Int} {f : W} {st st' : Sto} {p : Nat}, Deal st d c → b.length ≤ 8 → Ext st st' → st.length ≤ p → st'[p]? = some (.lst (cutsL b f)) → Wp (Ci.run tab 19 10 [.ref d, .ref p] st') (OfQ st' d c (cutsL b f)) := fun {b f st st' p} D hb ex hp g =>
      of_ok (n := 17) (f := 9) (i := 10) rfl rfl (D.ext ex) (own_of D hp g) (by simp [cutsL]) (by simp [cutsL]; omega)
    try simp -implicitDefEqProofs only [wp_ok, wp_bind, wp_noexc, wp_seq, wp_skip, wp_brk, wp_cnt, wp_retN, wp_ret, wp_set, wp_par, wp_unp, wp_sto, wp_xpr, wp_ite, wp_for, wp_whl, wp_tru, sk_rt, sk_bk, sk_ct, lk_nx, lk_ct, lk_bk, lk_rt, ik_true, ik_false, ev, evs, evo, evi, evc, evd, keyK_str, keyK_int, retK_rt, retK_nx, iteK_true, iteK_false, truK0_bl, truK0_int, truK0_tup, truK0_frl, truK0_non, scK_bl, wp_callK, cmpO, cmp_eq, cmp_ne, cmp_lt, cmp_le, cmp_gt, cmp_ge, cmp_isN, cmp_notN, eqD_int, eqD_str, bin_int, binI_add, binI_sub, of_some, negK_int, setK_nm, setK_tp, setsK, asg, asgs, tgsOf, intK, rngK, srcK, subO, startE, newR, new, bi_int, bi_abs, bi_len_tup, bi_len_frl,  Option.map_some, Option.map_none, Option.bind_some, List.map_cons, List.map_nil, List.length_cons, List.length_nil, List.length_append, List.length_map, List.length_set, List.cons_append, List.nil_append, List.getElem?_cons_zero, List.getElem?_cons_succ, List.set_cons_zero, List.set_cons_succ, if_true, if_false, Bool.false_eq_true, Bool.true_eq_false, Bool.not_true, Bool.not_false, decide_true, decide_false, Nat.reduceEqDiff, Nat.zero_lt_succ, List.replicate_succ, List.replicate_zero, Nat.reduceSub, Nat.reduceAdd, Nat.reduceLT, Nat.reduceLeDiff, Nat.zero_le, id, lstK_ok, tupK_ok]
    refine (cuts_ok (n := 18) (by omega)).mono ?_
    rintro w st11 ⟨p11, rfl, e11, l11, g11⟩
    try simp -implicitDefEqProofs only [wp_ok, wp_bind, wp_noexc, wp_seq, wp_skip, wp_brk, wp_cnt, wp_retN, wp_ret, wp_set, wp_par, wp_unp, wp_sto, wp_xpr, wp_ite, wp_for, wp_whl, wp_tru, sk_rt, sk_bk, sk_ct, lk_nx, lk_ct, lk_bk, lk_rt, ik_true, ik_false, ev, evs, evo, evi, evc, evd, keyK_str, keyK_int, retK_rt, retK_nx, iteK_true, iteK_false, truK0_bl, truK0_int, truK0_tup, truK0_frl, truK0_non, scK_bl, wp_callK, cmpO, cmp_eq, cmp_ne, cmp_lt, cmp_le, cmp_gt, cmp_ge, cmp_isN, cmp_notN, eqD_int, eqD_str, bin_int, binI_add, binI_sub, of_some, negK_int, setK_nm, setK_tp, setsK, asg, asgs, tgsOf, intK, rngK, srcK, subO, startE, newR, new, bi_int, bi_abs, bi_len_tup, bi_len_frl,  Option.map_some, Option.map_none, Option.bind_some, List.map_cons, List.map_nil, List.length_cons, List.length_nil, List.length_append, List.length_map, List.length_set, List.cons_append, List.nil_append, List.getElem?_cons_zero, List.getElem?_cons_succ, List.set_cons_zero, List.set_cons_succ, if_true, if_false, Bool.false_eq_true, Bool.true_eq_false, Bool.not_true, Bool.not_false, decide_true, decide_false, Nat.reduceEqDiff, Nat.zero_lt_succ, List.replicate_succ, List.replicate_zero, Nat.reduceSub, Nat.reduceAdd, Nat.reduceLT, Nat.reduceLeDiff, Nat.zero_le, id, lstK_ok, tupK_ok]
    refine (oc D10 al e11 l11 g11).mono ?_
    rintro w st12 ⟨hw, D12, -⟩
    obtain ⟨a1, e1, rfl, c1⟩ := cut_mem hw
    try simp -implicitDefEqProofs only [wp_ok, wp_bind, wp_noexc, wp_seq, wp_skip, wp_brk, wp_cnt, wp_retN, wp_ret, wp_set, wp_par, wp_unp, wp_sto, wp_xpr, wp_ite, wp_for, wp_whl, wp_tru, sk_rt, sk_bk, sk_ct, lk_nx, lk_ct, lk_bk, lk_rt, ik_true, ik_false, ev, evs, evo, evi, evc, evd, keyK_str, keyK_int, retK_rt, retK_nx, iteK_true, iteK_false, truK0_bl, truK0_int, truK0_tup, truK0_frl, truK0_non, scK_bl, wp_callK, cmpO, cmp_eq, cmp_ne, cmp_lt, cmp_le, cmp_gt, cmp_ge, cmp_isN, cmp_notN, eqD_int, eqD_str, bin_int, binI_add, binI_sub, of_some, negK_int, setK_nm, setK_tp, setsK, asg, asgs, tgsOf, intK, rngK, srcK, subO, startE, newR, new, bi_int, bi_abs, bi_len_tup, bi_len_frl,  Option.map_some, Option.map_none, Option.bind_some, List.map_cons, List.map_nil, List.length_cons, List.length_nil, List.length_append, List.length_map, List.length_set, List.cons_append, List.nil_append, List.getElem?_cons_zero, List.getElem?_cons_succ, List.set_cons_zero, List.set_cons_succ, if_true, if_false, Bool.false_eq_true, Bool.true_eq_false, Bool.not_true, Bool.not_false, decide_true, decide_false, Nat.reduceEqDiff, Nat.zero_lt_succ, List.replicate_succ, List.replicate_zero, Nat.reduceSub, Nat.reduceAdd, Nat.reduceLT, Nat.reduceLeDiff, Nat.zero_le, id, lstK_ok, tupK_ok]
    refine (cuts_ok (n := 18) (by omega)).mono ?_
    rintro w st13 ⟨p13, rfl, e13, l13, g13⟩
    try simp -implicitDefEqProofs only [wp_ok, wp_bind, wp_noexc, wp_seq, wp_skip, wp_brk, wp_cnt, wp_retN, wp_ret, wp_set, wp_par, wp_unp, wp_sto, wp_xpr, wp_ite, wp_for, wp_whl, wp_tru, sk_rt, sk_bk, sk_ct, lk_nx, lk_ct, lk_bk, lk_rt, ik_true, ik_false, ev, evs, evo, evi, evc, evd, keyK_str, keyK_int, retK_rt, retK_nx, iteK_true, iteK_false, truK0_bl, truK0_int, truK0_tup, truK0_frl, truK0_non, scK_bl, wp_callK, cmpO, cmp_eq, cmp_ne, cmp_lt, cmp_le, cmp_gt, cmp_ge, cmp_isN, cmp_notN, eqD_int, eqD_str, bin_int, binI_add, binI_sub, of_some, negK_int, setK_nm, setK_tp, setsK, asg, asgs, tgsOf, intK, rngK, srcK, subO, startE, newR, new, bi_int, bi_abs, bi_len_tup, bi_len_frl,  Option.map_some, Option.map_none, Option.bind_some, List.map_cons, List.map_nil, List.length_cons, List.length_nil, List.length_append, List.length_map, List.length_set, List.cons_append, List.nil_append, List.getElem?_cons_zero, List.getElem?_cons_succ, List.set_cons_zero, List.set_cons_succ, if_true, if_false, Bool.false_eq_true, Bool.true_eq_false, Bool.not_true, Bool.not_false, decide_true, decide_false, Nat.reduceEqDiff, Nat.zero_lt_succ, List.replicate_succ, List.replicate_zero, Nat.reduceSub, Nat.reduceAdd, Nat.reduceLT, Nat.reduceLeDiff, Nat.zero_le, id, lstK_ok, tupK_ok]
    refine (oc D12 al e13 l13 g13).mono ?_
    rintro w st14 ⟨hw, D14, -⟩
    obtain ⟨a2, e2, rfl, c2⟩ := cut_mem hw
    try simp -implicitDefEqProofs only [wp_ok, wp_bind, wp_noexc, wp_seq, wp_skip, wp_brk, wp_cnt, wp_retN, wp_ret, wp_set, wp_par, wp_unp, wp_sto, wp_xpr, wp_ite, wp_for, wp_whl, wp_tru, sk_rt, sk_bk, sk_ct, lk_nx, lk_ct, lk_bk, lk_rt, ik_true, ik_false, ev, evs, evo, evi, evc, evd, keyK_str, keyK_int, retK_rt, retK_nx, iteK_true, iteK_false, truK0_bl, truK0_int, truK0_tup, truK0_frl, truK0_non, scK_bl, wp_callK, cmpO, cmp_eq, cmp_ne, cmp_lt, cmp_le, cmp_gt, cmp_ge, cmp_isN, cmp_notN, eqD_int, eqD_str, bin_int, binI_add, binI_sub, of_some, negK_int, setK_nm, setK_tp, setsK, asg, asgs, tgsOf, intK, rngK, srcK, subO, startE, newR, new, bi_int, bi_abs, bi_len_tup, bi_len_frl,  Option.map_some, Option.map_none, Option.bind_some, List.map_cons, List.map_nil, List.length_cons, List.length_nil, List.length_append, List.length_map, List.length_set, List.cons_append, List.nil_append, List.getElem?_cons_zero, List.getElem?_cons_succ, List.set_cons_zero, List.set_cons_succ, if_true, if_false, Bool.false_eq_true, Bool.true_eq_false, Bool.not_true, Bool.not_false, decide_true, decide_false, Nat.reduceEqDiff, Nat.zero_lt_succ, List.replicate_succ, List.replicate_zero, Nat.reduceSub, Nat.reduceAdd, Nat.reduceLT, Nat.reduceLeDiff, Nat.zero_le, id, lstK_ok, tupK_ok]
    rw [sk_nx]
    try simp -implicitDefEqProofs only [wp_ok, wp_bind, wp_noexc, wp_seq, wp_skip, wp_brk, wp_cnt, wp_retN, wp_ret, wp_set, wp_par, wp_unp, wp_sto, wp_xpr, wp_ite, wp_for, wp_whl, wp_tru, sk_rt, sk_bk, sk_ct, lk_nx, lk_ct, lk_bk, lk_rt, ik_true, ik_false, ev, evs, evo, evi, evc, evd, keyK_str, keyK_int, retK_rt, retK_nx, iteK_true, iteK_false, truK0_bl, truK0_int, truK0_tup, truK0_frl, truK0_non, scK_bl, wp_callK, cmpO, cmp_eq, cmp_ne, cmp_lt, cmp_le, cmp_gt, cmp_ge, cmp_isN, cmp_notN, eqD_int, eqD_str, bin_int, binI_add, binI_sub, of_some, negK_int, setK_nm, setK_tp, setsK, asg, asgs, tgsOf, intK, rngK, srcK, subO, startE, newR, new, bi_int, bi_abs, bi_len_tup, bi_len_frl,  Option.map_some, Option.map_none, Option.bind_some, List.map_cons, List.map_nil, List.length_cons, List.length_nil, List.length_append, List.length_map, List.length_set, List.cons_append, List.nil_append, List.getElem?_cons_zero, List.getElem?_cons_succ, List.set_cons_zero, List.set_cons_succ, if_true, if_false, Bool.false_eq_true, Bool.true_eq_false, Bool.not_true, Bool.not_false, decide_true, decide_false, Nat.reduceEqDiff, Nat.zero_lt_succ, List.replicate_succ, List.replicate_zero, Nat.reduceSub, Nat.reduceAdd, Nat.reduceLT, Nat.reduceLeDiff, Nat.zero_le, id, lstK_ok, tupK_ok]
    refine (agree_ok (n := 17) (c1.ge ge) (c2.ge ge)).mono ?_
    rintro r st15 ⟨rfl, rfl⟩
    rw [cut_agree c1 c2 ge]
    try simp -implicitDefEqProofs only [wp_ok, wp_bind, wp_noexc, wp_seq, wp_skip, wp_brk, wp_cnt, wp_retN, wp_ret, wp_set, wp_par, wp_unp, wp_sto, wp_xpr, wp_ite, wp_for, wp_whl, wp_tru, sk_rt, sk_bk, sk_ct, lk_nx, lk_ct, lk_bk, lk_rt, ik_true, ik_false, ev, evs, evo, evi, evc, evd, keyK_str, keyK_int, retK_rt, retK_nx, iteK_true, iteK_false, truK0_bl, truK0_int, truK0_tup, truK0_frl, truK0_non, scK_bl, wp_callK, cmpO, cmp_eq, cmp_ne, cmp_lt, cmp_le, cmp_gt, cmp_ge, cmp_isN, cmp_notN, eqD_int, eqD_str, bin_int, binI_add, binI_sub, of_some, negK_int, setK_nm, setK_tp, setsK, asg, asgs, tgsOf, intK, rngK, srcK, subO, startE, newR, new, bi_int, bi_abs, bi_len_tup, bi_len_frl,  Option.map_some, Option.map_none, Option.bind_some, List.map_cons, List.map_nil, List.length_cons, List.length_nil, List.length_append, List.length_map, List.length_set, List.cons_append, List.nil_append, List.getElem?_cons_zero, List.getElem?_cons_succ, List.set_cons_zero, List.set_cons_succ, if_true, if_false, Bool.false_eq_true, Bool.true_eq_false, Bool.not_true, Bool.not_false, decide_true, decide_false, Nat.reduceEqDiff, Nat.zero_lt_succ, List.replicate_succ, List.replicate_zero, Nat.reduceSub, Nat.reduceAdd, Nat.reduceLT, Nat.reduceLeDiff, Nat.zero_le, id, lstK_ok, tupK_ok]
    have l1 := c1.len
    refine (cuts_ok (n := 18) (by omega)).mono ?_
    rintro w st16 ⟨p16, rfl, e16, l16, g16⟩
    try simp -implicitDefEqProofs only [wp_ok, wp_bind, wp_noexc, wp_seq, wp_skip, wp_brk, wp_cnt, wp_retN, wp_ret, wp_set, wp_par, wp_unp, wp_sto, wp_xpr, wp_ite, wp_for, wp_whl, wp_tru, sk_rt, sk_bk, sk_ct, lk_nx, lk_ct, lk_bk, lk_rt, ik_true, ik_false, ev, evs, evo, evi, evc, evd, keyK_str, keyK_int, retK_rt, retK_nx, iteK_true, iteK_false, truK0_bl, truK0_int, truK0_tup, truK0_frl, truK0_non, scK_bl, wp_callK, cmpO, cmp_eq, cmp_ne, cmp_lt, cmp_le, cmp_gt, cmp_ge, cmp_isN, cmp_notN, eqD_int, eqD_str, bin_int, binI_add, binI_sub, of_some, negK_int, setK_nm, setK_tp, setsK, asg, asgs, tgsOf, intK, rngK, srcK, subO, startE, newR, new, bi_int, bi_abs, bi_len_tup, bi_len_frl,  Option.map_some, Option.map_none, Option.bind_some, List.map_cons, List.map_nil, List.length_cons, List.length_nil, List.length_append, List.length_map, List.length_set, List.cons_append, List.nil_append, List.getElem?_cons_zero, List.getElem?_cons_succ, List.set_cons_zero, List.set_cons_succ, if_true, if_false, Bool.false_eq_true, Bool.true_eq_false, Bool.not_true, Bool.not_false, decide_true, decide_false, Nat.reduceEqDiff, Nat.zero_lt_succ, List.replicate_succ, List.replicate_zero, Nat.reduceSub, Nat.reduceAdd, Nat.reduceLT, Nat.reduceLeDiff, Nat.zero_le, id, lstK_ok, tupK_ok]
    refine (oc D14 (by omega) e16 l16 g16).mono ?_
    rintro w st17 ⟨hw, D17, -⟩
    obtain ⟨a3, e3, rfl, c3⟩ := cut_mem hw
    have c4 := cut_cut c1 c3
    try simp -implicitDefEqProofs only [wp_ok, wp_bind, wp_noexc, wp_seq, wp_skip, wp_brk, wp_cnt, wp_retN, wp_ret, wp_set, wp_par, wp_unp, wp_sto, wp_xpr, wp_ite, wp_for, wp_whl, wp_tru, sk_rt, sk_bk, sk_ct, lk_nx, lk_ct, lk_bk, lk_rt, ik_true, ik_false, ev, evs, evo, evi, evc, evd, keyK_str, keyK_int, retK_rt, retK_nx, iteK_true, iteK_false, truK0_bl, truK0_int, truK0_tup, truK0_frl, truK0_non, scK_bl, wp_callK, cmpO, cmp_eq, cmp_ne, cmp_lt, cmp_le, cmp_gt, cmp_ge, cmp_isN, cmp_notN, eqD_int, eqD_str, bin_int, binI_add, binI_sub, of_some, negK_int, setK_nm, setK_tp, setsK, asg, asgs, tgsOf, intK, rngK, srcK, subO, startE, newR, new, bi_int, bi_abs, bi_len_tup, bi_len_frl,  Option.map_some, Option.map_none, Option.bind_some, List.map_cons, List.map_nil, List.length_cons, List.length_nil, List.length_append, List.length_map, List.length_set, List.cons_append, List.nil_append, List.getElem?_cons_zero, List.getElem?_cons_succ, List.set_cons_zero, List.set_cons_succ, if_true, if_false, Bool.false_eq_true, Bool.true_eq_false, Bool.not_true, Bool.not_false, decide_true, decide_false, Nat.reduceEqDiff, Nat.zero_lt_succ, List.replicate_succ, List.replicate_zero, Nat.reduceSub, Nat.reduceAdd, Nat.reduceLT, Nat.reduceLeDiff, Nat.zero_le, id, lstK_ok, tupK_ok]
    refine (beg_ok (n := 18) (c4.ge ge) ge).mono ?_
    rintro r st18 ⟨rfl, rfl⟩
    rw [cut_beg c4 ge]
    try simp -implicitDefEqProofs only [wp_ok, wp_bind, wp_noexc, wp_seq, wp_skip, wp_brk, wp_cnt, wp_retN, wp_ret, wp_set, wp_par, wp_unp, wp_sto, wp_xpr, wp_ite, wp_for, wp_whl, wp_tru, sk_rt, sk_bk, sk_ct, lk_nx, lk_ct, lk_bk, lk_rt, ik_true, ik_false, ev, evs, evo, evi, evc, evd, keyK_str, keyK_int, retK_rt, retK_nx, iteK_true, iteK_false, truK0_bl, truK0_int, truK0_tup, truK0_frl, truK0_non, scK_bl, wp_callK, cmpO, cmp_eq, cmp_ne, cmp_lt, cmp_le, cmp_gt, cmp_ge, cmp_isN, cmp_notN, eqD_int, eqD_str, bin_int, binI_add, binI_sub, of_some, negK_int, setK_nm, setK_tp, setsK, asg, asgs, tgsOf, intK, rngK, srcK, subO, startE, newR, new, bi_int, bi_abs, bi_len_tup, bi_len_frl,  Option.map_some, Option.map_none, Option.bind_some, List.map_cons, List.map_nil, List.length_cons, List.length_nil, List.length_append, List.length_map, List.length_set, List.cons_append, List.nil_append, List.getElem?_cons_zero, List.getElem?_cons_succ, List.set_cons_zero, List.set_cons_succ, if_true, if_false, Bool.false_eq_true, Bool.true_eq_false, Bool.not_true, Bool.not_false, decide_true, decide_false, Nat.reduceEqDiff, Nat.zero_lt_succ, List.replicate_succ, List.replicate_zero, Nat.reduceSub, Nat.reduceAdd, Nat.reduceLT, Nat.reduceLeDiff, Nat.zero_le, id, lstK_ok, tupK_ok]
    exact ⟨⟨_, _, _, _, _, _, _, _, rfl, fun _ => ⟨a, e, rfl, ge, a0, al⟩⟩, D17⟩
  try simp -implicitDefEqProofs only [wp_ok, wp_bind, wp_noexc, wp_seq, wp_skip, wp_brk, wp_cnt, wp_retN, wp_ret, wp_set, wp_par, wp_unp, wp_sto, wp_xpr, wp_ite, wp_for, wp_whl, wp_tru, sk_rt, sk_bk, sk_ct, lk_nx, lk_ct, lk_bk, lk_rt, ik_true, ik_false, ev, evs, evo, evi, evc, evd, keyK_str, keyK_int, retK_rt, retK_nx, iteK_true, iteK_false, truK0_bl, truK0_int, truK0_tup, truK0_frl, truK0_non, scK_bl, wp_callK, cmpO, cmp_eq, cmp_ne, cmp_lt, cmp_le, cmp_gt, cmp_ge, cmp_isN, cmp_notN, eqD_int, eqD_str, bin_int, binI_add, binI_sub, of_some, negK_int, setK_nm, setK_tp, setsK, asg, asgs, tgsOf, intK, rngK, srcK, subO, startE, newR, new, bi_int, bi_abs, bi_len_tup, bi_len_frl,  Option.map_some, Option.map_none, Option.bind_some, List.map_cons, List.map_nil, List.length_cons, List.length_nil, List.length_append, List.length_map, List.length_set, List.cons_append, List.nil_append, List.getElem?_cons_zero, List.getElem?_cons_succ, List.set_cons_zero, List.set_cons_succ, if_true, if_false, Bool.false_eq_true, Bool.true_eq_false, Bool.not_true, Bool.not_false, decide_true, decide_false, Nat.reduceEqDiff, Nat.zero_lt_succ, List.replicate_succ, List.replicate_zero, Nat.reduceSub, Nat.reduceAdd, Nat.reduceLT, Nat.reduceLeDiff, Nat.zero_le, id, lstK_ok, tupK_ok, cmp_in, q9]
  cases beg a e b f with
  | true =>
    try simp -implicitDefEqProofs only [wp_ok, wp_bind, wp_noexc, wp_seq, wp_skip, wp_brk, wp_cnt, wp_retN, wp_ret, wp_set, wp_par, wp_unp, wp_sto, wp_xpr, wp_ite, wp_for, wp_whl, wp_tru, sk_rt, sk_bk, sk_ct, lk_nx, lk_ct, lk_bk, lk_rt, ik_true, ik_false, ev, evs, evo, evi, evc, evd, keyK_str, keyK_int, retK_rt, retK_nx, iteK_true, iteK_false, truK0_bl, truK0_int, truK0_tup, truK0_frl, truK0_non, scK_bl, wp_callK, cmpO, cmp_eq, cmp_ne, cmp_lt, cmp_le, cmp_gt, cmp_ge, cmp_isN, cmp_notN, eqD_int, eqD_str, bin_int, binI_add, binI_sub, of_some, negK_int, setK_nm, setK_tp, setsK, asg, asgs, tgsOf, intK, rngK, srcK, subO, startE, newR, new, bi_int, bi_abs, bi_len_tup, bi_len_frl,  Option.map_some, Option.map_none, Option.bind_some, List.map_cons, List.map_nil, List.length_cons, List.length_nil, List.length_append, List.length_map, List.length_set, List.cons_append, List.nil_append, List.getElem?_cons_zero, List.getElem?_cons_succ, List.set_cons_zero, List.set_cons_succ, if_true, if_false, Bool.false_eq_true, Bool.true_eq_false, Bool.not_true, Bool.not_false, decide_true, decide_false, Nat.reduceEqDiff, Nat.zero_lt_succ, List.replicate_succ, List.replicate_zero, Nat.reduceSub, Nat.reduceAdd, Nat.reduceLT, Nat.reduceLeDiff, Nat.zero_le, id, lstK_ok, tupK_ok, bi_repr_bl, beq_str, Bool.true_or]
    exact rest _ D9
  | false =>
    try simp -implicitDefEqProofs only [wp_ok, wp_bind, wp_noexc, wp_seq, wp_skip, wp_brk, wp_cnt, wp_retN, wp_ret, wp_set, wp_par, wp_unp, wp_sto, wp_xpr, wp_ite, wp_for, wp_whl, wp_tru, sk_rt, sk_bk, sk_ct, lk_nx, lk_ct, lk_bk, lk_rt, ik_true, ik_false, ev, evs, evo, evi, evc, evd, keyK_str, keyK_int, retK_rt, retK_nx, iteK_true, iteK_false, truK0_bl, truK0_int, truK0_tup, truK0_frl, truK0_non, scK_bl, wp_callK, cmpO, cmp_eq, cmp_ne, cmp_lt, cmp_le, cmp_gt, cmp_ge, cmp_isN, cmp_notN, eqD_int, eqD_str, bin_int, binI_add, binI_sub, of_some, negK_int, setK_nm, setK_tp, setsK, asg, asgs, tgsOf, intK, rngK, srcK, subO, startE, newR, new, bi_int, bi_abs, bi_len_tup, bi_len_frl,  Option.map_some, Option.map_none, Option.bind_some, List.map_cons, List.map_nil, List.length_cons, List.length_nil, List.length_append, List.length_map, List.length_set, List.cons_append, List.nil_append, List.getElem?_cons_zero, List.getElem?_cons_succ, List.set_cons_zero, List.set_cons_succ, if_true, if_false, Bool.false_eq_true, Bool.true_eq_false, Bool.not_true, Bool.not_false, decide_true, decide_false, Nat.reduceEqDiff, Nat.zero_lt_succ, List.replicate_succ, List.replicate_zero, Nat.reduceSub, Nat.reduceAdd, Nat.reduceLT, Nat.reduceLeDiff, Nat.zero_le, id, lstK_ok, tupK_ok]
    refine (cuts_ok (n := 18) (by omega)).mono ?_
    rintro w st10 ⟨p10, rfl, e10, -, g10⟩
    have q10 := in_cuts (a := b) gf ge g10
    try simp -implicitDefEqProofs only [wp_ok, wp_bind, wp_noexc, wp_seq, wp_skip, wp_brk, wp_cnt, wp_retN, wp_ret, wp_set, wp_par, wp_unp, wp_sto, wp_xpr, wp_ite, wp_for, wp_whl, wp_tru, sk_rt, sk_bk, sk_ct, lk_nx, lk_ct, lk_bk, lk_rt, ik_true, ik_false, ev, evs, evo, evi, evc, evd, keyK_str, keyK_int, retK_rt, retK_nx, iteK_true, iteK_false, truK0_bl, truK0_int, truK0_tup, truK0_frl, truK0_non, scK_bl, wp_callK, cmpO, cmp_eq, cmp_ne, cmp_lt, cmp_le, cmp_gt, cmp_ge, cmp_isN, cmp_notN, eqD_int, eqD_str, bin_int, binI_add, binI_sub, of_some, negK_int, setK_nm, setK_tp, setsK, asg, asgs, tgsOf, intK, rngK, srcK, subO, startE, newR, new, bi_int, bi_abs, bi_len_tup, bi_len_frl,  Option.map_some, Option.map_none, Option.bind_some, List.map_cons, List.map_nil, List.length_cons, List.length_nil, List.length_append, List.length_map, List.length_set, List.cons_append, List.nil_append, List.getElem?_cons_zero, List.getElem?_cons_succ, List.set_cons_zero, List.set_cons_succ, if_true, if_false, Bool.false_eq_true, Bool.true_eq_false, Bool.not_true, Bool.not_false, decide_true, decide_false, Nat.reduceEqDiff, Nat.zero_lt_succ, List.replicate_succ, List.replicate_zero, Nat.reduceSub, Nat.reduceAdd, Nat.reduceLT, Nat.reduceLeDiff, Nat.zero_le, id, lstK_ok, tupK_ok, cmp_in, q10, bi_repr_bl, beq_str, Bool.false_or]
    exact rest _ (D9.ext e10)
end K03
/-! K03e: things that are no runs; the law holds. -/
namespace K03
open PySem Ci Law

section
variable {n : Nat} {st : Sto} {a : List Int} {e : W}
theorem no_end {w2 : W} (h0 : a.length ≤ 1000) (he : ∀ st', Ext st st' → Wp (Ci.run tab (n + 3) 4 [w2] st') fun r st'' => r = .bl false ∧ st'' = st') : Wp (Ci.run tab (n + 4) 5 [.tup [.tup (a.map .int), w2]] st) fun r _ => r = .bl false := by
  refine (run_of (b := false) (atoms_ints a) (by rw [List.length_map]; exact h0) he).mono ?_
  rintro r st' ⟨rfl, -⟩
  rw [Bool.and_false]
theorem no_word {w : W} (h0 : a.length ≤ 900) (hw : Atom w) (hn : isNum w = false) (g : GE e) : Wp (Ci.run tab (n + 4) 5 [.tup [.tup (a.map .int ++ [w]), e]] st) fun r _ => r = .bl false := by
  refine (run_of (b := true) (fun x hx => ?_) (by rw [List.length_append, List.length_map]; show _ + 1 ≤ _; omega) fun st' _ => end_good g).mono ?_
  · rcases List.mem_append.mp hx with hx | hx
    · exact atoms_ints a x hx
    · rw [List.mem_singleton.mp hx]; exact hw
  rintro r st' ⟨rfl, -⟩
  rw [List.all_append]
  simp [hn]
end
theorem law_ok (ns : List Int) (hl : ns.length ≤ 63) : ∃ st, Ci.run tab 20 15 [.frl (ns.map .int)] [] = .ok (.bl true) st := by
  have core : Wp (Ci.run tab (19 + 1) 15 [.frl (ns.map .int)] []) fun w _ => w = .bl true := by
    refine wp_run (d := d15) rfl rfl ?_
    show Wp (ex _ c15 _ _) _
    unfold c15
    try simp -implicitDefEqProofs only [wp_ok, wp_bind, wp_noexc, wp_seq, wp_skip, wp_brk, wp_cnt, wp_retN, wp_ret, wp_set, wp_par, wp_unp, wp_sto, wp_xpr, wp_ite, wp_for, wp_whl, wp_tru, sk_rt, sk_bk, sk_ct, lk_nx, lk_ct, lk_bk, lk_rt, ik_true, ik_false, ev, evs, evo, evi, evc, evd, keyK_str, keyK_int, retK_rt, retK_nx, iteK_true, iteK_false, truK0_bl, truK0_int, truK0_tup, truK0_frl, truK0_non, scK_bl, wp_callK, cmpO, cmp_eq, cmp_ne, cmp_lt, cmp_le, cmp_gt, cmp_ge, cmp_isN, cmp_notN, eqD_int, eqD_str, bin_int, binI_add, binI_sub, of_some, negK_int, setK_nm, setK_tp, setsK, asg, asgs, tgsOf, intK, rngK, srcK, subO, startE, newR, new, bi_int, bi_abs, bi_len_tup, bi_len_frl,  Option.map_some, Option.map_none, Option.bind_some, List.map_cons, List.map_nil, List.length_cons, List.length_nil, List.length_append, List.length_map, List.length_set, List.cons_append, List.nil_append, List.getElem?_cons_zero, List.getElem?_cons_succ, List.set_cons_zero, List.set_cons_succ, if_true, if_false, Bool.false_eq_true, Bool.true_eq_false, Bool.not_true, Bool.not_false, decide_true, decide_false, Nat.reduceEqDiff, Nat.zero_lt_succ, List.replicate_succ, List.replicate_zero, Nat.reduceSub, Nat.reduceAdd, Nat.reduceLT, Nat.reduceLeDiff, Nat.zero_le, id, lstK_ok, tupK_ok, d15]
    refine Wp.mono (draw_ok (n := 18) (i := 8) (ns := ns) (salt := 3) rfl (by decide) hl) ?_
    rintro w st ⟨d, c, rfl, D, -⟩
    try simp -implicitDefEqProofs only [wp_ok, wp_bind, wp_noexc, wp_seq, wp_skip, wp_brk, wp_cnt, wp_retN, wp_ret, wp_set, wp_par, wp_unp, wp_sto, wp_xpr, wp_ite, wp_for, wp_whl, wp_tru, sk_rt, sk_bk, sk_ct, lk_nx, lk_ct, lk_bk, lk_rt, ik_true, ik_false, ev, evs, evo, evi, evc, evd, keyK_str, keyK_int, retK_rt, retK_nx, iteK_true, iteK_false, truK0_bl, truK0_int, truK0_tup, truK0_frl, truK0_non, scK_bl, wp_callK, cmpO, cmp_eq, cmp_ne, cmp_lt, cmp_le, cmp_gt, cmp_ge, cmp_isN, cmp_notN, eqD_int, eqD_str, bin_int, binI_add, binI_sub, of_some, negK_int, setK_nm, setK_tp, setsK, asg, asgs, tgsOf, intK, rngK, srcK, subO, startE, newR, new, bi_int, bi_abs, bi_len_tup, bi_len_frl,  Option.map_some, Option.map_none, Option.bind_some, List.map_cons, List.map_nil, List.length_cons, List.length_nil, List.length_append, List.length_map, List.length_set, List.cons_append, List.nil_append, List.getElem?_cons_zero, List.getElem?_cons_succ, List.set_cons_zero, List.set_cons_succ, if_true, if_false, Bool.false_eq_true, Bool.true_eq_false, Bool.not_true, Bool.not_false, decide_true, decide_false, Nat.reduceEqDiff, Nat.zero_lt_succ, List.replicate_succ, List.replicate_zero, Nat.reduceSub, Nat.reduceAdd, Nat.reduceLT, Nat.reduceLeDiff, Nat.zero_le, id, lstK_ok, tupK_ok]
    rw [sk_nx]
    have h8 : rngOf [.int 8] = some (0, 8) := rngOf_nat (n := 8) (by decide)
    try simp -implicitDefEqProofs only [wp_ok, wp_bind, wp_noexc, wp_seq, wp_skip, wp_brk, wp_cnt, wp_retN, wp_ret, wp_set, wp_par, wp_unp, wp_sto, wp_xpr, wp_ite, wp_for, wp_whl, wp_tru, sk_rt, sk_bk, sk_ct, lk_nx, lk_ct, lk_bk, lk_rt, ik_true, ik_false, ev, evs, evo, evi, evc, evd, keyK_str, keyK_int, retK_rt, retK_nx, iteK_true, iteK_false, truK0_bl, truK0_int, truK0_tup, truK0_frl, truK0_non, scK_bl, wp_callK, cmpO, cmp_eq, cmp_ne, cmp_lt, cmp_le, cmp_gt, cmp_ge, cmp_isN, cmp_notN, eqD_int, eqD_str, bin_int, binI_add, binI_sub, of_some, negK_int, setK_nm, setK_tp, setsK, asg, asgs, tgsOf, intK, rngK, srcK, subO, startE, newR, new, bi_int, bi_abs, bi_len_tup, bi_len_frl,  Option.map_some, Option.map_none, Option.bind_some, List.map_cons, List.map_nil, List.length_cons, List.length_nil, List.length_append, List.length_map, List.length_set, List.cons_append, List.nil_append, List.getElem?_cons_zero, List.getElem?_cons_succ, List.set_cons_zero, List.set_cons_succ, if_true, if_false, Bool.false_eq_true, Bool.true_eq_false, Bool.not_true, Bool.not_false, decide_true, decide_false, Nat.reduceEqDiff, Nat.zero_lt_succ, List.replicate_succ, List.replicate_zero, Nat.reduceSub, Nat.reduceAdd, Nat.reduceLT, Nat.reduceLeDiff, Nat.zero_le, id, lstK_ok, tupK_ok, h8]
    refine wp_rng 8 (by decide) (fun k en st => EnOk ns d k en ∧ Deal st d c) ?_ ?_ ⟨⟨_, _, _, _, _, _, _, _, rfl, fun h => absurd h (Nat.lt_irrefl 0)⟩, D⟩
    · rintro k en st hk ⟨⟨x2, x3, x4, x5, x6, x7, x8, x9, rfl, hx⟩, D⟩
      exact ⟨_, rfl, body_ok D ⟨_, _, _, _, _, _, _, _, rfl, hx⟩⟩
    · clear D
      rintro en st ⟨⟨x2, x3, x4, x5, x6, x7, x8, x9, rfl, hx⟩, D⟩
      obtain ⟨a, e, rfl, ge, a0, al⟩ := hx (by decide)
      have b1 : ∀ s : Sto, bin .add (.tup [.tup (a.map .int), e]) (.tup [.int 0]) s = some (.tup ([.tup (a.map .int), e] ++ [.int 0]), s) := fun s => bin_tup (by show 2 + 1 ≤ 16777216; decide)
      have b2 : ∀ s : Sto, bin .add (.tup (a.map .int)) (.tup [.bl true]) s = some (.tup (a.map .int ++ [.bl true]), s) := fun s => bin_tup (by rw [List.length_map]; show _ + 1 ≤ _; omega)
      have b3 : ∀ s : Sto, bin .add (.tup (a.map .int)) (.tup [.int (-1)]) s = some (.tup (a.map .int ++ [.int (-1)]), s) := fun s => bin_tup (by rw [List.length_map]; show _ + 1 ≤ _; omega)
      rw [sk_nx]
      unfold rw
      try simp -implicitDefEqProofs only [wp_ok, wp_bind, wp_noexc, wp_seq, wp_skip, wp_brk, wp_cnt, wp_retN, wp_ret, wp_set, wp_par, wp_unp, wp_sto, wp_xpr, wp_ite, wp_for, wp_whl, wp_tru, sk_rt, sk_bk, sk_ct, lk_nx, lk_ct, lk_bk, lk_rt, ik_true, ik_false, ev, evs, evo, evi, evc, evd, keyK_str, keyK_int, retK_rt, retK_nx, iteK_true, iteK_false, truK0_bl, truK0_int, truK0_tup, truK0_frl, truK0_non, scK_bl, wp_callK, cmpO, cmp_eq, cmp_ne, cmp_lt, cmp_le, cmp_gt, cmp_ge, cmp_isN, cmp_notN, eqD_int, eqD_str, bin_int, binI_add, binI_sub, of_some, negK_int, setK_nm, setK_tp, setsK, asg, asgs, tgsOf, intK, rngK, srcK, subO, startE, newR, new, bi_int, bi_abs, bi_len_tup, bi_len_frl,  Option.map_some, Option.map_none, Option.bind_some, List.map_cons, List.map_nil, List.length_cons, List.length_nil, List.length_append, List.length_map, List.length_set, List.cons_append, List.nil_append, List.getElem?_cons_zero, List.getElem?_cons_succ, List.set_cons_zero, List.set_cons_succ, if_true, if_false, Bool.false_eq_true, Bool.true_eq_false, Bool.not_true, Bool.not_false, decide_true, decide_false, Nat.reduceEqDiff, Nat.zero_lt_succ, List.replicate_succ, List.replicate_zero, Nat.reduceSub, Nat.reduceAdd, Nat.reduceLT, Nat.reduceLeDiff, Nat.zero_le, id, lstK_ok, tupK_ok]
      rw [sk_nx]
      try simp -implicitDefEqProofs only [wp_ok, wp_bind, wp_noexc, wp_seq, wp_skip, wp_brk, wp_cnt, wp_retN, wp_ret, wp_set, wp_par, wp_unp, wp_sto, wp_xpr, wp_ite, wp_for, wp_whl, wp_tru, sk_rt, sk_bk, sk_ct, lk_nx, lk_ct, lk_bk, lk_rt, ik_true, ik_false, ev, evs, evo, evi, evc, evd, keyK_str, keyK_int, retK_rt, retK_nx, iteK_true, iteK_false, truK0_bl, truK0_int, truK0_tup, truK0_frl, truK0_non, scK_bl, wp_callK, cmpO, cmp_eq, cmp_ne, cmp_lt, cmp_le, cmp_gt, cmp_ge, cmp_isN, cmp_notN, eqD_int, eqD_str, bin_int, binI_add, binI_sub, of_some, negK_int, setK_nm, setK_tp, setsK, asg, asgs, tgsOf, intK, rngK, srcK, subO, startE, newR, new, bi_int, bi_abs, bi_len_tup, bi_len_frl,  Option.map_some, Option.map_none, Option.bind_some, List.map_cons, List.map_nil, List.length_cons, List.length_nil, List.length_append, List.length_map, List.length_set, List.cons_append, List.nil_append, List.getElem?_cons_zero, List.getElem?_cons_succ, List.set_cons_zero, List.set_cons_succ, if_true, if_false, Bool.false_eq_true, Bool.true_eq_false, Bool.not_true, Bool.not_false, decide_true, decide_false, Nat.reduceEqDiff, Nat.zero_lt_succ, List.replicate_succ, List.replicate_zero, Nat.reduceSub, Nat.reduceAdd, Nat.reduceLT, Nat.reduceLeDiff, Nat.zero_le, id, lstK_ok, tupK_ok, bi_list_tup, b1, b2, b3]
      obtain ⟨st1, hs1⟩ : ∃ x : Sto, x = st ++ [Ob.lst [.tup (a.map .int), e]] := ⟨_, rfl⟩
      have l1 : st.length + 1 = st1.length := by rw [hs1]; simp
      have g1 : Own d c st1 st.length [.tup (a.map .int), e] := by rw [hs1]; exact D.own
      have D1 : Deal st1 d c := by rw [hs1]; exact D.new
      simp only [← hs1, l1]
      obtain ⟨st2, hs2⟩ : ∃ x : Sto, x = st1 ++ [Ob.lst (a.map .int)] := ⟨_, rfl⟩
      have l2 : st1.length + 1 = st2.length := by rw [hs2]; simp
      have k2 : Keep d c st1 st2 := by rw [hs2]; exact Keep.new
      have g2 : Own d c st2 st1.length (a.map .int) := by rw [hs2]; exact D1.own
      have D2 : Deal st2 d c := by rw [hs2]; exact D1.new
      simp only [← hs2, l2]
      rw [sk_nx]
      generalize hodd : [W.ref st.length, W.tup [W.tup (a.map W.int)], W.tup [W.tup (a.map W.int), e, W.int 0], W.tup [W.ref st1.length, e], W.tup [W.tup (a.map W.int ++ [W.bl true]), e], W.tup [W.tup (a.map W.int ++ [W.int (-1)]), e], W.non, W.tup [W.tup (a.map W.int), W.int 0]] = odd1
      obtain ⟨st3, hs3⟩ : ∃ x : Sto, x = st2 ++ [Ob.lst odd1] := ⟨_, rfl⟩
      have l3 : st2.length + 1 = st3.length := by rw [hs3]; simp
      have k3 : Keep d c st2 st3 := by rw [hs3]; exact Keep.new
      have g3 : Own d c st3 st2.length odd1 := by rw [hs3]; exact D2.own
      have D3 : Deal st3 d c := by rw [hs3]; exact D2.new
      rw [← hs3]
      try simp -implicitDefEqProofs only [wp_ok, wp_bind, wp_noexc, wp_seq, wp_skip, wp_brk, wp_cnt, wp_retN, wp_ret, wp_set, wp_par, wp_unp, wp_sto, wp_xpr, wp_ite, wp_for, wp_whl, wp_tru, sk_rt, sk_bk, sk_ct, lk_nx, lk_ct, lk_bk, lk_rt, ik_true, ik_false, ev, evs, evo, evi, evc, evd, keyK_str, keyK_int, retK_rt, retK_nx, iteK_true, iteK_false, truK0_bl, truK0_int, truK0_tup, truK0_frl, truK0_non, scK_bl, wp_callK, cmpO, cmp_eq, cmp_ne, cmp_lt, cmp_le, cmp_gt, cmp_ge, cmp_isN, cmp_notN, eqD_int, eqD_str, bin_int, binI_add, binI_sub, of_some, negK_int, setK_nm, setK_tp, setsK, asg, asgs, tgsOf, intK, rngK, srcK, subO, startE, newR, new, bi_int, bi_abs, bi_len_tup, bi_len_frl,  Option.map_some, Option.map_none, Option.bind_some, List.map_cons, List.map_nil, List.length_cons, List.length_nil, List.length_append, List.length_map, List.length_set, List.cons_append, List.nil_append, List.getElem?_cons_zero, List.getElem?_cons_succ, List.set_cons_zero, List.set_cons_succ, if_true, if_false, Bool.false_eq_true, Bool.true_eq_false, Bool.not_true, Bool.not_false, decide_true, decide_false, Nat.reduceEqDiff, Nat.zero_lt_succ, List.replicate_succ, List.replicate_zero, Nat.reduceSub, Nat.reduceAdd, Nat.reduceLT, Nat.reduceLeDiff, Nat.zero_le, id, lstK_ok, tupK_ok]
      obtain ⟨st4, hs4⟩ : ∃ x : Sto, x = st3 ++ [Ob.lst [W.str "value", W.int 0]] := ⟨_, rfl⟩
      have l4 : st3.length + 1 = st4.length := by rw [hs4]; simp
      have k4 : Keep d c st3 st4 := by rw [hs4]; exact Keep.new
      have g4 : Own d c st4 st3.length [W.str "value", W.int 0] := by rw [hs4]; exact D3.own
      have D4 : Deal st4 d c := by rw [hs4]; exact D3.new
      simp only [← hs4, l4]
      have g34 := g3.keep k4
      generalize hodd2 : [W.tup [W.tup (a.map W.int), W.tup [W.str "value"]], W.tup [W.tup (a.map W.int), W.tup [W.str "value", W.non]], W.tup [W.tup (a.map W.int), W.tup [W.str "trap", W.str "end"]], W.tup [W.tup (a.map W.int), W.ref st3.length], W.tup [W.tup (a.map W.int), W.tup [W.str "Value", W.int 0]], W.tup [W.tup (a.map W.int), W.tup [W.str "trap", W.int 0]]] = odd2
      have ln1 : odd1.length = 8 := by rw [← hodd]; rfl
      have ln2 : odd2.length = 6 := by rw [← hodd2]; rfl
      obtain ⟨st5, hs5⟩ : ∃ x : Sto, x = st4 ++ [Ob.lst odd2] := ⟨_, rfl⟩
      have k5 : Keep d c st4 st5 := by rw [hs5]; exact Keep.new
      have D5 : Deal st5 d c := by rw [hs5]; exact D4.new
      have h5 : bin .add (W.ref st2.length) (W.ref st4.length) (st4 ++ [Ob.lst odd2]) = some (W.ref st5.length, st5 ++ [Ob.lst (odd1 ++ odd2)]) := by
        rw [hs5]
        exact bin_cat (getNew g34.1) getLast (by omega)
      try simp -implicitDefEqProofs only [wp_ok, wp_bind, wp_noexc, wp_seq, wp_skip, wp_brk, wp_cnt, wp_retN, wp_ret, wp_set, wp_par, wp_unp, wp_sto, wp_xpr, wp_ite, wp_for, wp_whl, wp_tru, sk_rt, sk_bk, sk_ct, lk_nx, lk_ct, lk_bk, lk_rt, ik_true, ik_false, ev, evs, evo, evi, evc, evd, keyK_str, keyK_int, retK_rt, retK_nx, iteK_true, iteK_false, truK0_bl, truK0_int, truK0_tup, truK0_frl, truK0_non, scK_bl, wp_callK, cmpO, cmp_eq, cmp_ne, cmp_lt, cmp_le, cmp_gt, cmp_ge, cmp_isN, cmp_notN, eqD_int, eqD_str, bin_int, binI_add, binI_sub, of_some, negK_int, setK_nm, setK_tp, setsK, asg, asgs, tgsOf, intK, rngK, srcK, subO, startE, newR, new, bi_int, bi_abs, bi_len_tup, bi_len_frl,  Option.map_some, Option.map_none, Option.bind_some, List.map_cons, List.map_nil, List.length_cons, List.length_nil, List.length_append, List.length_map, List.length_set, List.cons_append, List.nil_append, List.getElem?_cons_zero, List.getElem?_cons_succ, List.set_cons_zero, List.set_cons_succ, if_true, if_false, Bool.false_eq_true, Bool.true_eq_false, Bool.not_true, Bool.not_false, decide_true, decide_false, Nat.reduceEqDiff, Nat.zero_lt_succ, List.replicate_succ, List.replicate_zero, Nat.reduceSub, Nat.reduceAdd, Nat.reduceLT, Nat.reduceLeDiff, Nat.zero_le, id, lstK_ok, tupK_ok, h5]
      rw [sk_nx]
      try simp -implicitDefEqProofs only [wp_ok, wp_bind, wp_noexc, wp_seq, wp_skip, wp_brk, wp_cnt, wp_retN, wp_ret, wp_set, wp_par, wp_unp, wp_sto, wp_xpr, wp_ite, wp_for, wp_whl, wp_tru, sk_rt, sk_bk, sk_ct, lk_nx, lk_ct, lk_bk, lk_rt, ik_true, ik_false, ev, evs, evo, evi, evc, evd, keyK_str, keyK_int, retK_rt, retK_nx, iteK_true, iteK_false, truK0_bl, truK0_int, truK0_tup, truK0_frl, truK0_non, scK_bl, wp_callK, cmpO, cmp_eq, cmp_ne, cmp_lt, cmp_le, cmp_gt, cmp_ge, cmp_isN, cmp_notN, eqD_int, eqD_str, bin_int, binI_add, binI_sub, of_some, negK_int, setK_nm, setK_tp, setsK, asg, asgs, tgsOf, intK, rngK, srcK, subO, startE, newR, new, bi_int, bi_abs, bi_len_tup, bi_len_frl,  Option.map_some, Option.map_none, Option.bind_some, List.map_cons, List.map_nil, List.length_cons, List.length_nil, List.length_append, List.length_map, List.length_set, List.cons_append, List.nil_append, List.getElem?_cons_zero, List.getElem?_cons_succ, List.set_cons_zero, List.set_cons_succ, if_true, if_false, Bool.false_eq_true, Bool.true_eq_false, Bool.not_true, Bool.not_false, decide_true, decide_false, Nat.reduceEqDiff, Nat.zero_lt_succ, List.replicate_succ, List.replicate_zero, Nat.reduceSub, Nat.reduceAdd, Nat.reduceLT, Nat.reduceLeDiff, Nat.zero_le, id, lstK_ok, tupK_ok]
      refine (of_ok (n := 17) (f := 9) (i := 10) rfl rfl D5.new D5.own (by rw [List.length_append]; omega) (by rw [List.length_append]; omega)).mono ?_
      rintro w st6 ⟨hw, D6, k6⟩
      have kk : Keep d c st5 st6 := Keep.new.trans k6
      have r1 := (((g1.keep k2).keep k3).keep k4).keep (k5.trans kk)
      have r2 := ((g2.keep k3).keep k4).keep (k5.trans kk)
      have r4 := g4.keep (k5.trans kk)
      have nw : Wp (Ci.run tab 19 5 [w] st6) fun r _ => r = .bl false := by
        rw [← hodd, ← hodd2] at hw
        simp only [List.cons_append, List.nil_append, List.mem_cons, List.mem_nil_iff, or_false] at hw
        have h9 : a.length ≤ 900 := by omega
        have h10 : a.length ≤ 1000 := by omega
        rcases hw with rfl | rfl | rfl | rfl | rfl | rfl | rfl | rfl | rfl | rfl | rfl | rfl | rfl | rfl
        · exact run_no (n := 15) (isi_tuple_lst r1.1)
        · exact run_len (n := 15) (by show 1 ≠ 2; decide)
        · exact run_len (n := 15) (by show 3 ≠ 2; decide)
        · exact run_no0 (n := 15) (isi_tuple_lst r2.1)
        · exact no_word (n := 15) h9 (.bl true) rfl ge
        · exact no_word (n := 15) h9 (.int (-1)) rfl ge
        · exact run_no (n := 15) isi_tuple_non
        · exact no_end (n := 15) h10 fun st' _ => end_no isi_tuple_int rfl
        · exact no_end (n := 15) h10 fun st' _ => end_short
        · exact no_end (n := 15) h10 fun st' _ => end_pair (fun _ => num_ok .non) (fun z => by cases (show (true : Bool) = false from z)) (fun z => by cases (show (true : Bool) = false from z))
        · exact no_end (n := 15) h10 fun st' _ => end_pair (fun z => by cases (show (false : Bool) = true from z)) (fun _ _ => word_ok) (fun _ z => by cases (show (true : Bool) = false from z))
        · exact no_end (n := 15) h10 fun st' ex => end_no (isi_tuple_lst (ex.2 _ _ r4.1)) rfl
        · exact no_end (n := 15) h10 fun st' _ => end_pair (fun z => by cases (show (false : Bool) = true from z)) (fun _ z => by cases (show (false : Bool) = true from z)) (fun _ _ => rfl)
        · exact no_end (n := 15) h10 fun st' _ => end_pair (fun z => by cases (show (false : Bool) = true from z)) (fun _ _ => word_int) (fun _ z => by cases (show (true : Bool) = false from z))
      try simp -implicitDefEqProofs only [wp_ok, wp_bind, wp_noexc, wp_seq, wp_skip, wp_brk, wp_cnt, wp_retN, wp_ret, wp_set, wp_par, wp_unp, wp_sto, wp_xpr, wp_ite, wp_for, wp_whl, wp_tru, sk_rt, sk_bk, sk_ct, lk_nx, lk_ct, lk_bk, lk_rt, ik_true, ik_false, ev, evs, evo, evi, evc, evd, keyK_str, keyK_int, retK_rt, retK_nx, iteK_true, iteK_false, truK0_bl, truK0_int, truK0_tup, truK0_frl, truK0_non, scK_bl, wp_callK, cmpO, cmp_eq, cmp_ne, cmp_lt, cmp_le, cmp_gt, cmp_ge, cmp_isN, cmp_notN, eqD_int, eqD_str, bin_int, binI_add, binI_sub, of_some, negK_int, setK_nm, setK_tp, setsK, asg, asgs, tgsOf, intK, rngK, srcK, subO, startE, newR, new, bi_int, bi_abs, bi_len_tup, bi_len_frl,  Option.map_some, Option.map_none, Option.bind_some, List.map_cons, List.map_nil, List.length_cons, List.length_nil, List.length_append, List.length_map, List.length_set, List.cons_append, List.nil_append, List.getElem?_cons_zero, List.getElem?_cons_succ, List.set_cons_zero, List.set_cons_succ, if_true, if_false, Bool.false_eq_true, Bool.true_eq_false, Bool.not_true, Bool.not_false, decide_true, decide_false, Nat.reduceEqDiff, Nat.zero_lt_succ, List.replicate_succ, List.replicate_zero, Nat.reduceSub, Nat.reduceAdd, Nat.reduceLT, Nat.reduceLeDiff, Nat.zero_le, id, lstK_ok, tupK_ok]
      refine nw.mono ?_
      rintro r st7 rfl
      try simp -implicitDefEqProofs only [wp_ok, wp_bind, wp_noexc, wp_seq, wp_skip, wp_brk, wp_cnt, wp_retN, wp_ret, wp_set, wp_par, wp_unp, wp_sto, wp_xpr, wp_ite, wp_for, wp_whl, wp_tru, sk_rt, sk_bk, sk_ct, lk_nx, lk_ct, lk_bk, lk_rt, ik_true, ik_false, ev, evs, evo, evi, evc, evd, keyK_str, keyK_int, retK_rt, retK_nx, iteK_true, iteK_false, truK0_bl, truK0_int, truK0_tup, truK0_frl, truK0_non, scK_bl, wp_callK, cmpO, cmp_eq, cmp_ne, cmp_lt, cmp_le, cmp_gt, cmp_ge, cmp_isN, cmp_notN, eqD_int, eqD_str, bin_int, binI_add, binI_sub, of_some, negK_int, setK_nm, setK_tp, setsK, asg, asgs, tgsOf, intK, rngK, srcK, subO, startE, newR, new, bi_int, bi_abs, bi_len_tup, bi_len_frl,  Option.map_some, Option.map_none, Option.bind_some, List.map_cons, List.map_nil, List.length_cons, List.length_nil, List.length_append, List.length_map, List.length_set, List.cons_append, List.nil_append, List.getElem?_cons_zero, List.getElem?_cons_succ, List.set_cons_zero, List.set_cons_succ, if_true, if_false, Bool.false_eq_true, Bool.true_eq_false, Bool.not_true, Bool.not_false, decide_true, decide_false, Nat.reduceEqDiff, Nat.zero_lt_succ, List.replicate_succ, List.replicate_zero, Nat.reduceSub, Nat.reduceAdd, Nat.reduceLT, Nat.reduceLeDiff, Nat.zero_le, id, lstK_ok, tupK_ok, is_bl]
      all_goals first | rfl | trivial
  obtain ⟨w, st, e, rfl⟩ := core
  exact ⟨st, e⟩
end K03
theorem PySem.Challenge.cw_anypasses_k03_runs_and_beginnings_holds : PySem.Challenge.rw_anypasses_k03_runs_and_beginnings.Holds := by
  exact Law.walked K03.law_ok
