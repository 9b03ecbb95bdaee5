import PyProof.Rows.All
import Wide.All
import OpenK.AllK
import Wide.FinOn
import PySem.Challenge.RW_swingrooms_k07_whole_bows_and_sterns
import HandS.ForMost
import HandS.Zip
import HandS.Deep
import KE.DataEq
import KE.DataCmp
import KE.DataFind
import KE.DataIsa
import KE.DataMinMax
import KE.DataAny
import KE.SortData
import KE.SortKeyHeap
import PyProof.ReprRoads
import HandS.Head0
import HandS.Head1
import HandS.Head2
import HandS.HeadEnd
import HandS.HeadHook1
import HandS.HeadHook2
import HandS.HeadHook4
import HandS.Nested
import HandS.Wide
import HandS.Style
import HandS.TupAny
import HandS.Flow
import PyProof.StrOps2
import HandS.TupMul
import HandS.Small
import HandS.Star
import HandS.Gcd
import HandS.RaiseMore
import HandS.IsInst
import KE.GoesMore
import HandS.TupSets
import PyProof.ListStr
import HandS.Text
import HandS.Dict
import HandS.Conv
import KE.GoesZip
import HandS.DictComp
import HandS.Ends
import HandS.SortKw
import KE.KSortKey
set_option Elab.async false
set_option linter.all false
set_option maxRecDepth 100000
set_option maxHeartbeats  4000000
/-! Pa: data, values, the intermediate form, its evaluator. -/
namespace Pyi
open PySem PySem.Spec PyProof.Rows L2
/-- data: what never changes -/
inductive D where
  | non | bl (b : Bool) | int (i : Int) | str (x : Str) | tup (ds : List D) | lst (ds : List D)
  deriving Inhabited
mutual
def D.toP : D → PyData
  | .non => .none
  | .bl b => .bool b
  | .int i => .int i
  | .str x => .str x
  | .tup ds => .tuple (toPs ds)
  | .lst ds => .list (toPs ds)
def toPs : List D → List PyData
  | [] => []
  | d :: ds => d.toP :: toPs ds
end
/-- a == b -/
def D.eqv (a b : D) : Bool := PyData.eqv a.toP b.toP
def D.depth (a : D) : Nat := a.toP.depth
def D.lt (a b : D) : Bool := PySem.W.dataLt a.toP b.toP
def D.alike (a b : D) : Bool := PySem.W.alike a.toP b.toP
def D.shown (a : D) : Str := a.toP.shown
def D.showable (a : D) : Bool := a.toP.showable
end Pyi
/-! Pb: the intermediate form, its evaluator. -/
namespace Pyi
open PySem L2
inductive Bi where
  | abs | all | any | bool | dict | divmod | gcd | int | isqrt | len | list | max | min | repr | setlen | sorted | str | sum | tuple
  deriving DecidableEq
inductive Mt where
  | append | extend | index | count | pop | remove | items | values | get | join | split | replace | upper
  deriving DecidableEq
inductive ItK where
  | seq | rng | enum | zip | items
  deriving DecidableEq
/-- targets: names, tuples of targets -/
inductive Tg where
  | nil | nm (i : Nat) | cons (a r : Tg) | tup (ts : Tg)
  deriving DecidableEq
/-- how a call binds: n given by place, ks by name; what is bound -/
structure Shape where
  n : Nat
  ks : List Str
  pi : List Nat
  deriving DecidableEq
def Shape.out {α : Type} (h : Shape) (d : α) (us ws : List α) : List α := h.pi.map fun i => (us ++ ws).getD i d
inductive Ex where
  | nil | cons (e r : Ex)
  | cst (d : D) | var (i : Nat) | glob (x : Str)
  | bin (o : Operator) (a b : Ex) | neg (a : Ex)
  | cmp (o : CmpOp) (a b : Ex) | chn (o p : CmpOp) (a b c : Ex)
  | and (a b : Ex) | or (a b : Ex) | not (a : Ex) | ite (c a b : Ex)
  | tup (es : Ex) | lst (es : Ex) | cel (es : Ex) | dcl
  | call (f : Str) (es : Ex) | callp (f : Str) (h : Shape) (es ks : Ex) | calv (i : Nat) (es : Ex)
  | bi (b : Bi) (es : Ex) | isi (e : Ex) (ts : List String)
  | mt (m : Mt) (o es : Ex)
  | ix (o i : Ex) | sl (o a b : Ex) | no | pt (e : Ex)
  | it (k : ItK) (es : Ex)
  | lc (cel : Bool) (own : List Nat) (t : Tg) (i c e : Ex) | yes
  | lc2 (cel : Bool) (own own2 : List Nat) (t : Tg) (i : Ex) (t2 : Tg) (i2 c e : Ex)
  | sortk (i f : Ex)
  | lam (names ps fr : List Str) (js : List Nat) (b : Ex)
  /-- a lambda that captures, handed on at once; a call with such arguments -/
  | lamc (names ps fr : List Str) (js : List Nat) (b : Ex)
  | callc (f : Str) (es : Ex)
  | frz (i : Nat)
  /-- *e in a display -/
  | st (e : Ex)
  /-- list(e), a cell -/
  | cl (e : Ex)
  /-- sorted(set(e)) -/
  | sset (e : Ex)
  /-- x.join(e) -/
  | jn (x e : Ex)
  /-- dict(e), e a list of pairs -/
  | di (e : Ex)
  /-- repr([..]), cells among what is shown -/
  | rp (es : Ex)
  /-- {} of tuples; sorted(d), d a dict of tuples -/
  | dclT | sdt (e : Ex)
  /-- a comprehension over a list of the store, as it is by then -/
  | lcr (own : List Nat) (t : Tg) (x q e : Ex)
  /-- {k: e for t in i if c} -/
  | dc (own : List Nat) (t : Tg) (i c k e : Ex)
/-- targets of assignments -/
inductive Tx where
  | nil | nm (i : Nat) | sub (o i : Ex) | cons (a r : Tx) | tup (ts : Tx)
  /-- o[a + b], o a dict of tuples -/
  | subK (o a b : Ex)
inductive Stm where
  | nil | seq (s r : Stm)
  | asg (t : Tx) (e : Ex)
  | par (is : List Nat) (es : Ex)
  /-- names = values, by a tuple in between -/
  | parT (is : List Nat) (es : Ex)
  | aug (i : Nat) (e : Ex)
  | exp (e : Ex)
  | ife (c : Ex) (a b : Stm)
  | whl (n : Nat) (c : Ex) (b : Stm)
  | loop (t : Tg) (i : Ex) (b : Stm)
  | ret (e : Ex) | retN | pass | brk | cnt
  | never
  | ndef (i : Nat) (names ps fr : List Str) (js : List Nat) (b : Stm)
instance : Inhabited Stm := ⟨.nil⟩
structure Df where
  /-- the names of its slots, its parameters, whether a list of its own may be handed back as a cell -/
  names : List Str
  ps : List Str
  keep : Bool
  body : Stm
  /-- the names that it captures -/
  fr : List Str := []
  deriving Inhabited
/-- values: data, a dict that never changes, a cell of the store, a def of the module, a function made within a def: its form, what it captured -/
inductive W where
  | d (d : D)
  | dct (kvs : List (Key × D))
  | ref (i : Nat)
  | fn (x : Str)
  | lf (f : Df) (ws : List W)
  deriving Inhabited
inductive Cell where
  | lst (ds : List D)
  | dct (kvs : List (Key × D))
  /-- a dict whose keys are tuples of ints; what it holds is not told -/
  | tks (ks : List (List Int))
  deriving Inhabited
abbrev Store := List Cell
abbrev Sg := List (Option W)
/-- an exception: its class, its values -/
structure Exc where
  cls : Str
  args : List D
inductive Res (α : Type) where
  | ok (a : α) (S : Store)
  | exc (e : Exc) (S : Store)
  | fail
def Res.bind {α β : Type} (r : Res α) (k : α → Store → Res β) : Res β := match r with
  | .ok a S => k a S
  | .exc e S => .exc e S
  | .fail => .fail
def Res.of {α : Type} (S : Store) : Option α → Res α
  | some a => .ok a S
  | none => .fail
@[simp] theorem Res.bind_ok {α β : Type} (a : α) (S : Store) (k : α → Store → Res β) : (Res.ok a S).bind k = k a S := rfl
@[simp] theorem Res.bind_exc {α β : Type} (e : Exc) (S : Store) (k : α → Store → Res β) : (Res.exc e S).bind k = .exc e S := rfl
@[simp] theorem Res.bind_fail {α β : Type} (k : α → Store → Res β) : (Res.fail : Res α).bind k = .fail := rfl
@[simp] theorem Res.of_some {α : Type} (S : Store) (a : α) : Res.of S (some a) = .ok a S := rfl
@[simp] theorem Res.of_none {α : Type} (S : Store) : Res.of S (none : Option α) = .fail := rfl
theorem Res.bind_assoc {α β γ : Type} (r : Res α) (k : α → Store → Res β) (l : β → Store → Res γ) : (r.bind k).bind l = r.bind fun a S => (k a S).bind l := by
  cases r <;> rfl
/-! ### data -/
def fit (n : Nat) : Bool := decide (n ≤ 16777216)
def mulOk (i j : Int) : Bool := decide (i.natAbs < 2 ^ 64) || decide (j.natAbs < 2 ^ 64) || decide (i.natAbs.log2 + j.natAbs.log2 < 1000000)
def divOk (j : Int) : Bool := decide (j ≠ 0) && decide (j.natAbs.log2 < 9000)
def powOk (i j : Int) : Bool := decide (0 ≤ j) && decide (j ≤ 1000000) && decide (i.natAbs < 2 ^ 64)
@[simp] def guard' {α : Type} (b : Bool) (a : α) : Option α := if b then some a else none
@[simp] theorem guard'_true {α : Type} (a : α) : guard' true a = some a := rfl
@[simp] def addD : D → D → Option D
  | .int a, .int b => some (.int (a + b))
  | .str a, .str b => guard' (fit (a.length + b.length)) (.str (a ++ b))
  | .tup a, .tup b => guard' (fit (a.length + b.length)) (.tup (a ++ b))
  | .lst a, .lst b => guard' (fit (a.length + b.length)) (.lst (a ++ b))
  | _, _ => none
@[simp] def subD : D → D → Option D
  | .int a, .int b => some (.int (a - b))
  | .bl a, .bl b => some (.int ((if a = true then 1 else 0) - (if b = true then 1 else 0)))
  | _, _ => none
/-- a string again and again -/
def repS (a : Str) (n : Nat) : Str := ⟨(List.replicate n a.cps).foldl (· ++ ·) #[]⟩
def repOk (a : Str) (b : Int) : Bool := decide (2 ≤ b) && decide (b ≤ 1000) && decide (a.length ≤ 1000) && decide (a.length ≠ 0)
/-- a row again and again -/
def repL (a : List D) (n : Nat) : List D := (List.replicate n a).flatten
def repLOk (a : List D) (b : Int) : Bool := decide (1 ≤ b) && decide (b ≤ 1000) && decide (a.length ≤ 1000) && decide (a.length ≠ 0)
@[simp] def mulD : D → D → Option D
  | .int a, .int b => guard' (mulOk a b) (.int (a * b))
  | .str a, .int b => guard' (repOk a b) (.str (repS a b.toNat))
  | .tup a, .int b => guard' (repLOk a b) (.tup (repL a b.toNat))
  | .lst a, .int b => guard' (repLOk a b) (.lst (repL a b.toNat))
  | _, _ => none
@[simp] def fdivD : D → D → Option D
  | .int a, .int b => guard' (divOk b) (.int (a.fdiv b))
  | _, _ => none
@[simp] def modD : D → D → Option D
  | .int a, .int b => guard' (decide (b ≠ 0)) (.int (a.fmod b))
  | _, _ => none
def powD : D → D → Option D
  | .int a, .int b => guard' (powOk a b) (.int (a ^ b.toNat))
  | _, _ => none
@[simp] def binD : Operator → D → D → Option D
  | .Add => addD
  | .Sub => subD
  | .Mult => mulD
  | .FloorDiv => fdivD
  | .Mod => modD
  | .Pow => powD
  | _ => fun _ _ => none
@[simp] def negD : D → Option D
  | .int a => some (.int (-a))
  | _ => none
/-- what an index of any sign gives -/
def signAt (x : Str) (i : Int) : Option D := (atI x.cps.toList i).map fun c => .str ⟨#[c]⟩
@[simp] def ixD : D → D → Option D
  | .tup ds, .int i => atI ds i
  | .lst ds, .int i => atI ds i
  | .str x, .int i => if fit x.length then signAt x i else none
  | _, _ => none
def cutL {α : Type} (xs : List α) (lo hi : Option Int) : List α := (xs.drop (HT.sIx xs.length 0 lo)).take (HT.sIx xs.length xs.length hi - HT.sIx xs.length 0 lo)
def slD : D → Option Int → Option Int → Option D
  | .tup ds, a, b => some (.tup (cutL ds a b))
  | .lst ds, a, b => some (.lst (cutL ds a b))
  | .str x, a, b => guard' (fit x.length) (.str (cutS x a b))
  | _, _, _ => none
@[simp] def truD : D → Option Bool
  | .non => some false
  | .bl b => some b
  | .int i => some (i != 0)
  | .str x => guard' (fit x.length) (x.length != 0)
  | .tup ds => some (!ds.isEmpty)
  | .lst ds => some (!ds.isEmpty)
def okq (a b : D) : Bool := decide (min a.depth b.depth ≤ 64)
def okl (a b : D) : Bool := a.alike b && decide (min a.depth b.depth ≤ 64) && (match a with | .non => false | _ => true)
@[simp] def ltD : D → D → Option Bool
  | .int i, .int j => some (decide (i < j))
  | a, b => guard' (okl a b) (a.lt b)
@[simp] def leD : D → D → Option Bool
  | .int i, .int j => some (decide (i ≤ j))
  | a, b => guard' (okl a b) (!b.lt a)
@[simp] def gtD : D → D → Option Bool
  | .int i, .int j => some (decide (j < i))
  | a, b => guard' (okl a b) (b.lt a)
@[simp] def geD : D → D → Option Bool
  | .int i, .int j => some (decide (j ≤ i))
  | a, b => guard' (okl a b) (!a.lt b)
def eqD : D → D → Option Bool
  | .int i, .int j => some (i == j)
  | .str i, .str j => some (decide (i = j))
  | .bl i, .bl j => some (i == j)
  | a, b => guard' (okq a b) (a.eqv b)
def depths (ds : List D) : Nat := PyData.depthAll (toPs ds)
def inDs (a : D) (ds : List D) : Option Bool := guard' (decide (min (depths ds) a.depth ≤ 64)) (ds.any fun d => d.eqv a)
def inD : D → D → Option Bool
  | .str x, .str y => some (!(Builtin.Str.occurrences y x 0 y.length 1).isEmpty)
  | a, .tup ds => inDs a ds
  | a, .lst ds => inDs a ds
  | _, _ => none
@[simp] def isD : D → D → Option Bool
  | .non, .non => some true
  | _, .non => some false
  | .bl a, .bl b => some (a == b)
  | _, _ => none
@[simp] def cmpD : CmpOp → D → D → Option Bool
  | .Eq => eqD
  | .NotEq => fun a b => (eqD a b).map not
  | .Lt => ltD
  | .LtE => leD
  | .Gt => gtD
  | .GtE => geD
  | .In => inD
  | .NotIn => fun a b => (inD a b).map not
  | .Is => isD
  | .IsNot => fun a b => (isD a b).map not
/-! ### values -/
/-- a value as data: a list in the store as it stands -/
@[simp] def vw (S : Store) : W → Option D
  | .d d => some d
  | .ref i => match S[i]? with
    | some (.lst ds) => some (.lst ds)
    | _ => none
  | _ => none
def keyD : D → Option Key
  | .int i => some (.inl i)
  | .str x => some (.inr x)
  | _ => none
def kD : Key → D
  | .inl i => .int i
  | .inr x => .str x
@[simp] def dctOf (S : Store) : W → Option (List (Key × D))
  | .dct kvs => some kvs
  | .ref i => match S[i]? with
    | some (.dct kvs) => some kvs
    | _ => none
  | _ => none
def lookK (kvs : List (Key × D)) (k : Key) : Option D := match kvs with
  | [] => none
  | (k', v) :: r => if k' = k then some v else lookK r k
def putD (kvs : List (Key × D)) (k : Key) (v : D) : List (Key × D) :=
  if (kvs.any fun kv => decide (kv.1 = k)) = true then kvs.map (fun kv => if kv.1 = k then (kv.1, v) else kv) else kvs ++ [(k, v)]
/-- what a subscript gives -/
@[simp] def ixW (S : Store) (w : W) : W → Option D
  | .d n => match vw S w with
    | some d => ixD d n
    | none => match dctOf S w with
      | some kvs => (keyD n).bind fun k => lookK kvs k
      | none => none
  | _ => none
@[simp] def truW (S : Store) (w : W) : Option Bool := match vw S w with
  | some d => truD d
  | none => match dctOf S w with
    | some kvs => some (!kvs.isEmpty)
    | none => none
@[simp] def cmpW (o : CmpOp) (S : Store) (a b : W) : Option Bool := match vw S a, vw S b with
  | some x, some y => cmpD o x y
  | _, _ => none
@[simp] def intsOf : List D → Option (List Int)
  | [] => some []
  | .int i :: ds => (intsOf ds).map (i :: ·)
  | _ => none
@[simp] def boolsOf : List D → Option (List Bool)
  | [] => some []
  | .bl i :: ds => (boolsOf ds).map (i :: ·)
  | _ => none
@[simp] def lstOf (S : Store) (w : W) : Option (List D) := match vw S w with
  | some (.lst ds) => some ds
  | _ => none
@[simp] def seqOf (S : Store) (w : W) : Option (List D) := match vw S w with
  | some (.lst ds) => some ds
  | some (.tup ds) => some ds
  | _ => none
def minL : List Int → Option Int
  | [] => none
  | x :: xs => some (xs.foldl min x)
def maxL : List Int → Option Int
  | [] => none
  | x :: xs => some (xs.foldl max x)
/-- the first of the least (of the greatest) of data that can be compared -/
def minDs : List D → Option D
  | [] => none
  | x :: xs => some (xs.foldl (fun a y => if y.lt a = true then y else a) x)
def maxDs : List D → Option D
  | [] => none
  | x :: xs => some (xs.foldl (fun a y => if a.lt y = true then y else a) x)
def bestOk (ds : List D) : Bool := (ds.all fun a => ds.all fun b => a.alike b) && ds.all fun a => decide (a.depth ≤ 64) && (match a with | .non => false | _ => true)
@[simp] def absD : D → Option D
  | .int i => some (.int (if i < 0 then -i else i))
  | _ => none
@[simp] def intD : D → Option D
  | .int i => some (.int i)
  | .bl k => some (.int (if k then 1 else 0))
  | _ => none
@[simp] def divmodD : D → D → Option D
  | .int i, .int j => guard' (decide (0 < j) && decide (j < 1073741824)) (.tup [.int (i / j), .int (i % j)])
  | _, _ => none
@[simp] def max2D : D → D → Option D
  | .int i, .int j => some (.int (if j > i then j else i))
  | a, b => if bestOk [a, b] = true then maxDs [a, b] else none
@[simp] def min2D : D → D → Option D
  | .int i, .int j => some (.int (if j < i then j else i))
  | a, b => if bestOk [a, b] = true then minDs [a, b] else none
@[simp] def gcdD : D → D → Option D
  | .int i, .int j => some (.int (Nat.gcd i.natAbs j.natAbs : Nat))
  | _, _ => none
def reprOk (d : D) : Bool := d.showable && decide (d.depth ≤ 64) && fit d.shown.length
def leS (a b : D) : Bool := !(b.lt a)
def allAlike (ds : List D) : Bool := ds.all fun a => ds.all fun b => a.alike b
def sortOk (ds : List D) : Bool := fit ds.length && allAlike ds && ds.all (fun a => decide (a.depth ≤ 64) && match a with | .non => false | .lst _ => false | .tup [] => false | _ => true)
@[simp] def vwsW (S : Store) : List W → Option (List D)
  | [] => some []
  | w :: r => (vw S w).bind fun d => (vwsW S r).map fun ds => d :: ds
/-- repr of a list of what is shown -/
@[simp] def rpW (S : Store) (ws : List W) : Option W := (vwsW S ws).bind fun ds => guard' (fit ds.length && reprOk (.lst ds)) (.d (.str (D.lst ds).shown))
@[simp] def bi1 (b : Bi) (S : Store) (w : W) : Option W := match b with
  | .abs => (vw S w).bind fun d => (absD d).map .d
  | .int => (vw S w).bind fun d => (intD d).map .d
  | .all => (lstOf S w).bind fun ds => (boolsOf ds).map fun bs => .d (.bl (bs.all id))
  | .any => (lstOf S w).bind fun ds => (boolsOf ds).map fun bs => .d (.bl (bs.any id))
  | .sum => (seqOf S w).bind fun ds => (intsOf ds).map fun bs => .d (.int bs.sum)
  | .min => (seqOf S w).bind fun ds => match intsOf ds with
    | some bs => (minL bs).map fun m => .d (.int m)
    | none => match lstOf S w with
      | some ds => if bestOk ds then (minDs ds).map .d else none
      | none => none
  | .max => (seqOf S w).bind fun ds => match intsOf ds with
    | some bs => (maxL bs).map fun m => .d (.int m)
    | none => match lstOf S w with
      | some ds => if bestOk ds then (maxDs ds).map .d else none
      | none => none
  | .len => match vw S w with
    | some (.str x) => guard' (fit x.length) (.d (.int x.length))
    | some (.lst ds) => some (.d (.int ds.length))
    | some (.tup ds) => some (.d (.int ds.length))
    | _ => (dctOf S w).map fun kvs => .d (.int kvs.length)
  | .tuple => (seqOf S w).map fun ds => .d (.tup ds)
  | .list => (seqOf S w).map fun ds => .d (.lst ds)
  | .repr => (vw S w).bind fun d => guard' (reprOk d) (.d (.str d.shown))
  | .sorted => (seqOf S w).bind fun ds => guard' (sortOk ds) (.d (.lst (ds.mergeSort leS)))
  | _ => none
@[simp] def d2 (f : D → D → Option D) : W → W → Option W
  | .d a, .d b => (f a b).map .d
  | _, _ => none
@[simp] def bi2 (b : Bi) (a c : W) : Option W := match b with
  | .divmod => d2 divmodD a c
  | .max => d2 max2D a c
  | .min => d2 min2D a c
  | .gcd => d2 gcdD a c
  | _ => none
@[simp] def bi3 (b : Bi) (a c e : W) : Option W := match b with
  | .gcd => (d2 gcdD a c).bind fun g => d2 gcdD g e
  | .max => match a, c, e with
    | .d (.int i), .d (.int j), .d (.int k) => some (.d (.int (if j > i then (if k > j then k else j) else (if k > i then k else i))))
    | _, _, _ => none
  | _ => none
@[simp] def biW (b : Bi) (S : Store) : List W → Option W
  | [w] => bi1 b S w
  | [a, c] => bi2 b a c
  | [a, c, e] => bi3 b a c e
  | _ => none
@[simp] def isiD (t : String) : D → Bool
  | .non => false
  | .bl _ => t == "bool" || t == "int"
  | .int _ => t == "int"
  | .str _ => t == "str"
  | .tup _ => t == "tuple"
  | .lst _ => t == "list"
@[simp] def isiW (ts : List String) (S : Store) (w : W) : Option Bool := match vw S w with
  | some d => some (ts.any fun t => isiD t d)
  | none => none
@[simp] def binW (o : Operator) : W → W → Option W := d2 (binD o)
/-- a range's ends are not too far (by log2: no test by a great number is to be met) -/
def rngOk (n : Int) : Bool := decide (n.natAbs.log2 < 61)
theorem rngOk_lt {n : Int} (h : rngOk n = true) : -(2 ^ 62) ≤ n ∧ n < 2 ^ 62 := by
  have h := of_decide_eq_true h
  by_cases h0 : n.natAbs = 0
  · omega
  · have := (Nat.log2_lt h0).mp h
    omega
theorem rngOk_of {n : Int} (h : n.natAbs < 2000000000000000000) : rngOk n = true := by
  refine decide_eq_true ?_
  by_cases h0 : n.natAbs = 0
  · rw [h0]; decide
  · exact (Nat.log2_lt h0).mpr (by omega)
/-- the items of a list or a tuple -/
@[simp] def seqD : D → Option (Bool × List D)
  | .tup ds => some (true, ds)
  | .lst ds => some (false, ds)
  | _ => none
def it3 (k : ItK) (x y z : D) : Option (List D) := match k with
  | .rng => match x, y, z with
    | .int a, .int b, .int c => guard' (rngOk a && rngOk b && decide (c = -1)) ((List.range (a - b).toNat).map fun (i : Nat) => .int (a + (i : Int) * c))
    | _, _, _ => none
  | .zip => match seqD x, seqD y, seqD z with
    | some a, some b, some c => some ((a.2.zip (b.2.zip c.2)).map fun p => .tup [p.1, p.2.1, p.2.2])
    | _, _, _ => none
  | _ => none
/-- the items that a loop walks -/
def itW (k : ItK) (S : Store) : List W → Option (List D)
  | [w] => match k, w with
    | .seq, .d (.tup ds) => some ds
    | .seq, .d (.lst ds) => some ds
    | .seq, .d (.str x) => guard' (fit x.length) (x.cps.toList.map fun c => .str ⟨#[c]⟩)
    | .rng, .d (.int n) => guard' (rngOk n) ((List.range n.toNat).map fun (i : Nat) => .int (0 + i))
    | .enum, .d (.lst ds) => some (ds.zipIdx.map fun p => .tup [.int p.2, p.1])
    | .enum, .d (.tup ds) => some (ds.zipIdx.map fun p => .tup [.int p.2, p.1])
    | _, _ => none
  | [.d (.int a), .d (.int b)] => match k with
    | .rng => guard' (rngOk a && rngOk b) ((List.range (b - a).toNat).map fun (i : Nat) => .int (a + i))
    | _ => none
  | [.d (.lst a), .d (.lst b)] => match k with
    | .zip => some ((a.zip b).map fun p => .tup [p.1, p.2])
    | _ => none
  | [.d (.tup a), .d (.tup b)] => match k with
    | .zip => some ((a.zip b).map fun p => .tup [p.1, p.2])
    | _ => none
  | [.d x, .d y, .d z] => it3 k x y z
  | _ => none
/-! ### targets -/
mutual
def Tg.bind : Tg → D → Sg → Option Sg
  | .nm i, d, σ => if i < σ.length then some (σ.set i (some (.d d))) else none
  | .tup ts, .tup ds, σ => ts.binds ds σ
  | _, _, _ => none
@[simp] def Tg.binds : Tg → List D → Sg → Option Sg
  | .nil, [], σ => some σ
  | .cons t r, d :: ds, σ => match t.bind d σ with
    | some σ1 => r.binds ds σ1
    | none => none
  | _, _, _ => none
end
@[simp] def wipeW (σ : Sg) : List Nat → Sg
  | [] => σ
  | v :: vs => (wipeW σ vs).set v none
def setC (S : Store) (o i v : W) : Option Store := match o, i, v with
  | .ref r, .d n, .d d => match S[r]? with
    | some (.lst ds) => match n with
      | .int k => (ixN ds.length k).map fun j => S.set r (.lst (ds.set j d))
      | _ => none
    | some (.dct kvs) => match keyD n with
      | some k => if kvs.length < 16777216 then some (S.set r (.dct (putD kvs k d))) else none
      | none => none
    | some (.tks _) => none
    | none => none
  | _, _, _ => none
def mtW (m : Mt) (S : Store) (o : W) (ws : List W) : Res W := match m, o, ws with
  | .append, .ref r, [.d d] => match S[r]? with
    | some (.lst ds) => if ds.length < 16777216 then .ok (.d .non) (S.set r (.lst (ds ++ [d]))) else .fail
    | _ => .fail
  | .extend, .ref r, [.d (.lst es)] => match S[r]? with
    | some (.lst ds) => if fit (ds.length + es.length) then .ok (.d .non) (S.set r (.lst (ds ++ es))) else .fail
    | _ => .fail
  | .pop, .ref r, [.d (.int k)] => match S[r]? with
    | some (.lst ds) => if -(2 ^ 63) ≤ k ∧ k < 2 ^ 63 then match ixN ds.length k with
      | some j => match ds[j]? with
        | some d => .ok (.d d) (S.set r (.lst (ds.eraseIdx j)))
        | none => .fail
      | none => .fail
      else .fail
    | _ => .fail
  | .pop, .ref r, [] => match S[r]? with
    | some (.lst ds) => match ds[ds.length - 1]? with
      | some d => .ok (.d d) (S.set r (.lst ds.dropLast))
      | none => .fail
    | _ => .fail
  | _, _, _ => .fail
/-! ### runs -/
/-- a value that is no function with captured names -/
@[simp] def W.plain : W → Bool
  | .lf _ us => us.isEmpty
  | _ => true
/-- a function made within a def runs: what is handed on is plain -/
def lfOk (us ws : List W) : Bool := us.all W.plain && ws.all W.plain
/-- what slots hold -/
@[simp] def slots (σ : Sg) : List Nat → Option (List W)
  | [] => some []
  | j :: js => match σ[j]? with
    | some (some w) => (slots σ js).map (w :: ·)
    | _ => none
structure Cal where
  fn : Str → List W → Store → Res W
  gl : Str → Option W
  lf : Df → List W → List W → Store → Res W
def Res.quiet {α : Type} : Res α → Res α
  | .exc _ _ => .fail
  | r => r
/-- a function made within a def, with what it captures -/
def capt (d : Df) (js : List Nat) (σ : Sg) (S : Store) : Res W := match slots σ js with
  | some us => if us.all W.plain = true ∧ us.length = d.fr.length then .ok (.lf d us) S else .fail
  | none => .fail
/-- a comprehension's turns -/
def lcLoop (f : D → Store → Res (Option D)) : List D → Store → Res (List D)
  | [], S => .ok [] S
  | d :: ds, S => (f d S).quiet.bind fun o S1 => (lcLoop f ds S1).bind fun r S2 => .ok (match o with
    | some x => x :: r
    | none => r) S2
/-- .. of a list of the store, by fuel -/
def lcLive (f : D → Store → Res (Option D)) (r : Nat) : Nat → Nat → Store → Res (List D)
  | 0, _, _ => .fail
  | n + 1, i, S => match S[r]? with
    | some (.lst ds) => match ds[i]? with
      | some d => (f d S).quiet.bind fun o S1 => (lcLive f r n (i + 1) S1).bind fun out S2 => .ok (match o with
        | some x => x :: out
        | none => out) S2
      | none => .ok [] S
    | _ => .fail
def lcLoop2 (f : D → Store → Res (List D)) : List D → Store → Res (List D)
  | [], S => .ok [] S
  | d :: ds, S => (f d S).quiet.bind fun o S1 => (lcLoop2 f ds S1).bind fun r S2 => .ok (o ++ r) S2
/-- a dict comprehension's turns -/
def dcLoop (f : D → Store → Res (Option (Key × D))) : List D → List (Key × D) → Store → Res (List (Key × D))
  | [], kvs, S => .ok kvs S
  | d :: ds, kvs, S => (f d S).quiet.bind fun o S1 => dcLoop f ds (match o with
    | some p => putD kvs p.1 p.2
    | none => kvs) S1
def dcTurn (ft : D → Sg → Option Sg) (fq fk fe : Sg → Store → Res W) (own : List Nat) (σ : Sg) (d : D) (S : Store) : Res (Option (Key × D)) := match ft d (wipeW σ own) with
        | some σ1 => (fq σ1 S).bind fun b S1 => match truW S1 b with
          | some true => (fk σ1 S1).bind fun y S2 => (fe σ1 S2).bind fun w S3 => match y, w with
            | .d n, .d x => Res.of S3 ((keyD n).map fun k => some (k, x))
            | _, _ => .fail
          | some false => .ok none S1
          | none => .fail
        | none => .fail
/-- the keys of a sort -/
def keyLoop (f : D → Store → Res W) : List D → Store → Res (List D)
  | [], S => .ok [] S
  | d :: ds, S => (f d S).quiet.bind fun w S1 => match w with
    | .d x => (keyLoop f ds S1).bind fun r S2 => .ok (x :: r) S2
    | _ => .fail
def sortBy (ds ks : List D) : List D := ((ds.zip ks).mergeSort fun a b => leS a.2 b.2).map (·.1)
/-- a turn of a comprehension -/
def lcTurn (ft : D → Sg → Option Sg) (fq fe : Sg → Store → Res W) (own : List Nat) (σ : Sg) (d : D) (S : Store) : Res (Option D) := match ft d (wipeW σ own) with
        | some σ1 => (fq σ1 S).bind fun b S1 => match truW S1 b with
          | some true => (fe σ1 S1).bind fun w S2 => match w with
            | .d x => .ok (some x) S2
            | _ => .fail
          | some false => .ok none S1
          | none => .fail
        | none => .fail
/-- a turn of the outer clause of a comprehension of two -/
def lc2Turn (ft : D → Sg → Option Sg) (fi2 : Sg → Store → Res (List D)) (ft2 : D → Sg → Option Sg) (fq fe : Sg → Store → Res W) (own own2 : List Nat) (σ : Sg) (d : D) (S : Store) : Res (List D) := match ft d (wipeW σ own) with
  | some σ1 => (fi2 σ1 S).bind fun items S1 => if fit items.length then lcLoop (lcTurn ft2 fq fe own2 σ1) items S1 else .fail
  | none => .fail
/-- what list(..) takes: a list, a tuple, a text -/
def itemsOf (S : Store) (w : W) : Option (List D) := match w with
  | .d (.str x) => guard' (fit x.length) (x.cps.toList.map fun c => .str ⟨#[c]⟩)
  | w => seqOf S w
/-! sorted(set(..)) of tuples of numbers -/
def tupI : D → Option (List Int)
  | .tup ds => intsOf ds
  | _ => none
def allTI : List D → Option (List (List Int))
  | [] => some []
  | d :: ds => match tupI d, allTI ds with
    | some x, some xs => some (x :: xs)
    | _, _ => none
def codeL : List Int → Int
  | [] => 0
  | d :: r => d * 1000 ^ r.length + codeL r
def ssLen (xs : List (List Int)) : Nat := match xs with
  | [] => 1
  | x :: _ => x.length
def ssOk (xs : List (List Int)) : Bool := decide (xs.length < 64) && decide (1 ≤ ssLen xs) && xs.all fun y => decide (y.length = ssLen xs) && y.all fun i => decide (0 ≤ i) && decide (i < 1000)
def dedupL : List (List Int) → List (List Int)
  | [] => []
  | x :: r => if x ∈ r then dedupL r else x :: dedupL r
def ssL (xs : List (List Int)) : List (List Int) := (dedupL xs).mergeSort fun a b => decide (codeL a ≤ codeL b)
def ssW (S : Store) (w : W) : Option W := match lstOf S w with
  | some ds => match allTI ds with
    | some xs => if ssOk xs = true then some (.d (.lst ((ssL xs).map fun x => .tup (x.map .int)))) else none
    | none => none
  | none => none
/-- sorted(d), d a dict of tuples -/
def sdtW (S : Store) (w : W) : Option W := match w with
  | .ref r => match S[r]? with
    | some (.tks ks) => if ssOk ks = true then some (.d (.lst ((ssL ks).map fun x => .tup (x.map .int)))) else none
    | _ => none
  | _ => none
def putT (ks : List (List Int)) (k : List Int) : List (List Int) := if k ∈ ks then ks else ks ++ [k]
def catK (x y : W) : Option (List Int) := match x, y with
  | .d dx, .d dy => match tupI dx, tupI dy with
    | some (a :: as), some (b :: bs) => if fit ((a :: as).length + (b :: bs).length) = true then some (a :: as ++ (b :: bs)) else none
    | _, _ => none
  | _, _ => none
def setK (S : Store) (q : W) (k : List Int) : Option Store := match q with
  | .ref r => match S[r]? with
    | some (.tks ks) => if ks.length < 16777216 then some (S.set r (.tks (putT ks k))) else none
    | _ => none
  | _ => none
/-! x.join(e), dict(e) -/
def strsD : List D → Option (List Str)
  | [] => some []
  | .str x :: ds => (strsD ds).map (x :: ·)
  | _ => none
def joinOk (a : Str) (ys : List Str) : Bool := fit ((ys.map (·.length)).sum + ys.length * a.length)
def joinW (S : Store) (x : Str) (w : W) : Option W := (seqOf S w).bind fun ds => (strsD ds).bind fun ys => guard' (joinOk x ys) (.d (.str (Txt.join x ys)))
def pairsD : List D → Option (List (Key × D))
  | [] => some []
  | .tup [k, v] :: ds => match keyD k, pairsD ds with
    | some k, some r => some ((k, v) :: r)
    | _, _ => none
  | _ => none
def mergeD (kvs more : List (Key × D)) : List (Key × D) := more.foldl (fun acc kv => putD acc kv.1 kv.2) kvs
def dictW (S : Store) (w : W) : Option W := (lstOf S w).bind fun ds => (pairsD ds).map fun kvs => .dct (mergeD [] kvs)
mutual
@[simp] def evalE (c : Cal) : Ex → Sg → Store → Res W
  | .cst d, _, S => .ok (.d d) S
  | .no, _, _ => .fail
  | .pt _, _, _ => .fail
  | .yes, _, S => .ok (.d (.bl true)) S
  | .var i, σ, S => match σ[i]? with
    | some (some w) => .ok w S
    | _ => .fail
  | .glob x, _, S => Res.of S (c.gl x)
  | .bin o a b, σ, S => (evalE c a σ S).bind fun x S1 => (evalE c b σ S1).bind fun y S2 => Res.of S2 (binW o x y)
  | .neg a, σ, S => (evalE c a σ S).bind fun x S1 => match x with
    | .d d => Res.of S1 ((negD d).map .d)
    | _ => .fail
  | .cmp o a b, σ, S => (evalE c a σ S).bind fun x S1 => (evalE c b σ S1).bind fun y S2 => Res.of S2 ((cmpW o S2 x y).map fun b => .d (.bl b))
  | .chn o p a b d, σ, S => (evalE c a σ S).bind fun x S1 => (evalE c b σ S1).bind fun y S2 => match cmpW o S2 x y with
    | some true => (evalE c d σ S2).bind fun z S3 => Res.of S3 ((cmpW p S3 y z).map fun b => .d (.bl b))
    | some false => .ok (.d (.bl false)) S2
    | none => .fail
  | .and a b, σ, S => (evalE c a σ S).bind fun x S1 => match truW S1 x with
    | some true => evalE c b σ S1
    | some false => .ok x S1
    | none => .fail
  | .or a b, σ, S => (evalE c a σ S).bind fun x S1 => match truW S1 x with
    | some true => .ok x S1
    | some false => evalE c b σ S1
    | none => .fail
  | .not a, σ, S => (evalE c a σ S).bind fun x S1 => Res.of S1 ((truW S1 x).map fun b => .d (.bl (!b)))
  | .ite t a b, σ, S => (evalE c t σ S).bind fun x S1 => match truW S1 x with
    | some true => evalE c a σ S1
    | some false => evalE c b σ S1
    | none => .fail
  | .tup es, σ, S => (evalD c es σ S).bind fun ds S1 => if fit ds.length then .ok (.d (.tup ds)) S1 else .fail
  | .lst es, σ, S => (evalD c es σ S).bind fun ds S1 => if fit ds.length then .ok (.d (.lst ds)) S1 else .fail
  | .cel es, σ, S => (evalD c es σ S).bind fun ds S1 => if fit ds.length then .ok (.ref S1.length) (S1 ++ [.lst ds]) else .fail
  | .dcl, _, S => .ok (.ref S.length) (S ++ [.dct []])
  | .call f es, σ, S => (evalA c es σ S).bind fun ws S1 => c.fn f ws S1
  | .callp f h es ks, σ, S => (evalA c es σ S).bind fun ws S1 => (evalA c ks σ S1).bind fun zs S2 => if ws.length = h.n ∧ zs.length = h.ks.length then c.fn f (h.out (.d .non) ws zs) S2 else .fail
  | .calv i es, σ, S => match σ[i]? with
    | some (some (.fn x)) => match c.gl x with
      | some (.fn _) => (evalA c es σ S).bind fun ws S1 => c.fn x ws S1
      | _ => .fail
    | some (some (.lf f us)) => (evalA c es σ S).bind fun ws S1 => c.lf f us ws S1
    | _ => .fail
  | .bi b es, σ, S => (evalA c es σ S).bind fun ws S1 => Res.of S1 (biW b S1 ws)
  | .isi e ts, σ, S => (evalE c e σ S).bind fun w S1 => Res.of S1 ((isiW ts S1 w).map fun b => .d (.bl b))
  | .mt m o es, σ, S => (evalE c o σ S).bind fun w S1 => match lstOf S1 w with
    | some _ => (evalA c es σ S1).bind fun ws S2 => mtW m S2 w ws
    | none => .fail
  | .ix o i, σ, S => (evalE c o σ S).bind fun w S1 => (evalE c i σ S1).bind fun k S2 => Res.of S2 ((ixW S2 w k).map .d)
  | .sl o a b, σ, S => (evalE c o σ S).bind fun w S1 => (evalP c a σ S1).bind fun lo S2 => (evalP c b σ S2).bind fun hi S3 => Res.of S3 ((vw S3 w).bind fun d => (slD d lo hi).map .d)
  | .lc cel own t i q e, σ, S => (evalI c i σ S).bind fun items S1 => if fit items.length then
      (lcLoop (lcTurn t.bind (evalE c q) (evalE c e) own σ) items S1).bind fun ds S2 => if cel then .ok (.ref S2.length) (S2 ++ [.lst ds]) else .ok (.d (.lst ds)) S2
      else .fail
  | .lc2 cel own own2 t i t2 i2 q e, σ, S => (evalI c i σ S).bind fun items S1 => if fit items.length then
      (lcLoop2 (lc2Turn t.bind (evalI c i2) t2.bind (evalE c q) (evalE c e) own own2 σ) items S1).bind fun ds S2 => if fit ds.length then (if cel then .ok (.ref S2.length) (S2 ++ [.lst ds]) else .ok (.d (.lst ds)) S2) else .fail
      else .fail
  | .sortk i f, σ, S => (evalE c i σ S).bind fun w S1 => (evalE c f σ S1).bind fun g S2 => match seqOf S2 w, g with
    | some ds, .lf f us => if fit ds.length then (keyLoop (fun d S => c.lf f us [.d d] S) ds S2).bind fun ks S3 => if sortOk ks then .ok (.d (.lst (sortBy ds ks))) S3 else .fail
      else .fail
    | _, _ => .fail
  | .lamc _ _ _ _ _, _, _ => .fail
  | .callc f es, σ, S => (evalC c es σ S).bind fun ws S1 => (c.fn f ws S1).bind fun w S2 => if w.plain = true then .ok w S2 else .fail
  | .lam N ps fr js b, _, S => if js.isEmpty && fr.isEmpty then .ok (.lf ⟨N, ps, false, .ret b, []⟩ []) S else .fail
  | .frz _, _, _ => .fail
  | .st _, _, _ => .fail
  | .cl e, σ, S => (evalE c e σ S).bind fun w S1 => match itemsOf S1 w with
    | some ds => .ok (.ref S1.length) (S1 ++ [.lst ds])
    | none => .fail
  | .sset e, σ, S => (evalE c e σ S).bind fun w S1 => Res.of S1 (ssW S1 w)
  | .jn x e, σ, S => (evalE c x σ S).bind fun a S1 => match a with
    | .d (.str x) => (evalE c e σ S1).bind fun w S2 => Res.of S2 (joinW S2 x w)
    | _ => .fail
  | .di e, σ, S => (evalE c e σ S).bind fun w S1 => Res.of S1 (dictW S1 w)
  | .dclT, _, S => .ok (.ref S.length) (S ++ [.tks []])
  | .sdt e, σ, S => (evalE c e σ S).bind fun w S1 => Res.of S1 (sdtW S1 w)
  | .lcr own t x q e, σ, S => (evalE c x σ S).bind fun w S1 => match w with
    | .ref r => match S1[r]? with
      | some (.lst ds) => if fit (ds.length + 1) then (lcLive (lcTurn t.bind (evalE c q) (evalE c e) own σ) r (ds.length + 1) 0 S1).bind fun out S2 => .ok (.d (.lst out)) S2 else .fail
      | _ => .fail
    | _ => .fail
  | .rp es, σ, S => (evalA c es σ S).bind fun ws S1 => Res.of S1 (rpW S1 ws)
  | .dc own t i q k e, σ, S => (evalI c i σ S).bind fun items S1 => if fit items.length then
      (dcLoop (dcTurn t.bind (evalE c q) (evalE c k) (evalE c e) own σ) items [] S1).bind fun kvs S2 => .ok (.dct kvs) S2
      else .fail
  | .nil, _, _ => .fail
  | .cons _ _, _, _ => .fail
  | .it _ _, _, _ => .fail
@[simp] def evalA (c : Cal) : Ex → Sg → Store → Res (List W)
  | .nil, _, S => .ok [] S
  | .cons e r, σ, S => (evalE c e σ S).bind fun w S1 => (evalA c r σ S1).bind fun ws S2 => .ok (w :: ws) S2
  | _, _, _ => .fail
@[simp] def evalC (c : Cal) : Ex → Sg → Store → Res (List W)
  | .nil, _, S => .ok [] S
  | .cons (.lamc N ps fr js b) r, σ, S => (capt ⟨N, ps, false, .ret b, fr⟩ js σ S).bind fun w S1 => (evalC c r σ S1).bind fun ws S2 => .ok (w :: ws) S2
  | .cons e r, σ, S => (evalE c e σ S).bind fun w S1 => if w.plain = true then (evalC c r σ S1).bind fun ws S2 => .ok (w :: ws) S2 else .fail
  | _, _, _ => .fail
@[simp] def evalD (c : Cal) : Ex → Sg → Store → Res (List D)
  | .nil, _, S => .ok [] S
  | .cons (.st e) r, σ, S => (evalE c e σ S).bind fun w S1 => match seqOf S1 w with
    | some es => (evalD c r σ S1).bind fun ds S2 => .ok (es ++ ds) S2
    | none => .fail
  | .cons e r, σ, S => (evalE c e σ S).bind fun w S1 => match w with
    | .d d => (evalD c r σ S1).bind fun ds S2 => .ok (d :: ds) S2
    | _ => .fail
  | _, _, _ => .fail
@[simp] def evalP (c : Cal) : Ex → Sg → Store → Res (Option Int)
  | .no, _, S => .ok none S
  | .pt e, σ, S => (evalE c e σ S).bind fun w S1 => match w with
    | .d (.int i) => .ok (some i) S1
    | _ => .fail
  | _, _, _ => .fail
@[simp] def evalI (c : Cal) : Ex → Sg → Store → Res (List D)
  | .it k es, σ, S => (evalA c es σ S).bind fun ws S1 => Res.of S1 (itW k S1 ws)
  | _, _, _ => .fail
end
/-! ### statements -/
inductive Fl where
  | nx (σ : Sg) (S : Store) | rt (w : W) (S : Store) | bk (σ : Sg) (S : Store) | ct (σ : Sg) (S : Store) | exc (e : Exc) (S : Store) | fail
def Fl.next (f : Fl) (k : Sg → Store → Fl) : Fl := match f with
  | .nx σ S => k σ S
  | f => f
@[simp] theorem Fl.next_nx (σ : Sg) (S : Store) (k : Sg → Store → Fl) : (Fl.nx σ S).next k = k σ S := rfl
@[simp] theorem Fl.next_rt (w : W) (S : Store) (k : Sg → Store → Fl) : (Fl.rt w S).next k = .rt w S := rfl
def Res.fl {α : Type} (r : Res α) (k : α → Store → Fl) : Fl := match r with
  | .ok a S => k a S
  | .exc e S => .exc e S
  | .fail => .fail
@[simp] theorem Res.fl_ok {α : Type} (a : α) (S : Store) (k : α → Store → Fl) : (Res.ok a S).fl k = k a S := rfl
@[simp] def Tx.len : Tx → Nat
  | .cons _ r => r.len + 1
  | _ => 0
mutual
def storeT (c : Cal) : Tx → W → Sg → Store → Res Sg
  | .nm i, w, σ, S => if i < σ.length then .ok (σ.set i (some w)) S else .fail
  | .sub o i, w, σ, S => (evalE c o σ S).bind fun a S1 => (evalE c i σ S1).bind fun k S2 => match setC S2 a k w with
    | some S3 => .ok σ S3
    | none => .fail
  | .subK o a b, _, σ, S => (evalE c o σ S).bind fun q S1 => (evalE c a σ S1).bind fun x S2 => (evalE c b σ S2).bind fun y S3 => match catK x y with
    | some k => match setK S3 q k with
      | some S4 => .ok σ S4
      | none => .fail
    | none => .fail
  | .tup ts, .d (.tup ds), σ, S => if ds.length = ts.len then storeTs c ts ds σ S else .fail
  | .tup ts, .d (.lst ds), σ, S => if ds.length = ts.len then storeTs c ts ds σ S else .fail
  | _, _, _, _ => .fail
def storeTs (c : Cal) : Tx → List D → Sg → Store → Res Sg
  | .nil, [], σ, S => .ok σ S
  | .cons t r, d :: ds, σ, S => (storeT c t (.d d) σ S).bind fun σ1 S1 => storeTs c r ds σ1 S1
  | _, _, _, _ => .fail
end
@[simp] def setAll : List Nat → List W → Sg → Option Sg
  | [], [], σ => some σ
  | i :: is, w :: ws, σ => if i < σ.length then setAll is ws (σ.set i (some w)) else none
  | _, _, _ => none
/-- a turn of a for loop -/
def forTurn (ft : D → Sg → Option Sg) (f : Sg → Store → Fl) (d : D) (σ : Sg) (S : Store) : Fl := match ft d σ with
      | some σ1 => f σ1 S
      | none => .fail
/-- a for loop's turns -/
def forLoop (f : D → Sg → Store → Fl) : List D → Sg → Store → Fl
  | [], σ, S => .nx σ S
  | d :: ds, σ, S => match f d σ S with
    | .nx σ1 S1 => forLoop f ds σ1 S1
    | .ct σ1 S1 => forLoop f ds σ1 S1
    | .bk σ1 S1 => .nx σ1 S1
    | r => r
/-- a while loop's turns -/
def whlLoop (t : Sg → Store → Res Bool) (f : Sg → Store → Fl) : Nat → Sg → Store → Fl
  | 0, _, _ => .fail
  | n + 1, σ, S => (t σ S).fl fun b S1 => if b then match f σ S1 with
    | .nx σ1 S2 => whlLoop t f n σ1 S2
    | .ct σ1 S2 => whlLoop t f n σ1 S2
    | .bk σ1 S2 => .nx σ1 S2
    | r => r
    else .nx σ S1
def Res.tru (r : Res W) : Res Bool := r.bind fun w S => Res.of S (truW S w)
@[simp] def execS (c : Cal) : Stm → Sg → Store → Fl
  | .nil, σ, S => .nx σ S
  | .seq s r, σ, S => (execS c s σ S).next fun σ1 S1 => execS c r σ1 S1
  | .asg t e, σ, S => (evalE c e σ S).fl fun w S1 => (storeT c t w σ S1).fl fun σ1 S2 => .nx σ1 S2
  | .par is es, σ, S => (evalA c es σ S).fl fun ws S1 => match setAll is ws σ with
    | some σ1 => .nx σ1 S1
    | none => .fail
  | .parT is es, σ, S => (evalA c es σ S).fl fun ws S1 => match setAll is ws σ with
    | some σ1 => .nx σ1 S1
    | none => .fail
  | .aug i e, σ, S => match σ[i]? with
    | some (some x) => (evalE c e σ S).fl fun y S1 => match binW .Add x y with
      | some (.d (.int n)) => .nx (σ.set i (some (.d (.int n)))) S1
      | _ => .fail
    | _ => .fail
  | .exp e, σ, S => (evalE c e σ S).fl fun _ S1 => .nx σ S1
  | .ife t a b, σ, S => (evalE c t σ S).tru.fl fun q S1 => if q then execS c a σ S1 else execS c b σ S1
  | .whl n t b, σ, S => whlLoop (fun σ S => (evalE c t σ S).tru) (execS c b) n σ S
  | .loop t i b, σ, S => (evalI c i σ S).fl fun items S1 => forLoop (forTurn t.bind (execS c b)) items σ S1
  | .ret e, σ, S => (evalE c e σ S).fl fun w S1 => .rt w S1
  | .retN, _, S => .rt (.d .non) S
  | .pass, σ, S => .nx σ S
  | .brk, σ, S => .bk σ S
  | .cnt, σ, S => .ct σ S
  | .never, _, _ => .fail
  | .ndef i N ps fr js b, σ, S => if js.isEmpty && fr.isEmpty && decide (i < σ.length) then .nx (σ.set i (some (.lf ⟨N, ps, false, b, []⟩ []))) S else .fail
/-! ### defs -/
@[simp] def startW (d : Df) (ws : List W) : Sg := ws.map some ++ List.replicate (d.names.length - ws.length) none
/-- what is handed back: cells made within are gone, but the one that is handed back -/
@[simp] def close (keep : Bool) (n : Nat) (w : W) (S : Store) : Res W := match w with
  | .ref i => if i < n then .ok (.ref i) (S.take n) else match S[i]? with
    | some (.lst ds) => if keep then .ok (.ref n) (S.take n ++ [.lst ds]) else .ok (.d (.lst ds)) (S.take n)
    | some (.dct kvs) => if keep then .ok (.ref n) (S.take n ++ [.dct kvs]) else .ok (.dct kvs) (S.take n)
    | some (.tks _) => .fail
    | none => .fail
  | .lf f us => if us.isEmpty then .ok (.lf f []) (S.take n) else .fail
  | w => .ok w (S.take n)
def runDf (c : Cal) (d : Df) (ws : List W) (S : Store) : Res W :=
  if ws.length = d.ps.length then match execS c d.body (startW d ws) S with
    | .nx _ S1 => close d.keep S.length (.d .non) S1
    | .rt w S1 => close d.keep S.length w S1
    | .exc e S1 => .exc e (S1.take S.length)
    | _ => .fail
  else .fail
def runLf (c : Cal) (d : Df) (us ws : List W) (S : Store) : Res W := if (us.length = d.fr.length ∧ ws.length = d.ps.length) ∧ lfOk us ws = true then match execS c d.body (startW d (ws ++ us)) S with
    | .nx _ S1 => close d.keep S.length (.d .non) S1
    | .rt w S1 => close d.keep S.length w S1
    | .exc e S1 => .exc e (S1.take S.length)
    | _ => .fail
  else .fail
structure Pg where
  df : Str → Option Df
  gl : Str → Option W
def calAt (P : Pg) : Nat → Cal
  | 0 => ⟨fun _ _ _ => .fail, P.gl, fun _ _ _ _ => .fail⟩
  | k + 1 => ⟨fun f ws S => match P.df f with
    | some d => runDf (calAt P k) d ws S
    | none => .fail, P.gl, runLf (calAt P k)⟩
def call (P : Pg) (k : Nat) (f : Str) (ws : List W) (S : Store) : Res W := (calAt P k).fn f ws S
def callf (P : Pg) (k : Nat) (f : Df) (us ws : List W) (S : Store) : Res W := (calAt P k).lf f us ws S
@[simp] theorem calAt_gl (P : Pg) (k : Nat) : (calAt P k).gl = P.gl := by cases k <;> rfl
theorem call_succ {P : Pg} {k : Nat} {f : Str} {ws : List W} {S : Store} {d : Df} (h : P.df f = some d) : call P (k + 1) f ws S = runDf (calAt P k) d ws S := by
  show (match P.df f with
    | some d => runDf (calAt P k) d ws S
    | none => .fail) = _
  rw [h]
theorem callf_succ {P : Pg} {k : Nat} {f : Df} {us ws : List W} {S : Store} : callf P (k + 1) f us ws S = runLf (calAt P k) f us ws S := rfl
end Pyi
/-! Pb1: what the head's statements name. -/
namespace Pyi
open PySem PySem.Spec PyProof.Rows L2
/-- the text of a function -/
structure FTxt where
  name : Str
  params : Arguments
  body : FuncBody
  scope : Scope
/-- which texts a form stands for -/
class Gd where
  ok : Df → FTxt → Prop
/-- where a def's table of code objects lies -/
def gaK (K : PySem.W.Frag) (x : Str) : Addr := match PySem.W.nsIn K mainGlobals x with
  | some (some (.ref a)) => a
  | _ => 0
def tabAd (K : PySem.W.Frag) (x : Str) : Addr := match K.lookup (gaK K x) with
  | some ⟨_, _, .func fd, _⟩ => (match fd.code with
    | .ref c => (match K.lookup c with
      | some ⟨_, _, .fields vs, _⟩ => (match (vs[11]? : Option Value) with
        | some (.ref p) => p
        | _ => 0)
      | _ => 0)
    | _ => 0)
  | _ => 0
def topNames (P : Program) : List Str := P.main.body.filterMap fun st => match st with
  | .FunctionDef n _ _ _ _ _ _ _ _ _ => some n
  | _ => none
/-- how a function that is made at a place of the text is named -/
def nmOf (P : Program) (l c : Nat) : Str := match P.main.body.find? (fun st => match st with
    | .FunctionDef _ _ _ _ _ _ _ _ _ p => decide (p.line ≤ l) && decide (l ≤ p.endLine)
    | _ => false) with
  | some (.FunctionDef n _ b _ _ _ _ _ _ _) => n ++ (".<locals>." : Str) ++ (match b.find? (fun st => match st with
      | .FunctionDef _ _ _ _ _ _ _ _ _ p => decide (p.line = l) && decide (p.col = c)
      | _ => false) with
    | some (.FunctionDef m _ _ _ _ _ _ _ _ _) => m
    | _ => ("<lambda>" : Str))
  | _ => ("" : Str)
/-- the tables of code objects: where they lie, how what they hold is named -/
structure Tbs where
  ads : List Addr
  nm : Nat → Nat → Str
def tbOf (P : Program) (K : PySem.W.Frag) : Tbs := ⟨(topNames P).map (tabAd K), nmOf P⟩
def bis : List Str := ["abs", "all", "any", "bool", "dict", "divmod", "int", "len", "list", "max", "min", "repr", "sorted", "str", "sum", "tuple", "range", "zip", "enumerate", "isinstance", "set", "reversed"]
/-- one def of the module: its name, its text, its form, how it is called beside by place -/
structure DefT where
  x : Str
  st : Stmt
  df : Df
  hs : List Shape
def DefT.datum (e : DefT) : He.DefD := ⟨(e.x, none), e.x, e.x, defArgs e.st, defBody e.st, defScope e.st, [], []⟩
/-- the module: its defs, its constants -/
structure Mo where
  T : List DefT
  G : List (Str × D)
  gcd : Bool := false
  isq : Bool := false
mutual
/-- a value of the written part is this datum -/
def atB (K : PySem.W.Frag) : D → Value → Bool
  | .non, .none => true
  | .bl a, .bool b => a == b
  | .int i, .int j _ => decide (i = j)
  | .str x, .str y _ => decide (x = y)
  | .tup ds, .ref a => match K.lookup a with
    | some ⟨.type c, _, .seq its _, _⟩ => decide (c = "tuple") && (decide (its.size ≤ sizeLine) && atsB K ds its.toList)
    | _ => false
  | _, _ => false
def atsB (K : PySem.W.Frag) : List D → List Value → Bool
  | [], [] => true
  | d :: ds, v :: vs => atB K d v && atsB K ds vs
  | _, _ => false
end
def gB (K : PySem.W.Frag) (p : Str × D) : Bool := match PySem.W.nsIn K mainGlobals p.1 with
  | some (some v) => atB K p.2 v
  | _ => false
def impB (K : PySem.W.Frag) (b : Bool) (x : Str) (id : String) : Bool := !b || He.eqO (PySem.W.nsIn K mainGlobals x) (some (some (.builtin id)))
def Mo.ex (M : Mo) (K : PySem.W.Frag) : Bool := M.G.all (gB K) && (impB K M.gcd "gcd" "math.gcd" && impB K M.isq "isqrt" "math.isqrt")
def Mo.fa (M : Mo) : List He.Fa := M.T.map (fun e => He.Fa.glo e.x) ++ bis.map He.Fa.free
def Mo.fn (M : Mo) : List He.DefD := M.T.map DefT.datum
/-- the code object of a def and its table -/
def codB (K : PySem.W.Frag) (x : Str) : Bool := match K.lookup (gaK K x) with
  | some ⟨_, _, .func fd, _⟩ => (match fd.code with
    | .ref c => (match K.lookup c with
      | some ⟨.type t, _, .fields vs, _⟩ => decide (t = "code") && (decide (vs[11]? = some (.ref (tabAd K x))) && ((match vs.getD 18 .none with | .str _ _ => true | _ => false) && ((match vs.getD 7 .none with | .int _ _ => true | _ => false) && ((match vs.getD 9 .none with | .bool _ => true | _ => false) &&
        ((match vs.getD 10 .none with | .int _ _ => true | _ => false) && decide (c ≠ tabAd K x))))))
      | _ => false)
    | _ => false)
  | _ => false
open HandSHeadRun in
/-- addresses that are not met yet (a mask), in order -/
def colM {α : Type} : List Addr → Nat → List Addr → (Nat → List Addr → α) → α
  | [], m, acc, k => k m acc
  | a :: r, m, acc, k => match Nat.beq (Nat.land (Nat.shiftRight m a) 1) 0 with
    | true => frNat (Nat.lor m (Nat.shiftLeft 1 a)) fun m => colM r m (a :: acc) k
    | false => colM r m acc k
def levM (g : Addr → Option Obj) : Nat → List Addr → Nat → List Addr → List Addr
  | 0, fr, _, all => all ++ fr
  | n + 1, fr, m, all => colM (fr.flatMap fun a => match g a with
    | some o => He.refsD o
    | none => []) m [] fun m acc => levM g n acc.reverse m (all ++ fr)
/-- what the module's names reach in n steps -/
def asM (g : Addr → Option Obj) (n : Nat) : List Addr := levM g n [mainGlobals] (Nat.shiftLeft 1 mainGlobals) []
def isTab (o : Option Obj) : Bool := match o with
  | some ⟨.none, none, .fields vs, sl⟩ => vs.isEmpty && sl.isEmpty
  | _ => false
def KM (g : Addr → Option Obj) (n : Nat) : PySem.W.Frag := He.frG g ((asM g n).filter fun a => !isTab (g a))
/-- an empty table, out of K -/
def tabB (K : PySem.W.Frag) (g : Addr → Option Obj) (b : Addr) : Bool := (match g b with
  | some ⟨.none, none, .fields vs, sl⟩ => vs.isEmpty && sl.isEmpty
  | _ => false) && (K.lookup b).isNone
abbrev AlX : Type := He.AlD × Bool
def obsX (P : Program) (M : Mo) (n : Nat) (g : Addr → Option Obj) : AlX := (He.obsD M.fa M.fn (KM g n), M.ex (KM g n) && (topNames P).all fun x => tabB (KM g n) g (tabAd (KM g n) x) && codB (KM g n) x)
end Pyi
noncomputable section
namespace HeadI
open PySem PySem.W PySem.Calls PyProof.Rows HandSHeadRun
def impF (st : SharedT → Thread → Option (SharedT × Thread)) : Nat → SharedT → Thread → Option SharedT
  | 0, _, _ => none
  | m + 1, s, t => match t.atExitBegin with
    | some [] => some s
    | some (_ :: _) => none
    | none => match st s t with
      | some (s', t') => frS s' fun s' => impF st m s' t'
      | none => none
def startS (p : Program) : SharedT := ⟨.nil, 0, (start p).1.heap.life, (start p).1.gens, (start p).1.drawn, (start p).1.toks, (start p).1.os⟩
/-- a module's names that are off the table, off the tree -/
def fenceT (m : Str) (s : SharedT) : Option SharedT := match boundIn s.abs.heap sysModules m, tameNamesOf? m with
  | some (.ref a), some row => (match getT s a with
    | some o => (match o.dict with
      | some D => (match getT s D, s.tree.get D with
        | some od, some _ => (match fenceDict? m row od with
          | some od' => some ⟨s.tree.set D (fun _ => od'), s.n, s.life, s.gens, s.drawn, s.toks, s.os⟩
          | none => none)
        | _, _ => none)
      | none => none)
    | none => none)
  | _, _ => none
def fenceTs : List Str → SharedT → Option SharedT
  | [], s => some s
  | m :: r, s => match fenceT m s with
    | some s' => fenceTs r s'
    | none => none
def endI (stO st : SharedT → Thread → Option (SharedT × Thread)) (N M : Nat) (p : Program) : Option (SharedT × SharedT) := match impF stO N (startS (opening p)) (start (opening p)).2 with
  | some s1 => (match fenceTs (importedModules p.main.body) s1 with
    | some s0 => frS s0 fun s0 => (match goF st s0.n (s0.abs.heap.nsMap mainGlobals "__annotations__") M s0 (topStub p) with
      | some s => some (s0, s)
      | none => none)
    | none => none)
  | none => none
def looksI (p : Program) (s0 s : Shared) : Bool := (s0.heap.isNs mainGlobals && s0.gens.size == 0) && (staticsOk (importedModules p.main.body) s0.heap s.heap && namesBound p s.heap && gensDone s && laidKept s0.heap s.heap)
open Pyi in
def tabsB (l : List Str) (K : PySem.W.Frag) (g : Addr → Option Obj) : Bool := l.all fun x => tabB K g (tabAd K x) && codB K x
end HeadI
end
namespace K07
open PySem PySem.Spec PyProof.Rows L2 Pyi
abbrev prg : Program := PySem.Challenge.pw_swingrooms_k07_whole_bows_and_sterns
def topS (i : Nat) : Stmt := prg.main.body.getD i (.Pass ⟨0, 0, 0, 0⟩)
def d_is_whole : Df := ⟨["value"], ["value"], false, (.seq (.ret (.and (.isi (.var 0) ["int"]) (.not (.isi (.var 0) ["bool"])))) .nil), []⟩
def d_is_number : Df := ⟨["value", "low", "high"], ["value", "low", "high"], false, (.seq (.ife (.or (.not (.call "is_whole" (.cons (.var 0) .nil))) (.and (.cmp .IsNot (.var 1) (.cst .non)) (.cmp .Lt (.var 0) (.var 1)))) (.seq (.ret (.cst (.bl false))) .nil) .nil) (.seq (.ret (.or (.cmp .Is (.var 2) (.cst .non)) (.cmp .LtE (.var 0) (.var 2)))) .nil)), []⟩
def d_check_number : Df := ⟨["value", "low", "high"], ["value", "low", "high"], false, (.seq (.ife (.not (.call "is_number" (.cons (.var 0) (.cons (.var 1) (.cons (.var 2) .nil))))) (.seq .never .nil) .nil) .nil), []⟩
def d_lowest : Df := ⟨["number", "scale", "common"], ["number", "scale"], false, (.seq (.asg (.nm 2) (.ite (.cmp .Gt (.var 1) (.cst (.int 0))) (.bi .gcd (.cons (.var 0) (.cons (.var 1) .nil))) (.neg (.bi .gcd (.cons (.var 0) (.cons (.var 1) .nil)))))) (.seq (.ret (.tup (.cons (.bin .FloorDiv (.var 0) (.var 2)) (.cons (.bin .FloorDiv (.var 1) (.var 2)) .nil)))) .nil)), []⟩
def d_is_tuple_of : Df := ⟨["value", "many"], ["value", "many"], false, (.seq (.ret (.and (.isi (.var 0) ["tuple"]) (.cmp .Eq (.bi .len (.cons (.var 0) .nil)) (.var 1)))) .nil), []⟩
def b0_wrong_at : Stm := (.seq (.ife (.or (.cmp .Eq (.var 3) (.var 1)) (.not (.calv 2 (.cons (.var 4) (.cons (.sl (.var 0) .no (.pt (.var 3))) .nil))))) (.seq (.ret (.lst (.cons (.var 3) .nil))) .nil) .nil) .nil)
def d_wrong_at : Df := ⟨["values", "most", "is_right", "at", "value"], ["values", "most", "is_right"], false, (.seq (.ife (.not (.isi (.var 0) ["tuple"])) (.seq (.ret (.lst (.cons (.cst .non) .nil))) .nil) .nil) (.seq (.loop (.tup (.cons (.nm 3) (.cons (.nm 4) .nil))) (.it .enum (.cons (.var 0) .nil)) b0_wrong_at) (.seq (.ret (.lst .nil)) .nil))), []⟩
def d_wrong_from_one : Df := ⟨["values", "most", "is_right"], ["values", "most", "is_right"], false, (.seq (.ife (.or (.not (.isi (.var 0) ["tuple"])) (.cmp .Eq (.var 0) (.tup .nil))) (.seq (.ret (.lst (.cons (.cst .non) .nil))) .nil) .nil) (.seq (.ret (.call "wrong_at" (.cons (.var 0) (.cons (.var 1) (.cons (.var 2) .nil))))) .nil)), []⟩
def c0_is_letters : Ex := (.lc false [3] (.nm 3) (.it .seq (.cons (.var 0) .nil)) .yes (.cmp .In (.var 3) (.glob "SMALL_LETTERS")))
def d_is_letters : Df := ⟨["value", "least", "most", "letter"], ["value", "least", "most"], false, (.seq (.ife (.or (.not (.isi (.var 0) ["str"])) (.not (.chn .LtE .LtE (.var 1) (.bi .len (.cons (.var 0) .nil)) (.var 2)))) (.seq (.ret (.cst (.bl false))) .nil) .nil) (.seq (.ret (.bi .all (.cons c0_is_letters .nil))) .nil)), []⟩
def d_is_name : Df := ⟨["value"], ["value"], false, (.seq (.ret (.and (.call "is_letters" (.cons (.var 0) (.cons (.cst (.int 1)) (.cons (.glob "MOST_IN_NAME") .nil)))) (.cmp .NotIn (.var 0) (.glob "WORDS")))) .nil), []⟩
def d_is_one_of : Df := ⟨["value", "words"], ["value", "words"], false, (.seq (.ret (.and (.isi (.var 0) ["str"]) (.cmp .In (.var 0) (.var 1)))) .nil), []⟩
def d_is_boat_form : Df := ⟨["value"], ["value"], false, (.seq (.ife (.or (.not (.call "is_tuple_of" (.cons (.var 0) (.cons (.cst (.int 3)) .nil)))) (.not (.call "is_name" (.cons (.ix (.var 0) (.cst (.int 0))) .nil)))) (.seq (.ret (.cst (.bl false))) .nil) .nil) (.seq (.ret (.and (.call "is_number" (.cons (.ix (.var 0) (.cst (.int 1))) (.cons (.cst (.int 0)) (.cons (.glob "MOST_ROPE") .nil)))) (.call "is_number" (.cons (.ix (.var 0) (.cst (.int 2))) (.cons (.cst (.int 1)) (.cons (.glob "MOST_LONG") .nil)))))) .nil)), []⟩
def n0_wrong_boats : Stm := (.seq (.ret (.and (.call "is_boat_form" (.cons (.var 0) .nil)) (.or (.cmp .Eq (.var 1) (.tup .nil)) (.cmp .Lt (.ix (.ix (.var 1) (.neg (.cst (.int 1)))) (.cst (.int 0))) (.ix (.var 0) (.cst (.int 0))))))) .nil)
def d_wrong_boats : Df := ⟨["value", "is_right"], ["value"], false, (.seq (.ndef 1 ["each", "before"] ["each", "before"] [] [] n0_wrong_boats) (.seq (.ret (.call "wrong_from_one" (.cons (.var 0) (.cons (.glob "MOST_BOATS") (.cons (.var 1) .nil))))) .nil)), []⟩
def c0_boat_names : Ex := (.lc false [1] (.nm 1) (.it .seq (.cons (.var 0) .nil)) .yes (.ix (.var 1) (.cst (.int 0))))
def d_boat_names : Df := ⟨["boats", "boat"], ["boats"], false, (.seq (.ret (.bi .tuple (.cons c0_boat_names .nil))) .nil), []⟩
def c0_boat_of : Ex := (.lc false [2] (.nm 2) (.it .seq (.cons (.var 0) .nil)) (.cmp .Eq (.ix (.var 2) (.cst (.int 0))) (.var 1)) (.var 2))
def d_boat_of : Df := ⟨["boats", "name", "boat"], ["boats", "name"], false, (.seq (.ret (.ix c0_boat_of (.cst (.int 0)))) .nil), []⟩
def d_reach_of : Df := ⟨["boat"], ["boat"], false, (.seq (.ret (.bin .Add (.ix (.var 0) (.cst (.int 1))) (.ix (.var 0) (.cst (.int 2))))) .nil), []⟩
def c0_with_boat : Ex := (.lc false [2] (.nm 2) (.it .seq (.cons (.var 0) .nil)) .yes (.ite (.cmp .Eq (.ix (.var 2) (.cst (.int 0))) (.ix (.var 1) (.cst (.int 0)))) (.var 1) (.var 2)))
def d_with_boat : Df := ⟨["boats", "boat", "each"], ["boats", "boat"], false, (.seq (.ret (.bi .tuple (.cons c0_with_boat .nil))) .nil), []⟩
def d_dot : Df := ⟨["one", "two"], ["one", "two"], false, (.seq (.ret (.bin .Add (.bin .Mult (.ix (.var 0) (.cst (.int 0))) (.ix (.var 1) (.cst (.int 0)))) (.bin .Mult (.ix (.var 0) (.cst (.int 1))) (.ix (.var 1) (.cst (.int 1)))))) .nil), []⟩
def d_square_of : Df := ⟨["vector"], ["vector"], false, (.seq (.ret (.call "dot" (.cons (.var 0) (.cons (.var 0) .nil)))) .nil), []⟩
def d_is_place_form : Df := ⟨["one", "two"], ["one", "two"], false, (.seq (.ret (.and (.call "is_number" (.cons (.var 0) (.cons (.cst (.int 0)) (.cons (.glob "MOST_PLACE") .nil)))) (.call "is_number" (.cons (.var 1) (.cons (.cst (.int 0)) (.cons (.glob "MOST_PLACE") .nil)))))) .nil), []⟩
def d_is_buoy_form : Df := ⟨["value"], ["value"], false, (.seq (.ret (.and (.call "is_tuple_of" (.cons (.var 0) (.cons (.cst (.int 3)) .nil))) (.and (.call "is_name" (.cons (.ix (.var 0) (.cst (.int 0))) .nil)) (.call "is_place_form" (.cons (.ix (.var 0) (.cst (.int 1))) (.cons (.ix (.var 0) (.cst (.int 2))) .nil)))))) .nil), []⟩
def s0_are_buoys_form : Stm := (.ife (.or (.not (.call "is_buoy_form" (.cons (.var 0) .nil))) (.and (.cmp .NotEq (.var 1) (.tup .nil)) (.cmp .GtE (.ix (.ix (.var 1) (.neg (.cst (.int 1)))) (.cst (.int 0))) (.ix (.var 0) (.cst (.int 0)))))) (.seq (.ret (.cst (.bl false))) .nil) .nil)
def c1_are_buoys_form : Ex := (.lc false [2] (.nm 2) (.it .seq (.cons (.var 1) .nil)) .yes (.cmp .Eq (.sl (.var 2) (.pt (.cst (.int 1))) .no) (.sl (.var 0) (.pt (.cst (.int 1))) .no)))
def n2_are_buoys_form : Stm := (.seq s0_are_buoys_form (.seq (.ret (.not (.bi .any (.cons c1_are_buoys_form .nil)))) .nil))
def d_are_buoys_form : Df := ⟨["value", "is_right"], ["value"], false, (.seq (.ndef 1 ["each", "before", "one"] ["each", "before"] [] [] n2_are_buoys_form) (.seq (.ret (.cmp .Eq (.call "wrong_from_one" (.cons (.var 0) (.cons (.glob "MOST_BUOYS") (.cons (.var 1) .nil)))) (.lst .nil))) .nil)), []⟩
def s0_is_wall_form : Stm := (.ife (.or (.not (.call "is_tuple_of" (.cons (.var 0) (.cons (.cst (.int 4)) .nil)))) (.or (.not (.call "is_place_form" (.cons (.ix (.var 0) (.cst (.int 0))) (.cons (.ix (.var 0) (.cst (.int 1))) .nil)))) (.not (.call "is_place_form" (.cons (.ix (.var 0) (.cst (.int 2))) (.cons (.ix (.var 0) (.cst (.int 3))) .nil)))))) (.seq (.ret (.cst (.bl false))) .nil) .nil)
def d_is_wall_form : Df := ⟨["value"], ["value"], false, (.seq s0_is_wall_form (.seq (.ret (.cmp .LtE (.sl (.var 0) .no (.pt (.cst (.int 2)))) (.sl (.var 0) (.pt (.cst (.int 2))) .no))) .nil)), []⟩
def d_are_walls_form : Df := ⟨["value"], ["value"], false, (.seq (.ret (.cmp .Eq (.call "wrong_at" (.cons (.var 0) (.cons (.glob "MOST_WALLS") (.cons (.glob "is_next_wall") .nil)))) (.lst .nil))) .nil), []⟩
def d_is_next_wall : Df := ⟨["each", "before"], ["each", "before"], false, (.seq (.ret (.and (.call "is_wall_form" (.cons (.var 0) .nil)) (.or (.cmp .Eq (.var 1) (.tup .nil)) (.cmp .Lt (.ix (.var 1) (.neg (.cst (.int 1)))) (.var 0))))) .nil), []⟩
def s0_is_harbour_form : Stm := (.ife (.or (.not (.call "is_tuple_of" (.cons (.var 0) (.cons (.cst (.int 3)) .nil)))) (.not (.call "is_number" (.cons (.ix (.var 0) (.cst (.int 0))) (.cons (.cst (.int 1)) (.cons (.glob "MOST_ROOM") .nil)))))) (.seq (.ret (.cst (.bl false))) .nil) .nil)
def d_is_harbour_form : Df := ⟨["value"], ["value"], false, (.seq s0_is_harbour_form (.seq (.ret (.and (.call "are_buoys_form" (.cons (.ix (.var 0) (.cst (.int 1))) .nil)) (.call "are_walls_form" (.cons (.ix (.var 0) (.cst (.int 2))) .nil)))) .nil)), []⟩
def c0_buoy_names : Ex := (.lc false [1] (.nm 1) (.it .seq (.cons (.ix (.var 0) (.cst (.int 1))) .nil)) .yes (.ix (.var 1) (.cst (.int 0))))
def d_buoy_names : Df := ⟨["harbour", "buoy"], ["harbour"], false, (.seq (.ret (.bi .tuple (.cons c0_buoy_names .nil))) .nil), []⟩
def c0_spots_by : Ex := (.dc [1, 2, 3] (.tup (.cons (.nm 1) (.cons (.nm 2) (.cons (.nm 3) .nil)))) (.it .seq (.cons (.ix (.var 0) (.cst (.int 1))) .nil)) .yes (.var 1) (.tup (.cons (.var 2) (.cons (.var 3) .nil))))
def d_spots_by : Df := ⟨["harbour", "name", "x", "y"], ["harbour"], false, (.seq (.ret c0_spots_by) .nil), []⟩
def d_spot_of : Df := ⟨["harbour", "buoy"], ["harbour", "buoy"], false, (.seq (.ret (.ix (.call "spots_by" (.cons (.var 0) .nil)) (.var 1))) .nil), []⟩
def d_point_at : Df := ⟨["spot", "wind", "length", "scale", "times"], ["spot", "wind", "length", "scale"], false, (.seq (.asg (.nm 4) (.bin .FloorDiv (.var 3) (.ix (.var 1) (.cst (.int 2))))) (.seq (.ret (.tup (.cons (.bin .Add (.bin .Mult (.ix (.var 0) (.cst (.int 0))) (.var 3)) (.bin .Mult (.bin .Mult (.var 2) (.ix (.var 1) (.cst (.int 0)))) (.var 4))) (.cons (.bin .Add (.bin .Mult (.ix (.var 0) (.cst (.int 1))) (.var 3)) (.bin .Mult (.bin .Mult (.var 2) (.ix (.var 1) (.cst (.int 1)))) (.var 4))) .nil)))) .nil)), []⟩
def c0_is_wind_form : Ex := (.lc false [1] (.nm 1) (.it .seq (.cons (.var 0) .nil)) .yes (.call "is_whole" (.cons (.var 1) .nil)))
def s1_is_wind_form : Stm := (.ife (.or (.not (.call "is_tuple_of" (.cons (.var 0) (.cons (.cst (.int 3)) .nil)))) (.or (.not (.bi .all (.cons c0_is_wind_form .nil))) (.not (.chn .LtE .LtE (.cst (.int 1)) (.ix (.var 0) (.cst (.int 2))) (.glob "MOST_SCALE"))))) (.seq (.ret (.cst (.bl false))) .nil) .nil)
def s2_is_wind_form : Stm := (.ife (.or (.cmp .Gt (.bi .abs (.cons (.ix (.var 0) (.cst (.int 0))) .nil)) (.ix (.var 0) (.cst (.int 2)))) (.or (.cmp .Gt (.bi .abs (.cons (.ix (.var 0) (.cst (.int 1))) .nil)) (.ix (.var 0) (.cst (.int 2)))) (.cmp .NotEq (.call "square_of" (.cons (.sl (.var 0) .no (.pt (.cst (.int 2)))) .nil)) (.bin .Mult (.ix (.var 0) (.cst (.int 2))) (.ix (.var 0) (.cst (.int 2))))))) (.seq (.ret (.cst (.bl false))) .nil) .nil)
def d_is_wind_form : Df := ⟨["value", "each"], ["value"], false, (.seq s1_is_wind_form (.seq s2_is_wind_form (.seq (.ret (.cmp .Eq (.bi .gcd (.cons (.ix (.var 0) (.cst (.int 0))) (.cons (.ix (.var 0) (.cst (.int 1))) (.cons (.ix (.var 0) (.cst (.int 2))) .nil)))) (.cst (.int 1)))) .nil))), []⟩
def d_opposite : Df := ⟨["wind"], ["wind"], false, (.seq (.ret (.tup (.cons (.bin .Sub (.cst (.int 0)) (.ix (.var 0) (.cst (.int 0)))) (.cons (.bin .Sub (.cst (.int 0)) (.ix (.var 0) (.cst (.int 1)))) (.cons (.ix (.var 0) (.cst (.int 2))) .nil))))) .nil), []⟩
def d_check_harbour : Df := ⟨["value"], ["value"], false, (.seq (.ife (.not (.call "is_harbour_form" (.cons (.var 0) .nil))) (.seq .never .nil) .nil) .nil), []⟩
def d_check_boats : Df := ⟨["value", "wrong"], ["value"], false, (.seq (.asg (.nm 1) (.call "wrong_boats" (.cons (.var 0) .nil))) (.seq (.ife (.cmp .NotEq (.var 1) (.lst .nil)) (.seq .never .nil) .nil) .nil)), []⟩
def d_check_both : Df := ⟨["harbour", "boats"], ["harbour", "boats"], false, (.seq (.exp (.call "check_harbour" (.cons (.var 0) .nil))) (.seq (.exp (.call "check_boats" (.cons (.var 1) .nil))) .nil)), []⟩
def d_check_boat : Df := ⟨["boats", "value"], ["boats", "value"], false, (.seq (.ife (.not (.call "is_one_of" (.cons (.var 1) (.cons (.call "boat_names" (.cons (.var 0) .nil)) .nil)))) (.seq .never .nil) .nil) .nil), []⟩
def d_check_buoy : Df := ⟨["harbour", "value"], ["harbour", "value"], false, (.seq (.ife (.not (.call "is_one_of" (.cons (.var 1) (.cons (.call "buoy_names" (.cons (.var 0) .nil)) .nil)))) (.seq .never .nil) .nil) .nil), []⟩
def d_check_lying : Df := ⟨["harbour", "boats", "boat", "buoy"], ["harbour", "boats", "boat", "buoy"], false, (.seq (.exp (.call "check_both" (.cons (.var 0) (.cons (.var 1) .nil)))) (.seq (.exp (.call "check_boat" (.cons (.var 1) (.cons (.var 2) .nil)))) (.seq (.exp (.call "check_buoy" (.cons (.var 0) (.cons (.var 3) .nil)))) .nil))), []⟩
def d_check_wind : Df := ⟨["value"], ["value"], false, (.seq (.ife (.not (.call "is_wind_form" (.cons (.var 0) .nil))) (.seq .never .nil) .nil) .nil), []⟩
def d_point_of : Df := ⟨["harbour", "buoy", "wind", "length", "x", "y"], ["harbour", "buoy", "wind", "length"], false, (.seq (.asg (.tup (.cons (.nm 4) (.cons (.nm 5) .nil))) (.call "point_at" (.cons (.call "spot_of" (.cons (.var 0) (.cons (.var 1) .nil))) (.cons (.var 2) (.cons (.var 3) (.cons (.ix (.var 2) (.cst (.int 2))) .nil)))))) (.seq (.ret (.tup (.cons (.call "lowest" (.cons (.var 4) (.cons (.ix (.var 2) (.cst (.int 2))) .nil))) (.cons (.call "lowest" (.cons (.var 5) (.cons (.ix (.var 2) (.cst (.int 2))) .nil))) .nil)))) .nil)), []⟩
def d_check_lies : Df := ⟨["harbour", "boats", "boat", "buoy", "wind"], ["harbour", "boats", "boat", "buoy", "wind"], false, (.seq (.exp (.call "check_lying" (.cons (.var 0) (.cons (.var 1) (.cons (.var 2) (.cons (.var 3) .nil)))))) (.seq (.exp (.call "check_wind" (.cons (.var 4) .nil))) .nil)), []⟩
def d_bow : Df := ⟨["harbour", "boats", "boat", "buoy", "wind"], ["harbour", "boats", "boat", "buoy", "wind"], false, (.seq (.exp (.call "check_lies" (.cons (.var 0) (.cons (.var 1) (.cons (.var 2) (.cons (.var 3) (.cons (.var 4) .nil))))))) (.seq (.ret (.call "point_of" (.cons (.var 0) (.cons (.var 3) (.cons (.var 4) (.cons (.ix (.call "boat_of" (.cons (.var 1) (.cons (.var 2) .nil))) (.cst (.int 1))) .nil)))))) .nil)), []⟩
def d_stern : Df := ⟨["harbour", "boats", "boat", "buoy", "wind"], ["harbour", "boats", "boat", "buoy", "wind"], false, (.seq (.exp (.call "check_lies" (.cons (.var 0) (.cons (.var 1) (.cons (.var 2) (.cons (.var 3) (.cons (.var 4) .nil))))))) (.seq (.ret (.call "point_of" (.cons (.var 0) (.cons (.var 3) (.cons (.var 4) (.cons (.call "reach_of" (.cons (.call "boat_of" (.cons (.var 1) (.cons (.var 2) .nil))) .nil)) .nil)))))) .nil)), []⟩
def d_check_one : Df := ⟨["boats", "boat"], ["boats", "boat"], false, (.seq (.exp (.call "check_boats" (.cons (.var 0) .nil))) (.seq (.exp (.call "check_boat" (.cons (.var 0) (.cons (.var 1) .nil)))) .nil)), []⟩
def d_reach : Df := ⟨["boats", "boat"], ["boats", "boat"], false, (.seq (.exp (.call "check_one" (.cons (.var 0) (.cons (.var 1) .nil)))) (.seq (.ret (.call "reach_of" (.cons (.call "boat_of" (.cons (.var 0) (.cons (.var 1) .nil))) .nil))) .nil)), []⟩
def d_with_rope : Df := ⟨["boats", "boat", "rope"], ["boats", "boat", "rope"], false, (.seq (.exp (.call "check_one" (.cons (.var 0) (.cons (.var 1) .nil)))) (.seq (.exp (.call "check_number" (.cons (.var 2) (.cons (.cst (.int 0)) (.cons (.glob "MOST_ROPE") .nil))))) (.seq (.ret (.call "with_boat" (.cons (.var 0) (.cons (.tup (.cons (.var 1) (.cons (.var 2) (.cons (.ix (.call "boat_of" (.cons (.var 0) (.cons (.var 1) .nil))) (.cst (.int 2))) .nil)))) .nil)))) .nil))), []⟩
def d_back : Df := ⟨["wind"], ["wind"], false, (.seq (.exp (.call "check_wind" (.cons (.var 0) .nil))) (.seq (.ret (.call "opposite" (.cons (.var 0) .nil))) .nil)), []⟩
def b0__law_well : Stm := (.seq (.asg (.nm 2) (.bin .Mod (.bi .int (.cons (.bin .Add (.bin .Add (.bin .Mult (.var 2) (.cst (.int 47521))) (.bin .Mod (.bi .int (.cons (.var 3) .nil)) (.cst (.int 2147483549)))) (.cst (.int 41))) .nil)) (.cst (.int 2147483629)))) .nil)
def d__law_well : Df := ⟨["script", "lap", "stirred", "cell", "own"], ["script", "lap"], true, (.seq (.asg (.nm 2) (.bin .Add (.cst (.int 2117273)) (.bin .Mult (.cst (.int 5231)) (.var 1)))) (.seq (.loop (.nm 3) (.it .seq (.cons (.sl (.var 0) .no (.pt (.cst (.int 9)))) .nil)) b0__law_well) (.seq (.asg (.nm 4) (.ite (.cmp .Lt (.var 1) (.bi .len (.cons (.var 0) .nil))) (.bi .int (.cons (.ix (.var 0) (.var 1)) .nil)) (.cst (.int 0)))) (.seq (.asg (.nm 2) (.bin .Mod (.bi .int (.cons (.bin .Add (.bin .Add (.bin .Mult (.var 2) (.cst (.int 61))) (.bin .Mult (.bin .Mod (.bi .int (.cons (.var 4) .nil)) (.cst (.int 2147483549))) (.cst (.int 16007)))) (.cst (.int 17))) .nil)) (.cst (.int 2147483629)))) (.seq (.ret (.cel (.cons (.ite (.or (.cmp .Lt (.var 4) (.cst (.int 0))) (.cmp .GtE (.var 4) (.bin .Pow (.cst (.int 10)) (.cst (.int 15))))) (.bi .abs (.cons (.var 4) .nil)) (.cst (.int 0))) (.cons (.var 2) (.cons (.cst (.int 0)) .nil))))) .nil))))), []⟩
def s0__law_draw : Stm := (.ife (.cmp .Gt (.ix (.var 0) (.cst (.int 0))) (.cst (.int 0))) (.seq (.asg (.tup (.cons (.sub (.var 0) (.cst (.int 0))) (.cons (.nm 2) .nil))) (.bi .divmod (.cons (.ix (.var 0) (.cst (.int 0))) (.cons (.var 1) .nil)))) (.seq (.ret (.var 2)) .nil)) .nil)
def d__law_draw : Df := ⟨["well", "limit", "figure", "mixed"], ["well", "limit"], false, (.seq s0__law_draw (.seq (.asg (.sub (.var 0) (.cst (.int 2))) (.bin .Add (.ix (.var 0) (.cst (.int 2))) (.cst (.int 1)))) (.seq (.asg (.nm 3) (.bin .Mod (.bi .int (.cons (.bin .Add (.bin .Mult (.ix (.var 0) (.cst (.int 1))) (.cst (.int 40009))) (.bin .Mult (.cst (.int 15013)) (.ix (.var 0) (.cst (.int 2))))) .nil)) (.cst (.int 2147483629)))) (.seq (.asg (.sub (.var 0) (.cst (.int 1))) (.bin .Mod (.bi .int (.cons (.bin .Add (.bin .Mult (.var 3) (.bin .Add (.bin .Mod (.bi .int (.cons (.var 3) .nil)) (.cst (.int 5003))) (.cst (.int 20011)))) (.ix (.var 0) (.cst (.int 2)))) .nil)) (.cst (.int 2147483629)))) (.seq (.ret (.bin .Mod (.bi .int (.cons (.bin .FloorDiv (.ix (.var 0) (.cst (.int 1))) (.cst (.int 1031))) .nil)) (.var 1))) .nil))))), []⟩
def d__law_of : Df := ⟨["well", "some"], ["well", "some"], false, (.seq (.ret (.ix (.var 1) (.call "_law_draw" (.cons (.var 0) (.cons (.bi .len (.cons (.var 1) .nil)) .nil))))) .nil), []⟩
def b0__law_unlike : Stm := (.seq (.exp (.mt .pop (.var 3) (.cons (.call "_law_draw" (.cons (.var 0) (.cons (.bi .len (.cons (.var 3) .nil)) .nil))) .nil))) .nil)
def d__law_unlike : Df := ⟨["well", "some", "many", "left", "turn"], ["well", "some", "many"], false, (.seq (.asg (.nm 3) (.cl (.var 1))) (.seq (.loop (.nm 4) (.it .rng (.cons (.bin .Sub (.bi .len (.cons (.var 1) .nil)) (.var 2)) .nil)) b0__law_unlike) (.seq (.ret (.var 3)) .nil))), []⟩
def d__law_is : Df := ⟨["told", "due"], ["told", "due"], false, (.seq (.ret (.cmp .Eq (.bi .repr (.cons (.var 0) .nil)) (.bi .repr (.cons (.var 1) .nil)))) .nil), []⟩
def d__law_words : Df := ⟨["some"], [], false, (.seq (.asg (.nm 0) (.lst (.cons (.cst (.str "alike")) (.cons (.cst (.str "apart")) (.cons (.cst (.str "at")) (.cons (.cst (.str "away")) (.cons (.cst (.str "boat")) (.cons (.cst (.str "buoy")) (.cons (.cst (.str "clear")) (.cons (.cst (.str "each")) (.cons (.cst (.str "field")) (.cons (.cst (.str "from")) (.cons (.cst (.str "harbour")) (.cons (.cst (.str "let")) .nil)))))))))))))) (.seq (.asg (.nm 0) (.bin .Add (.var 0) (.lst (.cons (.cst (.str "long")) (.cons (.cst (.str "move")) (.cons (.cst (.str "none")) (.cons (.cst (.str "place")) (.cons (.cst (.str "reach")) (.cons (.cst (.str "room")) (.cons (.cst (.str "rope")) (.cons (.cst (.str "row")) (.cons (.cst (.str "swap")) (.cons (.cst (.str "to")) (.cons (.cst (.str "wall")) .nil)))))))))))))) (.seq (.asg (.nm 0) (.bin .Add (.var 0) (.lst (.cons (.cst (.str "wind")) .nil)))) (.seq (.ret (.var 0)) .nil)))), []⟩
def b0__law_names : Stm := (.seq (.asg (.nm 5) (.bin .Add (.var 5) (.ix (.var 3) (.call "_law_draw" (.cons (.var 0) (.cons (.cst (.int 26)) .nil)))))) .nil)
def b1__law_names : Stm := (.seq (.asg (.nm 5) (.var 4)) (.seq (.loop (.nm 6) (.it .rng (.cons (.call "_law_of" (.cons (.var 0) (.cons (.tup (.cons (.cst (.int 0)) (.cons (.cst (.int 0)) (.cons (.cst (.int 1)) (.cons (.cst (.int 2)) (.cons (.cst (.int 4)) (.cons (.cst (.int 7)) .nil))))))) .nil))) .nil)) b0__law_names) (.seq (.exp (.mt .append (.var 2) (.cons (.ite (.cmp .In (.var 5) (.call "_law_words" .nil)) (.bin .Add (.sl (.var 5) .no (.pt (.cst (.int 7)))) (.cst (.str "q"))) (.var 5)) .nil))) .nil)))
def d__law_names : Df := ⟨["well", "many", "found", "letters", "letter", "name", "turn"], ["well", "many"], false, (.seq (.par [2, 3] (.cons (.cel .nil) (.cons (.cst (.str "abcdefghijklmnopqrstuvwxyz")) .nil))) (.seq (.loop (.nm 4) (.it .seq (.cons (.call "_law_unlike" (.cons (.var 0) (.cons (.sl (.var 3) .no (.pt (.cst (.int 25)))) (.cons (.var 1) .nil)))) .nil)) b1__law_names) (.seq (.ret (.var 2)) .nil))), []⟩
def d__law_place : Df := ⟨["well", "high"], ["well", "high"], false, (.seq (.ret (.tup (.cons (.call "_law_draw" (.cons (.var 0) (.cons (.bin .Add (.var 1) (.cst (.int 1))) .nil))) (.cons (.call "_law_draw" (.cons (.var 0) (.cons (.bin .Add (.var 1) (.cst (.int 1))) .nil))) .nil)))) .nil), []⟩
def b0__law_harbour : Stm := (.seq (.asg (.nm 8) (.call "_law_place" (.cons (.var 0) (.cons (.var 3) .nil)))) (.seq (.ife (.cmp .NotIn (.var 8) (.var 4)) (.seq (.exp (.mt .append (.var 4) (.cons (.var 8) .nil))) (.seq (.exp (.mt .append (.var 5) (.cons (.bin .Add (.tup (.cons (.var 7) .nil)) (.var 8)) .nil))) .nil)) .nil) .nil))
def b1__law_harbour : Stm := (.seq (.par [10, 11] (.cons (.call "_law_place" (.cons (.var 0) (.cons (.var 3) .nil))) (.cons (.call "_law_place" (.cons (.var 0) (.cons (.var 3) .nil))) .nil))) (.seq (.asg (.nm 11) (.ite (.cmp .Eq (.call "_law_draw" (.cons (.var 0) (.cons (.cst (.int 5)) .nil))) (.cst (.int 0))) (.var 10) (.var 11))) (.seq (.exp (.mt .append (.var 6) (.cons (.bin .Add (.bi .min (.cons (.var 10) (.cons (.var 11) .nil))) (.bi .max (.cons (.var 10) (.cons (.var 11) .nil)))) .nil))) .nil)))
def d__law_harbour : Df := ⟨["well", "most", "walls", "high", "places", "found", "rows", "name", "place", "turn", "one", "two"], ["well", "most", "walls", "high"], false, (.seq (.par [4, 5, 6] (.cons (.cel .nil) (.cons (.cel .nil) (.cons (.cel .nil) .nil)))) (.seq (.loop (.nm 7) (.it .seq (.cons (.call "_law_names" (.cons (.var 0) (.cons (.bin .Add (.cst (.int 1)) (.bi .max (.cons (.call "_law_draw" (.cons (.var 0) (.cons (.var 1) .nil))) (.cons (.call "_law_draw" (.cons (.var 0) (.cons (.var 1) .nil))) .nil)))) .nil))) .nil)) b0__law_harbour) (.seq (.loop (.nm 9) (.it .rng (.cons (.call "_law_draw" (.cons (.var 0) (.cons (.bin .Add (.var 2) (.cst (.int 1))) .nil))) .nil)) b1__law_harbour) (.seq (.ret (.tup (.cons (.bin .Add (.cst (.int 1)) (.call "_law_draw" (.cons (.var 0) (.cons (.call "_law_of" (.cons (.var 0) (.cons (.tup (.cons (.cst (.int 4)) (.cons (.cst (.int 99)) .nil))) .nil))) .nil)))) (.cons (.bi .tuple (.cons (.var 5) .nil)) (.cons (.bi .tuple (.cons (.sset (.var 6)) .nil)) .nil))))) .nil)))), []⟩
def b0__law_boats : Stm := (.seq (.exp (.mt .append (.var 4) (.cons (.tup (.cons (.var 5) (.cons (.call "_law_draw" (.cons (.var 0) (.cons (.bin .Add (.var 2) (.cst (.int 1))) .nil))) (.cons (.bin .Add (.cst (.int 1)) (.call "_law_draw" (.cons (.var 0) (.cons (.var 3) .nil)))) .nil)))) .nil))) .nil)
def d__law_boats : Df := ⟨["well", "most", "rope", "long", "found", "name"], ["well", "most", "rope", "long"], false, (.seq (.asg (.nm 4) (.cel .nil)) (.seq (.loop (.nm 5) (.it .seq (.cons (.call "_law_names" (.cons (.var 0) (.cons (.bin .Add (.cst (.int 1)) (.bi .max (.cons (.call "_law_draw" (.cons (.var 0) (.cons (.var 1) .nil))) (.cons (.call "_law_draw" (.cons (.var 0) (.cons (.var 1) .nil))) .nil)))) .nil))) .nil)) b0__law_boats) (.seq (.ret (.bi .tuple (.cons (.var 4) .nil))) .nil))), []⟩
def c0__law_spot : Ex := (.lc false [2, 3, 4] (.tup (.cons (.nm 2) (.cons (.nm 3) (.cons (.nm 4) .nil)))) (.it .seq (.cons (.ix (.var 0) (.cst (.int 1))) .nil)) (.cmp .Eq (.var 2) (.var 1)) (.tup (.cons (.var 3) (.cons (.var 4) .nil))))
def d__law_spot : Df := ⟨["harbour", "buoy", "name", "x", "y"], ["harbour", "buoy"], false, (.seq (.ret (.ix c0__law_spot (.cst (.int 0)))) .nil), []⟩
def c0__law_boat : Ex := (.lc false [2, 3, 4] (.tup (.cons (.nm 2) (.cons (.nm 3) (.cons (.nm 4) .nil)))) (.it .seq (.cons (.var 0) .nil)) (.cmp .Eq (.var 2) (.var 1)) (.tup (.cons (.var 3) (.cons (.var 4) .nil))))
def d__law_boat : Df := ⟨["boats", "boat", "name", "rope", "long"], ["boats", "boat"], false, (.seq (.ret (.ix c0__law_boat (.cst (.int 0)))) .nil), []⟩
def t0__law_divisor : Ex := (.cmp .Gt (.var 1) (.cst (.int 0)))
def b1__law_divisor : Stm := (.seq (.par [0, 1] (.cons (.var 1) (.cons (.bin .Sub (.var 0) (.bin .Mult (.var 1) (.bin .FloorDiv (.var 0) (.var 1)))) .nil))) .nil)
def d__law_divisor : Df := ⟨["one", "two"], ["one", "two"], false, (.seq (.par [0, 1] (.cons (.bi .abs (.cons (.var 0) .nil)) (.cons (.bi .abs (.cons (.var 1) .nil)) .nil))) (.seq (.whl 1000000000000000000000 t0__law_divisor b1__law_divisor) (.seq (.ret (.var 0)) .nil))), []⟩
def d__law_part : Df := ⟨["number", "scale", "own"], ["number", "scale"], false, (.seq (.asg (.nm 2) (.call "_law_divisor" (.cons (.var 0) (.cons (.var 1) .nil)))) (.seq (.ret (.tup (.cons (.bin .FloorDiv (.var 0) (.var 2)) (.cons (.bin .FloorDiv (.var 1) (.var 2)) .nil)))) .nil)), []⟩
def d__law_lowest : Df := ⟨["c", "s", "n", "own"], ["c", "s", "n"], false, (.seq (.asg (.nm 3) (.call "_law_divisor" (.cons (.call "_law_divisor" (.cons (.var 0) (.cons (.var 1) .nil))) (.cons (.var 2) .nil)))) (.seq (.ret (.tup (.cons (.bin .FloorDiv (.var 0) (.var 3)) (.cons (.bin .FloorDiv (.var 1) (.var 3)) (.cons (.bin .FloorDiv (.var 2) (.var 3)) .nil))))) .nil)), []⟩
def d__law_wind : Df := ⟨["well", "most", "one", "two"], ["well", "most"], false, (.seq (.par [2, 3] (.cons (.bin .Sub (.call "_law_draw" (.cons (.var 0) (.cons (.bin .Add (.bin .Mult (.cst (.int 2)) (.var 1)) (.cst (.int 1))) .nil))) (.var 1)) (.cons (.bin .Sub (.call "_law_draw" (.cons (.var 0) (.cons (.bin .Add (.bin .Mult (.cst (.int 2)) (.var 1)) (.cst (.int 1))) .nil))) (.var 1)) .nil))) (.seq (.ife (.and (.cmp .Eq (.var 2) (.cst (.int 0))) (.cmp .Eq (.var 3) (.cst (.int 0)))) (.seq (.ret (.tup (.cons (.cst (.int 0)) (.cons (.cst (.int 1)) (.cons (.cst (.int 1)) .nil))))) .nil) .nil) (.seq (.ret (.call "_law_lowest" (.cons (.bin .Sub (.bin .Mult (.var 2) (.var 2)) (.bin .Mult (.var 3) (.var 3))) (.cons (.bin .Mult (.bin .Mult (.cst (.int 2)) (.var 2)) (.var 3)) (.cons (.bin .Add (.bin .Mult (.var 2) (.var 2)) (.bin .Mult (.var 3) (.var 3))) .nil))))) .nil))), []⟩
def d__law_at : Df := ⟨["harbour", "buoy", "far", "wind", "x", "y", "c", "s", "n"], ["harbour", "buoy", "far", "wind"], false, (.seq (.asg (.tup (.cons (.tup (.cons (.nm 4) (.cons (.nm 5) .nil))) (.cons (.tup (.cons (.nm 6) (.cons (.nm 7) (.cons (.nm 8) .nil)))) .nil))) (.tup (.cons (.call "_law_spot" (.cons (.var 0) (.cons (.var 1) .nil))) (.cons (.var 3) .nil)))) (.seq (.ret (.tup (.cons (.call "_law_part" (.cons (.bin .Add (.bin .Mult (.var 4) (.var 8)) (.bin .Mult (.var 2) (.var 6))) (.cons (.var 8) .nil))) (.cons (.call "_law_part" (.cons (.bin .Add (.bin .Mult (.var 5) (.var 8)) (.bin .Mult (.var 2) (.var 7))) (.cons (.var 8) .nil))) .nil)))) .nil)), []⟩
def a0__law_right : Stm := (.par [2, 3] (.cons (.call "_law_harbour" (.cons (.var 0) (.cons (.cst (.int 6)) (.cons (.cst (.int 2)) (.cons (.call "_law_of" (.cons (.var 0) (.cons (.tup (.cons (.cst (.int 9)) (.cons (.cst (.int 199)) .nil))) .nil))) .nil))))) (.cons (.call "_law_boats" (.cons (.var 0) (.cons (.cst (.int 5)) (.cons (.cst (.int 99)) (.cons (.cst (.int 99)) .nil))))) .nil)))
def a1__law_right : Stm := (.asg (.nm 4) (.call "_law_wind" (.cons (.var 0) (.cons (.call "_law_of" (.cons (.var 0) (.cons (.tup (.cons (.cst (.int 1)) (.cons (.cst (.int 4)) (.cons (.cst (.int 60)) .nil)))) .nil))) .nil))))
def a2__law_right : Stm := (.par [5, 6] (.cons (.ix (.call "_law_of" (.cons (.var 0) (.cons (.var 3) .nil))) (.cst (.int 0))) (.cons (.ix (.call "_law_of" (.cons (.var 0) (.cons (.ix (.var 2) (.cst (.int 1))) .nil))) (.cst (.int 0))) .nil)))
def a3__law_right : Stm := (.asg (.tup (.cons (.nm 7) (.cons (.nm 8) .nil))) (.call "_law_boat" (.cons (.var 3) (.cons (.var 5) .nil))))
def a4__law_right : Stm := (.par [9, 10] (.cons (.call "_law_at" (.cons (.var 2) (.cons (.var 6) (.cons (.var 7) (.cons (.var 4) .nil))))) (.cons (.call "_law_at" (.cons (.var 2) (.cons (.var 6) (.cons (.bin .Add (.var 7) (.var 8)) (.cons (.var 4) .nil))))) .nil)))
def a5__law_right : Stm := (.asg (.nm 11) (.cel (.cons (.call "bow" (.cons (.var 2) (.cons (.var 3) (.cons (.var 5) (.cons (.var 6) (.cons (.var 4) .nil)))))) .nil)))
def a6__law_right : Stm := (.exp (.mt .append (.var 11) (.cons (.callp "bow" ⟨0, ["wind", "buoy", "boat", "boats", "harbour"], [4, 3, 2, 1, 0]⟩ .nil (.cons (.var 4) (.cons (.var 6) (.cons (.var 5) (.cons (.var 3) (.cons (.var 2) .nil)))))) .nil)))
def a7__law_right : Stm := (.exp (.mt .append (.var 11) (.cons (.call "stern" (.cons (.var 2) (.cons (.var 3) (.cons (.var 5) (.cons (.var 6) (.cons (.var 4) .nil)))))) .nil)))
def a8__law_right : Stm := (.exp (.mt .append (.var 11) (.cons (.callp "stern" ⟨0, ["wind", "buoy", "boat", "boats", "harbour"], [4, 3, 2, 1, 0]⟩ .nil (.cons (.var 4) (.cons (.var 6) (.cons (.var 5) (.cons (.var 3) (.cons (.var 2) .nil)))))) .nil)))
def a9__law_right : Stm := (.asg (.tup (.cons (.tup (.cons (.nm 12) (.cons (.nm 13) .nil))) (.cons (.nm 14) .nil))) (.tup (.cons (.call "_law_spot" (.cons (.var 2) (.cons (.var 6) .nil))) (.cons (.call "stern" (.cons (.var 2) (.cons (.var 3) (.cons (.var 5) (.cons (.var 6) (.cons (.call "back" (.cons (.var 4) .nil)) .nil)))))) .nil))))
def s10__law_right : Stm := (.ife (.cmp .NotEq (.bin .Add (.bin .Mult (.ix (.var 15) (.cst (.int 0))) (.ix (.var 16) (.cst (.int 1)))) (.bin .Mult (.ix (.var 16) (.cst (.int 0))) (.ix (.var 15) (.cst (.int 1))))) (.bin .Mult (.bin .Mult (.bin .Mult (.cst (.int 2)) (.var 17)) (.ix (.var 15) (.cst (.int 1)))) (.ix (.var 16) (.cst (.int 1))))) (.seq (.ret (.cst (.bl false))) .nil) .nil)
def b11__law_right : Stm := (.seq s10__law_right .nil)
def a12__law_right : Stm := (.asg (.nm 18) (.call "with_rope" (.cons (.var 3) (.cons (.var 5) (.cons (.cst (.int 0)) .nil)))))
def a13__law_right : Stm := (.asg (.nm 19) (.tup (.cons (.tup (.cons (.var 12) (.cons (.cst (.int 1)) .nil))) (.cons (.tup (.cons (.var 13) (.cons (.cst (.int 1)) .nil))) .nil))))
def s14__law_right : Stm := (.ife (.not (.call "_law_is" (.cons (.lst (.cons (.call "bow" (.cons (.var 2) (.cons (.var 18) (.cons (.var 5) (.cons (.var 6) (.cons (.var 4) .nil)))))) (.cons (.call "reach" (.cons (.var 18) (.cons (.var 5) .nil))) .nil))) (.cons (.lst (.cons (.var 19) (.cons (.var 8) .nil))) .nil)))) (.seq (.ret (.cst (.bl false))) .nil) .nil)
def a15__law_right : Stm := (.asg (.nm 20) (.call "with_rope" (.cons (.var 3) (.cons (.var 5) (.cons (.call "reach" (.cons (.var 3) (.cons (.var 5) .nil))) .nil)))))
def s16__law_right : Stm := (.ife (.cmp .LtE (.call "reach" (.cons (.var 3) (.cons (.var 5) .nil))) (.cst (.int 99))) (.seq a15__law_right (.seq (.ife (.not (.call "_law_is" (.cons (.call "bow" (.cons (.var 2) (.cons (.var 20) (.cons (.var 5) (.cons (.var 6) (.cons (.var 4) .nil)))))) (.cons (.var 10) .nil)))) (.seq (.ret (.cst (.bl false))) .nil) .nil) .nil)) .nil)
def b17__law_right : Stm := (.seq a0__law_right (.seq a1__law_right (.seq a2__law_right (.seq a3__law_right (.seq a4__law_right (.seq a5__law_right (.seq a6__law_right (.seq a7__law_right (.seq a8__law_right (.seq (.ife (.not (.call "_law_is" (.cons (.var 11) (.cons (.lst (.cons (.var 9) (.cons (.var 9) (.cons (.var 10) (.cons (.var 10) .nil))))) .nil)))) (.seq (.ret (.cst (.bl false))) .nil) .nil) (.seq a9__law_right (.seq (.loop (.tup (.cons (.nm 15) (.cons (.nm 16) (.cons (.nm 17) .nil)))) (.it .zip (.cons (.var 10) (.cons (.var 14) (.cons (.tup (.cons (.var 12) (.cons (.var 13) .nil))) .nil)))) b11__law_right) (.seq a12__law_right (.seq a13__law_right (.seq s14__law_right (.seq s16__law_right .nil))))))))))))))))
def d__law_right : Df := ⟨["well", "turn", "harbour", "boats", "wind", "name", "buoy", "rope", "long", "due", "own", "had", "x", "y", "other", "mine", "yours", "here", "short", "nothing", "far"], ["well"], false, (.seq (.loop (.nm 1) (.it .rng (.cons (.cst (.int 8)) .nil)) b17__law_right) (.seq (.ret (.cst (.bl true))) .nil)), []⟩
def c0_law : Ex := (.lc false [1] (.nm 1) (.it .rng (.cons (.bi .max (.cons (.cst (.int 1)) (.cons (.bi .min (.cons (.bi .len (.cons (.var 0) .nil)) (.cons (.cst (.int 3)) .nil))) .nil))) .nil)) .yes (.call "_law_right" (.cons (.call "_law_well" (.cons (.var 0) (.cons (.var 1) .nil))) .nil)))
def d_law : Df := ⟨["script", "lap"], ["script"], false, (.seq (.ret (.bi .all (.cons c0_law .nil))) .nil), []⟩
def e_is_whole : DefT := ⟨"is_whole", topS 13, d_is_whole, []⟩
def e_is_number : DefT := ⟨"is_number", topS 14, d_is_number, []⟩
def e_check_number : DefT := ⟨"check_number", topS 15, d_check_number, []⟩
def e_lowest : DefT := ⟨"lowest", topS 16, d_lowest, []⟩
def e_is_tuple_of : DefT := ⟨"is_tuple_of", topS 17, d_is_tuple_of, []⟩
def e_wrong_at : DefT := ⟨"wrong_at", topS 18, d_wrong_at, []⟩
def e_wrong_from_one : DefT := ⟨"wrong_from_one", topS 19, d_wrong_from_one, []⟩
def e_is_letters : DefT := ⟨"is_letters", topS 20, d_is_letters, []⟩
def e_is_name : DefT := ⟨"is_name", topS 21, d_is_name, []⟩
def e_is_one_of : DefT := ⟨"is_one_of", topS 22, d_is_one_of, []⟩
def e_is_boat_form : DefT := ⟨"is_boat_form", topS 27, d_is_boat_form, []⟩
def e_wrong_boats : DefT := ⟨"wrong_boats", topS 28, d_wrong_boats, []⟩
def e_boat_names : DefT := ⟨"boat_names", topS 29, d_boat_names, []⟩
def e_boat_of : DefT := ⟨"boat_of", topS 30, d_boat_of, []⟩
def e_reach_of : DefT := ⟨"reach_of", topS 31, d_reach_of, []⟩
def e_with_boat : DefT := ⟨"with_boat", topS 32, d_with_boat, []⟩
def e_dot : DefT := ⟨"dot", topS 34, d_dot, []⟩
def e_square_of : DefT := ⟨"square_of", topS 35, d_square_of, []⟩
def e_is_place_form : DefT := ⟨"is_place_form", topS 41, d_is_place_form, []⟩
def e_is_buoy_form : DefT := ⟨"is_buoy_form", topS 42, d_is_buoy_form, []⟩
def e_are_buoys_form : DefT := ⟨"are_buoys_form", topS 43, d_are_buoys_form, []⟩
def e_is_wall_form : DefT := ⟨"is_wall_form", topS 44, d_is_wall_form, []⟩
def e_are_walls_form : DefT := ⟨"are_walls_form", topS 45, d_are_walls_form, []⟩
def e_is_next_wall : DefT := ⟨"is_next_wall", topS 46, d_is_next_wall, []⟩
def e_is_harbour_form : DefT := ⟨"is_harbour_form", topS 47, d_is_harbour_form, []⟩
def e_buoy_names : DefT := ⟨"buoy_names", topS 48, d_buoy_names, []⟩
def e_spots_by : DefT := ⟨"spots_by", topS 49, d_spots_by, []⟩
def e_spot_of : DefT := ⟨"spot_of", topS 50, d_spot_of, []⟩
def e_point_at : DefT := ⟨"point_at", topS 52, d_point_at, []⟩
def e_is_wind_form : DefT := ⟨"is_wind_form", topS 55, d_is_wind_form, []⟩
def e_opposite : DefT := ⟨"opposite", topS 56, d_opposite, []⟩
def e_check_harbour : DefT := ⟨"check_harbour", topS 58, d_check_harbour, []⟩
def e_check_boats : DefT := ⟨"check_boats", topS 59, d_check_boats, []⟩
def e_check_both : DefT := ⟨"check_both", topS 60, d_check_both, []⟩
def e_check_boat : DefT := ⟨"check_boat", topS 61, d_check_boat, []⟩
def e_check_buoy : DefT := ⟨"check_buoy", topS 62, d_check_buoy, []⟩
def e_check_lying : DefT := ⟨"check_lying", topS 63, d_check_lying, []⟩
def e_check_wind : DefT := ⟨"check_wind", topS 64, d_check_wind, []⟩
def e_point_of : DefT := ⟨"point_of", topS 66, d_point_of, []⟩
def e_check_lies : DefT := ⟨"check_lies", topS 67, d_check_lies, []⟩
def e_bow : DefT := ⟨"bow", topS 68, d_bow, [⟨0, ["wind", "buoy", "boat", "boats", "harbour"], [4, 3, 2, 1, 0]⟩]⟩
def e_stern : DefT := ⟨"stern", topS 69, d_stern, [⟨0, ["wind", "buoy", "boat", "boats", "harbour"], [4, 3, 2, 1, 0]⟩]⟩
def e_check_one : DefT := ⟨"check_one", topS 71, d_check_one, []⟩
def e_reach : DefT := ⟨"reach", topS 72, d_reach, []⟩
def e_with_rope : DefT := ⟨"with_rope", topS 73, d_with_rope, []⟩
def e_back : DefT := ⟨"back", topS 75, d_back, []⟩
def e__law_well : DefT := ⟨"_law_well", topS 77, d__law_well, []⟩
def e__law_draw : DefT := ⟨"_law_draw", topS 78, d__law_draw, []⟩
def e__law_of : DefT := ⟨"_law_of", topS 79, d__law_of, []⟩
def e__law_unlike : DefT := ⟨"_law_unlike", topS 80, d__law_unlike, []⟩
def e__law_is : DefT := ⟨"_law_is", topS 81, d__law_is, []⟩
def e__law_words : DefT := ⟨"_law_words", topS 82, d__law_words, []⟩
def e__law_names : DefT := ⟨"_law_names", topS 83, d__law_names, []⟩
def e__law_place : DefT := ⟨"_law_place", topS 84, d__law_place, []⟩
def e__law_harbour : DefT := ⟨"_law_harbour", topS 85, d__law_harbour, []⟩
def e__law_boats : DefT := ⟨"_law_boats", topS 86, d__law_boats, []⟩
def e__law_spot : DefT := ⟨"_law_spot", topS 87, d__law_spot, []⟩
def e__law_boat : DefT := ⟨"_law_boat", topS 88, d__law_boat, []⟩
def e__law_divisor : DefT := ⟨"_law_divisor", topS 89, d__law_divisor, []⟩
def e__law_part : DefT := ⟨"_law_part", topS 90, d__law_part, []⟩
def e__law_lowest : DefT := ⟨"_law_lowest", topS 91, d__law_lowest, []⟩
def e__law_wind : DefT := ⟨"_law_wind", topS 92, d__law_wind, []⟩
def e__law_at : DefT := ⟨"_law_at", topS 93, d__law_at, []⟩
def e__law_right : DefT := ⟨"_law_right", topS 94, d__law_right, []⟩
def e_law : DefT := ⟨"law", topS 95, d_law, []⟩
def mo : Mo := ⟨[e_is_whole, e_is_number, e_check_number, e_lowest, e_is_tuple_of, e_wrong_at, e_wrong_from_one, e_is_letters, e_is_name, e_is_one_of, e_is_boat_form, e_wrong_boats, e_boat_names, e_boat_of, e_reach_of, e_with_boat, e_dot, e_square_of, e_is_place_form, e_is_buoy_form, e_are_buoys_form, e_is_wall_form, e_are_walls_form, e_is_next_wall, e_is_harbour_form, e_buoy_names, e_spots_by, e_spot_of, e_point_at, e_is_wind_form, e_opposite, e_check_harbour, e_check_boats, e_check_both, e_check_boat, e_check_buoy, e_check_lying, e_check_wind, e_point_of, e_check_lies, e_bow, e_stern, e_check_one, e_reach, e_with_rope, e_back, e__law_well, e__law_draw, e__law_of, e__law_unlike, e__law_is, e__law_words, e__law_names, e__law_place, e__law_harbour, e__law_boats, e__law_spot, e__law_boat, e__law_divisor, e__law_part, e__law_lowest, e__law_wind, e__law_at, e__law_right, e_law], [("SMALL_LETTERS", (.str "abcdefghijklmnopqrstuvwxyz")), ("MOST_IN_NAME", (.int 8)), ("WORDS", (.tup [(.str "alike"), (.str "apart"), (.str "at"), (.str "away"), (.str "boat"), (.str "buoy"), (.str "clear"), (.str "each"), (.str "field"), (.str "from"), (.str "harbour"), (.str "let"), (.str "long"), (.str "move"), (.str "none"), (.str "place"), (.str "reach"), (.str "room"), (.str "rope"), (.str "row"), (.str "swap"), (.str "to"), (.str "wall"), (.str "wind")])), ("MOST_ROPE", (.int 99)), ("MOST_LONG", (.int 99)), ("MOST_BOATS", (.int 7)), ("MOST_ROOM", (.int 99)), ("MOST_PLACE", (.int 199)), ("MOST_BUOYS", (.int 8)), ("MOST_WALLS", (.int 8)), ("MOST_SCALE", (.int 1000000000000))], true, false⟩
end K07
namespace K07
open PySem PySem.Spec PyProof.Rows L2 Pyi
def loose0 : List Str := ["gcd", "BoatError", "InvalidHarbour", "InvalidNumber", "InvalidWind", "UnknownBoat", "UnknownBuoy", "InvalidBoats", "SMALL_LETTERS", "MOST_IN_NAME", "WORDS", "is_whole", "is_number", "check_number", "lowest", "is_tuple_of", "wrong_at", "wrong_from_one", "is_letters", "is_name"]
def loose1 : List Str := ["is_one_of", "MOST_ROPE", "MOST_LONG", "MOST_BOATS", "is_boat_form", "wrong_boats", "boat_names", "boat_of", "reach_of", "with_boat", "dot", "square_of", "MOST_ROOM", "MOST_PLACE", "MOST_BUOYS", "MOST_WALLS", "is_place_form", "is_buoy_form", "are_buoys_form", "is_wall_form"]
def loose2 : List Str := ["are_walls_form", "is_next_wall", "is_harbour_form", "buoy_names", "spots_by", "spot_of", "point_at", "MOST_SCALE", "is_wind_form", "opposite", "check_harbour", "check_boats", "check_both", "check_boat", "check_buoy", "check_lying", "check_wind", "point_of", "check_lies", "bow"]
def loose3 : List Str := ["stern", "check_one", "reach", "with_rope", "back", "_law_well", "_law_draw", "_law_of", "_law_unlike", "_law_is", "_law_words", "_law_names", "_law_place", "_law_harbour", "_law_boats", "_law_spot", "_law_boat", "_law_divisor", "_law_part", "_law_lowest"]
def loose4 : List Str := ["_law_wind", "_law_at", "_law_right"]
def loose : List Str := loose0 ++ loose1 ++ loose2 ++ loose3 ++ loose4
abbrev R : PySem.W.OpenRow := PySem.W.OpenLaw.row PySem.Challenge.rw_swingrooms_k07_whole_bows_and_sterns
open PySem.W PySem.Calls HandSHeadRun in
theorem run_0 (w : World) : (HeadI.endI (HandSHeadRun.stepQ (HandSHeadRun.denQ HandSHeadRun.tabQ) (opening R.prog) w) (HandSHeadRun.stepQ (HandSHeadRun.denQ HandSHeadRun.tabQ) R.prog w) 4000 8000 R.prog).map (fun s => (HeadI.looksI R.prog s.1.abs s.2.abs, seenQ (PySem.W.view R.prog [95]) loose (importedModules R.prog.main.body) (fun s => xlAt (PySem.W.view R.prog [95]) [] s && recOk R.toRowW.records s) s.2.abs)) = some (true, (openGood (PySem.W.view R.prog [95]) loose)) := by kernel_rfl
open PySem.W PySem.Calls HandSHeadRun in
theorem run_1 (w : World) : (HeadI.endI (HandSHeadRun.stepQ (HandSHeadRun.denQ HandSHeadRun.tabQ) (opening R.prog) w) (HandSHeadRun.stepQ (HandSHeadRun.denQ HandSHeadRun.tabQ) R.prog w) 4000 8000 R.prog).map (fun s => ((mo.fa.all fun f => f.ok (KM (getT s.2) 4)) && mo.fn.all fun d => d.ok (KM (getT s.2) 4), mo.fn.map fun d => He.fnW (KM (getT s.2) 4) d.at_)) = some (true, (mo.fn.map He.DefD.val)) := by kernel_rfl
open PySem.W PySem.Calls HandSHeadRun in
theorem run_2 (w : World) : (HeadI.endI (HandSHeadRun.stepQ (HandSHeadRun.denQ HandSHeadRun.tabQ) (opening R.prog) w) (HandSHeadRun.stepQ (HandSHeadRun.denQ HandSHeadRun.tabQ) R.prog w) 4000 8000 R.prog).map (fun s => (mo.ex (KM (getT s.2) 4), (HeadI.tabsB ((topNames PySem.Challenge.rw_swingrooms_k07_whole_bows_and_sterns.prog).take 45) (KM (getT s.2) 4) (getT s.2), HeadI.tabsB ((topNames PySem.Challenge.rw_swingrooms_k07_whole_bows_and_sterns.prog).drop 45) (KM (getT s.2) 4) (getT s.2)))) = some (true, (true, true)) := by kernel_rfl
end K07
/-! Pc: how data and values lie in the heap. -/
namespace Pyi
open PySem PySem.Spec PyProof.Rows L2
abbrev H0 : Hp := fun _ => none
/-- a function made within a def: its text, its qualified name, its captured cells, its code object -/
structure MF where
  t : FTxt
  qual : Str
  cl : List (Str × Addr)
  c : Addr
abbrev MF.fd (M : MF) (doc pm ctv : Value) : FuncData := { name := M.t.name, qualname := M.qual, params := M.t.params, body := M.t.body, scope := M.t.scope, globals := mainGlobals, closure := M.cl, defaults := .none, kwdefaults := .none, doc := doc, pyModule := pm, annotations := none, code := .ref M.c, closureTuple := ctv, builtins := builtinsNs }
/-- the object at f is the function M -/
def MfO (f : Addr) (M : MF) : HO := .ext fun h => ∃ (od : Option Addr) (sl : Array (Option Value)) (doc pm ctv : Value), h.get? f = some (⟨.type "function", od, .func (M.fd doc pm ctv), sl⟩ : Obj)
/-- the object at c is o -/
def CellO (c : Addr) (o : Obj) : HO := .ext fun h => h.get? c = some o
theorem mfO_ne {f : Addr} {M : MF} (ps : Array Value) : MfO f M ≠ .tbl ps := fun z => by
  unfold MfO at z
  cases z
theorem cellO_ne {c : Addr} {o : Obj} (ps : Array Value) : CellO c o ≠ .tbl ps := fun z => by
  unfold CellO at z
  cases z
theorem mfO_at {P : Program} {w : World} {H : Hp} {h : Heap} {f : Addr} {M : MF} (hok : HOk P w H h) (e : H f = some (MfO f M)) : ∃ (od : Option Addr) (sl : Array (Option Value)) (doc pm ctv : Value), h.get? f = some (⟨.type "function", od, .func (M.fd doc pm ctv), sl⟩ : Obj) := by
  obtain ⟨z, _, _⟩ := hok f _ e
  exact z
theorem cellO_at {P : Program} {w : World} {H : Hp} {h : Heap} {c : Addr} {o : Obj} (hok : HOk P w H h) (e : H c = some (CellO c o)) : h.get? c = some o := by
  obtain ⟨z, _, _⟩ := hok c _ e
  exact z
/-- no table of code objects (these alone change while they are known) -/
def NT (o : HO) : Prop := ∀ ps, o ≠ .tbl ps
abbrev tbX (X : Cx) : Tbs := tbOf X.prog X.K
/-- a table: each code object that it tells is known -/
def TabF (nm : Nat → Nat → Str) (F : Addr → Nat) (H : Hp) (a : Addr) : Prop := ∃ ps : Array Value, H a = some (.tbl ps) ∧ TriplesOk ps.toList ∧ ∀ (pos : Pos) (cv : Value), codeAmong pos ps.toList = some cv → ∃ c, cv = .ref c ∧ F c = 1 ∧ H c = some (LamX.CodeO c (nm pos.line pos.col))
section
variable [Gd] (K : PySem.W.Frag) (mg : Str → Option Value) (F : Addr → Nat) (m : List Addr) (H : Hp)
def TupF (a : Addr) (vs : List V) : Prop := SqT K H a vs ∧ (F a = 1 ∨ SqT K H0 a vs)
def LstF (a : Addr) (vs : List V) : Prop := SqL K H a vs ∧ (F a = 1 ∨ SqL K H0 a vs)
mutual
def AtD : D → V → Prop
  | .non, v => v = .non
  | .bl b, v => v = .bl b
  | .int i, v => v = .int i
  | .str x, v => v = .str x
  | .tup ds, v => ∃ a vs, v = .ref a ∧ TupF K F H a vs ∧ AtDs ds vs
  | .lst ds, v => ∃ a vs, v = .ref a ∧ LstF K F H a vs ∧ AtDs ds vs
def AtDs : List D → List V → Prop
  | [], vs => vs = []
  | d :: ds, vs => ∃ v r, vs = v :: r ∧ AtD d v ∧ AtDs ds r
end
def AtKV : List (Key × D) → List (Key × V) → Prop
  | [], vs => vs = []
  | (k, d) :: ds, vs => ∃ v r, vs = (k, v) :: r ∧ AtD K F H d v ∧ AtKV ds r
mutual
def AtW : W → V → Prop
  | .d d, v => AtD K F H d v
  | .dct kvs, v => ∃ a vs, v = .ref a ∧ F a = 1 ∧ H a = some (.dK vs) ∧ AtKV K F H kvs vs
  | .ref i, v => ∃ a, m[i]? = some a ∧ v = .ref a
  | .fn x, v => ∃ f, mg x = some (.ref f) ∧ v = .ref f
  | .lf d ws, v => ∃ f M, v = .ref f ∧ F f = 1 ∧ H f = some (MfO f M) ∧ F M.c = 1 ∧ H M.c = some (LamX.CodeO M.c M.qual) ∧ Gd.ok d M.t ∧ (∀ y c, M.cl.lookup y = some c → y ∈ d.fr) ∧ (∀ x y c, M.cl.lookup x = some c → M.cl.lookup y = some c → x = y) ∧ AtCs M.cl d.fr ws
/-- what is captured lies in cells that nobody writes -/
def AtCs : List (Str × Addr) → List Str → List W → Prop
  | _, fr, [] => fr = []
  | cl, fr, w :: ws => ∃ y r c o u v, fr = y :: r ∧ cl.lookup y = some c ∧ F c = 1 ∧ H c = some (CellO c o) ∧ o.data = .cell (some u) ∧ RelV v u ∧ AtW w v ∧ AtCs cl r ws
end
def AtWs : List W → List V → Prop
  | [], vs => vs = []
  | d :: ds, vs => ∃ v r, vs = v :: r ∧ AtW K mg F m H d v ∧ AtWs ds r
def CellAt : Cell → Option HO → Prop
  | .lst ds, o => ∃ vs, o = some (.lst vs) ∧ AtDs K F H ds vs
  | .dct kvs, o => ∃ vs, o = some (.dK vs) ∧ AtKV K F H kvs vs
  | .tks ks, o => ∃ vs : List (List Key × V), o = some (.dT vs) ∧ vs.map (·.1) = ks.map (fun k => k.map Sum.inl)
def SgAt (σd : Sg) (σ : L2.St) : Prop := σd.length = σ.length ∧ ∀ (i : Nat) w, σd[i]? = some (some w) → ∃ v, σ[i]? = some (some v) ∧ AtW K mg F m H w v
end
structure Wd (t : Tbs) (K : PySem.W.Frag) (F : Addr → Nat) (m : List Addr) (H : Hp) (S : Store) : Prop where
  len : m.length = S.length
  nd : m.Nodup
  nF : ∀ a ∈ m, F a = 0
  Fs : ∀ a, F a ≠ 0 → H a ≠ none
  cell : ∀ (i : Nat) a c, m[i]? = some a → S[i]? = some c → CellAt K F H c (H a)
  tab : ∀ a ∈ t.ads, F a = 3 ∧ TabF t.nm F H a
  tup : ∀ a vs, H a = some (.tup vs) → F a ≤ 1
theorem nt_tup {vs : List V} : NT (.tup vs) := fun _ z => nomatch z
theorem nt_lst {vs : List V} : NT (.lst vs) := fun _ z => nomatch z
theorem nt_dK {vs : List (Key × V)} : NT (.dK vs) := fun _ z => nomatch z
theorem nt_code {c : Addr} {q : Str} : NT (LamX.CodeO c q) := fun ps => LamX.codeO_ne ps
theorem nt_frz {o : Obj} {u : HO} : NT (.frz o u) := fun _ z => nomatch z
/-- what is referenced stands -/
abbrev Kp (F : Addr → Nat) (H : Hp) (F' : Addr → Nat) (H' : Hp) : Prop := ∀ a, F a = 1 → F' a = 1 ∧ ∀ o, H a = some o → NT o → H' a = some o
theorem Kp.of {F F' : Addr → Nat} {H H' : Hp} (h : ∀ a, F a = 1 → F' a = 1 ∧ H' a = H a) : Kp F H F' H' := fun a ha => ⟨(h a ha).1, fun o e _ => (h a ha).2.trans e⟩
theorem TabF.mono {nm : Nat → Nat → Str} {F F' : Addr → Nat} {H H' : Hp} {a : Addr} (h : TabF nm F H a) (e : Kp F H F' H') (ha : H' a = H a) : TabF nm F' H' a := by
  obtain ⟨ps, h1, h2, h3⟩ := h
  refine ⟨ps, ha.trans h1, h2, fun pos cv hc => ?_⟩
  obtain ⟨c, e1, e2, e3⟩ := h3 pos cv hc
  exact ⟨c, e1, (e c e2).1, (e c e2).2 _ e3 nt_code⟩
/-- what stood stands -/
structure Ext (F : Addr → Nat) (m : List Addr) (H : Hp) (F' : Addr → Nat) (m' : List Addr) (H' : Hp) : Prop where
  f : ∀ a, F a ≠ 0 → F' a = F a ∧ ∀ o, H a = some o → NT o → H' a = some o
  p : m <+: m'
theorem Ext.of {F F' : Addr → Nat} {m m' : List Addr} {H H' : Hp} (f : ∀ a, F a ≠ 0 → F' a = F a ∧ H' a = H a) (p : m <+: m') : Ext F m H F' m' H' := ⟨fun a h => ⟨(f a h).1, fun o e _ => (f a h).2.trans e⟩, p⟩
theorem Ext.refl {F : Addr → Nat} {m : List Addr} {H : Hp} : Ext F m H F m H := .of (fun _ _ => ⟨rfl, rfl⟩) (List.prefix_refl _)
theorem Ext.trans {F F1 F2 : Addr → Nat} {m m1 m2 : List Addr} {H H1 H2 : Hp} (a : Ext F m H F1 m1 H1) (b : Ext F1 m1 H1 F2 m2 H2) : Ext F m H F2 m2 H2 :=
  ⟨fun x h => by
    obtain ⟨h1, h2⟩ := a.f x h
    obtain ⟨h3, h4⟩ := b.f x (by rw [h1]; exact h)
    exact ⟨h3.trans h1, fun o e n => h4 o (h2 o e n) n⟩, a.p.trans b.p⟩
theorem Ext.g {F F' : Addr → Nat} {m m' : List Addr} {H H' : Hp} (x : Ext F m H F' m' H') : Kp F H F' H' := fun a h => by
  obtain ⟨h1, h2⟩ := x.f a (by rw [h]; decide)
  exact ⟨h1.trans h, h2⟩
section
variable [Gd] {t : Tbs} {K : PySem.W.Frag} {mg : Str → Option Value} {F F' : Addr → Nat} {m m' : List Addr} {H H' : Hp} {S : Store}
theorem sqT_mono {a : Addr} {vs : List V} (e : ∀ o, H a = some o → NT o → H' a = some o) (h : SqT K H a vs) : SqT K H' a vs := by
  rcases h with (h | ⟨o, h⟩) | h
  · exact .inl (.inl (e _ h nt_tup))
  · exact .inl (.inr ⟨o, e _ h nt_frz⟩)
  · exact .inr h
theorem sqL_mono {a : Addr} {vs : List V} (e : ∀ o, H a = some o → NT o → H' a = some o) (h : SqL K H a vs) : SqL K H' a vs := by
  rcases h with (h | ⟨o, h⟩) | h
  · exact .inl (.inl (e _ h nt_lst))
  · exact .inl (.inr ⟨o, e _ h nt_frz⟩)
  · exact .inr h
theorem sqT_wr {a : Addr} {vs : List V} (h : SqT K H0 a vs) : SqT K H a vs := by
  rcases h with (h | ⟨o, h⟩) | h
  · cases h
  · cases h
  · exact .inr h
theorem sqL_wr {a : Addr} {vs : List V} (h : SqL K H0 a vs) : SqL K H a vs := by
  rcases h with (h | ⟨o, h⟩) | h
  · cases h
  · cases h
  · exact .inr h
theorem TupF.mono {a : Addr} {vs : List V} (e : Kp F H F' H') (h : TupF K F H a vs) : TupF K F' H' a vs := by
  obtain ⟨h1, h2 | h2⟩ := h
  · exact ⟨sqT_mono (e a h2).2 h1, .inl (e a h2).1⟩
  · exact ⟨sqT_wr h2, .inr h2⟩
theorem LstF.mono {a : Addr} {vs : List V} (e : Kp F H F' H') (h : LstF K F H a vs) : LstF K F' H' a vs := by
  obtain ⟨h1, h2 | h2⟩ := h
  · exact ⟨sqL_mono (e a h2).2 h1, .inl (e a h2).1⟩
  · exact ⟨sqL_wr h2, .inr h2⟩
mutual
theorem AtD.mono (e : Kp F H F' H') : ∀ {d : D} {v : V}, AtD K F H d v → AtD K F' H' d v
  | .non, _, h => h
  | .bl _, _, h => h
  | .int _, _, h => h
  | .str _, _, h => h
  | .tup ds, _, h => by
    obtain ⟨a, vs, rfl, h1, h2⟩ := h
    exact ⟨a, vs, rfl, h1.mono e, AtDs.mono e h2⟩
  | .lst ds, _, h => by
    obtain ⟨a, vs, rfl, h1, h2⟩ := h
    exact ⟨a, vs, rfl, h1.mono e, AtDs.mono e h2⟩
theorem AtDs.mono (e : Kp F H F' H') : ∀ {ds : List D} {vs : List V}, AtDs K F H ds vs → AtDs K F' H' ds vs
  | [], _, h => h
  | d :: ds, _, h => by
    obtain ⟨v, r, rfl, h1, h2⟩ := h
    exact ⟨v, r, rfl, AtD.mono e h1, AtDs.mono e h2⟩
end
theorem AtKV.mono (e : Kp F H F' H') : ∀ {ds : List (Key × D)} {vs : List (Key × V)}, AtKV K F H ds vs → AtKV K F' H' ds vs
  | [], _, h => h
  | (k, d) :: ds, _, h => by
    obtain ⟨v, r, rfl, h1, h2⟩ := h
    exact ⟨v, r, rfl, AtD.mono e h1, AtKV.mono e h2⟩
theorem pre_get {α : Type} {m m' : List α} (p : m <+: m') {i : Nat} {a : α} (h : m[i]? = some a) : m'[i]? = some a := by
  obtain ⟨r, rfl⟩ := p
  rw [List.getElem?_append_left (List.getElem?_eq_some_iff.mp h).1]
  exact h
mutual
theorem AtW.mono (e : Ext F m H F' m' H') : ∀ {w : W} {v : V}, AtW K mg F m H w v → AtW K mg F' m' H' w v
  | .d _, _, h => AtD.mono e.g h
  | .dct kvs, _, h => by
    obtain ⟨a, vs, rfl, h1, h2, h3⟩ := h
    exact ⟨a, vs, rfl, (e.g a h1).1, (e.g a h1).2 _ h2 nt_dK, AtKV.mono e.g h3⟩
  | .ref i, _, h => by
    obtain ⟨a, h1, rfl⟩ := h
    exact ⟨a, pre_get e.p h1, rfl⟩
  | .fn _, _, h => h
  | .lf d ws, _, h => by
    obtain ⟨f, M, rfl, h1, h2, h3, h4, h5, h6, h7, h8⟩ := h
    exact ⟨f, M, rfl, (e.g f h1).1, (e.g f h1).2 _ h2 (fun ps => mfO_ne ps), (e.g M.c h3).1, (e.g M.c h3).2 _ h4 nt_code, h5, h6, h7, AtCs.mono e h8⟩
theorem AtCs.mono (e : Ext F m H F' m' H') : ∀ {cl : List (Str × Addr)} {fr : List Str} {ws : List W}, AtCs K mg F m H cl fr ws → AtCs K mg F' m' H' cl fr ws
  | _, _, [], h => h
  | cl, _, w :: ws, h => by
    obtain ⟨y, r, c, o, u, v, rfl, h1, h2, h3, h6, h7, h4, h5⟩ := h
    exact ⟨y, r, c, o, u, v, rfl, h1, (e.g c h2).1, (e.g c h2).2 _ h3 (fun ps => cellO_ne ps), h6, h7, AtW.mono e h4, AtCs.mono e h5⟩
end
theorem AtWs.mono (e : Ext F m H F' m' H') : ∀ {ws : List W} {vs : List V}, AtWs K mg F m H ws vs → AtWs K mg F' m' H' ws vs
  | [], _, h => h
  | w :: ws, _, h => by
    obtain ⟨v, r, rfl, h1, h2⟩ := h
    exact ⟨v, r, rfl, AtW.mono e h1, AtWs.mono e h2⟩
theorem CellAt.mono (e : Kp F H F' H') : ∀ {c : Cell} {o : Option HO}, CellAt K F H c o → CellAt K F' H' c o
  | .lst _, _, ⟨vs, h1, h2⟩ => ⟨vs, h1, AtDs.mono e h2⟩
  | .dct _, _, ⟨vs, h1, h2⟩ => ⟨vs, h1, AtKV.mono e h2⟩
  | .tks _, _, h => h
theorem CellAt.no : ∀ {c : Cell}, ¬ CellAt K F H c none
  | .lst _, ⟨_, h, _⟩ => by cases h
  | .dct _, ⟨_, h, _⟩ => by cases h
  | .tks _, ⟨_, h, _⟩ => by cases h
theorem SgAt.mono {σd : Sg} {σ : L2.St} (e : Ext F m H F' m' H') (h : SgAt K mg F m H σd σ) : SgAt K mg F' m' H' σd σ :=
  ⟨h.1, fun i w h1 => let ⟨v, a, b⟩ := h.2 i w h1; ⟨v, a, b.mono e⟩⟩
/-! lists of data -/
theorem AtDs.length : ∀ {ds : List D} {vs : List V}, AtDs K F H ds vs → vs.length = ds.length
  | [], _, h => by cases (show _ = _ from h); rfl
  | d :: ds, _, h => by
    obtain ⟨v, r, rfl, _, h2⟩ := h
    rw [List.length_cons, List.length_cons, AtDs.length h2]
theorem AtDs.get : ∀ {ds : List D} {vs : List V} {i : Nat} {d : D}, AtDs K F H ds vs → ds[i]? = some d → ∃ v, vs[i]? = some v ∧ AtD K F H d v
  | [], _, _, _, _, e => by simp at e
  | d :: ds, _, 0, d', h, e => by
    obtain ⟨v, r, rfl, h1, h2⟩ := h
    have e' : d = d' := by simpa using e
    subst e'
    exact ⟨v, rfl, h1⟩
  | d :: ds, _, i + 1, d', h, e => by
    obtain ⟨v, r, rfl, h1, h2⟩ := h
    exact AtDs.get (i := i) h2 (by simpa using e)
theorem AtDs.app : ∀ {ds es : List D} {vs us : List V}, AtDs K F H ds vs → AtDs K F H es us → AtDs K F H (ds ++ es) (vs ++ us)
  | [], _, _, _, h, h' => by cases (show _ = _ from h); exact h'
  | d :: ds, _, _, _, h, h' => by
    obtain ⟨v, r, rfl, h1, h2⟩ := h
    exact ⟨v, _, rfl, h1, AtDs.app h2 h'⟩
theorem AtDs.one {d : D} {v : V} (h : AtD K F H d v) : AtDs K F H [d] [v] := ⟨v, [], rfl, h, rfl⟩
theorem AtDs.take : ∀ {ds : List D} {vs : List V} (n : Nat), AtDs K F H ds vs → AtDs K F H (ds.take n) (vs.take n)
  | [], _, n, h => by cases (show _ = _ from h); rw [List.take_nil, List.take_nil]; rfl
  | d :: ds, _, 0, h => by rfl
  | d :: ds, _, n + 1, h => by
    obtain ⟨v, r, rfl, h1, h2⟩ := h
    exact ⟨v, _, rfl, h1, AtDs.take n h2⟩
theorem AtDs.drop : ∀ {ds : List D} {vs : List V} (n : Nat), AtDs K F H ds vs → AtDs K F H (ds.drop n) (vs.drop n)
  | [], _, n, h => by cases (show _ = _ from h); rw [List.drop_nil, List.drop_nil]; rfl
  | d :: ds, _, 0, h => h
  | d :: ds, _, n + 1, h => by
    obtain ⟨v, r, rfl, h1, h2⟩ := h
    exact AtDs.drop n h2
theorem AtDs.set : ∀ {ds : List D} {vs : List V} {d : D} {v : V} (i : Nat), AtDs K F H ds vs → AtD K F H d v → AtDs K F H (ds.set i d) (vs.set i v)
  | [], _, _, _, _, h, _ => by cases (show _ = _ from h); rfl
  | e :: ds, _, d, v, 0, h, g => by
    obtain ⟨v', r, rfl, h1, h2⟩ := h
    exact ⟨v, r, rfl, g, h2⟩
  | e :: ds, _, d, v, i + 1, h, g => by
    obtain ⟨v', r, rfl, h1, h2⟩ := h
    exact ⟨v', _, rfl, h1, AtDs.set i h2 g⟩
theorem AtDs.eraseIdx : ∀ {ds : List D} {vs : List V} (i : Nat), AtDs K F H ds vs → AtDs K F H (ds.eraseIdx i) (vs.eraseIdx i)
  | [], _, i, h => by cases (show _ = _ from h); rfl
  | e :: ds, _, 0, h => by
    obtain ⟨v', r, rfl, h1, h2⟩ := h
    exact h2
  | e :: ds, _, i + 1, h => by
    obtain ⟨v', r, rfl, h1, h2⟩ := h
    exact ⟨v', _, rfl, h1, AtDs.eraseIdx i h2⟩
theorem AtDs.dropLast {ds : List D} {vs : List V} (h : AtDs K F H ds vs) : AtDs K F H ds.dropLast vs.dropLast := by
  rw [List.dropLast_eq_take, List.dropLast_eq_take, h.length]
  exact h.take _
theorem AtDs.cut {ds : List D} {vs : List V} (lo hi : Option Int) (h : AtDs K F H ds vs) : AtDs K F H (cutL ds lo hi) (cutV vs lo hi) := by
  unfold cutL cutV
  rw [h.length]
  exact (h.drop _).take _
theorem AtDs.ints {ds : List D} : ∀ {ns : List Int} {vs : List V}, intsOf ds = some ns → AtDs K F H ds vs → vs = ns.map V.int := by
  induction ds with
  | nil => intro ns vs e h; cases e; exact h
  | cons d ds ih =>
    intro ns vs e h
    obtain ⟨v, r, rfl, h1, h2⟩ := h
    cases d with
    | int i =>
      rw [intsOf] at e
      cases q : intsOf ds with
      | none => rw [q] at e; cases e
      | some ms =>
        rw [q] at e
        cases e
        rw [ih q h2, show v = .int i from h1]
        rfl
    | _ => simp [intsOf] at e
theorem AtDs.bools {ds : List D} : ∀ {ns : List Bool} {vs : List V}, boolsOf ds = some ns → AtDs K F H ds vs → vs = ns.map V.bl := by
  induction ds with
  | nil => intro ns vs e h; cases e; exact h
  | cons d ds ih =>
    intro ns vs e h
    obtain ⟨v, r, rfl, h1, h2⟩ := h
    cases d with
    | bl i =>
      rw [boolsOf] at e
      cases q : boolsOf ds with
      | none => rw [q] at e; cases e
      | some ms =>
        rw [q] at e
        cases e
        rw [ih q h2, show v = .bl i from h1]
        rfl
    | _ => simp [boolsOf] at e
/-! data as the library reads it -/
mutual
theorem AtD.dp : ∀ {d : D} {v : V}, AtD K F H d v → Dp K H v d.toP
  | .non, _, h => by cases (show _ = _ from h); exact .non
  | .bl _, _, h => by cases (show _ = _ from h); exact .bl _
  | .int _, _, h => by cases (show _ = _ from h); exact .int _
  | .str _, _, h => by cases (show _ = _ from h); exact .str _
  | .tup ds, _, h => by
    obtain ⟨a, vs, rfl, h1, h2⟩ := h
    exact .tup h1.1 (AtDs.dp h2)
  | .lst ds, _, h => by
    obtain ⟨a, vs, rfl, h1, h2⟩ := h
    exact .lst h1.1 (AtDs.dp h2)
theorem AtDs.dp : ∀ {ds : List D} {vs : List V}, AtDs K F H ds vs → DpAll K H vs (toPs ds)
  | [], _, h => by cases (show _ = _ from h); exact .nil
  | d :: ds, _, h => by
    obtain ⟨v, r, rfl, h1, h2⟩ := h
    exact .cons (AtD.dp h1) (AtDs.dp h2)
end
mutual
theorem toP_plain : ∀ d : D, d.toP.plain = true
  | .non => rfl
  | .bl _ => rfl
  | .int _ => rfl
  | .str _ => rfl
  | .tup ds => by rw [D.toP, PyData.plain]; exact toPs_plain ds
  | .lst ds => by rw [D.toP, PyData.plain]; exact toPs_plain ds
theorem toPs_plain : ∀ ds : List D, PyData.plainAll (toPs ds) = true
  | [] => rfl
  | d :: ds => by rw [toPs, PyData.plainAll, toP_plain d, toPs_plain ds]; rfl
end
mutual
theorem toP_noDict : ∀ d : D, d.toP.hasDict = false
  | .non => rfl
  | .bl _ => rfl
  | .int _ => rfl
  | .str _ => rfl
  | .tup ds => by rw [D.toP, PyData.hasDict]; exact toPs_noDict ds
  | .lst ds => by rw [D.toP, PyData.hasDict]; exact toPs_noDict ds
theorem toPs_noDict : ∀ ds : List D, PyData.hasDictAll (toPs ds) = false
  | [] => rfl
  | d :: ds => by rw [toPs, PyData.hasDictAll, toP_noDict d, toPs_noDict ds]; rfl
end
theorem toPs_map (ds : List D) : toPs ds = ds.map D.toP := by
  induction ds with
  | nil => rfl
  | cons d ds ih => rw [toPs, ih]; rfl
/-- a value as data stands: itself, or a list of the store -/
theorem AtW.vw (Y : Wd t K F m H S) {w : W} {v : V} {d : D} (h : AtW K mg F m H w v) (e : vw S w = some d) :
    (w = .d d ∧ AtD K F H d v) ∨ ∃ i a ds vs, w = .ref i ∧ S[i]? = some (.lst ds) ∧ d = .lst ds ∧ m[i]? = some a ∧ v = .ref a ∧ H a = some (.lst vs) ∧ AtDs K F H ds vs := by
  cases w with
  | d x => simp [Pyi.vw] at e; subst e; exact .inl ⟨rfl, h⟩
  | dct _ => simp [Pyi.vw] at e
  | fn _ => simp [Pyi.vw] at e
  | lf _ _ => simp [Pyi.vw] at e
  | ref i =>
    obtain ⟨a, h1, rfl⟩ := h
    unfold Pyi.vw at e
    dsimp only at e
    cases q : S[i]? with
    | none => rw [q] at e; cases e
    | some c =>
      rw [q] at e
      cases c with
      | dct _ => cases e
      | tks _ => cases e
      | lst ds =>
        cases e
        obtain ⟨vs, h2, h3⟩ := Y.cell i a _ h1 q
        exact .inr ⟨i, a, ds, vs, rfl, q, rfl, h1, rfl, h2, h3⟩
theorem AtW.vwDp (Y : Wd t K F m H S) {w : W} {v : V} {d : D} (h : AtW K mg F m H w v) (e : Pyi.vw S w = some d) : Dp K H v d.toP := by
  rcases h.vw Y e with ⟨_, h⟩ | ⟨i, a, ds, vs, _, _, rfl, _, rfl, h1, h2⟩
  · exact h.dp
  · exact .lst (SqL.of h1) h2.dp
/-- a list, by value or in the store -/
theorem AtW.lst (Y : Wd t K F m H S) {w : W} {v : V} {ds : List D} (h : AtW K mg F m H w v) (e : lstOf S w = some ds) : ∃ a vs, v = .ref a ∧ SqL K H a vs ∧ AtDs K F H ds vs := by
  unfold lstOf at e
  cases q : Pyi.vw S w with
  | none => rw [q] at e; cases e
  | some d =>
    rw [q] at e
    cases d with
    | lst es =>
      cases e
      rcases h.vw Y q with ⟨_, a, vs, rfl, h1, h2⟩ | ⟨i, a, es, vs, _, _, e2, _, rfl, h1, h2⟩
      · exact ⟨a, vs, rfl, h1.1, h2⟩
      · cases e2
        exact ⟨a, vs, rfl, SqL.of h1, h2⟩
    | _ => cases e
theorem AtW.seq (Y : Wd t K F m H S) {w : W} {v : V} {ds : List D} (h : AtW K mg F m H w v) (e : seqOf S w = some ds) :
    ∃ a vs, v = .ref a ∧ AtDs K F H ds vs ∧ (SqL K H a vs ∨ (w = .d (.tup ds) ∧ TupF K F H a vs)) := by
  unfold seqOf at e
  cases q : Pyi.vw S w with
  | none => rw [q] at e; cases e
  | some d =>
    rw [q] at e
    cases d with
    | lst es =>
      cases e
      rcases h.vw Y q with ⟨_, a, vs, rfl, h1, h2⟩ | ⟨i, a, es, vs, _, _, e2, _, rfl, h1, h2⟩
      · exact ⟨a, vs, rfl, h2, .inl h1.1⟩
      · cases e2
        exact ⟨a, vs, rfl, h2, .inl (SqL.of h1)⟩
    | tup es =>
      cases e
      rcases h.vw Y q with ⟨e1, a, vs, rfl, h1, h2⟩ | ⟨i, a, es, vs, _, _, e2, _, rfl, h1, h2⟩
      · exact ⟨a, vs, rfl, h2, .inr ⟨e1, h1⟩⟩
      · cases e2
    | _ => cases e
/-! worlds -/
/-- a new object that will never change -/
theorem Wd.keep (Y : Wd t K F m H S) {p : Addr} {o : HO} {k : Nat} (hp : H p = none) (hk : k ≤ 1 := by decide) : Wd t K (fun a => if a = p then k else F a) m (upd H p o) S ∧ Ext F m H (fun a => if a = p then k else F a) m (upd H p o) := by
  have hF : ∀ a, F a ≠ 0 → a ≠ p := fun a h e => Y.Fs a h (e ▸ hp)
  have hx : Ext F m H (fun a => if a = p then k else F a) m (upd H p o) := .of (fun a h => ⟨if_neg (hF a h), upd_ne (hF a h)⟩) (List.prefix_refl _)
  have hm : ∀ (i : Nat) a, m[i]? = some a → a ≠ p := fun i a h1 e => by
    have hi : i < S.length := by rw [← Y.len]; exact (List.getElem?_eq_some_iff.mp h1).1
    have z := Y.cell i a _ h1 (List.getElem?_eq_getElem hi)
    rw [e, hp] at z
    exact CellAt.no z
  refine ⟨⟨Y.len, Y.nd, fun a ha => ?_, fun a h => ?_, fun i a c h1 h2 => ?_, fun a ha => ?_, fun a vs h => ?_⟩, hx⟩
  rotate_left 4
  · by_cases e : a = p
    · rw [if_pos e]; exact hk
    · rw [if_neg e]
      rw [upd_ne e] at h
      exact Y.tup a vs h
  rotate_left 3
  · obtain ⟨t1, t2⟩ := Y.tab a ha
    have hn := hF a (by rw [t1]; decide)
    exact ⟨(if_neg hn).trans t1, t2.mono hx.g (upd_ne hn)⟩
  · obtain ⟨i, hi⟩ := List.getElem?_of_mem ha
    rw [if_neg (hm i a hi)]
    exact Y.nF a ha
  · by_cases e : a = p
    · rw [e, upd_same]; exact fun z => by cases z
    · rw [if_neg e] at h
      rw [upd_ne e]; exact Y.Fs a h
  · rw [upd_ne (hm i a h1)]
    exact (Y.cell i a c h1 h2).mono hx.g
theorem Wd.frz (Y : Wd t K F m H S) {p : Addr} {o : HO} (hp : H p = none) : Wd t K (fun a => if a = p then 1 else F a) m (upd H p o) S ∧ Ext F m H (fun a => if a = p then 1 else F a) m (upd H p o) := Y.keep hp
theorem Wd.ne (Y : Wd t K F m H S) {p : Addr} (hp : H p = none) {i : Nat} {a : Addr} (h1 : m[i]? = some a) : a ≠ p := fun e => by
  have hi : i < S.length := by rw [← Y.len]; exact (List.getElem?_eq_some_iff.mp h1).1
  have z := Y.cell i a _ h1 (List.getElem?_eq_getElem hi)
  rw [e, hp] at z
  exact CellAt.no z
/-- a new cell -/
theorem Wd.push (Y : Wd t K F m H S) {p : Addr} {o : HO} {c : Cell} (hp : H p = none) (hc : CellAt K F (upd H p o) c (some o)) : Wd t K F (m ++ [p]) (upd H p o) (S ++ [c]) ∧ Ext F m H F (m ++ [p]) (upd H p o) := by
  have hF : ∀ a, F a ≠ 0 → a ≠ p := fun a h e => Y.Fs a h (e ▸ hp)
  have hx : Ext F m H F (m ++ [p]) (upd H p o) := .of (fun a h => ⟨rfl, upd_ne (hF a h)⟩) (List.prefix_append _ _)
  have hmem : ∀ a ∈ m, a ≠ p := fun a ha => let ⟨i, hi⟩ := List.getElem?_of_mem ha; Y.ne hp hi
  refine ⟨⟨?_, ?_, fun a ha => ?_, fun a h => ?_, fun i a d h1 h2 => ?_, fun a ha => (let ⟨t1, t2⟩ := Y.tab a ha; ⟨t1, t2.mono hx.g (upd_ne (hF a (by rw [t1]; decide)))⟩), fun a vs h => ?_⟩, hx⟩
  rotate_left 5
  · by_cases e : a = p
    · have : F a = 0 := Decidable.byContradiction fun z => hF a z e
      omega
    · rw [upd_ne e] at h
      exact Y.tup a vs h
  · rw [List.length_append, List.length_append, Y.len]; rfl
  · rw [List.nodup_append]
    exact ⟨Y.nd, by simp, fun a ha b hb => by
      have : b = p := by simpa using hb
      rw [this]
      exact hmem a ha⟩
  · rcases List.mem_append.mp ha with ha | ha
    · exact Y.nF a ha
    · have e : a = p := by simpa using ha
      refine Decidable.byContradiction fun h => ?_
      exact hF a h e
  · rw [upd_ne (hF a h)]; exact Y.Fs a h
  · by_cases hi : i < m.length
    · rw [List.getElem?_append_left hi] at h1
      rw [List.getElem?_append_left (by rw [← Y.len]; exact hi)] at h2
      rw [upd_ne (Y.ne hp h1)]
      exact (Y.cell i a d h1 h2).mono hx.g
    · have hi' : m.length ≤ i := Nat.le_of_not_lt hi
      rw [List.getElem?_append_right hi'] at h1
      rw [List.getElem?_append_right (by rw [← Y.len]; exact hi'), ← Y.len] at h2
      have h0 : i - m.length = 0 := by
        have := (List.getElem?_eq_some_iff.mp h1).1
        simp at this
        omega
      rw [h0] at h1 h2
      simp at h1 h2
      subst h1
      subst h2
      rw [upd_same]
      exact hc
/-- a cell is written -/
theorem Wd.write (Y : Wd t K F m H S) {i : Nat} {a : Addr} {o : HO} {c : Cell} (hi : m[i]? = some a) (hc : CellAt K F (upd H a o) c (some o)) : Wd t K F m (upd H a o) (S.set i c) ∧ Ext F m H F m (upd H a o) := by
  have hF : ∀ b, F b ≠ 0 → b ≠ a := fun b h e => h (by rw [e]; exact Y.nF a (List.mem_of_getElem? hi))
  have hx : Ext F m H F m (upd H a o) := .of (fun b h => ⟨rfl, upd_ne (hF b h)⟩) (List.prefix_refl _)
  have hil : i < S.length := by rw [← Y.len]; exact (List.getElem?_eq_some_iff.mp hi).1
  refine ⟨⟨by rw [List.length_set]; exact Y.len, Y.nd, Y.nF, fun b h => ?_, fun j b d h1 h2 => ?_, fun b hb => (let ⟨t1, t2⟩ := Y.tab b hb; ⟨t1, t2.mono hx.g (upd_ne (hF b (by rw [t1]; decide)))⟩), fun b vs h => ?_⟩, hx⟩
  rotate_left 2
  · by_cases e : b = a
    · have := Y.nF a (List.mem_of_getElem? hi)
      rw [e]
      omega
    · rw [upd_ne e] at h
      exact Y.tup b vs h
  · rw [upd_ne (hF b h)]; exact Y.Fs b h
  · by_cases hj : i = j
    · subst hj
      rw [List.getElem?_set_self hil] at h2
      cases h2
      rw [hi] at h1
      cases h1
      rw [upd_same]
      exact hc
    · rw [List.getElem?_set_ne hj] at h2
      have hb : b ≠ a := fun e => by
        subst e
        obtain ⟨l1, e1⟩ := List.getElem?_eq_some_iff.mp h1
        obtain ⟨l2, e2⟩ := List.getElem?_eq_some_iff.mp hi
        exact hj ((List.getElem_inj Y.nd).mp (e2.trans e1.symm))
      rw [upd_ne hb]
      exact (Y.cell j b d h1 h2).mono hx.g
end
end Pyi
/-! Pd: readings by the evaluator; operators. -/
namespace Pyi
open PySem PySem.Spec PyProof.Rows L2
theorem tuple_mul1 (l : Addr) (items : Array Value) (n : Nat) (dd : Option Addr) (sl : Array (Option Value)) (u : Tok) :
    Meets (Builtin.«tuple.__mul__» ⟨[.ref l, .int 1 u], []⟩) (fun _ R s => s.heap.get? l = some { cls := .type "tuple", dict := dd, data := .seq items n, slots := sl } ∧ R (.ok (.ret (Value.ref l))) s) :=
  .of_wp fun prog w A R s h => by
    obtain ⟨hp, g, d, tk, os⟩ := s
    obtain ⟨hl, h⟩ := h
    have f1 := AutoSeq1.idx_int
    have c0 : (decide ((1 : Int) < -(2 ^ 63)) || decide ((1 : Int) ≥ 2 ^ 63)) = false := by decide
    have c1 : (items.isEmpty || (1 : Int) == 1) = true := by rw [Bool.or_eq_true]; exact .inr rfl
    wp_walk using wpAny_loadPart' hl
    repeat (first
      | (refine wpAny_ite_false (decide_eq_false (by rw [c0]; exact Bool.false_ne_true)) ?_; wp_walk using wpAny_loadPart' hl)
      | (refine wpAny_ite_true (decide_eq_true c1) ?_; wp_walk using wpAny_loadPart' hl))
    exact ⟨_, rfl, h⟩
theorem list_mulW (l : Addr) (items : Array Value) (n : Nat) (d : Option Addr) (sl : Array (Option Value)) (x : Int) (u : Tok) (hc0 : ¬(!Builtin.List.listFitsIndex x) = true)
    (hc1 : ¬items.size * x.toNat > (2 ^ 63 - 1) / 8) (hc2 : ¬Builtin.List.listTooLong (items.size * x.toNat) = true) :
    Meets (Builtin.«list.__mul__» ⟨[.ref l, .int x u], []⟩) (fun _ R s => s.heap.get? l = some { cls := .type "list", dict := d, data := .seq items n, slots := sl } ∧ R (.ok (.ret (Value.ref s.heap.objs.size))) { s with heap := s.heap.push { cls := Value.type "list", data := Data.seq (List.foldl (fun x1 x2 => x1 ++ x2) #[] (List.replicate (if items.isEmpty = true then 0 else x.toNat) items)) }, toks := s.toks }) :=
  .of_wp fun prog w A R s h => by
    obtain ⟨hp, g, d, tk, os⟩ := s; obtain ⟨hl, h⟩ := h
    have hsz := AutoListH.joined_fits hc2
    wp_walk; refine wpAny_ite_false (decide_eq_false (Nat.not_lt.mpr hsz)) ?_; wp_walk; exact ⟨_, rfl, h⟩
theorem int_rmul_list (a : Int) (t : Tok) (l : Addr) (items : Array Value) (n : Nat) (d : Option Addr) (sl : Array (Option Value)) :
    Meets (Builtin.«int.__rmul__» ⟨[.int a t, .ref l], []⟩) (fun _ R s => s.heap.get? l = some { cls := .type "list", dict := d, data := .seq items n, slots := sl } ∧ R (.ok (.ret Value.notImplemented)) s) :=
  .of_wp fun prog w A R s h => by obtain ⟨hp, g, d, tk, os⟩ := s; obtain ⟨hl, h⟩ := h; wp_walk; exact ⟨_, rfl, h⟩
variable [Gd]
/-- how an exception lies -/
def XAt (K : PySem.W.Frag) (mg : Str → Option Value) (F : Addr → Nat) (H : Hp) (e : Exc) (c : Value) (d : Option Addr) : Prop := True
/-- a result holds what is wanted, wherever the world has gone -/
def Rp {α : Type} (X : Cx) (E : XK) (F : Addr → Nat) (m : List Addr) (H : Hp) (r : Res α) (Φ : (Addr → Nat) → List Addr → Hp → Store → α → Prop) : Prop := match r with
  | .ok a S => ∀ F' m' H', Ext F m H F' m' H' → Wd (tbX X) X.K F' m' H' S → Φ F' m' H' S a
  | .exc e S => ∀ F' m' H' c d, Ext F m H F' m' H' → Wd (tbX X) X.K F' m' H' S → XAt X.K X.mg F' H' e c d → E c d H'
  | .fail => False
section
variable {α β : Type} {X : Cx} {E : XK} {F F' : Addr → Nat} {m m' : List Addr} {H H' : Hp} {S : Store}
theorem Rp.shift {r : Res α} {Φ : (Addr → Nat) → List Addr → Hp → Store → α → Prop} (x : Ext F m H F' m' H') (h : Rp X E F m H r Φ) : Rp X E F' m' H' r Φ := by
  cases r with
  | ok a S => exact fun F2 m2 H2 y z => h F2 m2 H2 (x.trans y) z
  | exc e S => exact fun F2 m2 H2 c d y z => h F2 m2 H2 c d (x.trans y) z
  | fail => exact h
theorem Rp.mono {r : Res α} {Φ Ψ : (Addr → Nat) → List Addr → Hp → Store → α → Prop} (h : Rp X E F m H r Φ) (i : ∀ F' m' H' S a, Ext F m H F' m' H' → Wd (tbX X) X.K F' m' H' S → Φ F' m' H' S a → Ψ F' m' H' S a) : Rp X E F m H r Ψ := by
  cases r with
  | ok a S => exact fun F2 m2 H2 y z => i _ _ _ _ _ y z (h F2 m2 H2 y z)
  | exc e S => exact h
  | fail => exact h
theorem Rp.bind {r : Res α} {k : α → Store → Res β} {Φ : (Addr → Nat) → List Addr → Hp → Store → β → Prop} (h : Rp X E F m H (r.bind k) Φ) :
    Rp X E F m H r fun F1 m1 H1 S1 a => Rp X E F1 m1 H1 (k a S1) Φ := by
  cases r with
  | ok a S => exact fun F1 m1 H1 x y => Rp.shift x h
  | exc e S => exact h
  | fail => exact h
theorem Rp.of {o : Option α} {Φ : (Addr → Nat) → List Addr → Hp → Store → α → Prop} (h : Rp X E F m H (Res.of S o) Φ) : ∃ a, o = some a ∧ ∀ F' m' H', Ext F m H F' m' H' → Wd (tbX X) X.K F' m' H' S → Φ F' m' H' S a := by
  cases o with
  | none => exact h.elim
  | some a => exact ⟨a, rfl, h⟩
end
/-- what is handed on: a value -/
def Ret (X : Cx) (F : Addr → Nat) (m : List Addr) (H : Hp) (S : Store) (w : W) (Q : VK) : Prop := ∀ F' m' H' v, Ext F m H F' m' H' → Wd (tbX X) X.K F' m' H' S → AtW X.K X.mg F' m' H' w v → Q v H'
def tE (X : Cx) (E : XK) (f : Sg → Store → Res W) : TE := fun σ H Q => ∃ F m S σd, Wd (tbX X) X.K F m H S ∧ SgAt X.K X.mg F m H σd σ ∧
  Rp X E F m H (f σd S) fun F' m' H' _ w => ∀ v, AtW X.K X.mg F' m' H' w v → Q v H'
def tT (X : Cx) (E : XK) (f : Sg → Store → Res Bool) : TT := fun σ H Q => ∃ F m S σd, Wd (tbX X) X.K F m H S ∧ SgAt X.K X.mg F m H σd σ ∧
  Rp X E F m H (f σd S) fun _ _ H' _ b => Q b H'
def tAw (X : Cx) (E : XK) (f : Sg → Store → Res (List W)) : TA := fun σ H Q => ∃ F m S σd, Wd (tbX X) X.K F m H S ∧ SgAt X.K X.mg F m H σd σ ∧
  Rp X E F m H (f σd S) fun F' m' H' _ ws => ∀ vs, AtWs X.K X.mg F' m' H' ws vs → Q vs H'
def tAd (X : Cx) (E : XK) (f : Sg → Store → Res (List D)) : TA := fun σ H Q => ∃ F m S σd, Wd (tbX X) X.K F m H S ∧ SgAt X.K X.mg F m H σd σ ∧
  Rp X E F m H (f σd S) fun F' m' H' _ ds => ∀ vs, AtDs X.K F' H' ds vs → Q vs H'
theorem _root_.L2.PE.imp {X : Cx} {e : Expr} {t t' : TE} (h : PE X e t) (i : ∀ σ H Q, t' σ H Q → t σ H Q) : PE X e t' := ⟨fun pins s σ H Q I q => h.run pins s σ H Q I (i _ _ _ q)⟩
theorem _root_.L2.PT.imp {X : Cx} {e : Expr} {t t' : TT} (h : PT X e t) (i : ∀ σ H Q, t' σ H Q → t σ H Q) : PT X e t' := ⟨fun pins s σ H Q I q => h.run pins s σ H Q I (i _ _ _ q)⟩
theorem _root_.L2.PW.imp {X : Cx} {e : Expr} {t t' : TT} (h : PW X e t) (i : ∀ σ H Q, t' σ H Q → t σ H Q) : PW X e t' := ⟨fun wh pins s σ H Q I q => h.run wh pins s σ H Q I (i _ _ _ q)⟩
theorem _root_.L2.PA.imp {X : Cx} {e : List Expr} {t t' : TA} (h : PA X e t) (i : ∀ σ H Q, t' σ H Q → t σ H Q) : PA X e t' := ⟨fun pos pins s σ H Q I q => h.run pos pins s σ H Q I (i _ _ _ q)⟩
theorem _root_.L2.PS.imp {X : Cx} {e : Stmt} {t t' : TS} (h : PS X e t) (i : ∀ D σ H, t' D σ H → t D σ H) : PS X e t' := ⟨fun pins s σ H D I q => h.run pins s σ H D I (i _ _ _ q)⟩
theorem _root_.L2.PSs.imp {X : Cx} {e : List Stmt} {t t' : TS} (h : PSs X e t) (i : ∀ D σ H, t' D σ H → t D σ H) : PSs X e t' := ⟨fun pins s σ H D I q => h.run pins s σ H D I (i _ _ _ q)⟩
theorem OpR.by {X : Cx} {f : Value → Value → Sem Value} {r' : R2} (h : ∀ x y H Q, r' x y H Q → ∃ r, OpR X f r ∧ r x y H Q) : OpR X f r' := fun pins s σ H x y v u Q I rx ry q =>
  let ⟨_, o, q'⟩ := h x y H Q q
  o pins s σ H x y v u Q I rx ry q'
theorem CallR.by {X : Cx} {f : Value} {r' : List V → Hp → VK → Prop} (h : ∀ xs H Q, r' xs H Q → ∃ r, CallR X f r ∧ r xs H Q) : CallR X f r' := fun pins s σ H xs us Q I rx q =>
  let ⟨_, o, q'⟩ := h xs H Q q
  o pins s σ H xs us Q I rx q'
section
variable {X : Cx} {F : Addr → Nat} {m : List Addr} {H : Hp} {S : Store} {Q : VK}
theorem Ret.here {w : W} {v : V} (r : Ret X F m H S w Q) (Y : Wd (tbX X) X.K F m H S) (h : AtW X.K X.mg F m H w v) : Q v H := r _ _ _ _ Ext.refl Y h
theorem Ret.tup {ds : List D} {vs : List V} (r : Ret X F m H S (.d (.tup ds)) Q) (Y : Wd (tbX X) X.K F m H S) (h : AtDs X.K F H ds vs) {p : Addr} (hp : H p = none) : Q (.ref p) (upd H p (.tup vs)) := by
  obtain ⟨Y', x⟩ := Y.frz (o := .tup vs) hp
  exact r _ _ _ _ x Y' ⟨p, vs, rfl, ⟨SqT.of upd_same, .inl (if_pos rfl)⟩, AtDs.mono x.g h⟩
theorem Ret.lst {ds : List D} {vs : List V} (r : Ret X F m H S (.d (.lst ds)) Q) (Y : Wd (tbX X) X.K F m H S) (h : AtDs X.K F H ds vs) {p : Addr} (hp : H p = none) : Q (.ref p) (upd H p (.lst vs)) := by
  obtain ⟨Y', x⟩ := Y.frz (o := .lst vs) hp
  exact r _ _ _ _ x Y' ⟨p, vs, rfl, ⟨SqL.of upd_same, .inl (if_pos rfl)⟩, AtDs.mono x.g h⟩
theorem fit_line {n : Nat} (h : fit n = true) : n ≤ sizeLine := by
  rw [sizeLine_eq]
  exact of_decide_eq_true h
theorem guard_some {α : Type} {b : Bool} {a c : α} (h : guard' b a = some c) : b = true ∧ a = c := by
  unfold guard' at h
  cases b with
  | false => simp at h
  | true => simp at h; exact ⟨rfl, h⟩
theorem d2_some {f : D → D → Option D} {a b w : W} (h : d2 f a b = some w) : ∃ x y z, a = .d x ∧ b = .d y ∧ w = .d z ∧ f x y = some z := by
  unfold d2 at h
  split at h
  · rename_i x y
    cases q : f x y with
    | none => rw [q] at h; cases h
    | some z => rw [q] at h; cases h; exact ⟨x, y, z, rfl, rfl, rfl, q⟩
  · cases h
/-- the reading of an operator by the evaluator -/
def rOp (X : Cx) (f : W → W → Option W) : R2 := fun x y H Q => ∃ F m S a b w, Wd (tbX X) X.K F m H S ∧ AtW X.K X.mg F m H a x ∧ AtW X.K X.mg F m H b y ∧ f a b = some w ∧ Ret X F m H S w Q
theorem op_mulK : OpR X (binaryOp .Mult) (rI (fun i j => mulOk i j = true) fun i j => .int (i * j)) := by
  refine OpR.by fun x y H Q ⟨i, j, e1, e2, hc, q⟩ => ?_
  unfold mulOk at hc
  simp only [Bool.or_eq_true, decide_eq_true_eq] at hc
  rcases hc with (hc | hc) | hc
  · exact ⟨_, op_mul, i, j, e1, e2, .inl ⟨by omega, by omega⟩, q⟩
  · exact ⟨_, op_mul, i, j, e1, e2, .inr ⟨by omega, by omega⟩, q⟩
  · exact ⟨_, op_mulW, i, j, e1, e2, hc, q⟩
theorem op_fdivK : OpR X (binaryOp .FloorDiv) (rI (fun _ j => divOk j = true) fun i j => .int (i.fdiv j)) := opI fun i j _ _ _ _ _ hc q => by
  unfold divOk at hc
  simp only [Bool.and_eq_true, decide_eq_true_eq] at hc
  exact floordiv_int hc.1 q (.inl (PyProof.noPylong_of_log2 hc.2))
theorem repS_len (a : Str) : ∀ n, (repS a n).length = n * a.length := by
  have key : ∀ (n : Nat) (b : Array Nat), ((List.replicate n a.cps).foldl (· ++ ·) b).size = b.size + n * a.cps.size := by
    intro n
    induction n with
    | zero => intro b; simp
    | succ n ih =>
      intro b
      rw [List.replicate_succ, List.foldl_cons, ih, Array.size_append, Nat.succ_mul]
      omega
  intro n
  show ((List.replicate n a.cps).foldl (· ++ ·) #[]).size = _
  rw [key]
  simp [Str.length]
theorem op_mul_str : OpR X (binaryOp .Mult) (fun x y H Q => ∃ i k, x = .str i ∧ y = .int k ∧ repOk i k = true ∧ Q (.str (repS i k.toNat)) H) := by
  intro pins s σ H x y v u Q I rx ry h
  obtain ⟨i, k, rfl, rfl, hk, q⟩ := h
  unfold repOk at hk
  simp only [Bool.and_eq_true, decide_eq_true_eq] at hk
  obtain ⟨⟨⟨h1, h2⟩, h3⟩, h4⟩ := hk
  obtain ⟨t, rfl⟩ := rx
  obtain ⟨t', rfl⟩ := ry
  have hp : i.length * k.toNat ≤ 1000 * 1000 := Nat.mul_le_mul h3 (by omega)
  refine P.mul_str (by
    rw [decide_eq_false (by omega), decide_eq_false (by omega)]
    rfl) (fun _ _ hb => ?_) (fun _ _ => ?_) ?_
  · have e : (i.length : Int) * (k.toNat : Int) ≤ 1000 * 1000 := by
      rw [← Int.natCast_mul]
      omega
    rw [Int.toNat_of_nonneg (by omega)] at e
    have : (i.length : Int) ≤ (2 ^ 63 - 1) / k := Int.le_ediv_of_mul_le (by omega) (by omega)
    omega
  · unfold Builtin.Str.tooLong
    refine decide_eq_false ?_
    rw [sizeLine_eq]
    omega
  · rw [if_neg (by omega), if_neg (by
      have : (k == 1) = false := by simpa using (show k ≠ 1 by omega)
      rw [this]
      simpa using h4)]
    refine ⟨?_, ?_⟩
    · show (repS i k.toNat).length ≤ _
      rw [repS_len, sizeLine_eq, Nat.mul_comm]
      omega
    · exact ⟨.str (repS i k.toNat), H, I.tok _, ⟨_, rfl⟩, q⟩
theorem op_rep1 : OpR X (binaryOp .Mult) (fun x y H Q => ∃ l xs, x = .ref l ∧ y = .int 1 ∧ SqT X.K H l xs ∧ Q (.ref l) H) := by
  intro pins s σ H x y v u Q I rx ry h
  obtain ⟨l, xs, rfl, rfl, hT, q⟩ := h
  cases rx
  obtain ⟨t, rfl⟩ := ry
  obtain ⟨its, r, ⟨⟨cls, dd, data, sl⟩, ho, hc, n, hd⟩, hs⟩ := I.tuple hT
  simp only at hc hd
  subst hc hd
  refine wpAny_binaryOp_repeat_ref (T := "tuple") (U := "int") (by decide) ⟨_, ho, rfl⟩ (fun s' => typeIs_int s' 1 t) noFill_tuple_mul F.fills_int_mul F.slot_int_rmul repeat_tuple F.slot_int_index.lookup
    (call_meets F.slot_int_rmul (typeIs_int s 1 t) F.entry_int_rmul (F.args_int_rmul_2 _ _) (int_rmul_tuple 1 t l its.toArray n dd sl)
      ⟨ho, rfl, ⟨_, ho, rfl⟩, call_meets F.slot_tuple_mul ⟨_, ho, rfl⟩ F.entry_tuple_mul (F.args_tuple_mul_2 _ _) (tuple_mul1 l its.toArray n dd sl t) ⟨ho, ?_⟩⟩)
  exact ⟨.ref l, H, I, rfl, q⟩
theorem op_repL : OpR X (binaryOp .Mult) (fun x y H Q => ∃ a k xs, x = V.ref a ∧ y = V.int k ∧ SqL X.K H a xs ∧ 1 ≤ k ∧ k ≤ 1000 ∧ xs.length ≤ 1000 ∧ ∀ p, H p = none → Q (.ref p) (upd H p (.lst (List.replicate k.toNat xs).flatten))) := by
  intro pins s σ H x y v u Q I rx ry h
  obtain ⟨a, k, xs, rfl, rfl, hs, h1, h2, hx, q⟩ := h
  obtain rfl : v = Value.ref a := rx
  obtain ⟨t, rfl⟩ := ry
  obtain ⟨its, rv, ⟨⟨cls, dd, data, sl⟩, n, ho, hc, hdn, hd⟩, hlen⟩ := I.list hs
  have hc1 : cls = Value.type "list" := hc
  have hd1 : data = Data.seq its.toArray n := hd
  subst hc1 hd1
  have hz : its.length ≤ 1000 := by rw [← rv.length]; exact hx
  have hsl := sizeLine_eq
  have hm : its.toArray.size * k.toNat ≤ 1000 * 1000 := by
    rw [List.size_toArray]
    exact Nat.mul_le_mul hz (by omega)
  refine wpAny_binaryOp_repeat_ref (T := "list") (U := "int") (by decide) ⟨_, ho, rfl⟩ (fun s' => typeIs_int s' k t) noFill_list_mul F.fills_int_mul F.slot_int_rmul repeat_list F.slot_int_index.lookup
    (call_meets F.slot_int_rmul (typeIs_int s k t) F.entry_int_rmul (F.args_int_rmul_2 _ _) (int_rmul_list k t a its.toArray n dd sl)
      ⟨ho, rfl, ⟨_, ho, rfl⟩, call_meets F.slot_list_mul ⟨_, ho, rfl⟩ F.entry_list_mul (F.args_list_mul_2 _ _)
        (list_mulW a its.toArray n dd sl k t (by rw [fitsIndex_both (by omega) (by omega)]; exact Bool.false_ne_true) (by omega) (by simp only [Builtin.List.listTooLong, decide_eq_true_eq]; omega))
        ⟨ho, ?_⟩⟩)
  have e : List.foldl (fun x1 x2 => x1 ++ x2) #[] (List.replicate (if its.toArray.isEmpty = true then 0 else k.toNat) its.toArray) = (List.replicate k.toNat its).flatten.toArray := by
    have f0 : ∀ m : Nat, List.foldl (fun x1 x2 => x1 ++ x2) #[] (List.replicate m its.toArray) = (List.replicate m its).flatten.toArray := fun m => by
      have := foldl_rep its m []
      rw [List.nil_append] at this
      exact this
    rw [f0]
    cases its with
    | nil => simp
    | cons a r' => rw [if_neg (by simp)]
  rw [e]
  exact ⟨.ref _, _, I.lnew (t' := s.toks) (rv.rep k.toNat) (by rw [PyProof.Rows.lm_len_rep_flat, hsl, rv.length]; have : k.toNat * its.length ≤ 1000 * 1000 := Nat.mul_le_mul (by omega) hz; omega), rfl, q _ I.fresh⟩
theorem AtDs.repL {K : PySem.W.Frag} {F : Addr → Nat} {H : Hp} {ds : List D} {vs : List V} (h : AtDs K F H ds vs) : ∀ n : Nat, AtDs K F H (Pyi.repL ds n) (List.replicate n vs).flatten
  | 0 => rfl
  | n + 1 => by
    unfold Pyi.repL
    rw [List.replicate_succ, List.replicate_succ, List.flatten_cons, List.flatten_cons]
    exact h.app (h.repL n)
/-- l + l2, whatever lists they are -/
theorem op_catW : OpR X (binaryOp .Add) (fun x y H Q => ∃ a b xs ys, x = .ref a ∧ y = .ref b ∧ SqL X.K H a xs ∧ SqL X.K H b ys ∧ xs.length + ys.length ≤ sizeLine ∧ ∀ p, H p = none → Q (.ref p) (upd H p (.lst (xs ++ ys)))) := by
  intro pins s σ H x y v u Q I rx ry ⟨a, b, xs, ys, e1, e2, ha, hb, hz, q⟩
  subst e1
  subst e2
  cases rx
  cases ry
  obtain ⟨it1, r1, ⟨⟨c1, d1, da1, sl1⟩, n1, g1, k1, _, x1⟩, _⟩ := I.list ha
  obtain ⟨it2, r2, ⟨⟨c2, d2, da2, sl2⟩, n2, g2, k2, _, x2⟩, _⟩ := I.list hb
  dsimp only at k1 x1 k2 x2
  subst k1; subst x1; subst k2; subst x2
  have l1 := r1.length
  have l2 := r2.length
  refine concat_meets ⟨_, g1, rfl⟩ ⟨_, g2, rfl⟩ noFill_list_add seq_list_add PySem.F.slot_list_add PySem.F.entry_list_add (PySem.F.args_list_add_2 _ _)
    (PyProof.Rows.list_addW a b it1.toArray it2.toArray n1 n2 d1 d2 sl1 sl2 (by rw [List.size_toArray, List.size_toArray]; omega)) ⟨g1, g2, ?_⟩
  have ea : it1.toArray ++ it2.toArray = (it1 ++ it2).toArray := by simp
  rw [ea]
  exact ⟨.ref _, _, I.lnew (t' := s.toks) (r1.append r2) (by rw [List.length_append]; omega), rfl, q _ I.fresh⟩
theorem cat_any {xs ys : List D} {vs us : List V} {p p' : Addr} (q : Ret X F m H S (.d (.tup (xs ++ ys))) Q) (Y : Wd (tbX X) X.K F m H S) (h1 : TupF X.K F H p vs) (h1' : TupF X.K F H p' us) (h2 : AtDs X.K F H xs vs) (h2' : AtDs X.K F H ys us) :
    (vs = [] → Q (.ref p') H) ∧ (vs ≠ [] → us = [] → Q (.ref p) H) ∧ (vs ≠ [] → us ≠ [] → ∀ r, H r = none → Q (.ref r) (upd H r (.tup (vs ++ us)))) := by
  have l1 := h2.length
  have l2 := h2'.length
  refine ⟨fun e => ?_, fun _ e => ?_, fun _ _ r hr => q.tup Y (h2.app h2') hr⟩
  · subst e
    have e2 : xs = [] := List.length_eq_zero_iff.mp l1.symm
    subst e2
    exact q.here Y ⟨p', us, rfl, h1', h2'⟩
  · subst e
    have e2 : ys = [] := List.length_eq_zero_iff.mp l2.symm
    subst e2
    rw [List.append_nil] at q
    exact q.here Y ⟨p, vs, rfl, h1, h2⟩
theorem op_sub_bl : OpR X (binaryOp .Sub) (fun x y H Q => ∃ i k, x = .bl i ∧ y = .bl k ∧ Q (.int ((if i = true then 1 else 0) - (if k = true then 1 else 0))) H) := by
  intro pins s σ H x y v u Q I rx ry h
  obtain ⟨i, k, rfl, rfl, q⟩ := h
  cases rx
  cases ry
  refine PyProof.Rows.sub_bool ⟨.int _, H, I.tok _, ⟨_, rfl⟩, q⟩
theorem op_bin (o : Operator) : OpR X (binaryOp o) (rOp X (binW o)) := by
  refine OpR.by fun x y H Q ⟨F, m, S, a, b, w, Y, ha, hb, e, q⟩ => ?_
  obtain ⟨c, d, z, rfl, rfl, rfl, eb⟩ := d2_some e
  clear e
  cases o with
  | Add =>
    cases c with
    | int i =>
      cases d with
      | int j =>
        cases eb
        exact ⟨_, op_add, i, j, ha, hb, q.here Y rfl⟩
      | _ => cases eb
    | str i =>
      cases d with
      | str j =>
        obtain ⟨g, rfl⟩ := guard_some eb
        exact ⟨_, op_add_str, i, j, ha, hb, fit_line g, q.here Y rfl⟩
      | _ => cases eb
    | tup xs =>
      cases d with
      | tup ys =>
        obtain ⟨g, rfl⟩ := guard_some eb
        obtain ⟨p, vs, rfl, h1, h2⟩ := ha
        obtain ⟨p', us, rfl, h1', h2'⟩ := hb
        refine ⟨_, op_catA, p, p', vs, us, rfl, rfl, h1.1, h1'.1, by rw [h2.length, h2'.length]; exact fit_line g, ?_⟩
        exact cat_any q Y h1 h1' h2 h2'
      | _ => cases eb
    | lst xs =>
      cases d with
      | lst ys =>
        obtain ⟨g, rfl⟩ := guard_some eb
        obtain ⟨p, vs, rfl, h1, h2⟩ := ha
        obtain ⟨p', us, rfl, h1', h2'⟩ := hb
        exact ⟨_, op_catW, p, p', vs, us, rfl, rfl, h1.1, h1'.1, by rw [h2.length, h2'.length]; exact fit_line g, fun r hr => q.lst Y (h2.app h2') hr⟩
      | _ => cases eb
    | _ => cases d <;> cases eb
  | Sub =>
    cases c with
    | int i =>
      cases d with
      | int j =>
        cases eb
        exact ⟨_, op_sub, i, j, ha, hb, q.here Y rfl⟩
      | _ => cases eb
    | bl i =>
      cases d with
      | bl j =>
        cases eb
        exact ⟨_, op_sub_bl, i, j, ha, hb, q.here Y rfl⟩
      | _ => cases eb
    | _ => cases d <;> cases eb
  | Mult =>
    cases c with
    | int i =>
      cases d with
      | int j =>
        obtain ⟨g, rfl⟩ := guard_some eb
        exact ⟨_, op_mulK, i, j, ha, hb, g, q.here Y rfl⟩
      | _ => cases eb
    | str i =>
      cases d with
      | int j =>
        obtain ⟨g, rfl⟩ := guard_some eb
        exact ⟨_, op_mul_str, i, j, ha, hb, g, q.here Y rfl⟩
      | _ => cases eb
    | tup xs =>
      cases d with
      | int j =>
        obtain ⟨g, rfl⟩ := guard_some eb
        unfold repLOk at g
        simp only [Bool.and_eq_true, decide_eq_true_eq] at g
        obtain ⟨⟨⟨g1, g2⟩, g3⟩, g4⟩ := g
        obtain ⟨p, vs, rfl, h1, h2⟩ := ha
        have hl := h2.length
        by_cases c : j = 1
        · subst c
          refine ⟨_, op_rep1, p, vs, rfl, hb, h1.1, q.here Y ⟨p, vs, rfl, h1, ?_⟩⟩
          show AtDs _ _ _ (xs ++ []) vs
          rw [List.append_nil]
          exact h2
        · refine ⟨_, op_repT, p, j, vs, rfl, hb, h1.1, fun z => ?_, by omega, g2, by omega, fun r hr => q.tup Y (h2.repL _) hr⟩
          rw [z] at hl
          exact g4 hl.symm
      | _ => cases eb
    | lst xs =>
      cases d with
      | int j =>
        obtain ⟨g, rfl⟩ := guard_some eb
        unfold repLOk at g
        simp only [Bool.and_eq_true, decide_eq_true_eq] at g
        obtain ⟨⟨⟨g1, g2⟩, g3⟩, g4⟩ := g
        obtain ⟨p, vs, rfl, h1, h2⟩ := ha
        have hl := h2.length
        exact ⟨_, op_repL, p, j, vs, rfl, hb, h1.1, g1, g2, by omega, fun r hr => q.lst Y (h2.repL _) hr⟩
      | _ => cases eb
    | _ => cases d <;> cases eb
  | FloorDiv =>
    cases c with
    | int i =>
      cases d with
      | int j =>
        obtain ⟨g, rfl⟩ := guard_some eb
        exact ⟨_, op_fdivK, i, j, ha, hb, g, q.here Y rfl⟩
      | _ => cases eb
    | _ => cases d <;> cases eb
  | Mod =>
    cases c with
    | int i =>
      cases d with
      | int j =>
        obtain ⟨g, rfl⟩ := guard_some eb
        exact ⟨_, op_modN, i, j, ha, hb, of_decide_eq_true g, q.here Y rfl⟩
      | _ => cases eb
    | _ => cases d <;> cases eb
  | Pow =>
    cases c with
    | int i =>
      cases d with
      | int j =>
        obtain ⟨g, rfl⟩ := guard_some eb
        unfold powOk at g
        simp only [Bool.and_eq_true, decide_eq_true_eq] at g
        exact ⟨_, op_pow, i, j, ha, hb, ⟨g.1.1, g.1.2, g.2⟩, q.here Y rfl⟩
      | _ => cases eb
    | _ => cases d <;> cases eb
  | _ => cases eb
end
end Pyi
/-! Pe: comparisons, truth, subscripts. -/
namespace Pyi
open PySem PySem.Spec PyProof.Rows L2
variable [Gd]
section
variable {X : Cx} {F : Addr → Nat} {m : List Addr} {H : Hp} {S : Store} {Q : VK}
/-- a comparison of data -/
def rCmpD (X : Cx) (o : CmpOp) : R2 := fun x y H Q => ∃ d e k, Dp X.K H x d.toP ∧ Dp X.K H y e.toP ∧ cmpD o d e = some k ∧ Q (.bl k) H
theorem dp_int {K : PySem.W.Frag} {x : V} {i : Int} (h : Dp K H x (D.int i).toP) : x = .int i := by
  rw [D.toP] at h
  cases h
  rfl
theorem dp_str {K : PySem.W.Frag} {x : V} {i : Str} (h : Dp K H x (D.str i).toP) : x = .str i := by
  rw [D.toP] at h
  cases h
  rfl
theorem dp_bl {K : PySem.W.Frag} {x : V} {i : Bool} (h : Dp K H x (D.bl i).toP) : x = .bl i := by
  rw [D.toP] at h
  cases h
  rfl
theorem dp_non {K : PySem.W.Frag} {x : V} (h : Dp K H x D.non.toP) : x = .non := by
  rw [D.toP] at h
  cases h
  rfl
theorem dp_notnon {K : PySem.W.Frag} {x : V} {d : D} (h : Dp K H x d.toP) (hd : d ≠ .non) : x ≠ .non := by
  cases d with
  | non => exact absurd rfl hd
  | _ =>
    rw [D.toP] at h
    cases h <;> exact fun z => nomatch z
/-- a rule that leans on what the data read as -/
theorem OpR.read {f : Value → Value → Sem Value} {r' : R2}
    (h : ∀ x y H Q, r' x y H Q → ∃ (d e : D) (k : Bool), Dp X.K H x d.toP ∧ Dp X.K H y e.toP ∧ Q (.bl k) H ∧
      ∀ (s : Shared) (v u : Value) (as bs : List Addr) (Q' : Value → Shared → Prop), Reads s.heap v d.toP as → Reads s.heap u e.toP bs → Q' (.bool k) s → wpAny (model X.prog X.w) X.A (f v u) Q' X.xe s) : OpR X f r' := fun pins s σ H x y v u Q I rx ry q => by
  obtain ⟨d, e, k, hd, he, hq, hr⟩ := h x y H Q q
  obtain ⟨as, r1⟩ := Dp.reads I d.toP x v hd rx
  obtain ⟨bs, r2⟩ := Dp.reads I e.toP y u he ry
  exact hr s v u as bs _ r1 r2 ⟨.bl k, H, I, rfl, hq⟩
theorem map_some {α β : Type} {f : α → β} {o : Option α} {b : β} (h : o.map f = some b) : ∃ a, o = some a ∧ f a = b := by
  cases o with
  | none => cases h
  | some a => exact ⟨a, rfl, Option.some.inj h⟩
theorem bind_some {α β : Type} {f : α → Option β} {o : Option α} {b : β} (h : o.bind f = some b) : ∃ a, o = some a ∧ f a = some b := by
  cases o with
  | none => cases h
  | some a => exact ⟨a, rfl, h⟩
theorem eqD_gen {d e : D} {k : Bool} (h : eqD d e = some k) : (∃ i j, d = .int i ∧ e = .int j ∧ k = (i == j)) ∨ (∃ i j, d = .str i ∧ e = .str j ∧ k = decide (i = j)) ∨ (∃ i j, d = .bl i ∧ e = .bl j ∧ k = (i == j)) ∨ (okq d e = true ∧ k = d.eqv e) := by
  unfold eqD at h
  split at h
  · exact .inl ⟨_, _, rfl, rfl, (Option.some.inj h).symm⟩
  · exact .inr (.inl ⟨_, _, rfl, rfl, (Option.some.inj h).symm⟩)
  · exact .inr (.inr (.inl ⟨_, _, rfl, rfl, (Option.some.inj h).symm⟩))
  · obtain ⟨g, e⟩ := guard_some h
    exact .inr (.inr (.inr ⟨g, e.symm⟩))
theorem okq_room {A : Around} {d e : D} (hu : A.units + 64 < cLine) (h : okq d e = true) : A.units + min d.toP.depth e.toP.depth < cLine := by
  have := of_decide_eq_true h
  unfold D.depth at this
  omega
theorem rec_eq {i j : Int} : (i == j) = decide (i = j) := by
  by_cases e : i = j
  · subst e; simp
  · simp [e]
theorem op_eqW (hu : X.A.units + 64 < cLine) : OpR X (compareOp .Eq) (rCmpD X .Eq) := by
  refine OpR.read fun x y H Q ⟨d, e, k, hd, he, hk, q⟩ => ⟨d, e, k, hd, he, q, fun s v u as bs Q' r1 r2 q' => ?_⟩
  have gen : k = d.eqv e → okq d e = true → wpAny (model X.prog X.w) X.A (compareOp .Eq v u) Q' X.xe s := fun e1 g =>
    PySem.SeqAt.eq_plain r1 r2 (toP_plain d) (toP_plain e) (okq_room hu g) (by rw [show d.toP.eqv e.toP = k from e1.symm]; exact q')
  rcases eqD_gen hk with ⟨i, j, rfl, rfl, e1⟩ | ⟨i, j, rfl, rfl, e1⟩ | ⟨i, j, rfl, rfl, e1⟩ | ⟨g, e1⟩
  · exact gen (by rw [e1]; rfl) rfl
  · exact gen (by rw [e1]; show _ = (i == j); by_cases z : i = j <;> simp [z]) rfl
  · exact gen (by rw [e1]; rfl) rfl
  · exact gen e1 g
theorem op_neW (hu : X.A.units + 64 < cLine) : OpR X (compareOp .NotEq) (rCmpD X .NotEq) := by
  refine OpR.read fun x y H Q ⟨d, e, k, hd, he, hk, q⟩ => ⟨d, e, k, hd, he, q, fun s v u as bs Q' r1 r2 q' => ?_⟩
  obtain ⟨k', hk', e0⟩ := map_some hk
  have gen : k' = d.eqv e → okq d e = true → wpAny (model X.prog X.w) X.A (compareOp .NotEq v u) Q' X.xe s := fun e1 g =>
    PySem.SeqAt.ne_plain r1 r2 (toP_plain d) (toP_plain e) (okq_room hu g) (by rw [show d.toP.eqv e.toP = k' from e1.symm, e0]; exact q')
  rcases eqD_gen hk' with ⟨i, j, rfl, rfl, e1⟩ | ⟨i, j, rfl, rfl, e1⟩ | ⟨i, j, rfl, rfl, e1⟩ | ⟨g, e1⟩
  · exact gen (by rw [e1]; rfl) rfl
  · exact gen (by rw [e1]; show _ = (i == j); by_cases z : i = j <;> simp [z]) rfl
  · exact gen (by rw [e1]; rfl) rfl
  · exact gen e1 g
theorem okl_of {A : Around} {d e : D} (hu : A.units + 64 < cLine) (h : okl d e = true) : PySem.W.alike d.toP e.toP = true ∧ d.toP ≠ .none ∧ A.units + min d.toP.depth e.toP.depth < cLine := by
  unfold okl at h
  simp only [Bool.and_eq_true, decide_eq_true_eq] at h
  obtain ⟨⟨h1, h2⟩, h3⟩ := h
  refine ⟨h1, ?_, by unfold D.depth at h2; omega⟩
  cases d with
  | non => exact absurd h3 (by decide)
  | _ => rw [D.toP]; exact fun z => nomatch z
theorem ord_gen {f : D → D → Option Bool} {p : Int → Int → Bool} {g : D → D → Bool} {d e : D} {k : Bool}
    (h : f d e = some k) (h1 : ∀ i j, f (.int i) (.int j) = some (p i j)) (h2 : (∃ i j, d = .int i ∧ e = .int j) ∨ f d e = guard' (okl d e) (g d e)) : (∃ i j, d = .int i ∧ e = .int j ∧ k = p i j) ∨ (okl d e = true ∧ k = g d e) := by
  rcases h2 with ⟨i, j, rfl, rfl⟩ | h2
  · rw [h1] at h
    exact .inl ⟨i, j, rfl, rfl, (Option.some.inj h).symm⟩
  · rw [h2] at h
    obtain ⟨g, e⟩ := guard_some h
    exact .inr ⟨g, e.symm⟩
theorem op_ltW (hu : X.A.units + 64 < cLine) : OpR X (compareOp .Lt) (rCmpD X .Lt) := by
  refine OpR.read fun x y H Q ⟨d, e, k, hd, he, hk, q⟩ => ⟨d, e, k, hd, he, q, fun s v u as bs Q' r1 r2 q' => ?_⟩
  rcases ord_gen (p := fun i j => decide (i < j)) (g := fun a b => a.lt b) hk (fun _ _ => rfl) (by cases d <;> cases e <;> first | exact .inl ⟨_, _, rfl, rfl⟩ | exact .inr rfl) with ⟨i, j, rfl, rfl, e1⟩ | ⟨g, e1⟩
  · rw [D.toP] at r1 r2
    cases r1
    cases r2
    exact lt_int (by rw [← e1]; exact q')
  · obtain ⟨a1, a2, a3⟩ := okl_of hu g
    exact PySem.W.lt_data r1 r2 a1 a2 a3 (by rw [show PySem.W.dataLt d.toP e.toP = k from e1.symm]; exact q')
theorem op_gtW (hu : X.A.units + 64 < cLine) : OpR X (compareOp .Gt) (rCmpD X .Gt) := by
  refine OpR.read fun x y H Q ⟨d, e, k, hd, he, hk, q⟩ => ⟨d, e, k, hd, he, q, fun s v u as bs Q' r1 r2 q' => ?_⟩
  rcases ord_gen (p := fun i j => decide (j < i)) (g := fun a b => b.lt a) hk (fun _ _ => rfl) (by cases d <;> cases e <;> first | exact .inl ⟨_, _, rfl, rfl⟩ | exact .inr rfl) with ⟨i, j, rfl, rfl, e1⟩ | ⟨g, e1⟩
  · rw [D.toP] at r1 r2
    cases r1
    cases r2
    exact gt_int (by rw [← e1]; exact q')
  · obtain ⟨a1, a2, a3⟩ := okl_of hu g
    exact PySem.W.gt_data r1 r2 a1 a2 a3 (by rw [show PySem.W.dataLt e.toP d.toP = k from e1.symm]; exact q')
theorem op_leW (hu : X.A.units + 64 < cLine) : OpR X (compareOp .LtE) (rCmpD X .LtE) := by
  refine OpR.read fun x y H Q ⟨d, e, k, hd, he, hk, q⟩ => ⟨d, e, k, hd, he, q, fun s v u as bs Q' r1 r2 q' => ?_⟩
  rcases ord_gen (p := fun i j => decide (i ≤ j)) (g := fun a b => !b.lt a) hk (fun _ _ => rfl) (by cases d <;> cases e <;> first | exact .inl ⟨_, _, rfl, rfl⟩ | exact .inr rfl) with ⟨i, j, rfl, rfl, e1⟩ | ⟨g, e1⟩
  · rw [D.toP] at r1 r2
    cases r1
    cases r2
    exact le_int (by rw [← e1]; exact q')
  · obtain ⟨a1, a2, a3⟩ := okl_of hu g
    exact PySem.W.le_data r1 r2 a1 a2 a3 (by rw [show (!PySem.W.dataLt e.toP d.toP) = k from e1.symm]; exact q')
theorem op_geW (hu : X.A.units + 64 < cLine) : OpR X (compareOp .GtE) (rCmpD X .GtE) := by
  refine OpR.read fun x y H Q ⟨d, e, k, hd, he, hk, q⟩ => ⟨d, e, k, hd, he, q, fun s v u as bs Q' r1 r2 q' => ?_⟩
  rcases ord_gen (p := fun i j => decide (j ≤ i)) (g := fun a b => !a.lt b) hk (fun _ _ => rfl) (by cases d <;> cases e <;> first | exact .inl ⟨_, _, rfl, rfl⟩ | exact .inr rfl) with ⟨i, j, rfl, rfl, e1⟩ | ⟨g, e1⟩
  · rw [D.toP] at r1 r2
    cases r1
    cases r2
    exact ge_int (by rw [← e1]; exact q')
  · obtain ⟨a1, a2, a3⟩ := okl_of hu g
    exact PySem.W.ge_data r1 r2 a1 a2 a3 (by rw [show (!PySem.W.dataLt d.toP e.toP) = k from e1.symm]; exact q')
theorem any_toPs (d : D) : ∀ ds : List D, ((toPs ds).any fun y => PyData.eqv y d.toP) = ds.any fun y => y.eqv d
  | [] => rfl
  | e :: ds => by rw [toPs, List.any_cons, List.any_cons, any_toPs d ds]; rfl
theorem inD_gen {d e : D} {k : Bool} (h : inD d e = some k) : (∃ x y, d = .str x ∧ e = .str y ∧ k = (!(Builtin.Str.occurrences y x 0 y.length 1).isEmpty)) ∨ (∃ ds, (e = .tup ds ∨ e = .lst ds) ∧ min (depths ds) d.depth ≤ 64 ∧ k = ds.any fun z => z.eqv d) := by
  unfold inD at h
  split at h
  · exact .inl ⟨_, _, rfl, rfl, (Option.some.inj h).symm⟩
  · obtain ⟨g, e⟩ := guard_some h
    exact .inr ⟨_, .inl rfl, of_decide_eq_true g, e.symm⟩
  · obtain ⟨g, e⟩ := guard_some h
    exact .inr ⟨_, .inr rfl, of_decide_eq_true g, e.symm⟩
  · cases h
theorem OpR.dp {f : Value → Value → Sem Value} {o : CmpOp} (h : ∀ (d e : D) (k : Bool), cmpD o d e = some k → (∃ r, OpR X f r ∧ ∀ x y H Q, Dp X.K H x d.toP → Dp X.K H y e.toP → Q (.bl k) H → r x y H Q) ∨
      ∀ (s : Shared) (v u : Value) (as bs : List Addr) (Q' : Value → Shared → Prop), Reads s.heap v d.toP as → Reads s.heap u e.toP bs → Q' (.bool k) s → wpAny (model X.prog X.w) X.A (f v u) Q' X.xe s) : OpR X f (rCmpD X o) := fun pins s σ H x y v u Q I rx ry ⟨d, e, k, hd, he, hk, q⟩ => by
  rcases h d e k hk with ⟨r, o, i⟩ | hr
  · exact o pins s σ H x y v u Q I rx ry (i x y H Q hd he q)
  · obtain ⟨as, r1⟩ := Dp.reads I d.toP x v hd rx
    obtain ⟨bs, r2⟩ := Dp.reads I e.toP y u he ry
    exact hr s v u as bs _ r1 r2 ⟨.bl k, H, I, rfl, q⟩
theorem op_inW (hu : X.A.units + 100 < cLine) : OpR X (compareOp .In) (rCmpD X .In) := by
  refine OpR.dp fun d e k hk => ?_
  rcases inD_gen hk with ⟨x, y, rfl, rfl, e1⟩ | ⟨ds, he, hm, e1⟩
  · exact .inl ⟨_, op_in_str, fun v u H Q hv hw q => ⟨x, y, dp_str hv, dp_str hw, by rw [← e1]; exact q⟩⟩
  · refine .inr fun s v u as bs Q' r1 r2 q => ?_
    have hu' : X.A.units + 1 + min (PyData.depthAll (toPs ds)) d.toP.depth < cLine := by
      have : min (PyData.depthAll (toPs ds)) d.toP.depth ≤ 64 := hm
      omega
    rcases he with rfl | rfl
    · exact PySem.SeqAt.in_tuple_data r2 r1 (toPs_plain ds) (toP_plain d) hu' (by rw [any_toPs, ← e1]; exact q)
    · exact PySem.SeqAt.in_list_data r2 r1 (toPs_plain ds) (toP_plain d) hu' (by rw [any_toPs, ← e1]; exact q)
theorem op_notinW (hu : X.A.units + 100 < cLine) : OpR X (compareOp .NotIn) (rCmpD X .NotIn) := by
  refine OpR.dp fun d e k hk => ?_
  obtain ⟨k', hk', e0⟩ := map_some hk
  rcases inD_gen hk' with ⟨x, y, rfl, rfl, e1⟩ | ⟨ds, he, hm, e1⟩
  · exact .inl ⟨_, op_notin_str, fun v u H Q hv hw q => ⟨x, y, dp_str hv, dp_str hw, by rw [← e1, e0]; exact q⟩⟩
  · refine .inr fun s v u as bs Q' r1 r2 q => ?_
    have hu' : X.A.units + 1 + min (PyData.depthAll (toPs ds)) d.toP.depth < cLine := by
      have : min (PyData.depthAll (toPs ds)) d.toP.depth ≤ 64 := hm
      omega
    rcases he with rfl | rfl
    · exact PySem.SeqAt.notIn_tuple_data r2 r1 (toPs_plain ds) (toP_plain d) hu' (by rw [any_toPs, ← e1, e0]; exact q)
    · exact PySem.SeqAt.notIn_list_data r2 r1 (toPs_plain ds) (toP_plain d) hu' (by rw [any_toPs, ← e1, e0]; exact q)
theorem isD_gen {d e : D} {k : Bool} (h : isD d e = some k) : (d = .non ∧ e = .non ∧ k = true) ∨ (d ≠ .non ∧ e = .non ∧ k = false) ∨ ∃ a b, d = .bl a ∧ e = .bl b ∧ k = (a == b) := by
  unfold isD at h
  split at h
  · exact .inl ⟨rfl, rfl, (Option.some.inj h).symm⟩
  · rename_i hn
    exact .inr (.inl ⟨fun z => hn z, rfl, (Option.some.inj h).symm⟩)
  · exact .inr (.inr ⟨_, _, rfl, rfl, (Option.some.inj h).symm⟩)
  · cases h
theorem op_isW : OpR X (compareOp .Is) (rCmpD X .Is) := by
  refine OpR.dp fun d e k hk => .inl ?_
  rcases isD_gen hk with ⟨rfl, rfl, rfl⟩ | ⟨hd, rfl, rfl⟩ | ⟨a, b, rfl, rfl, rfl⟩
  · exact ⟨_, op_isN, fun v u H Q hv hw q => ⟨dp_non hw, by rw [dp_non hv]; exact q⟩⟩
  · exact ⟨_, op_isN, fun v u H Q hv hw q => ⟨dp_non hw, by rw [decide_eq_false (dp_notnon hv hd)]; exact q⟩⟩
  · exact ⟨_, op_isBl, fun v u H Q hv hw q => ⟨a, b, dp_bl hv, dp_bl hw, by rw [show decide (a = b) = (a == b) by cases a <;> cases b <;> rfl]; exact q⟩⟩
theorem op_isnotW : OpR X (compareOp .IsNot) (rCmpD X .IsNot) := by
  refine OpR.dp fun d e k hk => .inl ?_
  obtain ⟨k', hk', rfl⟩ := map_some hk
  rcases isD_gen hk' with ⟨rfl, rfl, rfl⟩ | ⟨hd, rfl, rfl⟩ | ⟨a, b, rfl, rfl, rfl⟩
  · exact ⟨_, op_notN, fun v u H Q hv hw q => ⟨dp_non hw, by rw [dp_non hv]; exact q⟩⟩
  · exact ⟨_, op_notN, fun v u H Q hv hw q => ⟨dp_non hw, by rw [decide_eq_false (dp_notnon hv hd)]; exact q⟩⟩
  · exact ⟨_, op_notBl, fun v u H Q hv hw q => ⟨a, b, dp_bl hv, dp_bl hw, by rw [show decide (a = b) = (a == b) by cases a <;> cases b <;> rfl]; exact q⟩⟩
theorem op_cmpD (hu : X.A.units + 100 < cLine) (o : CmpOp) : OpR X (compareOp o) (rCmpD X o) := by
  have h6 : X.A.units + 64 < cLine := by omega
  cases o with
  | Eq => exact op_eqW h6
  | NotEq => exact op_neW h6
  | Lt => exact op_ltW h6
  | LtE => exact op_leW h6
  | Gt => exact op_gtW h6
  | GtE => exact op_geW h6
  | In => exact op_inW hu
  | NotIn => exact op_notinW hu
  | Is => exact op_isW
  | IsNot => exact op_isnotW
/-- a comparison of values -/
def rCmp (X : Cx) (o : CmpOp) : R2 := fun x y H Q => ∃ F m S a b k, Wd (tbX X) X.K F m H S ∧ AtW X.K X.mg F m H a x ∧ AtW X.K X.mg F m H b y ∧ cmpW o S a b = some k ∧ Q (.bl k) H
theorem op_cmp (hu : X.A.units + 100 < cLine) (o : CmpOp) : OpR X (compareOp o) (rCmp X o) := by
  refine OpR.by fun x y H Q ⟨F, m, S, a, b, k, Y, ha, hb, e, q⟩ => ⟨_, op_cmpD hu o, ?_⟩
  unfold cmpW at e
  cases ea : vw S a with
  | none => rw [ea] at e; cases e
  | some d =>
    rw [ea] at e
    cases eb : vw S b with
    | none => rw [eb] at e; cases e
    | some d' =>
      rw [eb] at e
      exact ⟨d, d', k, ha.vwDp Y ea, hb.vwDp Y eb, e, q⟩
/-! ### truth -/
theorem AtDs.isEmpty {ds : List D} {vs : List V} (h : AtDs X.K F H ds vs) : vs.isEmpty = ds.isEmpty := by
  have := h.length
  cases ds <;> cases vs <;> simp_all
theorem tru_of {w : W} {v : V} {k : Bool} (Y : Wd (tbX X) X.K F m H S) (h : AtW X.K X.mg F m H w v) (e : truW S w = some k) : TruV X.K v H k := by
  unfold truW at e
  cases q : vw S w with
  | some d =>
    rw [q] at e
    rcases h.vw Y q with ⟨_, hd⟩ | ⟨i, a, ds, vs, _, _, rfl, _, rfl, h1, h2⟩
    · cases d with
      | non => cases (show _ = _ from hd); cases e; rfl
      | bl b => cases (show _ = _ from hd); cases e; rfl
      | int b => cases (show _ = _ from hd); cases e; rfl
      | str b =>
        cases (show _ = _ from hd)
        obtain ⟨g, rfl⟩ := guard_some e
        refine ⟨fit_line g, ?_⟩
        cases b.length <;> rfl
      | tup ds =>
        obtain ⟨a, vs, rfl, h1, h2⟩ := hd
        cases e
        exact .inr (.inl ⟨vs, h1.1, by rw [h2.isEmpty]⟩)
      | lst ds =>
        obtain ⟨a, vs, rfl, h1, h2⟩ := hd
        cases e
        exact .inl ⟨vs, h1.1, by rw [h2.isEmpty]⟩
    · cases e
      exact .inl ⟨vs, SqL.of h1, by rw [h2.isEmpty]⟩
  | none =>
    rw [q] at e
    have kv : ∀ (ds : List (Key × D)) (vs : List (Key × V)), AtKV X.K F H ds vs → vs.isEmpty = ds.isEmpty := fun ds vs h => by
      cases ds with
      | nil => cases (show _ = _ from h); rfl
      | cons p ds => obtain ⟨k, d⟩ := p; obtain ⟨v, r, rfl, _⟩ := h; rfl
    cases w with
    | d d => cases q
    | fn x => cases e
    | lf x st => cases e
    | dct kvs =>
      obtain ⟨a, vs, rfl, h1, h2, h3⟩ := h
      cases e
      exact .inr (.inr ⟨vs, h2, by rw [kv _ _ h3]⟩)
    | ref i =>
      obtain ⟨a, h1, rfl⟩ := h
      dsimp only [dctOf] at e
      cases c : S[i]? with
      | none => rw [c] at e; cases e
      | some cc =>
        rw [c] at e
        cases cc with
        | lst ds => cases e
        | tks _ => cases e
        | dct kvs =>
          cases e
          obtain ⟨vs, h2, h3⟩ := Y.cell i a _ h1 c
          exact .inr (.inr ⟨vs, h2, by rw [kv _ _ h3]⟩)
end
end Pyi
/-! Pf: expressions by the evaluator: names, operators, comparisons, and | or | not, conditionals, displays, subscripts, slices. -/
namespace Pyi
open PySem PySem.Spec PyProof.Rows L2
variable [Gd]
section
variable {X : Cx} {E : XK} {a b e : Expr} {pos : Pos} {fa fb fc : Sg → Store → Res W}
/-- one operand, then a rule -/
theorem tE.one {f : Sg → Store → Res W} {k : W → Store → Res W} {σ : L2.St} {H : Hp} {Q : VK} {R : V → Hp → Prop} (h : tE X E (fun σ S => (f σ S).bind fun x S1 => k x S1) σ H Q)
    (i : ∀ F m H S σd w v, Wd (tbX X) X.K F m H S → SgAt X.K X.mg F m H σd σ → AtW X.K X.mg F m H w v → Rp X E F m H (k w S) (fun F' m' H' _ w => ∀ v, AtW X.K X.mg F' m' H' w v → Q v H') → R v H) : tE X E f σ H R := by
  obtain ⟨F, m, S, σd, Y, G, h⟩ := h
  exact ⟨F, m, S, σd, Y, G, (Rp.bind h).mono fun F1 m1 H1 S1 w x1 Y1 h1 v hv => i F1 m1 H1 S1 σd w v Y1 (G.mono x1) hv h1⟩
/-- what is left of a run, as a reading -/
theorem tE.rest {F : Addr → Nat} {m : List Addr} {S : Store} {σd : Sg} {σ : L2.St} {H : Hp} {Q : VK} {f : Sg → Store → Res W} (Y : Wd (tbX X) X.K F m H S) (G : SgAt X.K X.mg F m H σd σ)
    (h : Rp X E F m H (f σd S) (fun F' m' H' _ w => ∀ v, AtW X.K X.mg F' m' H' w v → Q v H')) : tE X E f σ H Q := ⟨F, m, S, σd, Y, G, h⟩
theorem Rp.ret {F : Addr → Nat} {m : List Addr} {S : Store} {H : Hp} {Q : VK} {o : Option W} (h : Rp X E F m H (Res.of S o) (fun F' m' H' _ w => ∀ v, AtW X.K X.mg F' m' H' w v → Q v H')) : ∃ w, o = some w ∧ Ret X F m H S w Q := by
  obtain ⟨w, e, h⟩ := Rp.of h
  exact ⟨w, e, fun F' m' H' v x Y hv => h F' m' H' x Y v hv⟩
theorem Rp.ok_ret {F : Addr → Nat} {m : List Addr} {S : Store} {H : Hp} {Q : VK} {w : W} (h : Rp X E F m H (.ok w S) (fun F' m' H' _ w => ∀ v, AtW X.K X.mg F' m' H' w v → Q v H')) : Ret X F m H S w Q :=
  fun F' m' H' v x Y hv => h F' m' H' x Y v hv
/-! names, constants -/
theorem se_var {i : Nat} {x : Str} (hN : X.N[i]? = some x) (hv : Vis X.env.scope x) (hd : (x == ("__debug__" : Str)) = false) (hcd : (x == ("__classdict__" : Str)) = false) :
    PE X (.Name x pos) (tE X E fun σ S => match σ[i]? with
      | some (some w) => .ok w S
      | _ => .fail) := by
  refine (pe_var hN hv hd hcd).imp fun σ H Q ⟨F, m, S, σd, Y, G, h⟩ => ?_
  dsimp only at h
  split at h
  · rename_i w e
    obtain ⟨v, h1, h2⟩ := G.2 i w e
    exact ⟨v, h1, h.ok_ret.here Y h2⟩
  · exact h.elim
theorem se_int {i : Int} {j : Nat} : PE X (.Constant (.int i) j pos) (tE X E fun _ S => .ok (.d (.int i)) S) := pe_int.imp fun σ H Q ⟨F, m, S, σd, Y, G, h⟩ => h.ok_ret.here Y rfl
theorem se_bl {i : Bool} {j : Nat} : PE X (.Constant (.bool i) j pos) (tE X E fun _ S => .ok (.d (.bl i)) S) := pe_bl.imp fun σ H Q ⟨F, m, S, σd, Y, G, h⟩ => h.ok_ret.here Y rfl
theorem se_non {j : Nat} : PE X (.Constant .none j pos) (tE X E fun _ S => .ok (.d .non) S) := pe_non.imp fun σ H Q ⟨F, m, S, σd, Y, G, h⟩ => h.ok_ret.here Y rfl
theorem se_str {i : Str} {j : Nat} : PE X (.Constant (.str i) j pos) (tE X E fun _ S => .ok (.d (.str i)) S) := pe_str.imp fun σ H Q ⟨F, m, S, σd, Y, G, h⟩ => h.ok_ret.here Y rfl
/-- a global: what stands at a name of the module, wherever the world is -/
def GlobAt (X : Cx) (x : Str) (w : W) : Prop := ∃ u v, X.mg x = some u ∧ RelV v u ∧ ∀ F m H, AtW X.K X.mg F m H w v
theorem se_glob {x : Str} {o : Option W} (hg : Gl X x) (hd : (x == ("__debug__" : Str)) = false) (hw : ∀ w, o = some w → GlobAt X x w) : PE X (.Name x pos) (tE X E fun _ S => Res.of S o) := by
  cases o with
  | none => exact ⟨fun pins s σ H Q I ⟨F, m, S, σd, Y, G, h⟩ => h.elim⟩
  | some w =>
    obtain ⟨u, v, h1, h2, h3⟩ := hw w rfl
    exact (pe_glob hg h1 h2 hd).imp fun σ H Q ⟨F, m, S, σd, Y, G, h⟩ => h.ok_ret.here Y (h3 _ _ _)
/-! operators -/
/-- two operands -/
theorem tE.two {k : W → W → Store → Res W} {σ : L2.St} {H : Hp} {Q : VK} {R : V → V → Hp → Prop} (h : tE X E (fun σ S => (fa σ S).bind fun x S1 => (fb σ S1).bind fun y S2 => k x y S2) σ H Q)
    (i : ∀ F m H S c d x y, Wd (tbX X) X.K F m H S → AtW X.K X.mg F m H c x → AtW X.K X.mg F m H d y → Rp X E F m H (k c d S) (fun F' m' H' _ w => ∀ v, AtW X.K X.mg F' m' H' w v → Q v H') → R x y H) :
    tE X E fa σ H fun x H1 => tE X E fb σ H1 fun y H2 => R x y H2 := by
  obtain ⟨F, m, S, σd, Y, G, h⟩ := h
  exact ⟨F, m, S, σd, Y, G, (Rp.bind h).mono fun F1 m1 H1 S1 c x1 Y1 h1 x hx => ⟨F1, m1, S1, σd, Y1, G.mono x1, (Rp.bind h1).mono fun F2 m2 H2 S2 d x2 Y2 h2 y hy => i F2 m2 H2 S2 c d x y Y2 (hx.mono x2) hy h2⟩⟩
theorem se_bin {o : Operator} (ha : PE X a (tE X E fa)) (hb : PE X b (tE X E fb)) :
    PE X (.BinOp a o b pos) (tE X E fun σ S => (fa σ S).bind fun x S1 => (fb σ S1).bind fun y S2 => Res.of S2 (binW o x y)) := by
  refine (pe_op (op_bin o) ha hb).imp fun σ H Q h => tE.two h fun F m H S c d x y Y hx hy h => ?_
  obtain ⟨w, e, h⟩ := h.ret
  exact ⟨F, m, S, c, d, w, Y, hx, hy, e, h⟩
theorem se_neg (ha : PE X a (tE X E fa)) : PE X (.UnaryOp .USub a pos) (tE X E fun σ S => (fa σ S).bind fun x S1 => match x with
    | .d d => Res.of S1 ((negD d).map .d)
    | _ => .fail) := by
  refine (pe_un un_neg ha).imp fun σ H Q h => tE.one (k := fun x S1 => match x with
    | .d d => Res.of S1 ((negD d).map .d)
    | _ => .fail) h fun F m H S σd w v Y G hv h => ?_
  cases w with
  | d d =>
    obtain ⟨w, e, h⟩ := h.ret
    obtain ⟨d', e, rfl⟩ := map_some e
    cases d with
    | int i =>
      cases e
      exact ⟨i, hv, h.here Y rfl⟩
    | _ => cases e
  | _ => exact h.elim
theorem se_cmp {o : CmpOp} (hu : X.A.units + 100 < cLine) (hm : behindInMarks o b = false) (ha : PE X a (tE X E fa)) (hb : PE X b (tE X E fb)) :
    PE X (.Compare a [o] [b] pos) (tE X E fun σ S => (fa σ S).bind fun x S1 => (fb σ S1).bind fun y S2 => Res.of S2 ((cmpW o S2 x y).map fun b => .d (.bl b))) := by
  refine (pe_cmpR (op_cmp hu o) ha hb hm).imp fun σ H Q h => tE.two h fun F m H S c d x y Y hx hy h => ?_
  obtain ⟨w, e, h⟩ := h.ret
  obtain ⟨k, e1, rfl⟩ := map_some e
  exact ⟨F, m, S, c, d, k, Y, hx, hy, e1, h.here Y rfl⟩
/-- what a test is by the evaluator -/
def tr (f : Sg → Store → Res W) : Sg → Store → Res Bool := fun σ S => (f σ S).tru
theorem tT.one {f : Sg → Store → Res W} {σ : L2.St} {H : Hp} {Q : Bool → Hp → Prop} {R : V → Hp → Prop} (h : tT X E (tr f) σ H Q)
    (i : ∀ F m H S w v k, Wd (tbX X) X.K F m H S → AtW X.K X.mg F m H w v → truW S w = some k → Q k H → R v H) : tE X E f σ H R := by
  obtain ⟨F, m, S, σd, Y, G, h⟩ := h
  refine ⟨F, m, S, σd, Y, G, (Rp.bind h).mono fun F1 m1 H1 S1 w x1 Y1 h1 v hv => ?_⟩
  obtain ⟨k, e, q⟩ := Rp.of h1
  exact i F1 m1 H1 S1 w v k Y1 hv e (q _ _ _ Ext.refl Y1)
theorem st_plain (ha : PE X a (tE X E fa)) (he : ∀ whole, isTrue a X.env whole = (do let v ← whole; standAt a.pos; holding [v] (truthy v))) : PT X a (tT X E (tr fa)) :=
  (pt_truth ha he).imp fun σ H Q h => tT.one h fun F m H S w v k Y hv e q => ⟨k, tru_of Y hv e, q⟩
theorem Rp.bool {F : Addr → Nat} {m : List Addr} {S : Store} {H : Hp} {Q : Bool → Hp → Prop} {k : Bool} (Y : Wd (tbX X) X.K F m H S) (h : Rp X E F m H (Res.tru (.ok (.d (.bl k)) S)) (fun _ _ H' _ b => Q b H')) : Q k H := h _ _ _ Ext.refl Y
theorem st_cmp {o : CmpOp} (hu : X.A.units + 100 < cLine) (hm : behindInMarks o b = false) (ha : PE X a (tE X E fa)) (hb : PE X b (tE X E fb)) :
    PT X (.Compare a [o] [b] pos) (tT X E (tr fun σ S => (fa σ S).bind fun x S1 => (fb σ S1).bind fun y S2 => Res.of S2 ((cmpW o S2 x y).map fun b => .d (.bl b)))) := by
  refine (pt_cmpR (op_cmp hu o) ha hb hm).imp fun σ H Q ⟨F, m, S, σd, Y, G, h⟩ => ?_
  unfold tr Res.tru at h
  rw [Res.bind_assoc] at h
  refine ⟨F, m, S, σd, Y, G, (Rp.bind h).mono fun F1 m1 H1 S1 c x1 Y1 h1 x hx => ⟨F1, m1, S1, σd, Y1, G.mono x1, ?_⟩⟩
  rw [Res.bind_assoc] at h1
  refine (Rp.bind h1).mono fun F2 m2 H2 S2 d x2 Y2 h2 y hy => ?_
  obtain ⟨w, e, h3⟩ := Rp.of (Rp.bind h2)
  obtain ⟨k, e1, rfl⟩ := map_some e
  exact ⟨F2, m2, S2, c, d, k, Y2, hx.mono x2, hy, e1, k, rfl, Rp.bool Y2 (h3 _ _ _ Ext.refl Y2)⟩
theorem Rp.ok_here {α : Type} {F : Addr → Nat} {m : List Addr} {S : Store} {H : Hp} {x : α} {Φ : (Addr → Nat) → List Addr → Hp → Store → α → Prop} (h : Rp X E F m H (.ok x S) Φ) (Y : Wd (tbX X) X.K F m H S) : Φ F m H S x := h _ _ _ Ext.refl Y
theorem se_chn {c : Expr} {o p : CmpOp} (hu : X.A.units + 100 < cLine) (hm : lastMarks [o, p] [b, c] = false) (ha : PE X a (tE X E fa)) (hb : PE X b (tE X E fb)) (hc : PE X c (tE X E fc)) :
    PE X (.Compare a [o, p] [b, c] pos) (tE X E fun σ S => (fa σ S).bind fun x S1 => (fb σ S1).bind fun y S2 => match cmpW o S2 x y with
    | some true => (fc σ S2).bind fun z S3 => Res.of S3 ((cmpW p S3 y z).map fun b => .d (.bl b))
    | some false => .ok (.d (.bl false)) S2
    | none => .fail) := by
  refine (pe_chain (op_cmp hu o) (op_cmp hu p) ha hb hc hm).imp fun σ H Q ⟨F, m, S, σd, Y, G, h⟩ => ?_
  refine ⟨F, m, S, σd, Y, G, (Rp.bind h).mono fun F1 m1 H1 S1 c x1 Y1 h1 x hx => ⟨F1, m1, S1, σd, Y1, G.mono x1, (Rp.bind h1).mono fun F2 m2 H2 S2 d x2 Y2 h2 y hy => ?_⟩⟩
  cases e : cmpW o S2 c d with
  | none => rw [e] at h2; exact h2.elim
  | some k =>
    rw [e] at h2
    refine ⟨F2, m2, S2, c, d, k, Y2, hx.mono x2, hy, e, k, rfl, ?_⟩
    cases k with
    | false => exact iteF (h2.ok_ret.here Y2 rfl)
    | true =>
      refine iteT ⟨F2, m2, S2, σd, Y2, (G.mono x1).mono x2, (Rp.bind h2).mono fun F3 m3 H3 S3 z x3 Y3 h3 w hw => ?_⟩
      obtain ⟨w', e', h3⟩ := h3.ret
      obtain ⟨k', e2, rfl⟩ := map_some e'
      exact ⟨F3, m3, S3, d, z, k', Y3, hy.mono x3, hw, e2, h3.here Y3 rfl⟩
theorem st_chn {c : Expr} {o p : CmpOp} (hu : X.A.units + 100 < cLine) (hm : lastMarks [o, p] [b, c] = false) (ha : PE X a (tE X E fa)) (hb : PE X b (tE X E fb)) (hc : PE X c (tE X E fc)) :
    PT X (.Compare a [o, p] [b, c] pos) (tT X E (tr fun σ S => (fa σ S).bind fun x S1 => (fb σ S1).bind fun y S2 => match cmpW o S2 x y with
    | some true => (fc σ S2).bind fun z S3 => Res.of S3 ((cmpW p S3 y z).map fun b => .d (.bl b))
    | some false => .ok (.d (.bl false)) S2
    | none => .fail)) := by
  refine (pt_chain (op_cmp hu o) (op_cmp hu p) ha hb hc hm).imp fun σ H Q ⟨F, m, S, σd, Y, G, h⟩ => ?_
  unfold tr Res.tru at h
  rw [Res.bind_assoc] at h
  refine ⟨F, m, S, σd, Y, G, (Rp.bind h).mono fun F1 m1 H1 S1 c x1 Y1 h1 x hx => ⟨F1, m1, S1, σd, Y1, G.mono x1, ?_⟩⟩
  rw [Res.bind_assoc] at h1
  refine (Rp.bind h1).mono fun F2 m2 H2 S2 d x2 Y2 h2 y hy => ?_
  cases e : cmpW o S2 c d with
  | none => rw [e] at h2; exact h2.elim
  | some k =>
    rw [e] at h2
    refine ⟨F2, m2, S2, c, d, k, Y2, hx.mono x2, hy, e, k, rfl, ?_⟩
    cases k with
    | false => exact iteF ⟨false, rfl, Rp.bool Y2 h2⟩
    | true =>
      dsimp only at h2
      rw [Res.bind_assoc] at h2
      refine iteT ⟨F2, m2, S2, σd, Y2, (G.mono x1).mono x2, (Rp.bind h2).mono fun F3 m3 H3 S3 z x3 Y3 h3 w hw => ?_⟩
      obtain ⟨w', e', h3⟩ := Rp.of (Rp.bind h3)
      obtain ⟨k', e2, rfl⟩ := map_some e'
      exact ⟨F3, m3, S3, d, z, k', Y3, hy.mono x3, hw, e2, k', rfl, Rp.bool Y3 (h3 _ _ _ Ext.refl Y3)⟩
/-! and, or, not, conditionals -/
def fAnd (fa fb : Sg → Store → Res W) : Sg → Store → Res W := fun σ S => (fa σ S).bind fun x S1 => match truW S1 x with
  | some true => fb σ S1
  | some false => .ok x S1
  | none => .fail
def fOr (fa fb : Sg → Store → Res W) : Sg → Store → Res W := fun σ S => (fa σ S).bind fun x S1 => match truW S1 x with
  | some true => .ok x S1
  | some false => fb σ S1
  | none => .fail
def fIte (ft fa fb : Sg → Store → Res W) : Sg → Store → Res W := fun σ S => (ft σ S).bind fun x S1 => match truW S1 x with
  | some true => fa σ S1
  | some false => fb σ S1
  | none => .fail
def fNot (fa : Sg → Store → Res W) : Sg → Store → Res W := fun σ S => (fa σ S).bind fun x S1 => Res.of S1 ((truW S1 x).map fun b => .d (.bl (!b)))
variable {rest : List Expr} {q r : Expr}
theorem se_and (ha : PE X a (tE X E fa)) (hb : PE X (.BoolOp .And (b :: rest) pos) (tE X E fb)) : PE X (.BoolOp .And (a :: b :: rest) pos) (tE X E (fAnd fa fb)) := by
  refine (pe_andT ha hb).imp fun σ H Q ⟨F, m, S, σd, Y, G, h⟩ => ⟨F, m, S, σd, Y, G, (Rp.bind h).mono fun F1 m1 H1 S1 w x1 Y1 h1 v hv => ?_⟩
  cases e : truW S1 w with
  | none => rw [e] at h1; exact h1.elim
  | some k =>
    rw [e] at h1
    refine ⟨k, tru_of Y1 hv e, ?_⟩
    cases k with
    | false => exact iteF (h1.ok_ret.here Y1 hv)
    | true => exact iteT ⟨F1, m1, S1, σd, Y1, G.mono x1, h1⟩
theorem se_or (ha : PE X a (tE X E fa)) (hb : PE X (.BoolOp .Or (b :: rest) pos) (tE X E fb)) : PE X (.BoolOp .Or (a :: b :: rest) pos) (tE X E (fOr fa fb)) := by
  refine (pe_orT ha hb).imp fun σ H Q ⟨F, m, S, σd, Y, G, h⟩ => ⟨F, m, S, σd, Y, G, (Rp.bind h).mono fun F1 m1 H1 S1 w x1 Y1 h1 v hv => ?_⟩
  cases e : truW S1 w with
  | none => rw [e] at h1; exact h1.elim
  | some k =>
    rw [e] at h1
    refine ⟨k, tru_of Y1 hv e, ?_⟩
    cases k with
    | true => exact iteT (h1.ok_ret.here Y1 hv)
    | false => exact iteF ⟨F1, m1, S1, σd, Y1, G.mono x1, h1⟩
theorem se_not (ha : PE X a (tE X E fa)) : PE X (.UnaryOp .Not a pos) (tE X E (fNot fa)) := by
  refine (pe_notT ha).imp fun σ H Q ⟨F, m, S, σd, Y, G, h⟩ => ⟨F, m, S, σd, Y, G, (Rp.bind h).mono fun F1 m1 H1 S1 w x1 Y1 h1 v hv => ?_⟩
  obtain ⟨w', e, h2⟩ := h1.ret
  obtain ⟨k, e1, rfl⟩ := map_some e
  exact ⟨k, tru_of Y1 hv e1, h2.here Y1 rfl⟩
/-- a run that is followed by its truth -/
theorem tru_bind {f : Sg → Store → Res W} {k : W → Store → Res W} (σ : Sg) (S : Store) : Res.tru ((f σ S).bind k) = (f σ S).bind fun x S1 => (k x S1).tru := Res.bind_assoc _ _ _
theorem tT.ok {f : Sg → Store → Res W} {F : Addr → Nat} {m : List Addr} {S : Store} {σd : Sg} {σ : L2.St} {H : Hp} {Q : Bool → Hp → Prop} (Y : Wd (tbX X) X.K F m H S) (G : SgAt X.K X.mg F m H σd σ) (h : Rp X E F m H (f σd S).tru fun _ _ H' _ b => Q b H') : tT X E (tr f) σ H Q := ⟨F, m, S, σd, Y, G, h⟩
/-- a run's truth decides -/
theorem tT.dec {f : Sg → Store → Res W} {k : W → Store → Bool → Res W} {σ : L2.St} {H : Hp} {Q R : Bool → Hp → Prop} (h : tT X E (tr fun σ S => (f σ S).bind fun x S1 => match truW S1 x with
      | some b => k x S1 b
      | none => .fail) σ H Q)
    (i : ∀ F m H S σd w b, Wd (tbX X) X.K F m H S → SgAt X.K X.mg F m H σd σ → truW S w = some b → Rp X E F m H (k w S b).tru (fun _ _ H' _ b => Q b H') → R b H) : tT X E (tr f) σ H R := by
  obtain ⟨F, m, S, σd, Y, G, h⟩ := h
  unfold tr at h
  rw [tru_bind (f := f) (k := fun x S1 => match truW S1 x with
      | some b => k x S1 b
      | none => .fail) σd S] at h
  refine tT.ok Y G ?_
  unfold Res.tru
  cases r : f σd S with
  | fail => rw [r] at h; exact h
  | exc e S => rw [r] at h; exact h
  | ok w S1 =>
    rw [r, Res.bind_ok] at h
    rw [Res.bind_ok]
    cases e : truW S1 w with
    | none => rw [e] at h; exact h.elim
    | some b =>
      rw [e] at h
      exact fun F1 m1 H1 x1 Y1 => i F1 m1 H1 S1 σd w b Y1 (G.mono x1) e (h.shift x1)
theorem fAnd_eq : fAnd fa fb = fun σ S => (fa σ S).bind fun x S1 => match truW S1 x with
      | some b => (if b then fb σ S1 else .ok x S1)
      | none => .fail := by
  funext σ S
  unfold fAnd
  congr 1
  funext x S1
  cases truW S1 x with
  | none => rfl
  | some b => cases b <;> rfl
theorem fOr_eq : fOr fa fb = fun σ S => (fa σ S).bind fun x S1 => match truW S1 x with
      | some b => (if b then .ok x S1 else fb σ S1)
      | none => .fail := by
  funext σ S
  unfold fOr
  congr 1
  funext x S1
  cases truW S1 x with
  | none => rfl
  | some b => cases b <;> rfl
theorem fIte_eq : fIte fc fa fb = fun σ S => (fc σ S).bind fun x S1 => match truW S1 x with
      | some b => (if b then fa σ S1 else fb σ S1)
      | none => .fail := by
  funext σ S
  unfold fIte
  congr 1
  funext x S1
  cases truW S1 x with
  | none => rfl
  | some b => cases b <;> rfl
/-- .. where what is done hangs on the slots, too -/
theorem tT.dec2 {f : Sg → Store → Res W} {k : Sg → W → Store → Bool → Res W} {σ : L2.St} {H : Hp} {Q R : Bool → Hp → Prop} (h : tT X E (tr fun σ S => (f σ S).bind fun x S1 => match truW S1 x with
      | some b => k σ x S1 b
      | none => .fail) σ H Q)
    (i : ∀ F m H S σd w b, Wd (tbX X) X.K F m H S → SgAt X.K X.mg F m H σd σ → truW S w = some b → Rp X E F m H (k σd w S b).tru (fun _ _ H' _ b => Q b H') → R b H) : tT X E (tr f) σ H R := by
  obtain ⟨F, m, S, σd, Y, G, h⟩ := h
  unfold tr at h
  rw [tru_bind (f := f) (k := fun x S1 => match truW S1 x with
      | some b => k σd x S1 b
      | none => .fail) σd S] at h
  refine tT.ok Y G ?_
  unfold Res.tru
  cases r : f σd S with
  | fail => rw [r] at h; exact h
  | exc e S => rw [r] at h; exact h
  | ok w S1 =>
    rw [r, Res.bind_ok] at h
    rw [Res.bind_ok]
    cases e : truW S1 w with
    | none => rw [e] at h; exact h.elim
    | some b =>
      rw [e] at h
      exact fun F1 m1 H1 x1 Y1 => i F1 m1 H1 S1 σd w b Y1 (G.mono x1) e (h.shift x1)
theorem Rp.tru_ok {F : Addr → Nat} {m : List Addr} {S : Store} {H : Hp} {Q : Bool → Hp → Prop} {w : W} {b : Bool} (Y : Wd (tbX X) X.K F m H S) (e : truW S w = some b) (h : Rp X E F m H (Res.tru (.ok w S)) (fun _ _ H' _ b => Q b H')) : Q b H := by
  unfold Res.tru at h
  rw [Res.bind_ok, e] at h
  exact h _ _ _ Ext.refl Y
theorem st_and (ha : PT X a (tT X E (tr fa))) (hb : PW X (.BoolOp .And (b :: rest) pos) (tT X E (tr fb))) : PW X (.BoolOp .And (a :: b :: rest) pos) (tT X E (tr (fAnd fa fb))) := by
  refine (pw_and ha hb).imp fun σ H Q h => ?_
  rw [fAnd_eq] at h
  refine tT.dec2 (k := fun σ x S1 b => if b then fb σ S1 else .ok x S1) h fun F m H S σd w b Y G e h => ?_
  cases b with
  | true => exact iteT (tT.ok Y G h)
  | false => exact iteF (Rp.tru_ok Y e h)
theorem st_or (ha : PT X a (tT X E (tr fa))) (hb : PW X (.BoolOp .Or (b :: rest) pos) (tT X E (tr fb))) : PW X (.BoolOp .Or (a :: b :: rest) pos) (tT X E (tr (fOr fa fb))) := by
  refine (pw_or ha hb).imp fun σ H Q h => ?_
  rw [fOr_eq] at h
  refine tT.dec2 (k := fun σ x S1 b => if b then .ok x S1 else fb σ S1) h fun F m H S σd w b Y G e h => ?_
  cases b with
  | false => exact iteF (tT.ok Y G h)
  | true => exact iteT (Rp.tru_ok Y e h)
theorem st_not (ha : PT X a (tT X E (tr fa))) : PT X (.UnaryOp .Not a pos) (tT X E (tr (fNot fa))) := by
  refine (pt_not ha).imp fun σ H Q ⟨F, m, S, σd, Y, G, h⟩ => ?_
  unfold tr fNot at h
  rw [tru_bind] at h
  refine tT.ok Y G ?_
  unfold Res.tru
  cases r : fa σd S with
  | fail => rw [r] at h; exact h
  | exc e S => rw [r] at h; exact h
  | ok w S1 =>
    rw [r, Res.bind_ok] at h
    rw [Res.bind_ok]
    cases e : truW S1 w with
    | none => rw [e] at h; exact h.elim
    | some b => rw [e] at h; exact h
theorem se_ite (hc : PT X q (tT X E (tr fc))) (ha : PE X a (tE X E fa)) (hb : PE X b (tE X E fb)) : PE X (.IfExp q a b pos) (tE X E (fIte fc fa fb)) := by
  refine (pe_ifExp hc ha hb).imp fun σ H Q h => ?_
  rw [fIte_eq] at h
  obtain ⟨F, m, S, σd, Y, G, h⟩ := h
  dsimp only at h
  refine tT.ok Y G ?_
  unfold Res.tru
  cases r : fc σd S with
  | fail => rw [r] at h; exact h
  | exc e S => rw [r] at h; exact h
  | ok w S1 =>
    rw [r, Res.bind_ok] at h
    rw [Res.bind_ok]
    cases e : truW S1 w with
    | none => rw [e] at h; exact h.elim
    | some b =>
      rw [e] at h
      intro F1 m1 H1 x1 Y1
      cases b with
      | true => exact iteT ⟨F1, m1, S1, σd, Y1, G.mono x1, h.shift x1⟩
      | false => exact iteF ⟨F1, m1, S1, σd, Y1, G.mono x1, h.shift x1⟩
/-! argument lists, displays -/
theorem sa_nil : PA X [] (tAw X E fun _ S => .ok [] S) := pa_nil.imp fun σ H Q ⟨F, m, S, σd, Y, G, h⟩ => h.ok_here Y [] rfl
theorem sa_cons {es : List Expr} {fr : Sg → Store → Res (List W)} (ha : PE X e (tE X E fa)) (hr : PA X es (tAw X E fr)) (hs : starEach (e :: es) X.env = (false, eval e X.env) :: starEach es X.env) :
    PA X (e :: es) (tAw X E fun σ S => (fa σ S).bind fun w S1 => (fr σ S1).bind fun ws S2 => .ok (w :: ws) S2) := by
  refine (pa_cons ha hr hs).imp fun σ H Q ⟨F, m, S, σd, Y, G, h⟩ => ⟨F, m, S, σd, Y, G, (Rp.bind h).mono fun F1 m1 H1 S1 w x1 Y1 h1 v hv => ⟨F1, m1, S1, σd, Y1, G.mono x1, (Rp.bind h1).mono fun F2 m2 H2 S2 ws x2 Y2 h2 vs hvs => ?_⟩⟩
  exact h2.ok_here Y2 (v :: vs) ⟨v, vs, rfl, hv.mono x2, hvs⟩
theorem sd_nil : PA X [] (tAd X E fun _ S => .ok [] S) := pa_nil.imp fun σ H Q ⟨F, m, S, σd, Y, G, h⟩ => h.ok_here Y [] rfl
theorem sd_cons {es : List Expr} {fr : Sg → Store → Res (List D)} (ha : PE X e (tE X E fa)) (hr : PA X es (tAd X E fr)) (hs : starEach (e :: es) X.env = (false, eval e X.env) :: starEach es X.env) :
    PA X (e :: es) (tAd X E fun σ S => (fa σ S).bind fun w S1 => match w with
    | .d d => (fr σ S1).bind fun ds S2 => .ok (d :: ds) S2
    | _ => .fail) := by
  refine (pa_cons ha hr hs).imp fun σ H Q ⟨F, m, S, σd, Y, G, h⟩ => ⟨F, m, S, σd, Y, G, (Rp.bind h).mono fun F1 m1 H1 S1 w x1 Y1 h1 v hv => ?_⟩
  cases w with
  | d d => exact ⟨F1, m1, S1, σd, Y1, G.mono x1, (Rp.bind h1).mono fun F2 m2 H2 S2 ds x2 Y2 h2 vs hvs => h2.ok_here Y2 (v :: vs) ⟨v, vs, rfl, AtD.mono x2.g hv, hvs⟩⟩
  | _ => exact h1.elim
theorem sd_star {es : List Expr} {fr : Sg → Store → Res (List D)} {p : Pos} (ha : PE X e (tE X E fa)) (hr : PA X es (tAd X E fr)) :
    PA X (.Starred e p :: es) (tAd X E fun σ S => (fa σ S).bind fun w S1 => match seqOf S1 w with
    | some xs => (fr σ S1).bind fun ds S2 => .ok (xs ++ ds) S2
    | none => .fail) := by
  refine (StX.pa_star ha hr).imp fun σ H Q ⟨F, m, S, σd, Y, G, h⟩ => ⟨F, m, S, σd, Y, G, (Rp.bind h).mono fun F1 m1 H1 S1 w x1 Y1 h1 v hv => ?_⟩
  cases q : seqOf S1 w with
  | none => rw [q] at h1; exact h1.elim
  | some xs =>
    rw [q] at h1
    obtain ⟨a, vs, rfl, hd, hs⟩ := hv.seq Y1 q
    have hx : AtDs X.K F1 H1 xs vs := hd
    refine ⟨a, vs, rfl, hs.elim (fun z => .inr z) (fun z => .inl z.2.1), F1, m1, S1, σd, Y1, G.mono x1, ?_⟩
    exact (Rp.bind h1).mono fun F2 m2 H2 S2 ds x2 Y2 h2 us hus => h2.ok_here Y2 (vs ++ us) ((AtDs.mono x2.g hx).app hus)
theorem pa_no {e : List Expr} {α : Type} {f : Sg → Store → Res (List W)} (h : ∀ σ S, f σ S = .fail) : PA X e (tAw X E f) := ⟨fun pos pins s σ H Q I ⟨F, m, S, σd, Y, G, q⟩ => by
  rw [h] at q
  exact q.elim⟩
variable {es : List Expr} {fd : Sg → Store → Res (List D)}
theorem se_tup {k : Nat} (h : PA X es (tAd X E fd)) : PE X (.Tuple es k pos) (tE X E fun σ S => (fd σ S).bind fun ds S1 => if fit ds.length then .ok (.d (.tup ds)) S1 else .fail) := by
  refine (pe_tup h).imp fun σ H Q ⟨F, m, S, σd, Y, G, h⟩ => ⟨F, m, S, σd, Y, G, (Rp.bind h).mono fun F1 m1 H1 S1 ds x1 Y1 h1 vs hvs => ?_⟩
  by_cases c : fit ds.length = true
  · rw [if_pos c] at h1
    exact ⟨by rw [hvs.length]; exact fit_line c, fun p hp => h1.ok_ret.tup Y1 hvs hp⟩
  · rw [if_neg c] at h1
    exact h1.elim
theorem se_lst (h : PA X es (tAd X E fd)) : PE X (.List es pos) (tE X E fun σ S => (fd σ S).bind fun ds S1 => if fit ds.length then .ok (.d (.lst ds)) S1 else .fail) := by
  refine (pe_lst h).imp fun σ H Q ⟨F, m, S, σd, Y, G, h⟩ => ⟨F, m, S, σd, Y, G, (Rp.bind h).mono fun F1 m1 H1 S1 ds x1 Y1 h1 vs hvs => ?_⟩
  by_cases c : fit ds.length = true
  · rw [if_pos c] at h1
    exact ⟨by rw [hvs.length]; exact fit_line c, fun p hp => h1.ok_ret.lst Y1 hvs hp⟩
  · rw [if_neg c] at h1
    exact h1.elim
/-- a new cell is handed on -/
theorem Rp.cell {F : Addr → Nat} {m : List Addr} {S : Store} {H : Hp} {Q : VK} {c : Cell} {o : HO} (h : Rp X E F m H (.ok (.ref S.length) (S ++ [c])) (fun F' m' H' _ w => ∀ v, AtW X.K X.mg F' m' H' w v → Q v H')) (Y : Wd (tbX X) X.K F m H S) {p : Addr} (hp : H p = none)
    (hc : ∀ e : Kp F H F (upd H p o), CellAt X.K F (upd H p o) c (some o)) : Q (.ref p) (upd H p o) := by
  have hx : Kp F H F (upd H p o) := .of fun a ha => ⟨ha, upd_ne fun e => Y.Fs a (by rw [ha]; decide) (e ▸ hp)⟩
  obtain ⟨Y', x⟩ := Y.push hp (hc hx)
  refine h _ _ _ x Y' _ ⟨p, ?_, rfl⟩
  rw [← Y.len, List.getElem?_append_right (Nat.le_refl _), Nat.sub_self]
  rfl
theorem se_cel (h : PA X es (tAd X E fd)) : PE X (.List es pos) (tE X E fun σ S => (fd σ S).bind fun ds S1 => if fit ds.length then .ok (.ref S1.length) (S1 ++ [.lst ds]) else .fail) := by
  refine (pe_lst h).imp fun σ H Q ⟨F, m, S, σd, Y, G, h⟩ => ⟨F, m, S, σd, Y, G, (Rp.bind h).mono fun F1 m1 H1 S1 ds x1 Y1 h1 vs hvs => ?_⟩
  by_cases c : fit ds.length = true
  · rw [if_pos c] at h1
    exact ⟨by rw [hvs.length]; exact fit_line c, fun p hp => Rp.cell h1 Y1 hp fun e => ⟨vs, rfl, AtDs.mono e hvs⟩⟩
  · rw [if_neg c] at h1
    exact h1.elim
/-! subscripts, slices -/
theorem AtDs.atI {K : PySem.W.Frag} {F : Addr → Nat} {H : Hp} {ds : List D} {vs : List V} {i : Int} {d : D} (h : AtDs K F H ds vs) (e : atI ds i = some d) : ∃ v, atI vs i = some v ∧ AtD K F H d v := by
  unfold L2.atI at e ⊢
  rw [h.length]
  obtain ⟨j, e1, e2⟩ := bind_some e
  obtain ⟨v, e3, hv⟩ := h.get e2
  exact ⟨v, by rw [e1]; exact e3, hv⟩
def fIx (fa fb : Sg → Store → Res W) : Sg → Store → Res W := fun σ S => (fa σ S).bind fun w S1 => (fb σ S1).bind fun k S2 => Res.of S2 ((ixW S2 w k).map .d)
theorem AtKV.look {K : PySem.W.Frag} {F : Addr → Nat} {H : Hp} {k : Key} {d : D} : ∀ {kvs : List (Key × D)} {vs : List (Key × V)}, AtKV K F H kvs vs → lookK kvs k = some d → ∃ v, valV vs k = some v ∧ AtD K F H d v
  | [], _, _, e => by cases e
  | (k', w) :: r, _, h, e => by
    obtain ⟨v, s, rfl, h1, h2⟩ := h
    unfold lookK at e
    by_cases c : k' = k
    · rw [if_pos c] at e
      cases e
      exact ⟨v, valV_pos c, h1⟩
    · rw [if_neg c] at e
      obtain ⟨u, e1, e2⟩ := AtKV.look h2 e
      exact ⟨u, (valV_neg c).trans e1, e2⟩
theorem AtKV.any {K : PySem.W.Frag} {F : Addr → Nat} {H : Hp} {p : Key → Bool} : ∀ {kvs : List (Key × D)} {vs : List (Key × V)}, AtKV K F H kvs vs → (vs.any fun q => p q.1) = kvs.any fun q => p q.1
  | [], _, h => by cases (show _ = _ from h); rfl
  | (k', w) :: r, _, h => by
    obtain ⟨v, s, rfl, h1, h2⟩ := h
    rw [List.any_cons, List.any_cons, AtKV.any h2]
theorem AtKV.put1 {K : PySem.W.Frag} {F : Addr → Nat} {H : Hp} {k : Key} {d : D} {u : V} (hu : AtD K F H d u) : ∀ {kvs : List (Key × D)} {vs : List (Key × V)}, AtKV K F H kvs vs → AtKV K F H (kvs.map fun kv => if kv.1 = k then (kv.1, d) else kv) (vs.map fun kv => if kv.1 = k then (kv.1, u) else kv)
  | [], _, h => by cases (show _ = _ from h); rfl
  | (k', w) :: r, _, h => by
    obtain ⟨v, s, rfl, h1, h2⟩ := h
    rw [List.map_cons, List.map_cons]
    by_cases c : k' = k
    · simp only [c, if_true]
      exact ⟨u, _, rfl, hu, AtKV.put1 hu h2⟩
    · simp only [c, if_false]
      exact ⟨v, _, rfl, h1, AtKV.put1 hu h2⟩
theorem AtKV.app1 {K : PySem.W.Frag} {F : Addr → Nat} {H : Hp} {k : Key} {d : D} {u : V} (hu : AtD K F H d u) : ∀ {kvs : List (Key × D)} {vs : List (Key × V)}, AtKV K F H kvs vs → AtKV K F H (kvs ++ [(k, d)]) (vs ++ [(k, u)])
  | [], _, h => by cases (show _ = _ from h); exact ⟨u, [], rfl, hu, rfl⟩
  | (k', w) :: r, _, h => by
    obtain ⟨v, s, rfl, h1, h2⟩ := h
    exact ⟨v, _, rfl, h1, AtKV.app1 hu h2⟩
theorem AtKV.put {K : PySem.W.Frag} {F : Addr → Nat} {H : Hp} {k : Key} {d : D} {u : V} {kvs : List (Key × D)} {vs : List (Key × V)} (h : AtKV K F H kvs vs) (hu : AtD K F H d u) : AtKV K F H (putD kvs k d) (putK vs k u) := by
  unfold putD putK
  have e : (vs.any fun kv => decide (kv.1 = k)) = kvs.any fun kv => decide (kv.1 = k) := AtKV.any (p := fun z => decide (z = k)) h
  rw [e]
  split
  · exact AtKV.put1 hu h
  · exact AtKV.app1 hu h
theorem keyD_at {K : PySem.W.Frag} {F : Addr → Nat} {H : Hp} {d : D} {v : V} {k : Key} (h : AtD K F H d v) (e : keyD d = some k) : v = kV k := by
  cases d with
  | int i => cases e; exact h
  | str x => cases e; exact h
  | _ => cases e
theorem IxR.by {r' : R2} (h : ∀ x y H Q, r' x y H Q → ∃ r, IxR X r ∧ r x y H Q) : IxR X r' := fun value slice pins s σ H x y v u Q I rx ry q hs =>
  let ⟨_, o, q'⟩ := h x y H Q q
  o value slice pins s σ H x y v u Q I rx ry q' hs
/-- d[k] -/
theorem ix_dict (hu : X.A.units + 1 < cLine) : IxR X (fun x y H Q => ∃ a v, x = .ref a ∧ DGet H a y (some v) ∧ Q v H) := by
  intro value slice pins s σ H x y v u Q I rx ry ⟨a, w, ex, g, q⟩ hs
  subst ex
  obtain rfl : v = Value.ref a := rx
  have hT := dict_typeIs I g
  unfold subscriptTail
  refine wpAny_bind ?_
  rw [getitemInPython_of_ne hT.not_modules]
  refine wpAny_bind (wpAny_specialOf hT PySem.F.slot_dict_getitem.lookup ?_)
  have fin : wpAny (model X.prog X.w) X.A (subscripted slice false (.ref a) u) (fun r s₃ => wpAny (model X.prog X.w) X.A (letTemporaryGo value (.ref a) r >>= fun _ => pure r) (EP X pins σ Q) X.xe s₃) X.xe s := by
    rw [hs]
    exact wpAny_operating (wpAny_mono (d_getItem hu I g ry fun w' s3 I3 rw' => (⟨w, H, I3, rw', q⟩ : EP X pins σ Q w' s3)) (fun r s₃ h₃ => wpAny_bind (wpAny_letTemporaryGo (wpAny_pure h₃))) fun _ _ x => x)
  first
    | exact wpAny_pure (wpAny_bind fin)
    | exact wpAny_bind (wpAny_pure (wpAny_bind fin))
    | exact wpAny_bind fin
theorem AtW.dct {F : Addr → Nat} {m : List Addr} {H : Hp} {S : Store} {w : W} {v : V} {kvs : List (Key × D)} (Y : Wd (tbX X) X.K F m H S) (h : AtW X.K X.mg F m H w v) (e : dctOf S w = some kvs) : ∃ a vs, v = .ref a ∧ H a = some (.dK vs) ∧ AtKV X.K F H kvs vs := by
  cases w with
  | dct k2 =>
    cases e
    obtain ⟨a, vs, rfl, _, h2, h3⟩ := h
    exact ⟨a, vs, rfl, h2, h3⟩
  | ref i =>
    obtain ⟨a, h1, rfl⟩ := h
    dsimp only [dctOf] at e
    split at e
    · rename_i k2 q
      cases e
      obtain ⟨vs, h2, h3⟩ := Y.cell i a _ h1 q
      exact ⟨a, vs, rfl, h2, h3⟩
    · cases e
  | _ => cases e
theorem se_ix (hu : X.A.units + 1 < cLine) (ha : PE X a (tE X E fa)) (hb : PE X b (tE X E fb)) (hs : PlainIx b) : PE X (.Subscript a b pos) (tE X E (fIx fa fb)) := by
  refine (pe_ix (IxR.by (r' := fun x y H Q => rIx X.K x y H Q ∨ ∃ a v, x = .ref a ∧ DGet H a y (some v) ∧ Q v H) fun x y H Q h => h.elim (fun h => ⟨_, ix_seq, h⟩) fun h => ⟨_, ix_dict hu, h⟩) ha hb hs).imp fun σ H Q h => tE.two (k := fun w k S2 => Res.of S2 ((ixW S2 w k).map .d)) h fun F m H S c d x y Y hx hy h => ?_
  cases d with
  | d n =>
    unfold ixW at h
    cases e : vw S c with
    | none =>
      rw [e] at h
      obtain ⟨w, e0, hq⟩ := h.ret
      obtain ⟨z, e1, rfl⟩ := map_some e0
      dsimp only at e1
      split at e1
      · rename_i kvs ed
        obtain ⟨k, ek, el⟩ := bind_some e1
        obtain ⟨p, vs, rfl, h1, h2⟩ := hx.dct Y ed
        obtain ⟨v, ev, hv⟩ := h2.look el
        have ey := keyD_at hy ek
        subst ey
        exact .inr ⟨p, v, rfl, by rw [← ev]; exact DGet.k h1, hq.here Y hv⟩
      · cases e1
    | some z =>
      rw [e] at h
      left
      obtain ⟨w, e0, hq⟩ := h.ret
      obtain ⟨u, e1, rfl⟩ := map_some e0
      dsimp only at e1
      clear h e0
      cases n with
      | int i =>
        have hy : y = .int i := hy
        rcases hx.vw Y e with ⟨_, hd⟩ | ⟨j, p, ds, vs, _, _, rfl, _, rfl, h1, h2⟩
        · cases z with
          | tup ds =>
            obtain ⟨p, vs, rfl, h1, h2⟩ := hd
            obtain ⟨v, e2, hv⟩ := h2.atI e1
            exact .inr (.inl ⟨p, vs, i, v, rfl, hy, h1.1, e2, hq.here Y hv⟩)
          | lst ds =>
            obtain ⟨p, vs, rfl, h1, h2⟩ := hd
            obtain ⟨v, e2, hv⟩ := h2.atI e1
            exact .inl ⟨p, vs, i, v, rfl, hy, h1.1, e2, hq.here Y hv⟩
          | str t =>
            dsimp only [ixD] at e1
            by_cases g : fit t.length = true
            · rw [if_pos g] at e1
              unfold signAt at e1
              obtain ⟨cc, e2, rfl⟩ := map_some e1
              exact .inr (.inr ⟨t, i, cc, hd, hy, fit_line g, e2, hq.here Y rfl⟩)
            · rw [if_neg g] at e1; cases e1
          | _ => cases e1
        · obtain ⟨v, e2, hv⟩ := h2.atI e1
          exact .inl ⟨p, vs, i, v, rfl, hy, SqL.of h1, e2, hq.here Y hv⟩
      | _ => cases z <;> cases e1
  | _ => exact h.elim
/-- {} -/
theorem se_dcl : PE X (.Dict [] [] pos) (tE X E fun _ S => .ok (.ref S.length) (S ++ [.dct []])) :=
  pe_dnewK.imp fun σ H Q ⟨F, m, S, σd, Y, G, h⟩ p hp => Rp.cell h Y hp fun e => ⟨[], rfl, rfl⟩
/-- {}, for tuples -/
theorem se_dclT : PE X (.Dict [] [] pos) (tE X E fun _ S => .ok (.ref S.length) (S ++ [.tks []])) :=
  pe_dnewT.imp fun σ H Q ⟨F, m, S, σd, Y, G, h⟩ p hp => Rp.cell h Y hp fun e => ⟨[], rfl, rfl⟩
/-- a slice's part -/
def tPt (X : Cx) (E : XK) (f : Sg → Store → Res (Option Int)) : TO := fun σ H Q => ∃ F m S σd, Wd (tbX X) X.K F m H S ∧ SgAt X.K X.mg F m H σd σ ∧
  Rp X E F m H (f σd S) fun _ _ H' _ o => Q o H'
theorem so_none : PO X none (tPt X E fun _ S => .ok none S) := ⟨fun pins s σ H Q I ⟨F, m, S, σd, Y, G, h⟩ => po_none.run pins s σ H Q I (h.ok_here Y)⟩
theorem so_some (ha : PE X e (tE X E fa)) : PO X (some e) (tPt X E fun σ S => (fa σ S).bind fun w S1 => match w with
    | .d (.int i) => .ok (some i) S1
    | _ => .fail) := ⟨fun pins s σ H Q I ⟨F, m, S, σd, Y, G, h⟩ => by
  refine (po_some ha).run pins s σ H Q I ⟨F, m, S, σd, Y, G, (Rp.bind h).mono fun F1 m1 H1 S1 w x1 Y1 h1 v hv => ?_⟩
  cases w with
  | d d =>
    cases d with
    | int i => exact ⟨i, hv, h1.ok_here Y1⟩
    | _ => exact h1.elim
  | _ => exact h1.elim⟩
theorem SlR.by {r' : V → Option Int → Option Int → Hp → VK → Prop} (h : ∀ x lo hi H Q, r' x lo hi H Q → ∃ r, SlR X r ∧ r x lo hi H Q) : SlR X r' := by
  intro pins s σ H x v vl vu lo hi sl Q I rx hs pl pu q
  obtain ⟨r, o, q'⟩ := h x lo hi H Q q
  exact o pins s σ H x v vl vu lo hi sl Q I rx hs pl pu q'
theorem cutV_whole {vs : List V} {lo hi : Option Int} (h : HT.sIx vs.length 0 lo = 0 ∧ HT.sIx vs.length vs.length hi = vs.length) : cutV vs lo hi = vs := by
  unfold cutV
  rw [h.1, h.2, List.drop_zero, Nat.sub_zero, List.take_length]
theorem cutL_whole {α : Type} {vs : List α} {lo hi : Option Int} (h : HT.sIx vs.length 0 lo = 0 ∧ HT.sIx vs.length vs.length hi = vs.length) : cutL vs lo hi = vs := by
  unfold cutL
  rw [h.1, h.2, List.drop_zero, Nat.sub_zero, List.take_length]
theorem sl_W : SlR X (fun x lo hi H Q => ∃ F m S w d z, Wd (tbX X) X.K F m H S ∧ AtW X.K X.mg F m H w x ∧ vw S w = some d ∧ slD d lo hi = some z ∧ Ret X F m H S (.d z) Q) := by
  refine SlR.by fun x lo hi H Q ⟨F, m, S, w, d, z, Y, hx, e, e1, q⟩ => ?_
  rcases hx.vw Y e with ⟨_, hd⟩ | ⟨j, p, ds, vs, _, _, rfl, _, rfl, h1, h2⟩
  · cases d with
    | tup ds =>
      cases e1
      obtain ⟨p, vs, rfl, h1, h2⟩ := hd
      refine ⟨_, sl_tupA, p, vs, rfl, h1.1, fun c => ?_, fun c r hr => q.tup Y (h2.cut lo hi) hr⟩
      rw [h2.length] at c
      rw [cutL_whole c] at q
      exact q.here Y ⟨p, vs, rfl, h1, h2⟩
    | lst ds =>
      cases e1
      obtain ⟨p, vs, rfl, h1, h2⟩ := hd
      exact ⟨_, sl_list, p, vs, rfl, h1.1, fun r hr => q.lst Y (h2.cut lo hi) hr⟩
    | str t =>
      obtain ⟨g, rfl⟩ := guard_some e1
      exact ⟨_, sl_str, t, hd, fit_line g, q.here Y rfl⟩
    | _ => cases e1
  · cases e1
    exact ⟨_, sl_list, p, vs, rfl, SqL.of h1, fun r hr => q.lst Y (h2.cut lo hi) hr⟩
theorem se_sl {lo hi : Option Expr} {p2 : Pos} {fl fh : Sg → Store → Res (Option Int)} (ha : PE X a (tE X E fa)) (hl : PO X lo (tPt X E fl)) (hh : PO X hi (tPt X E fh)) :
    PE X (.Subscript a (.Slice lo hi none p2) pos) (tE X E fun σ S => (fa σ S).bind fun w S1 => (fl σ S1).bind fun lo S2 => (fh σ S2).bind fun hi S3 => Res.of S3 ((vw S3 w).bind fun d => (slD d lo hi).map .d)) := by
  refine (pe_slice sl_W ha hl hh).imp fun σ H Q ⟨F, m, S, σd, Y, G, h⟩ => ⟨F, m, S, σd, Y, G, (Rp.bind h).mono fun F1 m1 H1 S1 w x1 Y1 h1 v hv => ⟨F1, m1, S1, σd, Y1, G.mono x1, (Rp.bind h1).mono fun F2 m2 H2 S2 l x2 Y2 h2 =>
    ⟨F2, m2, S2, σd, Y2, (G.mono x1).mono x2, (Rp.bind h2).mono fun F3 m3 H3 S3 u x3 Y3 h3 => ?_⟩⟩⟩
  obtain ⟨w', e, hq⟩ := h3.ret
  obtain ⟨d, e1, e2⟩ := bind_some e
  obtain ⟨z, e3, rfl⟩ := map_some e2
  exact ⟨F3, m3, S3, w, d, z, Y3, (hv.mono x2).mono x3, e1, e3, hq⟩
end
end Pyi
/-! Pg: built-in functions. -/
namespace Pyi
open PySem PySem.Spec PyProof.Rows L2
variable [Gd]
section
variable {X : Cx} {F : Addr → Nat} {m : List Addr} {H : Hp} {S : Store} {Q : VK}
/-- a built-in by its values -/
def rBi (X : Cx) (f : Store → List W → Option W) : List V → Hp → VK → Prop := fun xs H Q => ∃ F m S ws w, Wd (tbX X) X.K F m H S ∧ AtWs X.K X.mg F m H ws xs ∧ f S ws = some w ∧ Ret X F m H S w Q
theorem AtWs.one {K : PySem.W.Frag} {mg : Str → Option Value} {w : W} {xs : List V} (h : AtWs K mg F m H [w] xs) : ∃ v, xs = [v] ∧ AtW K mg F m H w v := by
  obtain ⟨v, r, rfl, h1, h2⟩ := h
  cases (show _ = _ from h2)
  exact ⟨v, rfl, h1⟩
theorem AtWs.two {K : PySem.W.Frag} {mg : Str → Option Value} {w w' : W} {xs : List V} (h : AtWs K mg F m H [w, w'] xs) : ∃ v v', xs = [v, v'] ∧ AtW K mg F m H w v ∧ AtW K mg F m H w' v' := by
  obtain ⟨v, r, rfl, h1, h2⟩ := h
  obtain ⟨v', rfl, h3⟩ := AtWs.one h2
  exact ⟨v, v', rfl, h1, h3⟩
theorem AtWs.three {K : PySem.W.Frag} {mg : Str → Option Value} {w w' w2 : W} {xs : List V} (h : AtWs K mg F m H [w, w', w2] xs) : ∃ v v' v2, xs = [v, v', v2] ∧ AtW K mg F m H w v ∧ AtW K mg F m H w' v' ∧ AtW K mg F m H w2 v2 := by
  obtain ⟨v, r, rfl, h1, h2⟩ := h
  obtain ⟨v', v2, rfl, h3, h4⟩ := AtWs.two h2
  exact ⟨v, v', v2, rfl, h1, h3, h4⟩
/-- one argument, of which f's value is -/
theorem CallR.one {f : Value} {g : Store → W → Option W} (h : ∀ F m H S w v u Q, Wd (tbX X) X.K F m H S → AtW X.K X.mg F m H w v → g S w = some u → Ret X F m H S u Q → ∃ r, CallR X f r ∧ r [v] H Q) :
    CallR X f (rBi X fun S ws => match ws with
      | [w] => g S w
      | _ => none) := by
  refine CallR.by fun xs H Q ⟨F, m, S, ws, w, Y, ha, e, q⟩ => ?_
  match ws, ha, e with
  | [u], ha, e =>
    obtain ⟨v, rfl, hv⟩ := ha.one
    exact h F m H S u v w Q Y hv e q
/-- .. a number alone -/
theorem vw_int {w : W} {v : V} {i : Int} (Y : Wd (tbX X) X.K F m H S) (h : AtW X.K X.mg F m H w v) (e : vw S w = some (.int i)) : v = .int i := by
  rcases h.vw Y e with ⟨_, h⟩ | ⟨j, a, ds, vs, _, _, e2, _, _, _, _⟩
  · exact h
  · cases e2
theorem vw_bl {w : W} {v : V} {i : Bool} (Y : Wd (tbX X) X.K F m H S) (h : AtW X.K X.mg F m H w v) (e : vw S w = some (.bl i)) : v = .bl i := by
  rcases h.vw Y e with ⟨_, h⟩ | ⟨j, a, ds, vs, _, _, e2, _, _, _, _⟩
  · exact h
  · cases e2
theorem vw_str {w : W} {v : V} {i : Str} (Y : Wd (tbX X) X.K F m H S) (h : AtW X.K X.mg F m H w v) (e : vw S w = some (.str i)) : v = .str i := by
  rcases h.vw Y e with ⟨_, h⟩ | ⟨j, a, ds, vs, _, _, e2, _, _, _, _⟩
  · exact h
  · cases e2
theorem vw_tup {w : W} {v : V} {ds : List D} (Y : Wd (tbX X) X.K F m H S) (h : AtW X.K X.mg F m H w v) (e : vw S w = some (.tup ds)) : ∃ a vs, v = .ref a ∧ TupF X.K F H a vs ∧ AtDs X.K F H ds vs := by
  rcases h.vw Y e with ⟨_, h⟩ | ⟨j, a, ds, vs, _, _, e2, _, _, _, _⟩
  · exact h
  · cases e2
theorem vw_lst {w : W} {v : V} {ds : List D} (Y : Wd (tbX X) X.K F m H S) (h : AtW X.K X.mg F m H w v) (e : vw S w = some (.lst ds)) : ∃ a vs, v = .ref a ∧ SqL X.K H a vs ∧ AtDs X.K F H ds vs :=
  h.lst Y (by unfold lstOf; rw [e])
theorem min_of {ns : List Int} {k : Int} (h : minL ns = some k) : 0 < ns.length ∧ ∀ m, m ∈ ns → (∀ y, y ∈ ns → m ≤ y) → m = k := by
  cases ns with
  | nil => cases h
  | cons x xs =>
    have e : k = xs.foldl min x := (Option.some.inj h).symm
    refine ⟨Nat.succ_pos _, fun m hm hl => ?_⟩
    have key : ∀ (l : List Int) (x : Int), (l.foldl min x = x ∨ l.foldl min x ∈ l) ∧ l.foldl min x ≤ x ∧ ∀ y ∈ l, l.foldl min x ≤ y := by
      intro l
      induction l with
      | nil => intro x; exact ⟨.inl rfl, Int.le_refl _, fun y hy => absurd hy (by simp)⟩
      | cons a l ih =>
        intro x
        obtain ⟨h1, h2, h3⟩ := ih (min x a)
        simp only [List.foldl_cons]
        refine ⟨?_, by omega, fun y hy => ?_⟩
        · rcases h1 with h1 | h1
          · rcases Int.le_total x a with z | z
            · left; rw [h1]; omega
            · right; rw [h1, show min x a = a by omega]; exact List.mem_cons_self
          · exact .inr (List.mem_cons_of_mem _ h1)
        · rcases List.mem_cons.mp hy with rfl | hy
          · omega
          · exact h3 y hy
    obtain ⟨h1, h2, h3⟩ := key xs x
    have hk : k ∈ x :: xs := by
      rw [e]
      rcases h1 with h1 | h1
      · rw [h1]; exact List.mem_cons_self
      · exact List.mem_cons_of_mem _ h1
    have a1 := hl k hk
    have a2 : k ≤ m := by
      rw [e]
      rcases List.mem_cons.mp hm with rfl | hm
      · exact h2
      · exact h3 m hm
    omega
theorem max_of {ns : List Int} {k : Int} (h : maxL ns = some k) : 0 < ns.length ∧ ∀ m, m ∈ ns → (∀ y, y ∈ ns → y ≤ m) → m = k := by
  cases ns with
  | nil => cases h
  | cons x xs =>
    have e : k = xs.foldl max x := (Option.some.inj h).symm
    refine ⟨Nat.succ_pos _, fun m hm hl => ?_⟩
    have key : ∀ (l : List Int) (x : Int), (l.foldl max x = x ∨ l.foldl max x ∈ l) ∧ x ≤ l.foldl max x ∧ ∀ y ∈ l, y ≤ l.foldl max x := by
      intro l
      induction l with
      | nil => intro x; exact ⟨.inl rfl, Int.le_refl _, fun y hy => absurd hy (by simp)⟩
      | cons a l ih =>
        intro x
        obtain ⟨h1, h2, h3⟩ := ih (max x a)
        simp only [List.foldl_cons]
        refine ⟨?_, by omega, fun y hy => ?_⟩
        · rcases h1 with h1 | h1
          · rcases Int.le_total a x with z | z
            · left; rw [h1]; omega
            · right; rw [h1, show max x a = a by omega]; exact List.mem_cons_self
          · exact .inr (List.mem_cons_of_mem _ h1)
        · rcases List.mem_cons.mp hy with rfl | hy
          · omega
          · exact h3 y hy
    obtain ⟨h1, h2, h3⟩ := key xs x
    have hk : k ∈ x :: xs := by
      rw [e]
      rcases h1 with h1 | h1
      · rw [h1]; exact List.mem_cons_self
      · exact List.mem_cons_of_mem _ h1
    have a1 := hl k hk
    have a2 : m ≤ k := by
      rw [e]
      rcases List.mem_cons.mp hm with rfl | hm
      · exact h2
      · exact h3 m hm
    omega
/-- the class or function that a built-in's name stands for -/
def Bi.val : Bi → Value
  | .bool => .type "bool"
  | .dict => .type "dict"
  | .int => .type "int"
  | .list => .type "list"
  | .str => .type "str"
  | .tuple => .type "tuple"
  | .setlen => .none
  | .gcd => .builtin "math.gcd"
  | .isqrt => .builtin "math.isqrt"
  | .abs => .builtin "abs"
  | .all => .builtin "all"
  | .any => .builtin "any"
  | .divmod => .builtin "divmod"
  | .len => .builtin "len"
  | .max => .builtin "max"
  | .min => .builtin "min"
  | .repr => .builtin "repr"
  | .sorted => .builtin "sorted"
  | .sum => .builtin "sum"
theorem dct_len {w : W} {v : V} {kvs : List (Key × D)} (Y : Wd (tbX X) X.K F m H S) (h : AtW X.K X.mg F m H w v) (e : dctOf S w = some kvs) : ∃ a vs, v = .ref a ∧ H a = some (.dK vs) ∧ AtKV X.K F H kvs vs := by
  cases w with
  | d d => cases e
  | fn x => cases e
  | lf x st => cases e
  | dct k2 =>
    cases e
    obtain ⟨a, vs, rfl, _, h2, h3⟩ := h
    exact ⟨a, vs, rfl, h2, h3⟩
  | ref i =>
    obtain ⟨a, h1, rfl⟩ := h
    dsimp only [dctOf] at e
    cases c : S[i]? with
    | none => rw [c] at e; cases e
    | some cc =>
      rw [c] at e
      cases cc with
      | lst ds => cases e
      | tks _ => cases e
      | dct k2 =>
        cases e
        obtain ⟨vs, h2, h3⟩ := Y.cell i a _ h1 c
        exact ⟨a, vs, rfl, h2, h3⟩
theorem cr_max3 (hh : X.A.handled = none) : CallR X (.builtin "max") (fun xs H Q => ∃ i j k : Int, xs = [.int i, .int j, .int k] ∧ Q (.int (if j > i then (if k > j then k else j) else (if k > i then k else i))) H) := by
  intro pins s σ H xs us Q I r ⟨i, j, k, e, q⟩
  subst e
  cases r with
  | cons r1 r =>
    cases r with
    | cons r2 r =>
      cases r with
      | cons r3 r =>
        cases r
        obtain ⟨t1, rfl⟩ := r1
        obtain ⟨t2, rfl⟩ := r2
        obtain ⟨t3, rfl⟩ := r3
        refine max_three_ints hh fun h' tk kp => ⟨_, H, I.kept kp, ?_, q⟩
        by_cases a : j > i
        · rw [if_pos a, if_pos a]
          by_cases b : k > j
          · rw [if_pos b, if_pos b]; exact ⟨_, rfl⟩
          · rw [if_neg b, if_neg b]; exact ⟨_, rfl⟩
        · rw [if_neg a, if_neg a]
          by_cases b : k > i
          · rw [if_pos b, if_pos b]; exact ⟨_, rfl⟩
          · rw [if_neg b, if_neg b]; exact ⟨_, rfl⟩
theorem cr_repr (hg : X.A.guards = some []) (hu : X.A.units + 100 < cLine) : CallR X (.builtin "repr") (fun xs H Q => ∃ x d, xs = [x] ∧ Dp X.K H x d.toP ∧ reprOk d = true ∧ Q (.str d.shown) H) := by
  intro pins s σ H xs us Q I r ⟨x, d, e, hd, hk, q⟩
  subst e
  obtain ⟨u, rfl, ru⟩ := vals1 r
  obtain ⟨as, rd⟩ := Dp.reads I d.toP x u hd ru
  unfold reprOk at hk
  simp only [Bool.and_eq_true, decide_eq_true_eq] at hk
  obtain ⟨⟨h1, h2⟩, h3⟩ := hk
  have hf := fit_line h3
  have fin : ∀ h' (t : Tok) tk, (∀ b o, s.heap.get? b = some o → h'.get? b = some o) → EP X pins σ Q (.str d.toP.shown t) { s with heap := h', toks := tk } := fun h' t tk kp => ⟨.str d.shown, H, I.kept kp, ⟨t, rfl⟩, q⟩
  have big : ∀ a, u = .ref a → wpAny (model X.prog X.w) X.A (PySem.call (.builtin "repr") [u]) (EP X pins σ Q) X.xe s := fun a e => by
    subst e
    exact repr_of_reads' rd h1 (PyData.noDict_hsm (toP_noDict d)) hg (by unfold D.depth at h2; omega) (fun _ _ e => e) (fun h' u tk kp => fin h' u tk kp) hf
  cases d with
  | non =>
    rw [D.toP] at rd
    cases rd
    exact PySem.P.repr_of_none ⟨V.str D.non.shown, H, I.tok _, ⟨_, rfl⟩, q⟩
  | bl b =>
    rw [D.toP] at rd
    cases rd
    exact PySem.P.repr_of_bool ⟨V.str (D.bl b).shown, H, I.tok _, ⟨_, rfl⟩, q⟩
  | int i =>
    rw [D.toP] at rd
    cases rd
    exact PySem.P.repr_of_int (of_decide_eq_true h1) ⟨V.str (D.int i).shown, H, I.tok _, ⟨_, rfl⟩, q⟩
  | str z =>
    rw [D.toP] at rd
    cases rd
    exact PySem.P.repr_of_str ⟨V.str (D.str z).shown, H, I.tok _, ⟨_, rfl⟩, q⟩ hf
  | tup ds =>
    rw [D.toP] at rd
    cases rd
    exact big _ rfl
  | lst ds =>
    rw [D.toP] at rd
    cases rd
    exact big _ rfl
end
end Pyi
/-! Ph: sorted; all the built-ins together. -/
namespace Pyi
open PySem PySem.Spec PyProof.Rows L2
variable [Gd]
open PySem.W (EachIs AllAlike Sortable dataLe dataLt)
section
variable {prog : Program} {w : World} {A : Around} {E : Value → Shared → Prop} {s : Shared}
/-- the items of a tuple, collected -/
theorem collectT {l : Addr} {vs : List Value} {Q : List Value → Shared → Prop} (ht : IsTup s.heap l vs.toArray) (hz : vs.length ≤ sizeLine)
    (hq : Q vs { s with heap := (s.heap.push (seqObj "list" #[] 0)).update s.heap.objs.size (Obj.mapSeq (· ++ vs.toArray)) }) : wpAny (model prog w) A (collect (.ref l)) Q E s := by
  obtain ⟨ob, e1, e2, k, e3⟩ := ht
  have e4 : (s.heap.push (seqObj "list" #[] 0)).get? l = some ob := Heap.get?_push_of_some _ e1
  have e5 : (s.heap.push (seqObj "list" #[] 0)).get? s.heap.objs.size = some (seqObj "list" #[] 0) := Heap.get?_push_size _ rfl
  unfold collect
  apply wpAny_bind
  apply wpAny_runValue
  apply codeAny_builtin entry_proto_collect'
  show wpAny _ _ (do PySem.again (.builtin "list.__iadd__" ⟨[← newList [], .ref l], []⟩)) _ _ _
  apply wpAny_bind
  refine wpAny_newList (wpAny_pure ?_)
  refine And.intro (Code.quiet_builtin _ (by decide +kernel)) ?_
  apply codeAny_builtin entry_list_iadd'
  show wpAny _ _ (Builtin.List.listExtendWith (.ref s.heap.objs.size) (.ref l) (.ref s.heap.objs.size)) _ _ _
  unfold Builtin.List.listExtendWith
  apply wpAny_bind
  refine wpAny_typeOf (T := "tuple") ⟨ob, e4, e2⟩ ?_
  rw [if_pos (by rw [show (Value.type "tuple" == Value.type "tuple") = true from rfl]; simp)]
  apply wpAny_bind
  refine listItems_at e4 e3 ?_
  apply wpAny_bind
  refine listItems_at (xs := #[]) (n := 0) e5 rfl ?_
  rw [if_neg (by simp)]
  apply wpAny_bind
  refine listUpdate_at (xs := #[]) (n := 0) e5 rfl ?_ (Nat.zero_le _) (by simp; omega)
  apply wpAny_pure
  show wpAny _ _ (do
      let o ← load s.heap.objs.size
      match o.data with
      | .seq xs _ => pure xs.toList
      | _ => unsupported "internal:collect") Q E _
  apply wpAny_bind
  refine wpAny_load (get?_update_seq e5 _) ?_
  show wpAny _ _ (pure ((#[] : Array Value) ++ vs.toArray).toList) Q E _
  rw [show ((#[] : Array Value) ++ vs.toArray).toList = vs by simp]
  exact wpAny_pure hq
/-- sorted of a tuple is list.sort of a new list of its items -/
theorem sortedT {l : Addr} {vs : List Value} {kw : List (Str × Value)} {Q : Value → Shared → Prop} (ht : IsTup s.heap l vs.toArray) (hz : vs.length ≤ sizeLine) (h1 : argsOk "sorted" ⟨[.ref l], kw⟩) (h2 : ∀ x, argsOk "list.sort" ⟨[.ref x], kw⟩)
    (hb : ∀ E' : Value → Shared → Prop, wpAny (model prog w) A.in1.in1 (Builtin.«list.sort» ⟨[.ref (s.heap.objs.size + 1)], kw⟩) (fun f s' => f = .done (.ret .none) ∧ Q (.ref (s.heap.objs.size + 1)) s') E' { s with heap := PySem.W.copyHeap s.heap vs }) :
    wpAny (model prog w) A (PySem.call (.builtin "sorted") [.ref l] kw) Q E s := by
  apply call_function_entry_kw kind_sorted plain_sorted entry_sorted h1
  unfold Builtin.«sorted»
  refine wpAny_bind (m := checkCount "sorted" 1 1 _) (wpAny_pure ?_)
  apply wpAny_bind
  refine collectT ht hz ?_
  apply wpAny_bind
  refine wpAny_newList ?_ hz
  have hs : ((s.heap.push (seqObj "list" #[] 0)).update s.heap.objs.size (Obj.mapSeq (· ++ vs.toArray))).objs.size = s.heap.objs.size + 1 := by
    rw [Heap.size_update, size_push']
  show wpAny _ _ _ _ _ { s with heap := PySem.W.copyHeap s.heap vs }
  rw [hs]
  apply wpAny_bind
  apply wpAny_holding
  refine wpAny_call_entry_kw slot_list_sort ⟨_, PySem.W.copyHeap_at s.heap vs, rfl⟩ entry_list_sort ?_ (h2 _)
  show wpAny _ A.in1.in1 (Builtin.«list.sort» ⟨[.ref (s.heap.objs.size + 1)], kw⟩) _ _ _
  refine wpAny_mono (hb _) (fun f s' ⟨e, q⟩ => ?_) fun _ _ z => z
  subst e
  exact ⟨_, rfl, wpAny_pure ⟨_, rfl, q⟩⟩
end
section
variable {X : Cx} {F : Addr → Nat} {m : List Addr} {H : Hp} {S : Store} {Q : VK}
/-- how an item of the machine stands for data -/
def RdD (X : Cx) (F : Addr → Nat) (H : Hp) (u : Value) (d : D) : Prop := ∃ v, RelV v u ∧ AtD X.K F H d v
theorem each_of : ∀ {ds : List D} {vs : List V} {us : List Value}, AtDs X.K F H ds vs → Vals vs us → EachIs (RdD X F H) us ds
  | [], _, _, h, r => by
    cases (show _ = _ from h)
    cases r
    exact .nil
  | d :: ds, _, _, h, r => by
    obtain ⟨v, q, rfl, h1, h2⟩ := h
    cases r with
    | cons r1 r2 => exact .cons ⟨v, r1, h1⟩ (each_of h2 r2)
theorem of_each : ∀ {us : List Value} {ds : List D}, EachIs (RdD X F H) us ds → ∃ vs, AtDs X.K F H ds vs ∧ Vals vs us
  | _, _, .nil => ⟨[], rfl, .nil⟩
  | _, _, .cons ⟨v, r, h⟩ t => by
    obtain ⟨vs, h2, r2⟩ := of_each t
    exact ⟨v :: vs, ⟨v, vs, rfl, h, h2⟩, .cons r r2⟩
theorem each_reads {pins : List (Addr × Obj)} {σ : L2.St} {s : Shared} (I : Inv X pins σ H s) {us : List Value} {ds : List D} (e : EachIs (RdD X F H) us ds) : EachIs (fun u d => ∃ as, Reads s.heap u d.toP as) us ds :=
  e.mono fun u d ⟨v, r, h⟩ => Dp.reads I d.toP v u h.dp r
theorem sortOk_of {A : Around} {ds : List D} (hu : A.units + 100 < cLine) (h : sortOk ds = true) : ds.length ≤ sizeLine ∧ AllAlike (ds.map D.toP) ∧ Sortable (ds.map D.toP) ∧ ∀ d, d ∈ ds → A.units + 2 + d.toP.depth < cLine := by
  unfold sortOk at h
  simp only [Bool.and_eq_true] at h
  obtain ⟨⟨h1, h2⟩, h3⟩ := h
  have h3 := List.all_eq_true.mp h3
  have h2' : ∀ a ∈ ds, ∀ b ∈ ds, PySem.W.alike a.toP b.toP = true := fun a ha b hb => List.all_eq_true.mp (List.all_eq_true.mp h2 a ha) b hb
  refine ⟨fit_line h1, fun d hd d' hd' => ?_, ?_, fun d hd => ?_⟩
  · obtain ⟨a, ha, rfl⟩ := List.mem_map.mp hd
    obtain ⟨b, hb, rfl⟩ := List.mem_map.mp hd'
    exact h2' a ha b hb
  · cases ds with
    | nil => exact .inr fun d hd => absurd hd (by simp)
    | cons z zs =>
      have hz := h3 z List.mem_cons_self
      simp only [Bool.and_eq_true] at hz
      cases z with
      | tup es =>
        refine .inl fun d hd => ?_
        obtain ⟨a, ha, rfl⟩ := List.mem_map.mp hd
        have h4 := h3 a ha
        simp only [Bool.and_eq_true] at h4
        have h5 := h2' _ List.mem_cons_self a ha
        cases a with
        | tup xs =>
          cases xs with
          | nil => exact absurd h4.2 (by simp)
          | cons x xs => exact ⟨x.toP, toPs xs, by rw [D.toP, toPs]⟩
        | _ => rw [D.toP, D.toP] at h5; cases h5
      | non => exact absurd hz.2 (by simp)
      | lst es => exact absurd hz.2 (by simp)
      | _ =>
        refine .inr fun d hd => ?_
        obtain ⟨a, ha, rfl⟩ := List.mem_map.mp hd
        have h5 := h2' _ List.mem_cons_self a ha
        cases a <;> first
          | (rw [D.toP, D.toP] at h5; cases h5; done)
          | exact ⟨fun z => (by rw [D.toP] at z; cases z), fun xs z => (by rw [D.toP] at z; cases z)⟩
  · have h4 := h3 d hd
    simp only [Bool.and_eq_true, decide_eq_true_eq] at h4
    have := h4.1
    unfold D.depth at this
    omega
theorem le_leS : dataLe false D.toP = leS := rfl
theorem cr_sorted (hu : X.A.units + 100 < cLine) : CallR X (.builtin "sorted") (fun xs H Q => ∃ F m S w v ds, xs = [v] ∧ Wd (tbX X) X.K F m H S ∧ AtW X.K X.mg F m H w v ∧ seqOf S w = some ds ∧ sortOk ds = true ∧ Ret X F m H S (.d (.lst (ds.mergeSort leS))) Q) := by
  intro pins s σ H xs us Q I r ⟨F, m, S, w, v, ds, e, Y, hv, e1, hk, q⟩
  subst e
  obtain ⟨u, rfl, ru⟩ := vals1 r
  obtain ⟨h1, h2, h3, h4⟩ := sortOk_of (A := X.A) hu hk
  obtain ⟨a, vs, rfl, hd, hs⟩ := hv.seq Y e1
  cases (show u = Value.ref a from ru)
  have fin : ∀ (its out : List Value), EachIs (RdD X F H) out (ds.mergeSort leS) → EP X pins σ Q (.ref (s.heap.objs.size + 1)) { s with heap := PyProof.Rows.sortedAll s.heap its out.toArray } := fun its out e => by
    obtain ⟨vs', g1, g2⟩ := of_each e
    obtain ⟨ep, he⟩ := PyProof.Rows.sortedAll_at s.heap its out.toArray
    have hl : vs'.length ≤ sizeLine := by rw [g1.length, List.length_mergeSort]; exact h1
    exact ⟨.ref _, upd H (s.heap.objs.size + 1) (.lst vs'), I.laid (t' := s.toks) (fun _ _ => PyProof.Rows.sortedAll_old) (Nat.le_succ _) ⟨hl, out, ep, g2, he⟩, rfl, q.lst Y g1 (I.hok.fresh (Nat.le_succ _))⟩
  rcases hs with hs | ⟨_, hs⟩
  · obtain ⟨its, rv, hl, _⟩ := I.list hs
    have ee := each_of hd rv
    exact PySem.W.sorted_data (enc := D.toP) hl.isList ee (each_reads I ee) h2 h3 h1 h4 fun out _ e => fin its out e
  · obtain ⟨its, rv, ht, _⟩ := I.tuple hs.1
    have ee := each_of hd rv
    have er := each_reads I ee
    have er' : EachIs (fun v d => ∃ as, Reads (PySem.W.sortingHeap (PySem.W.copyHeap s.heap its) (s.heap.objs.size + 1) its) v (D.toP d) as) its ds := er.mono fun _ _ ⟨as, r⟩ => ⟨as, PyProof.Rows.Reads.keeps (fun _ _ => PySem.W.sorting_copy_old) r⟩
    have hL : its.length ≤ sizeLine := by rw [ee.length]; exact h1
    refine sortedT ht hL (args_sorted1 _) (fun _ => args_list_sort _) fun E' => ?_
    refine PySem.W.list_sort_vals (s := { s with heap := PySem.W.copyHeap s.heap its }) (PySem.W.copyHeap_at s.heap its)
      (PySem.W.SortsAt.data (s := { s with heap := PySem.W.sortingHeap (PySem.W.copyHeap s.heap its) (s.heap.objs.size + 1) its }) (PySem.W.each_map (R := fun v d => ∃ as, Reads (PySem.W.sortingHeap (PySem.W.copyHeap s.heap its) (s.heap.objs.size + 1) its) v d as) D.toP er') h2 h3 (PySem.W.bound_map h4)) hL ⟨rfl, ?_⟩
    exact fin its _ (PySem.W.sortVals_data false ee er' h2)
theorem readsAll_of {h : Heap} : ∀ {us : List Value} {ds : List D}, EachIs (fun u d => ∃ as, Reads h u (D.toP d) as) us ds → ∃ as, ReadsAll h us (toPs ds) as
  | _, _, .nil => ⟨_, .nil⟩
  | _, _, .cons ⟨as, r⟩ t => by
    obtain ⟨bs, rs⟩ := readsAll_of t
    rw [toPs]
    exact ⟨_, .cons r rs⟩
theorem each_at {α β : Type} {R : α → β → Prop} : ∀ {us : List α} {ds : List β}, EachIs R us ds → ∀ (i : Nat) u, us[i]? = some u → ∃ d, ds[i]? = some d ∧ R u d
  | _, _, .nil, i, u, e => by simp at e
  | _, _, .cons r t, 0, u, e => by cases e; exact ⟨_, rfl, r⟩
  | _, _, .cons r t, i + 1, u, e => each_at t i u (by simpa using e)
theorem toPs_mem {p : PyData} : ∀ {ds : List D}, p ∈ toPs ds → ∃ d ∈ ds, p = d.toP
  | [], h => by rw [toPs] at h; cases h
  | d :: ds, h => by
    rw [toPs] at h
    rcases List.mem_cons.mp h with h | h
    · exact ⟨d, List.mem_cons_self, h⟩
    · obtain ⟨e, he, e2⟩ := toPs_mem h
      exact ⟨e, List.mem_cons_of_mem _ he, e2⟩
theorem toPs_getD : ∀ (ds : List D) (i : Nat), (toPs ds).getD i .none = (ds.getD i .non).toP
  | [], i => by rw [toPs]; simp [D.toP]
  | d :: ds, 0 => by rw [toPs]; rfl
  | d :: ds, i + 1 => by
    rw [toPs]
    have := toPs_getD ds i
    simpa using this
theorem depthAll_le {c : Nat} : ∀ {ds : List D}, (∀ d ∈ ds, d.toP.depth ≤ c) → PyData.depthAll (toPs ds) ≤ c
  | [], _ => by rw [toPs, PyData.depthAll]; exact Nat.zero_le _
  | d :: ds, h => by
    rw [toPs, PyData.depthAll]
    exact Nat.max_le.mpr ⟨h d List.mem_cons_self, depthAll_le fun d hd => h d (List.mem_cons_of_mem _ hd)⟩
theorem bestOk_of {ds : List D} (h : bestOk ds = true) : PySem.W.AlikeAll (toPs ds) ∧ PyData.depthAll (toPs ds) ≤ 64 := by
  unfold bestOk at h
  rw [Bool.and_eq_true] at h
  obtain ⟨h2, h3⟩ := h
  have h2 := List.all_eq_true.mp h2
  have h3 := List.all_eq_true.mp h3
  refine ⟨⟨fun x hx y hy => ?_, fun x hx => ?_⟩, depthAll_le fun d hd => ?_⟩
  · obtain ⟨a, ha, rfl⟩ := toPs_mem hx
    obtain ⟨b, hb, rfl⟩ := toPs_mem hy
    exact List.all_eq_true.mp (h2 a ha) b hb
  · obtain ⟨a, ha, rfl⟩ := toPs_mem hx
    have := h3 a ha
    rw [Bool.and_eq_true] at this
    cases a with
    | non => exact absurd this.2 (by simp)
    | _ => rw [D.toP]; exact fun z => nomatch z
  · have := h3 d hd
    rw [Bool.and_eq_true] at this
    exact of_decide_eq_true this.1
theorem cr_minD (hh : X.A.handled = none) (hu : X.A.units + 100 < cLine) : CallR X (.builtin "min") (fun xs H Q => ∃ F m S w v ds k, xs = [v] ∧ Wd (tbX X) X.K F m H S ∧ AtW X.K X.mg F m H w v ∧ lstOf S w = some ds ∧ bestOk ds = true ∧ minDs ds = some k ∧ Ret X F m H S (.d k) Q) := by
  intro pins s σ H xs us Q I r ⟨F, m, S, w, v, ds, k, e, Y, hv, e1, hb, e2, q⟩
  subst e
  obtain ⟨u, rfl, ru⟩ := vals1 r
  obtain ⟨a, vs, rfl, h1, h2⟩ := hv.lst Y e1
  cases (show u = Value.ref a from ru)
  obtain ⟨its, rv, hl, _⟩ := I.list h1
  have ee := each_of h2 rv
  obtain ⟨as, hr⟩ := readsAll_of (each_reads I ee)
  obtain ⟨ha, hd⟩ := bestOk_of hb
  have hlen := ee.length
  cases ds with
  | nil => cases e2
  | cons x xs =>
    refine PySem.call_min_walkH (PySem.W.iter_listW (A := X.A.in1) hh hl.isList fun s₂ e W st hfp hw hk => ?_)
    refine ⟨_, _, _, _, _, _, _, s.heap, _, rfl, W, st, hfp, by rw [List.size_toArray, hlen, List.length_cons]; omega, hw, hk, PySem.W.cmpIn_lt (A := X.A.in1) hr ha (by show X.A.units + 1 + _ < _; omega), fun v s' hP m => ?_⟩
    obtain ⟨h', tk, rfl, hk'⟩ := PySem.W.moved_old e rfl m
    rw [← Array.getElem?_toList] at hP
    obtain ⟨d, hd1, v', rv', hat⟩ := each_at ee _ v hP
    have e3 := (PySem.W.argBest_fold (fun a b : D => a.lt b) D.non x xs xs.length (Nat.le_refl _)).2
    rw [List.take_length] at e3
    have e4 : its.toArray.size - 1 = xs.length := by rw [List.size_toArray, hlen, List.length_cons]; omega
    have e5 : d = k := by
      simp only [toPs_getD] at hd1
      rw [e4] at hd1
      have e6 : (x :: xs)[argBest (fun i j => (fun a b : D => a.lt b) ((x :: xs).getD i .non) ((x :: xs).getD j .non)) xs.length]? = some d := hd1
      rw [List.getD_eq_getElem?_getD, e6] at e3
      exact e3.trans (Option.some.inj e2)
    subst e5
    exact ⟨v', H, I.kept hk', rv', q.here Y hat⟩
theorem cr_maxD (hh : X.A.handled = none) (hu : X.A.units + 100 < cLine) : CallR X (.builtin "max") (fun xs H Q => ∃ F m S w v ds k, xs = [v] ∧ Wd (tbX X) X.K F m H S ∧ AtW X.K X.mg F m H w v ∧ lstOf S w = some ds ∧ bestOk ds = true ∧ maxDs ds = some k ∧ Ret X F m H S (.d k) Q) := by
  intro pins s σ H xs us Q I r ⟨F, m, S, w, v, ds, k, e, Y, hv, e1, hb, e2, q⟩
  subst e
  obtain ⟨u, rfl, ru⟩ := vals1 r
  obtain ⟨a, vs, rfl, h1, h2⟩ := hv.lst Y e1
  cases (show u = Value.ref a from ru)
  obtain ⟨its, rv, hl, _⟩ := I.list h1
  have ee := each_of h2 rv
  obtain ⟨as, hr⟩ := readsAll_of (each_reads I ee)
  obtain ⟨ha, hd⟩ := bestOk_of hb
  have hlen := ee.length
  cases ds with
  | nil => cases e2
  | cons x xs =>
    refine PySem.call_max_walkH (PySem.W.iter_listW (A := X.A.in1) hh hl.isList fun s₂ e W st hfp hw hk => ?_)
    refine ⟨_, _, _, _, _, _, _, s.heap, _, rfl, W, st, hfp, by rw [List.size_toArray, hlen, List.length_cons]; omega, hw, hk, PySem.W.cmpIn_gt (A := X.A.in1) hr ha (by show X.A.units + 1 + _ < _; omega), fun v s' hP m => ?_⟩
    obtain ⟨h', tk, rfl, hk'⟩ := PySem.W.moved_old e rfl m
    rw [← Array.getElem?_toList] at hP
    obtain ⟨d, hd1, v', rv', hat⟩ := each_at ee _ v hP
    have e3 := (PySem.W.argBest_fold (fun a b : D => b.lt a) D.non x xs xs.length (Nat.le_refl _)).2
    rw [List.take_length] at e3
    have e4 : its.toArray.size - 1 = xs.length := by rw [List.size_toArray, hlen, List.length_cons]; omega
    have e5 : d = k := by
      simp only [toPs_getD] at hd1
      rw [e4] at hd1
      have e6 : (x :: xs)[argBest (fun i j => (fun a b : D => b.lt a) ((x :: xs).getD i .non) ((x :: xs).getD j .non)) xs.length]? = some d := hd1
      rw [List.getD_eq_getElem?_getD, e6] at e3
      exact e3.trans (Option.some.inj e2)
    subst e5
    exact ⟨v', H, I.kept hk', rv', q.here Y hat⟩
theorem AtKV.length : ∀ {ds : List (Key × D)} {vs : List (Key × V)}, AtKV X.K F H ds vs → vs.length = ds.length
  | [], _, h => by cases (show _ = _ from h); rfl
  | (k, d) :: ds, _, h => by
    obtain ⟨v, r, rfl, _, h2⟩ := h
    rw [List.length_cons, List.length_cons, AtKV.length h2]
theorem run_gcd3 (a b c : Int) (t u x : Tok) : Gives (Builtin.«math.gcd» ⟨[.int a t, .int b u, .int c x], []⟩) (.int ((((Nat.gcd 0 a.natAbs).gcd b.natAbs).gcd c.natAbs : Nat) : Int)) :=
  .of_wp fun M A E s Q h => by
    obtain ⟨hp, g, d, tk, os⟩ := s
    wp_walk
    exact ⟨_, rfl, h⟩
theorem args_gcd3 (a b c : Value) : argsOk "math.gcd" ⟨[a, b, c], []⟩ := by
  unfold argsOk
  kernel_rfl
theorem cr_gcd3 : CallR X (.builtin "math.gcd") (fun xs H Q => ∃ i j k : Int, xs = [.int i, .int j, .int k] ∧ Q (.int ((Nat.gcd (Int.natAbs ((Nat.gcd i.natAbs j.natAbs : Nat) : Int)) k.natAbs : Nat) : Int)) H) := by
  intro pins s σ H xs us Q I r ⟨i, j, k, e, q⟩
  subst e
  cases r with
  | cons r1 r =>
    cases r with
    | cons r2 r =>
      cases r with
      | cons r3 r =>
        cases r
        obtain ⟨t1, rfl⟩ := r1
        obtain ⟨t2, rfl⟩ := r2
        obtain ⟨t3, rfl⟩ := r3
        have g := run_gcd3 i j k t1 t2 t3
        rw [Nat.gcd_zero_left] at g
        exact call_function_meets PySem.W.MGF.kind_gcd PySem.W.MGF.plain_gcd PySem.W.MGF.entry_gcd (args_gcd3 _ _ _) g.meets ⟨.int _, H, I.tok _, ⟨_, rfl⟩, q⟩
/-! sums of tuples, the least and the greatest of two -/
section
variable {w : World} {prog : Program} {s : Shared} {A : Around} {E : Value → Shared → Prop}
theorem sum_tup {l : Addr} {its : List Value} {ns : List Int} {R : Value → Shared → Prop} (hh : A.handled = none) (ht : s.heap.IsTuple l its.toArray) (hi : IntsAre its ns)
    (hq : ∀ g tk t', (∀ b o, s.heap.get? b = some o → g.get? b = some o) → R (.int ns.sum t') { s with heap := g, toks := tk }) : wpAny (model prog w) A (PySem.call (.builtin "sum") [.ref l]) R E s := by
  obtain ⟨xs, ex⟩ := hi.allInts.items
  have hn : numsOf (intItems xs).toList = ns := by
    rw [← ex]
    exact hi.numsOf
  rw [nums_intItems] at hn
  rw [ex] at ht
  have hlt : l < s.heap.objs.size := by
    obtain ⟨_, e, _⟩ := ht
    exact Heap.lt_size e
  refine PySem.call_sum_walkG (PySem.wpAny_pyIter_tuple ht ⟨_, _, _, _, _, _, numAt xs, rfl, Walks.tuple (A := A.in1) hh _ l (Nat.ne_of_lt hlt) (intItems xs), ⟨⟨_, Heap.get?_push_size _ rfl, rfl, rfl⟩, ht.push _⟩, fun b hb => ?_, (fun _ _ => intItems_at), fun g tk t' hk => ?_⟩)
  · show b < (s.heap.push _).objs.size
    rw [Heap.size_push]
    rcases List.mem_cons.mp hb with z | z
    · rw [z]
      exact Nat.lt_succ_self _
    · cases List.mem_singleton.mp z
      exact Nat.lt_succ_of_lt hlt
  · have z := hq g tk t' fun b o e => hk b o (fun hm => by
      have l1 := Heap.lt_size e
      rw [List.mem_singleton.mp hm] at l1
      exact Nat.lt_irrefl _ l1) (Heap.get?_push_of_some _ e)
    rw [preSum_eq, List.take_of_length_le (by simp [intItems]), hn]
    exact z
end
theorem cr_sumT (hh : X.A.handled = none) : CallR X (.builtin "sum") (fun vs H Q => ∃ (a : Addr) (ns : List Int), vs = [V.ref a] ∧ SqT X.K H a (ns.map V.int) ∧ Q (.int ns.sum) H) := by
  intro pins s σ H vs us Q I r ⟨a, ns, e, hs, q⟩
  subst e
  obtain ⟨its, rv, ht, _⟩ := I.tuple hs
  rw [Vals.ref1 r]
  exact sum_tup hh ht rv.ints fun g tk t' hk => ⟨.int _, H, I.kept hk, ⟨_, rfl⟩, q⟩
section
variable {w : World} {prog : Program} {s : Shared} {A : Around} {E : Value → Shared → Prop}
theorem two_min {u1 u2 : Value} {R : Value → Shared → Prop}
    (hyp : wpAny (model prog w) A.in1 (pyIter (.ref s.heap.objs.size)) (fun it sn => ∃ I fp wr G n Pp St Hh bt, it = .ref I ∧ PySem.WalksS prog w A.in1 I fp wr G n Pp St ∧ St 0 sn ∧ (∀ b ∈ fp, b < sn.heap.objs.size) ∧ 0 < n ∧
      (∀ b o, Hh.get? b = some o → b ∉ wr) ∧ (∀ b o, Hh.get? b = some o → sn.heap.get? b = some o) ∧ PySem.CmpIn prog w A.in1 .Lt Hh Pp bt ∧ ∀ v s', Pp (argBest bt (n - 1)) v → PySem.Moved wr G sn s' → R v s') E
      { s with heap := s.heap.push { cls := .type "tuple", data := .seq #[u1, u2] } }) : wpAny (model prog w) A (PySem.call (.builtin "min") [u1, u2]) R E s := by
  have nmq : (toString "min" ++ toString ".loop" : String) = "min.loop" := by decide
  refine call_function_tree F.kind_min F.plain_min F.entry_min (F.args_min2 u1 u2) ?_
  show wpAny (model prog w) A.in1 (Builtin.Builtins.bindParams "min" ["key", "default"] 0 ⟨[], []⟩ >>= _) _ _ s
  refine wpAny_bind (wpAny_of_eq (show Builtin.Builtins.bindParams "min" ["key", "default"] 0 ⟨[], []⟩ = pure [none, none] by rfl) ?_)
  show wpAny (model prog w) A.in1 (newTuple [u1, u2] >>= _) _ _ s
  refine wpAny_bind (wpAny_newObj_type (wpAny_bind (wpAny_mono hyp (fun it sn hn => ?_) fun _ _ z => z)))
  obtain ⟨I, fp, wr, G, n, Pp, St, Hh, bt, rfl, Wk, h0, hf, hp, hw, hk, hc, hr⟩ := hn
  refine wpAny_bind (wpAny_newObj_type ?_)
  have hS : sn.heap.objs.size ∉ fp := fun z => Nat.lt_irrefl _ (hf _ z)
  rw [nmq]
  refine wpAny_pure ⟨plainId_quiet F.plain_min_loop _, PySem.codeAny_min_loop_firstH Wk Hh hw bt hc sn.heap.objs.size hS (PySem.fresh_in hk) _ hp (fun b o e => Heap.get?_push_of_some _ (hk b o e)) (Wk.frame 0 sn _ sn.toks h0 (Nat.le_refl _) fun b _ o e => Heap.get?_push_of_some _ e) (Heap.get?_push_size _ rfl) fun v s' q hm => ?_⟩
  exact hr v s' q (PySem.Moved.drop_new (tk := sn.toks) hm (Nat.le_refl _))
end
theorem cr_min2D (hh : X.A.handled = none) (hu : X.A.units + 100 < cLine) : CallR X (.builtin "min") (fun xs H Q => ∃ F m S x y k v v2, xs = [v, v2] ∧ Wd (tbX X) X.K F m H S ∧ AtDs X.K F H [x, y] [v, v2] ∧ bestOk [x, y] = true ∧ minDs [x, y] = some k ∧ Ret X F m H S (.d k) Q) := by
  intro pins s σ H xs us Q I r ⟨F, m, S, x, y, k, v, v2, e, Y, hv, hb, e2, q⟩
  subst e
  cases r with
  | cons r1 r =>
    cases r with
    | cons r2 r =>
      cases r
      rename_i u1 u2
      have ee := each_of hv (.cons r1 (.cons r2 .nil))
      obtain ⟨as, hr⟩ := readsAll_of ((each_reads I ee).mono fun _ _ ⟨as, r⟩ => ⟨as, PyProof.Rows.Reads.keeps (fun _ _ => Heap.get?_push_of_some { cls := .type "tuple", data := .seq #[u1, u2] }) r⟩)
      obtain ⟨ha, hd⟩ := bestOk_of hb
      have ht : (s.heap.push { cls := .type "tuple", data := .seq #[u1, u2] }).IsTuple s.heap.objs.size [u1, u2].toArray := ⟨_, Heap.get?_push_size _ rfl, rfl, _, rfl⟩
      refine two_min (PySem.W.iter_tupleW (A := X.A.in1) hh ht fun s₂ e W st hfp hw hk => ?_)
      refine ⟨_, _, _, _, _, _, _, s.heap.push { cls := .type "tuple", data := .seq #[u1, u2] }, _, rfl, W, st, hfp, by show 0 < 2; decide, hw, hk, PySem.W.cmpIn_lt (A := X.A.in1) (s := { s with heap := s.heap.push { cls := .type "tuple", data := .seq #[u1, u2] } }) hr ha (by show X.A.units + 1 + _ < _; omega), fun z s' hP m => ?_⟩
      obtain ⟨h', tk, rfl, hk'⟩ := PySem.W.moved_old e rfl m
      rw [← Array.getElem?_toList] at hP
      obtain ⟨d, hd1, v', rv', hat⟩ := each_at ee _ z hP
      have e3 := (PySem.W.argBest_fold (fun a b : D => a.lt b) D.non x [y] 1 (Nat.le_refl _)).2
      have e5 : d = k := by
        simp only [toPs_getD] at hd1
        have e6 : [x, y][argBest (fun i j => (fun a b : D => a.lt b) ([x, y].getD i .non) ([x, y].getD j .non)) 1]? = some d := hd1
        rw [List.getD_eq_getElem?_getD, e6] at e3
        exact e3.trans (Option.some.inj e2)
      subst e5
      exact ⟨v', H, I.kept fun b o eb => hk' b o (Heap.get?_push_of_some _ eb), rv', q.here Y hat⟩
section
variable {w : World} {prog : Program} {s : Shared} {A : Around} {E : Value → Shared → Prop}
theorem two_max {u1 u2 : Value} {R : Value → Shared → Prop}
    (hyp : wpAny (model prog w) A.in1 (pyIter (.ref s.heap.objs.size)) (fun it sn => ∃ I fp wr G n Pp St Hh bt, it = .ref I ∧ PySem.WalksS prog w A.in1 I fp wr G n Pp St ∧ St 0 sn ∧ (∀ b ∈ fp, b < sn.heap.objs.size) ∧ 0 < n ∧
      (∀ b o, Hh.get? b = some o → b ∉ wr) ∧ (∀ b o, Hh.get? b = some o → sn.heap.get? b = some o) ∧ PySem.CmpIn prog w A.in1 .Gt Hh Pp bt ∧ ∀ v s', Pp (argBest bt (n - 1)) v → PySem.Moved wr G sn s' → R v s') E
      { s with heap := s.heap.push { cls := .type "tuple", data := .seq #[u1, u2] } }) : wpAny (model prog w) A (PySem.call (.builtin "max") [u1, u2]) R E s := by
  have nmq : (toString "max" ++ toString ".loop" : String) = "max.loop" := by decide
  refine call_function_tree F.kind_max F.plain_max F.entry_max (F.args_max2 u1 u2) ?_
  show wpAny (model prog w) A.in1 (Builtin.Builtins.bindParams "max" ["key", "default"] 0 ⟨[], []⟩ >>= _) _ _ s
  refine wpAny_bind (wpAny_of_eq (show Builtin.Builtins.bindParams "max" ["key", "default"] 0 ⟨[], []⟩ = pure [none, none] by rfl) ?_)
  show wpAny (model prog w) A.in1 (newTuple [u1, u2] >>= _) _ _ s
  refine wpAny_bind (wpAny_newObj_type (wpAny_bind (wpAny_mono hyp (fun it sn hn => ?_) fun _ _ z => z)))
  obtain ⟨I, fp, wr, G, n, Pp, St, Hh, bt, rfl, Wk, h0, hf, hp, hw, hk, hc, hr⟩ := hn
  refine wpAny_bind (wpAny_newObj_type ?_)
  have hS : sn.heap.objs.size ∉ fp := fun z => Nat.lt_irrefl _ (hf _ z)
  rw [nmq]
  refine wpAny_pure ⟨plainId_quiet F.plain_max_loop _, PySem.codeAny_max_loop_firstH Wk Hh hw bt hc sn.heap.objs.size hS (PySem.fresh_in hk) _ hp (fun b o e => Heap.get?_push_of_some _ (hk b o e)) (Wk.frame 0 sn _ sn.toks h0 (Nat.le_refl _) fun b _ o e => Heap.get?_push_of_some _ e) (Heap.get?_push_size _ rfl) fun v s' q hm => ?_⟩
  exact hr v s' q (PySem.Moved.drop_new (tk := sn.toks) hm (Nat.le_refl _))
end
theorem cr_max2D (hh : X.A.handled = none) (hu : X.A.units + 100 < cLine) : CallR X (.builtin "max") (fun xs H Q => ∃ F m S x y k v v2, xs = [v, v2] ∧ Wd (tbX X) X.K F m H S ∧ AtDs X.K F H [x, y] [v, v2] ∧ bestOk [x, y] = true ∧ maxDs [x, y] = some k ∧ Ret X F m H S (.d k) Q) := by
  intro pins s σ H xs us Q I r ⟨F, m, S, x, y, k, v, v2, e, Y, hv, hb, e2, q⟩
  subst e
  cases r with
  | cons r1 r =>
    cases r with
    | cons r2 r =>
      cases r
      rename_i u1 u2
      have ee := each_of hv (.cons r1 (.cons r2 .nil))
      obtain ⟨as, hr⟩ := readsAll_of ((each_reads I ee).mono fun _ _ ⟨as, r⟩ => ⟨as, PyProof.Rows.Reads.keeps (fun _ _ => Heap.get?_push_of_some { cls := .type "tuple", data := .seq #[u1, u2] }) r⟩)
      obtain ⟨ha, hd⟩ := bestOk_of hb
      have ht : (s.heap.push { cls := .type "tuple", data := .seq #[u1, u2] }).IsTuple s.heap.objs.size [u1, u2].toArray := ⟨_, Heap.get?_push_size _ rfl, rfl, _, rfl⟩
      refine two_max (PySem.W.iter_tupleW (A := X.A.in1) hh ht fun s₂ e W st hfp hw hk => ?_)
      refine ⟨_, _, _, _, _, _, _, s.heap.push { cls := .type "tuple", data := .seq #[u1, u2] }, _, rfl, W, st, hfp, by show 0 < 2; decide, hw, hk, PySem.W.cmpIn_gt (A := X.A.in1) (s := { s with heap := s.heap.push { cls := .type "tuple", data := .seq #[u1, u2] } }) hr ha (by show X.A.units + 1 + _ < _; omega), fun z s' hP m => ?_⟩
      obtain ⟨h', tk, rfl, hk'⟩ := PySem.W.moved_old e rfl m
      rw [← Array.getElem?_toList] at hP
      obtain ⟨d, hd1, v', rv', hat⟩ := each_at ee _ z hP
      have e3 := (PySem.W.argBest_fold (fun a b : D => b.lt a) D.non x [y] 1 (Nat.le_refl _)).2
      have e5 : d = k := by
        simp only [toPs_getD] at hd1
        have e6 : [x, y][argBest (fun i j => (fun a b : D => b.lt a) ([x, y].getD i .non) ([x, y].getD j .non)) 1]? = some d := hd1
        rw [List.getD_eq_getElem?_getD, e6] at e3
        exact e3.trans (Option.some.inj e2)
      subst e5
      exact ⟨v', H, I.kept fun b o eb => hk' b o (Heap.get?_push_of_some _ eb), rv', q.here Y hat⟩
section
variable {w : World} {prog : Program} {s : Shared} {A : Around} {E : Value → Shared → Prop}
theorem max_tup {l : Addr} {its : List Value} {ns : List Int} {R : Value → Shared → Prop} (hh : A.handled = none) (ht : s.heap.IsTuple l its.toArray) (hi : IntsAre its ns) (hne : 0 < ns.length)
    (hq : ∀ g tk M t', (∀ b o, s.heap.get? b = some o → g.get? b = some o) → M ∈ ns → (∀ a, a ∈ ns → a ≤ M) → R (.int M t') { s with heap := g, toks := tk }) : wpAny (model prog w) A (PySem.call (.builtin "max") [.ref l]) R E s := by
  obtain ⟨xs, ex⟩ := hi.allInts.items
  have hn : numsOf (intItems xs).toList = ns := by
    rw [← ex]
    exact hi.numsOf
  rw [nums_intItems] at hn
  subst hn
  rw [ex] at ht
  have hlt : l < s.heap.objs.size := by
    obtain ⟨_, e, _⟩ := ht
    exact Heap.lt_size e
  have hsz : 0 < xs.size := by simpa using hne
  refine PySem.call_max_walk (PySem.wpAny_pyIter_tuple ht ⟨_, _, _, _, _, _, _, rfl, Walks.tuple (A := A.in1) hh _ l (Nat.ne_of_lt hlt) (intItems xs), ⟨⟨_, Heap.get?_push_size _ rfl, rfl, rfl⟩, ht.push _⟩, fun b hb => ?_, by simpa [intItems] using hsz, CmpOf.ints_gt (numAt xs) (fun _ _ => intItems_at), fun v g tk hP hk => ?_⟩)
  · show b < (s.heap.push _).objs.size
    rw [Heap.size_push]
    rcases List.mem_cons.mp hb with z | z
    · rw [z]
      exact Nat.lt_succ_self _
    · cases List.mem_singleton.mp z
      exact Nat.lt_succ_of_lt hlt
  · obtain ⟨t, rfl⟩ := intItems_at (show (intItems xs)[_]? = some v from hP)
    have hz : (intItems xs).size - 1 = xs.size - 1 := by simp [intItems]
    rw [hz] at *
    obtain ⟨h1, h2⟩ := argBest_gt (numAt xs) (xs.size - 1)
    refine hq g tk _ t (fun b o e => hk b o (fun hm => by
      have l1 := Heap.lt_size e
      rw [List.mem_singleton.mp hm] at l1
      exact Nat.lt_irrefl _ l1) (Heap.get?_push_of_some _ e)) ?_ fun a ha => ?_
    · rw [numAt_eq]
      exact PySem.getD_mem (by rw [List.length_map, Array.length_toList]; omega)
    · obtain ⟨j, hj, rfl⟩ := mem_getD ha
      rw [List.length_map, Array.length_toList] at hj
      rw [← numAt_eq]
      exact h2 j (by omega)
theorem min_tup {l : Addr} {its : List Value} {ns : List Int} {R : Value → Shared → Prop} (hh : A.handled = none) (ht : s.heap.IsTuple l its.toArray) (hi : IntsAre its ns) (hne : 0 < ns.length)
    (hq : ∀ g tk M t', (∀ b o, s.heap.get? b = some o → g.get? b = some o) → M ∈ ns → (∀ a, a ∈ ns → M ≤ a) → R (.int M t') { s with heap := g, toks := tk }) : wpAny (model prog w) A (PySem.call (.builtin "min") [.ref l]) R E s := by
  obtain ⟨xs, ex⟩ := hi.allInts.items
  have hn : numsOf (intItems xs).toList = ns := by
    rw [← ex]
    exact hi.numsOf
  rw [nums_intItems] at hn
  subst hn
  rw [ex] at ht
  have hlt : l < s.heap.objs.size := by
    obtain ⟨_, e, _⟩ := ht
    exact Heap.lt_size e
  have hsz : 0 < xs.size := by simpa using hne
  refine PySem.call_min_walk (PySem.wpAny_pyIter_tuple ht ⟨_, _, _, _, _, _, _, rfl, Walks.tuple (A := A.in1) hh _ l (Nat.ne_of_lt hlt) (intItems xs), ⟨⟨_, Heap.get?_push_size _ rfl, rfl, rfl⟩, ht.push _⟩, fun b hb => ?_, by simpa [intItems] using hsz, CmpOf.ints_lt (numAt xs) (fun _ _ => intItems_at), fun v g tk hP hk => ?_⟩)
  · show b < (s.heap.push _).objs.size
    rw [Heap.size_push]
    rcases List.mem_cons.mp hb with z | z
    · rw [z]
      exact Nat.lt_succ_self _
    · cases List.mem_singleton.mp z
      exact Nat.lt_succ_of_lt hlt
  · obtain ⟨t, rfl⟩ := intItems_at (show (intItems xs)[_]? = some v from hP)
    have hz : (intItems xs).size - 1 = xs.size - 1 := by simp [intItems]
    rw [hz] at *
    obtain ⟨h1, h2⟩ := argBest_lt (numAt xs) (xs.size - 1)
    refine hq g tk _ t (fun b o e => hk b o (fun hm => by
      have l1 := Heap.lt_size e
      rw [List.mem_singleton.mp hm] at l1
      exact Nat.lt_irrefl _ l1) (Heap.get?_push_of_some _ e)) ?_ fun a ha => ?_
    · rw [numAt_eq]
      exact PySem.getD_mem (by rw [List.length_map, Array.length_toList]; omega)
    · obtain ⟨j, hj, rfl⟩ := mem_getD ha
      rw [List.length_map, Array.length_toList] at hj
      rw [← numAt_eq]
      exact h2 j (by omega)
end
theorem cr_maxT (hh : X.A.handled = none) : CallR X (.builtin "max") (fun vs H Q => ∃ (a : Addr) (ns : List Int), vs = [V.ref a] ∧ SqT X.K H a (ns.map V.int) ∧ 0 < ns.length ∧ ∀ m, m ∈ ns → (∀ y, y ∈ ns → y ≤ m) → Q (.int m) H) := by
  intro pins s σ H vs us Q I r ⟨a, ns, e, hs, hne, q⟩
  subst e
  obtain ⟨its, rv, ht, _⟩ := I.tuple hs
  rw [Vals.ref1 r]
  exact max_tup hh ht rv.ints hne fun g tk M t' hk h1 h2 => ⟨.int _, H, I.kept hk, ⟨_, rfl⟩, q M h1 h2⟩
theorem cr_minT (hh : X.A.handled = none) : CallR X (.builtin "min") (fun vs H Q => ∃ (a : Addr) (ns : List Int), vs = [V.ref a] ∧ SqT X.K H a (ns.map V.int) ∧ 0 < ns.length ∧ ∀ m, m ∈ ns → (∀ y, y ∈ ns → m ≤ y) → Q (.int m) H) := by
  intro pins s σ H vs us Q I r ⟨a, ns, e, hs, hne, q⟩
  subst e
  obtain ⟨its, rv, ht, _⟩ := I.tuple hs
  rw [Vals.ref1 r]
  exact min_tup hh ht rv.ints hne fun g tk M t' hk h1 h2 => ⟨.int _, H, I.kept hk, ⟨_, rfl⟩, q M h1 h2⟩
theorem if_best {b : Bool} {o : Option D} {z : D} (h : (if b = true then o else none) = some z) : b = true ∧ o = some z := by
  cases b with
  | true => exact ⟨rfl, h⟩
  | false => cases h
/-- all of them -/
theorem cr_bi (hc : X.calm = true) (hh : X.A.handled = none) (hg : X.A.guards = some []) (hu : X.A.units + 100 < cLine) (b : Bi) : CallR X b.val (rBi X (biW b)) := by
  refine CallR.by fun xs H Q ⟨F, m, S, ws, w, Y, ha, e, q⟩ => ?_
  rcases ws with _ | ⟨u, _ | ⟨u2, _ | ⟨u3, _ | ⟨u4, ws⟩⟩⟩⟩
  · cases e
  · obtain ⟨v, rfl, hv⟩ := ha.one
    have e : bi1 b S u = some w := e
    cases b with
    | abs =>
      obtain ⟨d, e1, e2⟩ := bind_some e
      obtain ⟨z, e3, rfl⟩ := map_some e2
      cases d with
      | int i => cases e3; exact ⟨_, call_abs, i, by rw [vw_int Y hv e1], q.here Y rfl⟩
      | _ => cases e3
    | int =>
      obtain ⟨d, e1, e2⟩ := bind_some e
      obtain ⟨z, e3, rfl⟩ := map_some e2
      cases d with
      | int i => cases e3; exact ⟨_, call_int1, .inl ⟨i, by rw [vw_int Y hv e1], q.here Y rfl⟩⟩
      | bl i => cases e3; exact ⟨_, call_int1, .inr ⟨i, by rw [vw_bl Y hv e1], q.here Y rfl⟩⟩
      | _ => cases e3
    | all =>
      obtain ⟨ds, e1, e2⟩ := bind_some e
      obtain ⟨bs, e3, rfl⟩ := map_some e2
      obtain ⟨a, vs, rfl, h1, h2⟩ := hv.lst Y e1
      have h3 := h2.bools e3
      subst h3
      exact ⟨_, cr_all hc, a, bs, rfl, h1, q.here Y rfl⟩
    | any =>
      obtain ⟨ds, e1, e2⟩ := bind_some e
      obtain ⟨bs, e3, rfl⟩ := map_some e2
      obtain ⟨a, vs, rfl, h1, h2⟩ := hv.lst Y e1
      have h3 := h2.bools e3
      subst h3
      exact ⟨_, cr_any hc, a, bs, rfl, h1, q.here Y rfl⟩
    | sum =>
      obtain ⟨ds, e1, e2⟩ := bind_some e
      obtain ⟨bs, e3, rfl⟩ := map_some e2
      obtain ⟨a, vs, rfl, h2, h1⟩ := hv.seq Y e1
      have h3 := h2.ints e3
      subst h3
      rcases h1 with h1 | ⟨_, h1⟩
      · exact ⟨_, cr_sum hc, a, bs, rfl, h1, q.here Y rfl⟩
      · exact ⟨_, cr_sumT hh, a, bs, rfl, h1.1, q.here Y rfl⟩
    | min =>
      obtain ⟨ds, e1, e2⟩ := bind_some e
      cases e3 : intsOf ds with
      | none =>
        rw [e3] at e2
        dsimp only at e2
        cases e6 : lstOf S u with
        | none => rw [e6] at e2; cases e2
        | some ds2 =>
          rw [e6] at e2
          dsimp only at e2
          split at e2
          · rename_i hk
            obtain ⟨k, e5, rfl⟩ := map_some e2
            exact ⟨_, cr_minD hh hu, F, m, S, u, v, ds2, k, rfl, Y, hv, e6, hk, e5, q⟩
          · cases e2
      | some bs =>
        rw [e3] at e2
        obtain ⟨k, e5, rfl⟩ := map_some e2
        obtain ⟨a, vs, rfl, h2, h1⟩ := hv.seq Y e1
        have h3 := h2.ints e3
        subst h3
        obtain ⟨g1, g2⟩ := min_of e5
        rcases h1 with h1 | ⟨_, h1⟩
        · exact ⟨_, cr_min hc, a, bs, rfl, h1, g1, fun m hm hl => by rw [g2 m hm hl]; exact q.here Y rfl⟩
        · exact ⟨_, cr_minT hh, a, bs, rfl, h1.1, g1, fun m hm hl => by rw [g2 m hm hl]; exact q.here Y rfl⟩
    | max =>
      obtain ⟨ds, e1, e2⟩ := bind_some e
      cases e3 : intsOf ds with
      | none =>
        rw [e3] at e2
        dsimp only at e2
        cases e6 : lstOf S u with
        | none => rw [e6] at e2; cases e2
        | some ds2 =>
          rw [e6] at e2
          dsimp only at e2
          split at e2
          · rename_i hk
            obtain ⟨k, e5, rfl⟩ := map_some e2
            exact ⟨_, cr_maxD hh hu, F, m, S, u, v, ds2, k, rfl, Y, hv, e6, hk, e5, q⟩
          · cases e2
      | some bs =>
        rw [e3] at e2
        obtain ⟨k, e5, rfl⟩ := map_some e2
        obtain ⟨a, vs, rfl, h2, h1⟩ := hv.seq Y e1
        have h3 := h2.ints e3
        subst h3
        obtain ⟨g1, g2⟩ := max_of e5
        rcases h1 with h1 | ⟨_, h1⟩
        · exact ⟨_, cr_max hc, a, bs, rfl, h1, g1, fun m hm hl => by rw [g2 m hm hl]; exact q.here Y rfl⟩
        · exact ⟨_, cr_maxT hh, a, bs, rfl, h1.1, g1, fun m hm hl => by rw [g2 m hm hl]; exact q.here Y rfl⟩
    | len =>
      dsimp only [bi1] at e
      cases ev : vw S u with
      | none =>
        rw [ev] at e
        obtain ⟨kvs, e1, rfl⟩ := map_some e
        obtain ⟨a, vs, rfl, h1, h2⟩ := dct_len Y hv e1
        exact ⟨_, call_lenD, a, vs, rfl, h1, by rw [h2.length]; exact q.here Y rfl⟩
      | some d =>
        rw [ev] at e
        cases d with
        | str x =>
          obtain ⟨g, rfl⟩ := guard_some e
          exact ⟨_, call_len, v, x.length, rfl, by rw [vw_str Y hv ev]; exact ⟨fit_line g, rfl⟩, q.here Y rfl⟩
        | lst ds =>
          cases e
          obtain ⟨a, vs, rfl, h1, h2⟩ := vw_lst Y hv ev
          exact ⟨_, call_len, .ref a, vs.length, rfl, .inl ⟨vs, h1, rfl⟩, by rw [h2.length]; exact q.here Y rfl⟩
        | tup ds =>
          cases e
          obtain ⟨a, vs, rfl, h1, h2⟩ := vw_tup Y hv ev
          exact ⟨_, call_len, .ref a, vs.length, rfl, .inr ⟨vs, h1.1, rfl⟩, by rw [h2.length]; exact q.here Y rfl⟩
        | _ =>
          obtain ⟨kvs, e1, rfl⟩ := map_some e
          obtain ⟨a, vs, rfl, h1, h2⟩ := dct_len Y hv e1
          exact ⟨_, call_lenD, a, vs, rfl, h1, by rw [h2.length]; exact q.here Y rfl⟩
    | tuple =>
      obtain ⟨ds, e1, rfl⟩ := map_some e
      obtain ⟨a, vs, rfl, hd, hs | ⟨rfl, hs⟩⟩ := hv.seq Y e1
      · exact ⟨_, call_tuple_of, a, vs, rfl, .inl ⟨hs, fun p hp => q.tup Y hd hp⟩⟩
      · exact ⟨_, call_tuple_of, a, vs, rfl, .inr ⟨hs.1, q.here Y ⟨a, vs, rfl, hs, hd⟩⟩⟩
    | list =>
      obtain ⟨ds, e1, rfl⟩ := map_some e
      obtain ⟨a, vs, rfl, hd, hs | ⟨rfl, hs⟩⟩ := hv.seq Y e1
      · exact ⟨_, call_list_of, a, vs, rfl, .inl hs, fun p hp => q.lst Y hd hp⟩
      · exact ⟨_, call_list_of, a, vs, rfl, .inr hs.1, fun p hp => q.lst Y hd hp⟩
    | repr =>
      obtain ⟨d, e1, e2⟩ := bind_some e
      obtain ⟨g, rfl⟩ := guard_some e2
      exact ⟨_, cr_repr hg hu, v, d, rfl, hv.vwDp Y e1, g, q.here Y rfl⟩
    | sorted =>
      obtain ⟨ds, e1, e2⟩ := bind_some e
      obtain ⟨g, rfl⟩ := guard_some e2
      exact ⟨_, cr_sorted hu, F, m, S, u, v, ds, rfl, Y, hv, e1, g, q⟩
    | _ => cases e
  · obtain ⟨v, v2, rfl, hv, hv2⟩ := ha.two
    have e : bi2 b u u2 = some w := e
    cases b with
    | divmod =>
      obtain ⟨x, y, z, rfl, rfl, rfl, e1⟩ := d2_some e
      cases x with
      | int i =>
        cases y with
        | int j =>
          obtain ⟨g, rfl⟩ := guard_some e1
          simp only [Bool.and_eq_true, decide_eq_true_eq] at g
          refine ⟨_, call_divmod, i, j, by rw [show v = .int i from hv, show v2 = .int j from hv2], g, fun p hp => q.tup Y ?_ hp⟩
          exact ⟨_, _, rfl, rfl, _, _, rfl, rfl, rfl⟩
        | _ => cases e1
      | _ => cases y <;> cases e1
    | max =>
      obtain ⟨x, y, z, rfl, rfl, rfl, e1⟩ := d2_some e
      cases x with
      | int i =>
        cases y with
        | int j =>
          cases e1
          exact ⟨_, call_max2 hc, i, j, by rw [show v = .int i from hv, show v2 = .int j from hv2], q.here Y rfl⟩
        | _ =>
          simp only [max2D] at e1
          obtain ⟨hb, e2⟩ := if_best e1
          exact ⟨_, cr_max2D hh hu, F, m, S, _, _, z, v, v2, rfl, Y, ⟨v, _, rfl, hv, v2, _, rfl, hv2, rfl⟩, hb, e2, q⟩
      | _ =>
        cases y <;>
          · simp only [max2D] at e1
            obtain ⟨hb, e2⟩ := if_best e1
            exact ⟨_, cr_max2D hh hu, F, m, S, _, _, z, v, v2, rfl, Y, ⟨v, _, rfl, hv, v2, _, rfl, hv2, rfl⟩, hb, e2, q⟩
    | min =>
      obtain ⟨x, y, z, rfl, rfl, rfl, e1⟩ := d2_some e
      cases x with
      | int i =>
        cases y with
        | int j =>
          cases e1
          exact ⟨_, call_min2 hc, i, j, by rw [show v = .int i from hv, show v2 = .int j from hv2], q.here Y rfl⟩
        | _ =>
          simp only [min2D] at e1
          obtain ⟨hb, e2⟩ := if_best e1
          exact ⟨_, cr_min2D hh hu, F, m, S, _, _, z, v, v2, rfl, Y, ⟨v, _, rfl, hv, v2, _, rfl, hv2, rfl⟩, hb, e2, q⟩
      | _ =>
        cases y <;>
          · simp only [min2D] at e1
            obtain ⟨hb, e2⟩ := if_best e1
            exact ⟨_, cr_min2D hh hu, F, m, S, _, _, z, v, v2, rfl, Y, ⟨v, _, rfl, hv, v2, _, rfl, hv2, rfl⟩, hb, e2, q⟩
    | gcd =>
      obtain ⟨x, y, z, rfl, rfl, rfl, e1⟩ := d2_some e
      cases x with
      | int i =>
        cases y with
        | int j =>
          cases e1
          exact ⟨_, cr_gcd, i, j, by rw [show v = .int i from hv, show v2 = .int j from hv2], q.here Y rfl⟩
        | _ => cases e1
      | _ => cases y <;> cases e1
    | _ => cases e
  · obtain ⟨v, v2, v3, rfl, hv, hv2, hv3⟩ := ha.three
    have e : bi3 b u u2 u3 = some w := e
    cases b with
    | gcd =>
      obtain ⟨g, e1, e2⟩ := bind_some e
      obtain ⟨x, y, z, rfl, rfl, rfl, e3⟩ := d2_some e1
      obtain ⟨x', y', z', hx', rfl, rfl, e4⟩ := d2_some e2
      cases hx'
      cases x with
      | int i =>
        cases y with
        | int j =>
          cases e3
          cases y' with
          | int k =>
            cases e4
            exact ⟨_, cr_gcd3, i, j, k, by rw [show v = .int i from hv, show v2 = .int j from hv2, show v3 = .int k from hv3], q.here Y rfl⟩
          | _ => cases e4
        | _ => cases e3
      | _ => cases y <;> cases e3
    | max =>
      cases u with
      | d x =>
        cases u2 with
        | d y =>
          cases u3 with
          | d z =>
            cases x with
            | int i =>
              cases y with
              | int j =>
                cases z with
                | int k =>
                  cases e
                  exact ⟨_, cr_max3 hh, i, j, k, by rw [show v = .int i from hv, show v2 = .int j from hv2, show v3 = .int k from hv3], q.here Y rfl⟩
                | _ => cases e
              | _ => cases z <;> cases e
            | _ => cases y <;> cases z <;> cases e
          | _ => cases x <;> cases y <;> cases e
        | _ => cases x <;> cases u3 <;> cases e
      | _ => cases u2 <;> cases u3 <;> cases e
    | _ => cases e
  · cases e
end
end Pyi
/-! Pi: calls of built-ins, isinstance; what is walked. -/
namespace Pyi
open PySem PySem.Spec PyProof.Rows L2
variable [Gd]
section
variable {X : Cx} {E : XK} {a b e : Expr} {pos p : Pos} {es : List Expr} {fa fb : Sg → Store → Res W} {fs : Sg → Store → Res (List W)}
def noStar : Expr → Bool
  | .Starred _ _ => false
  | _ => true
theorem star_cons {env : Env} (h : noStar e = true) : starEach (e :: es) env = (false, eval e env) :: starEach es env := by
  cases e <;> first
    | rfl
    | cases h
theorem any_star {env : Env} (pos : Pos) : ∀ es : List Expr, es.all noStar = true → (backTo pos (starEach es env)).any (·.1) = false := by
  intro es
  have h1 : ∀ (l : List (Bool × Sem Value)), l.any (·.1) = false → (backTo pos l).any (·.1) = false := fun l => by
    induction l with
    | nil => intro _; rfl
    | cons x l ih =>
      intro h
      obtain ⟨b, t⟩ := x
      simp only [List.any_cons, Bool.or_eq_false_iff] at h
      cases l with
      | nil => show (b || false) = false; rw [h.1]; rfl
      | cons y l =>
        obtain ⟨b2, t2⟩ := y
        have q := ih h.2
        first
          | (simp only [backTo, List.any_cons, Bool.or_eq_false_iff] at q ⊢; exact ⟨h.1, q⟩)
          | (simp [backTo] at q ⊢; simp_all)
  intro h
  refine h1 _ ?_
  induction es with
  | nil => rfl
  | cons e es ih =>
    simp only [List.all_cons, Bool.and_eq_true] at h
    rw [star_cons h.1, List.any_cons, ih h.2]
    rfl
/-- a built-in's name -/
def Bi.name : Bi → Str
  | .bool => "bool"
  | .dict => "dict"
  | .int => "int"
  | .list => "list"
  | .str => "str"
  | .tuple => "tuple"
  | .setlen => "len"
  | .gcd => "gcd"
  | .isqrt => "isqrt"
  | .abs => "abs"
  | .all => "all"
  | .any => "any"
  | .divmod => "divmod"
  | .len => "len"
  | .max => "max"
  | .min => "min"
  | .repr => "repr"
  | .sorted => "sorted"
  | .sum => "sum"
/-- how a module gets at a built-in -/
def BiAt (X : Cx) (b : Bi) : Prop := match b with
  | .gcd => X.mg "gcd" = some (.builtin "math.gcd")
  | .isqrt => X.mg "isqrt" = some (.builtin "math.isqrt")
  | b => X.mg b.name = none
theorem tC_imp {r : List V → Hp → VK → Prop} {f : Store → List W → Option W} {σ : L2.St} {H : Hp} {Q : VK} (hr : r = rBi X f) (h : tE X E (fun σ S => (fs σ S).bind fun ws S1 => Res.of S1 (f S1 ws)) σ H Q) : tCB r (tAw X E fs) σ H Q := by
  subst hr
  obtain ⟨F, m, S, σd, Y, G, h⟩ := h
  refine ⟨F, m, S, σd, Y, G, (Rp.bind h).mono fun F1 m1 H1 S1 ws x1 Y1 h1 vs hvs => ?_⟩
  obtain ⟨w, e, h2⟩ := h1.ret
  exact ⟨F1, m1, S1, ws, w, Y1, hvs, e, h2⟩
theorem se_bi (bb : Bi) (hc : X.calm = true) (hh : X.A.handled = none) (hg : X.A.guards = some []) (hu : X.A.units + 100 < cLine) (hl : Gl X bb.name) (h0 : bb ≠ .setlen) (hm : BiAt X bb) (ha : PA X (e :: es) (tAw X E fs)) (hn : noStar e = true) (hns : es.all noStar = true) :
    PE X (.Call (.Name bb.name p) (e :: es) [] pos) (tE X E fun σ S => (fs σ S).bind fun ws S1 => Res.of S1 (biW bb S1 ws)) := by
  have cr := cr_bi hc hh hg hu bb
  have hs := star_cons (env := X.env) (es := es) hn
  have hp := any_star (env := X.env) pos es hns
  cases bb with
  | gcd => exact (pe_callBfun cr hl hm ha (by decide) hs hp).imp fun σ H Q h => tC_imp rfl h
  | setlen => exact absurd rfl h0
  | isqrt => exact (pe_callBfun cr hl hm ha (by decide) hs hp).imp fun σ H Q h => tC_imp rfl h
  | bool => exact (pe_callTy cr hl hm (by decide +kernel) ha (by decide) (by decide) hs hp).imp fun σ H Q h => tC_imp rfl h
  | dict => exact (pe_callTy cr hl hm (by decide +kernel) ha (by decide) (by decide) hs hp).imp fun σ H Q h => tC_imp rfl h
  | int => exact (pe_callTy cr hl hm (by decide +kernel) ha (by decide) (by decide) hs hp).imp fun σ H Q h => tC_imp rfl h
  | list => exact (pe_callTy cr hl hm (by decide +kernel) ha (by decide) (by decide) hs hp).imp fun σ H Q h => tC_imp rfl h
  | str => exact (pe_callTy cr hl hm (by decide +kernel) ha (by decide) (by decide) hs hp).imp fun σ H Q h => tC_imp rfl h
  | tuple => exact (pe_callTy cr hl hm (by decide +kernel) ha (by decide) (by decide) hs hp).imp fun σ H Q h => tC_imp rfl h
  | abs => exact (pe_callB cr hl hm (by decide +kernel) ha (by decide) (by decide) hs hp).imp fun σ H Q h => tC_imp rfl h
  | all => exact (pe_callB cr hl hm (by decide +kernel) ha (by decide) (by decide) hs hp).imp fun σ H Q h => tC_imp rfl h
  | any => exact (pe_callB cr hl hm (by decide +kernel) ha (by decide) (by decide) hs hp).imp fun σ H Q h => tC_imp rfl h
  | divmod => exact (pe_callB cr hl hm (by decide +kernel) ha (by decide) (by decide) hs hp).imp fun σ H Q h => tC_imp rfl h
  | len => exact (pe_callB cr hl hm (by decide +kernel) ha (by decide) (by decide) hs hp).imp fun σ H Q h => tC_imp rfl h
  | max => exact (pe_callB cr hl hm (by decide +kernel) ha (by decide) (by decide) hs hp).imp fun σ H Q h => tC_imp rfl h
  | min => exact (pe_callB cr hl hm (by decide +kernel) ha (by decide) (by decide) hs hp).imp fun σ H Q h => tC_imp rfl h
  | repr => exact (pe_callB cr hl hm (by decide +kernel) ha (by decide) (by decide) hs hp).imp fun σ H Q h => tC_imp rfl h
  | sorted => exact (pe_callB cr hl hm (by decide +kernel) ha (by decide) (by decide) hs hp).imp fun σ H Q h => tC_imp rfl h
  | sum => exact (pe_callB cr hl hm (by decide +kernel) ha (by decide) (by decide) hs hp).imp fun σ H Q h => tC_imp rfl h
end
end Pyi
/-! Pi1: enumerate(tuple). -/
namespace Pyi
open PySem PySem.Spec PyProof.Rows L2
open Sem (wp)
open AutoSeq1 (wpAny_loadPart')
theorem meets_enumT (l : Addr) (items : Array Value) (n : Nat) (dct : Option Addr) (sl : Array (Option Value)) :
    Meets (Builtin.«enumerate.__new__» ⟨[.type "enumerate", .ref l], []⟩) (fun _ R s => s.heap.get? l = some { cls := .type "tuple", dict := dct, data := .seq items n, slots := sl } ∧
      R (.ok (.ret (.ref (s.heap.push { cls := .type "tuple_iterator", data := .fields #[.ref l, .int 0 0] }).objs.size)))
        { s with heap := (s.heap.push { cls := .type "tuple_iterator", data := .fields #[.ref l, .int 0 0] }).push { cls := .type "enumerate", data := .fields #[.none, .bool false, .ref s.heap.objs.size, rawInt 0, .none, .none] } }) :=
  .of_wp fun prog w A R s h => by
    obtain ⟨hp, g, d, tk, os⟩ := s; obtain ⟨hl, h⟩ := h
    have hsub := sub_enumerate
    have hL : Heap.IsTuple (Shared.heap ⟨hp, g, d, tk, os⟩) l items := ⟨_, hl, rfl, n, rfl⟩
    wp_walk using wpAny_loadPart' hl
    refine wpAny_stack_any fun st => wpAny_pure ?_
    split
    · rename_i c _ _ _ _ _
      cases (c == Value.type "enumerate")
      · wp_walk using wpAny_loadPart' hl, wpAny_pyIter_tuple hL
        exact ⟨_, rfl, h⟩
      · wp_walk using wpAny_loadPart' hl, wpAny_pyIter_tuple hL
        exact ⟨_, rfl, h⟩
    · wp_walk using wpAny_loadPart' hl, wpAny_pyIter_tuple hL
      exact ⟨_, rfl, h⟩
section
variable {prog : Program} {w : World} {A : Around} {E : Value → Shared → Prop} {s : Shared}
theorem call_enumT {l : Addr} {items : Array Value} {Q : Value → Shared → Prop} (hL : s.heap.IsTuple l items)
    (h : ∀ h', IsEnum h' (s.heap.objs.size + 1) s.heap.objs.size 0 .none → h'.IsTupleIter s.heap.objs.size l 0 → h'.objs.size = s.heap.objs.size + 2 →
      (∀ b o, s.heap.get? b = some o → h'.get? b = some o) → Q (.ref (s.heap.objs.size + 1)) { s with heap := h' }) :
    wpAny (model prog w) A (PySem.call (.type "enumerate") [.ref l]) Q E s := by
  obtain ⟨⟨c, dct, dt, sl⟩, hl, hc, n, hd⟩ := hL
  replace hc : c = .type "tuple" := hc
  replace hd : dt = .seq items n := hd
  subst hc hd
  refine callType_new F.called_enumerate (by decide) (F.typeCall_enumerate_1 _) (F.newCall_enumerate_1 _) (fun obj => F.args_object_init_2 obj _) F.entry_enumerate_new
    (meets_enumT l items n dct sl) ⟨hl, ?_⟩
  have hz : (s.heap.push { cls := .type "tuple_iterator", data := .fields #[.ref l, .int 0 0] }).objs.size = s.heap.objs.size + 1 := Heap.size_push ..
  show _ ∧ _
  rw [hz]
  have he : IsEnum ((s.heap.push { cls := .type "tuple_iterator", data := .fields #[.ref l, .int 0 0] }).push
      { cls := .type "enumerate", data := .fields #[.none, .bool false, .ref s.heap.objs.size, rawInt 0, .none, .none] }) (s.heap.objs.size + 1) s.heap.objs.size 0 .none := by
    have := Heap.get?_push_size (s.heap.push { cls := .type "tuple_iterator", data := .fields #[.ref l, .int 0 0] })
      (o := { cls := .type "enumerate", data := .fields #[.none, .bool false, .ref s.heap.objs.size, rawInt 0, .none, .none] }) rfl
    rw [hz] at this; exact this
  refine ⟨⟨_, he, rfl⟩, h _ he ⟨_, Heap.get?_push_of_some _ (Heap.get?_push_size _ rfl), rfl, rfl⟩ (by rw [Heap.size_push, hz]) fun b o x => Heap.get?_push_of_some _ (Heap.get?_push_of_some _ x)⟩
end
/-- the tuple at a, each item in a new pair -/
def Iet (K : PySem.W.Frag) (a : Addr) : It :=
  ⟨fun i H => ∃ (xs : List V) (x : V), SqT K H a xs ∧ xs[i]? = some x, fun i H v H' => ∃ T x, v = .ref T ∧ H T = none ∧ H' = upd H T (.tup [.int (i : Nat), x]) ∧ ∀ xs, SqT K H a xs → xs[i]? = some x, fun i H => ∃ xs : List V, SqT K H a xs ∧ xs.length ≤ i⟩
theorem turn_enumT {P : Program} {w : World} {K : PySem.W.Frag} {elts : List Expr} {kk : Nat} {tpos : Pos} (a e it : Addr) :
    Turn P w K (.Tuple elts kk tpos) (Iet K a) [e, it] e (fun i h => (∃ old, IsEnum h e it ((i : Nat) : Int) old) ∧ h.IsTupleIter it a i ∧ e ≠ it ∧ a ≠ it) where
  mem := by simp
  obj := fun i h st b hb => by
    obtain ⟨⟨old, he⟩, ⟨o, ho, hc, hd⟩, _⟩ := st
    have e' : b = e ∨ b = it := by simpa using hb
    rcases e' with z | z
    · rw [z]; exact ⟨_, he, fun v q => nomatch q⟩
    · rw [z]; exact ⟨o, ho, fun v q => by rw [hd] at q; cases q⟩
  keep := fun i h h' st k => let ⟨⟨old, he⟩, hi, hne⟩ := st; ⟨⟨old, k e (by simp) _ he⟩, hi.at fun o q => k it (by simp) o q, hne⟩
  item := by
    intro X hP hw hK hc i pins s σ H E I hf st hg
    subst hP hw hK
    obtain ⟨⟨old, he⟩, hit, hne, hna⟩ := st
    obtain ⟨xs, x, hq, hx⟩ := hg
    obtain ⟨its, rv, p, hz⟩ := I.tuple hq
    obtain ⟨u, hu, ru⟩ := rv.get hx
    have hel : e < s.heap.objs.size := Heap.lt_size he
    have hil : it < s.heap.objs.size := by obtain ⟨_, q, _⟩ := hit; exact Heap.lt_size q
    have pt : s.heap.IsTuple a its.toArray := p
    have hea : e ≠ a := fun z => by
      subst z
      obtain ⟨o, e1, e2, _⟩ := pt
      have := e1.symm.trans he
      cases this
      exact absurd e2 (by
        intro z
        injection z with z
        exact absurd z (by decide))
    have hi : i < its.toArray.size := by
      rw [List.size_toArray, ← rv.length]
      exact (List.getElem?_eq_some_iff.mp hx).1
    have D := Draws.tuple (prog := X.prog) (w := X.w) (A := X.A.in1) (I.ok.hd hc) it a hna its.toArray
    refine wpAny_pyNext_enum_itemD D he ⟨hit, pt⟩ hi hne (by simp [hne, hea]) fun y h' tk hy ho hit' hT hsz hk => ?_
    have hyu : y = u := by
      have hy' : its.toArray[i]? = some y := hy
      have hu' : its.toArray[i]? = some u := by simpa using hu
      rw [hu'] at hy'
      exact (Option.some.inj hy').symm
    subst hyu
    refine ⟨_, rfl, wpAny_letOwnedTupleGo_enum (s := { s with heap := h', toks := tk + 1 }) ho fun h'' he' sb => ?_⟩
    have hT2 : h''.get? s.heap.objs.size = some { cls := .type "tuple", data := .seq #[.int i tk, y] } := (sb.2 _ (Nat.ne_of_gt hel)).trans hT
    have new : ObjOk X.prog X.w (upd H s.heap.objs.size (.tup [.int (i : Nat), x])) h'' s.heap.objs.size (.tup [.int (i : Nat), x]) :=
      ⟨by show 2 ≤ sizeLine; decide, [.int i tk, y], .cons ⟨_, rfl⟩ (.cons ru .nil), ⟨_, hT2, rfl, _, rfl⟩⟩
    have I1 : Inv X pins σ (upd H s.heap.objs.size (.tup [.int (i : Nat), x])) { s with heap := h'', toks := tk + 1 } :=
      I.turnedNew (ch := [e, it]) (fun b ob hb q => (sb.2 b (fun z => hb (by simp [z]))).trans (hk b ob (fun z => hb (by simp [z])) (fun z => hb (by simp [z])) q)) hf (Nat.le_refl _) new
    refine ⟨.ref s.heap.objs.size, _, I1, rfl, ⟨_, x, rfl, I.hok.fresh (Nat.le_refl _), rfl, fun ys hy => by rw [I.tuple_inj hy hq]; exact hx⟩, ⟨⟨y, ?_⟩, hit'.1.at fun o q => (sb.2 it (Ne.symm hne)).trans q, hne, hna⟩, fun b hb => ?_⟩
    · have e1 : ((i + 1 : Nat) : Int) = (i : Int) + 1 := by omega
      rw [e1]; exact he'
    · have hb' : b < s.heap.objs.size := by
        have e' : b = e ∨ b = it := by simpa using hb
        rcases e' with z | z
        · rw [z]; exact hel
        · rw [z]; exact hil
      rw [upd_ne (Nat.ne_of_lt hb')]
      exact (hf b hb).1
  done := by
    intro X hP hw hK hc i pins s σ H E I hf st hg
    subst hP hw hK
    obtain ⟨⟨old, he⟩, hit, hne, hna⟩ := st
    obtain ⟨xs, hq, hx⟩ := hg
    obtain ⟨its, rv, p, hz⟩ := I.tuple hq
    obtain ⟨f0, f1, f2, f3, f4, f5⟩ := hf it (by simp)
    have hl := rv.length
    have pt : s.heap.IsTuple a its.toArray := p
    have hT : s.TypeIs (.ref e) "enumerate" := ⟨_, he, rfl⟩
    unfold pyNext
    refine wpAny_bind (wpAny_attempt (wpAny_callSpecial?_slot (name := Str.ofString "__next__") hT F.slot_enumerate_next
      (wpAny_call_entry F.slot_enumerate_next hT F.entry_enumerate_next ?_ (F.args_enumerate_next_1 _))))
    show wpAny _ _ (field (.ref e) 2 >>= _) _ _ _
    refine wpAny_bind (wpAny_field he rfl (x := .ref it) rfl ?_)
    refine wpAny_bind (RZ.nextOf_tuple_end (I.ok.hd hc) hit pt (by simp; omega) fun h' x he' hx' => ?_)
    obtain ⟨o, ho, hc'⟩ := hx'
    refine wpAny_bind (wpAny_isInstance (T := "StopIteration") (b := true) ⟨o, ho, hc'⟩ isSubtype_stop ?_)
    exact wpAny_pure ⟨rfl, I.turned (t' := s.toks) (fun b o hb q => he' b o hb q) f0 f1 f3 f4 f5⟩
  self := fun A i s Q E st h => let ⟨⟨_, he⟩, _⟩ := st; wpAny_pyIter_enum he h
def iEnum2 (K : PySem.W.Frag) (ta : TA) : TI := fun σ H R => ta σ H fun vs H1 => ∃ a xs, vs = [.ref a] ∧ ((SqL K H1 a xs ∧ R (Ite K a) H1) ∨ (SqT K H1 a xs ∧ R (Iet K a) H1))
theorem pi_enum2 {X : Cx} {e : Expr} {ta : TA} {p pos tpos : Pos} {elts : List Expr} {kk : Nat} (hg : Gl X "enumerate") (hm : X.mg "enumerate" = none) (ha : PA X [e] ta) (hs : starEach [e] X.env = [(false, eval e X.env)] := by rfl) :
    PI X (.Tuple elts kk tpos) (.Call (.Name "enumerate" p) [e] [] pos) (iEnum2 X.K ta) := by
  refine ⟨fun pins s σ H R I h => ?_⟩
  refine Call_ (ld_blt I hg hm boot_enumerate (PyProof.Rows.callWith_type1 (thn (ha.run pos pins s σ H _ I h) fun us s1 ⟨vs, H1, I1, r1, q1⟩ => ?_) hs rfl))
  obtain ⟨a, xs, ex, q⟩ := q1
  subst ex
  cases r1 with
  | cons r rr =>
    cases rr
    cases r
    have fin : ∀ (h' : Heap), (∀ b o, s1.heap.get? b = some o → h'.get? b = some o) → Inv X pins σ H1 { s1 with heap := h' } ∧ ∀ b ∈ [s1.heap.objs.size + 1, s1.heap.objs.size], _ := fun h' hk => by
      refine ⟨I1.kept (t' := s1.toks) hk, fun b hb => ?_⟩
      have e' : b = s1.heap.objs.size + 1 ∨ b = s1.heap.objs.size := by simpa using hb
      have hle : s1.heap.objs.size ≤ b := by
        rcases e' with z | z
        · rw [z]; exact Nat.le_add_right _ _
        · rw [z]; exact Nat.le_refl _
      exact I1.fpOk hle (I1.hok.fresh hle)
    rcases q with ⟨hq, q⟩ | ⟨hq, q⟩
    · obtain ⟨its, rv, p', hz⟩ := I1.list hq
      refine call_enumerate_list p'.isList fun h' he hit hsz hk => wpAny_pyIter_enum he ?_
      exact ⟨s1.heap.objs.size + 1, [s1.heap.objs.size + 1, s1.heap.objs.size], _, _, H1, rfl, (fin h' hk).1, turn_enum a (s1.heap.objs.size + 1) s1.heap.objs.size, ⟨⟨.none, he⟩, hit, Nat.succ_ne_self _⟩, (fin h' hk).2, q⟩
    · obtain ⟨its, rv, p', hz⟩ := I1.tuple hq
      have pt : s1.heap.IsTuple a its.toArray := p'
      have hla : a < s1.heap.objs.size := by obtain ⟨_, z, _⟩ := pt; exact Heap.lt_size z
      refine call_enumT pt fun h' he hit hsz hk => wpAny_pyIter_enum he ?_
      exact ⟨s1.heap.objs.size + 1, [s1.heap.objs.size + 1, s1.heap.objs.size], _, _, H1, rfl, (fin h' hk).1, turn_enumT a (s1.heap.objs.size + 1) s1.heap.objs.size, ⟨⟨.none, he⟩, hit, Nat.succ_ne_self _, Nat.ne_of_lt hla⟩, (fin h' hk).2, q⟩
end Pyi
/-! Pi2: sorted(set(..)) of tuples of numbers. -/
namespace Pyi
open PySem PySem.Spec PyProof.Rows L2
variable [Gd]
theorem codeL_eq : ∀ x : List Int, codeL x = TS.code 1000 x
  | [] => rfl
  | d :: r => by
    show d * 1000 ^ r.length + codeL r = d * 1000 ^ r.length + TS.code 1000 r
    rw [codeL_eq r]
theorem code_inj : ∀ {a b : List Int}, a.length = b.length → TS.Bd 1000 a → TS.Bd 1000 b → TS.code 1000 a = TS.code 1000 b → a = b
  | [], [], _, _, _, _ => rfl
  | x :: a, y :: b, hl, ha, hb, h => by
    have hl' : a.length = b.length := by simpa using hl
    rcases Int.lt_trichotomy x y with c | c | c
    · have := TS.code_lt (B := 1000) hl' ha.tail hb.tail c
      omega
    · subst c
      have h' : TS.code 1000 a = TS.code 1000 b := by
        have e : x * 1000 ^ a.length + TS.code 1000 a = x * 1000 ^ b.length + TS.code 1000 b := h
        rw [hl'] at e
        omega
      rw [code_inj hl' ha.tail hb.tail h']
    · have := TS.code_lt (B := 1000) hl'.symm hb.tail ha.tail c
      omega
theorem mem_dedupL {x : List Int} : ∀ {xs : List (List Int)}, x ∈ dedupL xs ↔ x ∈ xs
  | [] => Iff.rfl
  | y :: r => by
    unfold dedupL
    split
    · rename_i h
      rw [mem_dedupL, List.mem_cons]
      exact ⟨.inr, fun z => z.elim (fun e => e ▸ h) id⟩
    · rw [List.mem_cons, List.mem_cons, mem_dedupL]
theorem nodup_dedupL : ∀ xs : List (List Int), (dedupL xs).Nodup
  | [] => .nil
  | y :: r => by
    unfold dedupL
    split
    · exact nodup_dedupL r
    · rename_i h
      exact List.nodup_cons.mpr ⟨fun z => h (mem_dedupL.mp z), nodup_dedupL r⟩
theorem ssL_mem {xs : List (List Int)} {x : List Int} : x ∈ ssL xs ↔ x ∈ xs := by
  unfold ssL
  rw [(List.mergeSort_perm _ _).mem_iff, mem_dedupL]
theorem ssL_nodup (xs : List (List Int)) : (ssL xs).Nodup := (List.mergeSort_perm _ _).nodup_iff.mpr (nodup_dedupL xs)
theorem ssL_sorted (xs : List (List Int)) : (ssL xs).Pairwise fun a b => codeL a ≤ codeL b := by
  have := List.pairwise_mergeSort (le := fun a b : List Int => decide (codeL a ≤ codeL b)) (fun a b c h k => by
    simp only [decide_eq_true_eq] at *
    omega) (fun a b => by
    simp only [Bool.or_eq_true, decide_eq_true_eq]
    omega) (dedupL xs)
  exact this.imp fun h => of_decide_eq_true h
section
variable {X : Cx} {E : XK} {K : PySem.W.Frag} {F : Addr → Nat} {H : Hp}
theorem atDs_ints : ∀ ns : List Int, AtDs K F H (ns.map .int) (ns.map V.int)
  | [] => rfl
  | n :: ns => ⟨.int n, _, rfl, rfl, atDs_ints ns⟩
theorem of_ints : ∀ {ds : List D} {vs : List V} {ns : List Int}, AtDs K F H ds vs → intsOf ds = some ns → vs = ns.map V.int
  | [], vs, ns, h, e => by
    cases e
    exact h
  | .int i :: ds, vs, ns, h, e => by
    obtain ⟨v, r, rfl, h1, h2⟩ := h
    obtain ⟨m, e2, rfl⟩ := map_some e
    rw [of_ints h2 e2]
    cases (show v = .int i from h1)
    rfl
  | .non :: ds, vs, ns, h, e => by cases e
  | .bl _ :: ds, vs, ns, h, e => by cases e
  | .str _ :: ds, vs, ns, h, e => by cases e
  | .tup _ :: ds, vs, ns, h, e => by cases e
  | .lst _ :: ds, vs, ns, h, e => by cases e
theorem tups_of : ∀ {ds : List D} {vs : List V} {xs : List (List Int)}, AtDs K F H ds vs → allTI ds = some xs → ∃ ks : List (Addr × List Int), vs = ks.map (fun p => V.ref p.1) ∧ ks.map (·.2) = xs ∧ ∀ p ∈ ks, TupF K F H p.1 (p.2.map V.int)
  | [], vs, xs, h, e => by
    cases e
    exact ⟨[], h, rfl, fun _ z => by cases z⟩
  | d :: ds, vs, xs, h, e => by
    obtain ⟨v, r, rfl, h1, h2⟩ := h
    unfold allTI at e
    cases d with
    | tup es =>
      cases q1 : tupI (.tup es) with
      | none => rw [q1] at e; cases e
      | some x =>
        cases q2 : allTI ds with
        | none => rw [q1, q2] at e; cases e
        | some xs' =>
          rw [q1, q2] at e
          cases e
          obtain ⟨ks, e1, e2, e3⟩ := tups_of h2 q2
          obtain ⟨a, us, rfl, ht, hu⟩ := h1
          have := of_ints hu q1
          subst this
          refine ⟨(a, x) :: ks, by rw [e1]; rfl, by rw [← e2]; rfl, fun p hp => ?_⟩
          rcases List.mem_cons.mp hp with rfl | hp
          · exact ht
          · exact e3 p hp
    | _ => cases e
theorem atDs_tups : ∀ L : List (Addr × List Int), (∀ q ∈ L, TupF K F H q.1 (q.2.map V.int)) → AtDs K F H (L.map fun q => .tup (q.2.map .int)) (L.map fun q => V.ref q.1)
  | [], _ => rfl
  | q :: L, h => ⟨.ref q.1, _, rfl, ⟨q.1, _, rfl, h q List.mem_cons_self, atDs_ints q.2⟩, atDs_tups L fun p hp => h p (List.mem_cons_of_mem _ hp)⟩
variable {a : Expr} {p p2 q pos : Pos} {fa : Sg → Store → Res W}
theorem vals_chars : ∀ {cs : List Nat} {us : List Value}, us.length = cs.length → (∀ (j : Nat) (u : Value), us[j]? = some u → ∃ (c : Nat) (t : Tok), cs[j]? = some c ∧ u = Value.str ⟨#[c]⟩ t) → Vals (cs.map fun c => V.str ⟨#[c]⟩) us
  | [], [], _, _ => .nil
  | [], _ :: _, h, _ => by simp at h
  | _ :: _, [], h, _ => by simp at h
  | c :: cs, u :: us, hl, h => by
    obtain ⟨c', t, e1, e2⟩ := h 0 u rfl
    cases e1
    refine .cons ⟨t, e2⟩ (vals_chars (by simpa using hl) fun j v e => ?_)
    obtain ⟨c2, t2, q1, q2⟩ := h (j + 1) v (by simpa using e)
    exact ⟨c2, t2, by simpa using q1, q2⟩
theorem call_list_text (hh : X.A.handled = none) : CallR X (.type "list") (fun xs H Q => ∃ x : Str, xs = [.str x] ∧ x.length ≤ sizeLine ∧ ∀ l, H l = none → Q (.ref l) (upd H l (.lst (x.cps.toList.map fun c => V.str ⟨#[c]⟩)))) := by
  intro pins s σ H xs us Q I r ⟨x, e, hz, q⟩
  subst e
  obtain ⟨u, rfl, rx⟩ := vals1 r
  obtain ⟨t, rfl⟩ := rx
  refine PySem.call_list_str hh x t (fun h' tk acc' c' hk hS' hacc => ?_) hz
  have hv : Vals (x.cps.toList.map fun c => V.str ⟨#[c]⟩) acc'.toList := vals_chars (by
    rw [Array.length_toList, Array.length_toList]
    exact hacc.1) fun j v e => by
      rw [Array.getElem?_toList] at e
      obtain ⟨c, t', e1, e2⟩ := hacc.2 j v e
      exact ⟨c, t', by rw [Array.getElem?_toList]; exact e1, e2⟩
  have hl : (x.cps.toList.map fun c => V.str ⟨#[c]⟩).length ≤ sizeLine := by
    rw [List.length_map, Array.length_toList]
    exact hz
  exact ⟨.ref _, _, I.laid (t' := tk) hk (Nat.le_refl _) (show ObjOk X.prog X.w _ h' _ (.lst (x.cps.toList.map fun c => V.str ⟨#[c]⟩)) from ⟨hl, acc'.toList, c', hv, hS'⟩), rfl, q _ (I.hok.fresh (Nat.le_refl _))⟩
theorem atDs_chars : ∀ cs : List Nat, AtDs K F H (cs.map fun c => .str ⟨#[c]⟩) (cs.map fun c => V.str ⟨#[c]⟩)
  | [] => rfl
  | c :: cs => ⟨.str ⟨#[c]⟩, _, rfl, rfl, atDs_chars cs⟩
/-- list(e), a cell -/
theorem se_cl (hh : X.A.handled = none) (hl : Gl X "list") (hm : X.mg "list" = none) (ha : PE X a (tE X E fa)) (hn : noStar a = true) :
    PE X (.Call (.Name "list" p) [a] [] pos) (tE X E fun σ S => (fa σ S).bind fun w S1 => match itemsOf S1 w with
    | some ds => .ok (.ref S1.length) (S1 ++ [.lst ds])
    | none => .fail) := by
  have cr : CallR X (.type "list") (fun xs H Q => (∃ p ys, xs = [.ref p] ∧ (SqL X.K H p ys ∨ SqT X.K H p ys) ∧ ∀ l, H l = none → Q (.ref l) (upd H l (.lst ys))) ∨ ∃ x : Str, xs = [.str x] ∧ x.length ≤ sizeLine ∧ ∀ l, H l = none → Q (.ref l) (upd H l (.lst (x.cps.toList.map fun c => V.str ⟨#[c]⟩)))) :=
    CallR.by fun xs H Q h => h.elim (fun h => ⟨_, call_list_of, h⟩) fun h => ⟨_, call_list_text hh, h⟩
  refine (pe_callTy (p := p) (pos := pos) cr hl hm (by decide +kernel) (pa_cons ha pa_nil (star_cons hn)) (by decide) (by decide) (star_cons hn) (any_star pos [] rfl)).imp fun σ H Q ⟨F, m, S, σd, Y, G, h⟩ => ?_
  refine ⟨F, m, S, σd, Y, G, (Rp.bind h).mono fun F1 m1 H1 S1 w x1 Y1 h1 v hv => ?_⟩
  cases e : itemsOf S1 w with
  | none => rw [e] at h1; exact h1.elim
  | some ds =>
    rw [e] at h1
    unfold itemsOf at e
    split at e
    · rename_i x
      obtain ⟨g, rfl⟩ := guard_some e
      cases (show v = .str x from hv)
      exact .inr ⟨x, rfl, fit_line g, fun q hq => Rp.cell h1 Y1 hq fun ex => ⟨_, rfl, atDs_chars _⟩⟩
    · obtain ⟨l, vs, rfl, hd, hs⟩ := hv.seq Y1 e
      refine .inl ⟨l, vs, rfl, ?_, fun q hq => Rp.cell h1 Y1 hq fun ex => ⟨vs, rfl, AtDs.mono ex hd⟩⟩
      rcases hs with hs | ⟨_, hs⟩
      · exact .inl hs
      · exact .inr hs.1
theorem se_sset (hc : X.calm = true) (hu : X.A.units + 100 < cLine) (hl : Gl X "sorted") (hm : X.mg "sorted" = none) (hl2 : Gl X "set") (hm2 : X.mg "set" = none) (ha : PE X a (tE X E fa)) (hn : noStar a = true) :
    PE X (.Call (.Name "sorted" p) [.Call (.Name "set" p2) [a] [] q] [] pos) (tE X E fun σ S => (fa σ S).bind fun w S1 => Res.of S1 (ssW S1 w)) := by
  have inner := pe_callTy (p := p2) (pos := q) (cr_setOfT hc (by omega)) hl2 hm2 (by decide +kernel) (pa_cons ha pa_nil (star_cons hn)) (by decide) (by decide) (star_cons hn) (any_star q [] rfl)
  refine (pe_callB (p := p) (pos := pos) (cr_sortedT hc) hl hm (by decide +kernel) (pa_cons inner pa_nil rfl) (by decide) (by decide) rfl rfl).imp fun σ H Q ⟨F, m, S, σd, Y, G, h⟩ => ?_
  show tE X E fa σ H fun v H1 => rSetOfT X.K X.prog X.w [v] H1 fun z H2 => rSortedT X.K X.prog X.w [z] H2 Q
  refine ⟨F, m, S, σd, Y, G, (Rp.bind h).mono fun F1 m1 H1 S1 w x1 Y1 h1 v hv => ?_⟩
  obtain ⟨r, e, h2⟩ := h1.ret
  unfold ssW at e
  cases e1 : lstOf S1 w with
  | none => rw [e1] at e; cases e
  | some ds =>
    rw [e1] at e
    dsimp only at e
    cases e2 : allTI ds with
    | none => rw [e2] at e; cases e
    | some xs =>
      rw [e2] at e
      dsimp only at e
      by_cases ok : ssOk xs = true
      · rw [if_pos ok] at e
        cases e
        obtain ⟨l, vs, rfl, g1, g2⟩ := hv.lst Y1 e1
        obtain ⟨ks, rfl, ek, hk⟩ := tups_of g2 e2
        unfold ssOk at ok
        simp only [Bool.and_eq_true, decide_eq_true_eq, List.all_eq_true] at ok
        obtain ⟨⟨o1, o2⟩, o3⟩ := ok
        have hxs : ∀ p ∈ ks, p.2 ∈ xs := fun p hp => ek ▸ List.mem_map.mpr ⟨p, hp, rfl⟩
        have bd : ∀ x ∈ xs, x.length = ssLen xs ∧ TS.Bd 1000 x := fun x hx => ⟨(o3 x hx).1, fun i hi => (o3 x hx).2 i hi⟩
        refine ⟨l, ks, rfl, g1, fun p hp => (hk p hp).1, by rw [← ek, List.length_map] at o1; exact o1, fun A L hA hsub hall => ?_⟩
        obtain ⟨Y2, x2⟩ := Y1.keep (k := 0) (o := SetTO X.prog X.w A L) hA
        refine ⟨A, L, ssLen xs, 1000, rfl, upd_same, fun p hp => ((hk p (hsub p hp)).mono x2.g).1, o2, fun p hp => bd _ (hxs p (hsub p hp)), fun L' P pm nd few pw hP => ?_⟩
        have mL : ∀ q ∈ L', q ∈ ks := fun q hq => hsub q (pm.mem_iff.mp hq)
        have eL : L'.map (·.2) = ssL xs := by
          refine List.Perm.eq_of_pairwise (le := fun a b => codeL a ≤ codeL b) (fun a b ha hb h1 h2 => ?_) ?_ (ssL_sorted xs) ?_
          · obtain ⟨qa, hqa, rfl⟩ := List.mem_map.mp ha
            have ba := bd _ (hxs qa (mL qa hqa))
            have bb := bd b (ssL_mem.mp hb)
            rw [codeL_eq, codeL_eq] at h1 h2
            exact code_inj (ba.1.trans bb.1.symm) ba.2 bb.2 (by omega)
          · refine List.pairwise_map.mpr (pw.imp fun {a b} h => ?_)
            rw [codeL_eq, codeL_eq]
            exact h
          · rw [List.perm_ext_iff_of_nodup nd (ssL_nodup xs)]
            intro x
            rw [ssL_mem]
            constructor
            · intro hx
              obtain ⟨q, hq, rfl⟩ := List.mem_map.mp hx
              exact hxs q (mL q hq)
            · intro hx
              rw [← ek] at hx
              obtain ⟨p, hp, rfl⟩ := List.mem_map.mp hx
              obtain ⟨p', hp', e'⟩ := List.mem_map.mp (hall p hp)
              exact List.mem_map.mpr ⟨p', pm.mem_iff.mpr hp', e'⟩
        obtain ⟨Y3, x3⟩ := Y2.frz (o := .lst (L'.map fun q => V.ref q.1)) hP
        refine h2 _ _ _ _ (x2.trans x3) Y3 ⟨P, _, rfl, ⟨SqL.of upd_same, .inl (if_pos rfl)⟩, ?_⟩
        rw [← eL, List.map_map]
        exact atDs_tups L' fun q hq => ((hk q (mL q hq)).mono x2.g).mono x3.g
      · rw [if_neg ok] at e; cases e
end
end Pyi
/-! Pi3: x.join(e), dict(e). -/
namespace Pyi
open PySem PySem.Spec PyProof.Rows L2
variable [Gd]
def jnObj : Expr → Bool
  | .Constant _ _ _ => true
  | _ => false
section
variable {X : Cx} {E : XK} {K : PySem.W.Frag} {F : Addr → Nat} {H : Hp}
theorem of_strs : ∀ {ds : List D} {vs : List V} {ns : List Str}, AtDs K F H ds vs → strsD ds = some ns → vs = ns.map V.str
  | [], vs, ns, h, e => by
    cases e
    exact h
  | .str i :: ds, vs, ns, h, e => by
    obtain ⟨v, r, rfl, h1, h2⟩ := h
    obtain ⟨m, e2, rfl⟩ := map_some e
    rw [of_strs h2 e2]
    cases (show v = .str i from h1)
    rfl
  | .non :: ds, vs, ns, h, e => by cases e
  | .bl _ :: ds, vs, ns, h, e => by cases e
  | .int _ :: ds, vs, ns, h, e => by cases e
  | .tup _ :: ds, vs, ns, h, e => by cases e
  | .lst _ :: ds, vs, ns, h, e => by cases e
theorem key_of {n : D} {k : Key} {v : V} (e : keyD n = some k) (h : AtD K F H n v) : v = kV k := by
  cases n with
  | int i => cases e; exact h
  | str i => cases e; exact h
  | _ => cases e
theorem pairs_at : ∀ {ds : List D} {vs : List V} {xs : List (Key × D)}, AtDs K F H ds vs → pairsD ds = some xs → ∃ (ps : List Addr) (kvs : List (Key × V)), vs = ps.map V.ref ∧ AtKV K F H xs kvs ∧ Paired (fun p kv => SqT K H p [kV kv.1, kv.2]) ps kvs
  | [], vs, xs, h, e => by
    cases e
    exact ⟨[], [], h, rfl, .nil⟩
  | d :: ds, vs, xs, h, e => by
    obtain ⟨v, r, rfl, h1, h2⟩ := h
    unfold pairsD at e
    split at e
    · cases ‹_ :: _ = []›
    · rename_i k w ds' heq
      cases heq
      split at e
      · rename_i kk rr e1 e2
        cases e
        obtain ⟨ps, kvs, rfl, g1, g2⟩ := pairs_at h2 e2
        obtain ⟨a, us, rfl, ht, hu⟩ := h1
        obtain ⟨v1, r1, rfl, u1, u2⟩ := hu
        obtain ⟨v2, r2, rfl, w1, w2⟩ := u2
        cases (show r2 = [] from w2)
        cases key_of e1 u1
        exact ⟨a :: ps, (kk, v2) :: kvs, rfl, ⟨v2, kvs, rfl, w1, g1⟩, .cons ht.1 g2⟩
      · cases e
    · cases e
theorem merge_at : ∀ {xs : List (Key × D)} {kvs : List (Key × V)} {as : List (Key × D)} {bs : List (Key × V)}, AtKV K F H xs kvs → AtKV K F H as bs → AtKV K F H (mergeD as xs) (mergeK bs kvs)
  | [], kvs, as, bs, h, g => by
    cases (show kvs = [] from h)
    exact g
  | (k, d) :: xs, kvs, as, bs, h, g => by
    obtain ⟨v, r, rfl, h1, h2⟩ := h
    show AtKV K F H (mergeD (putD as k d) xs) (mergeK (putK bs k v) r)
    exact merge_at h2 (g.put h1)
variable {a b : Expr} {p p2 q pos apos : Pos} {fa fb : Sg → Store → Res W}
theorem jnObj_base {o : Expr} {nm : Str} {env : Env} (h : jnObj o = true) : attributeBase o nm env (eval o env) = eval o env := by
  cases o <;> first
    | rfl
    | cases h
theorem se_jn (ho : PE X a (tE X E fa)) (he : PE X b (tE X E fb)) (hn : noStar b = true) (hb : jnObj a = true) (hline : (apos.endLine == pos.line) = true) :
    PE X (.Call (.Attribute a "join" apos) [b] [] pos) (tE X E fun σ S => (fa σ S).bind fun x S1 => match x with
    | .d (.str x) => (fb σ S1).bind fun w S2 => Res.of S2 (joinW S2 x w)
    | _ => .fail) := by
  refine (pe_join ho he (star_cons hn) (jnObj_base hb) hline).imp fun σ H Q ⟨F, m, S, σd, Y, G, h⟩ => ?_
  refine ⟨F, m, S, σd, Y, G, (Rp.bind h).mono fun F1 m1 H1 S1 x x1 Y1 h1 v hv => ?_⟩
  split at h1
  · rename_i s
    cases (show v = .str s from hv)
    refine ⟨⟨s, rfl⟩, F1, m1, S1, σd, Y1, G.mono x1, (Rp.bind h1).mono fun F2 m2 H2 S2 w x2 Y2 h2 u hu => ?_⟩
    obtain ⟨r, e, h3⟩ := h2.ret
    unfold joinW at e
    obtain ⟨ds, e1, e⟩ := bind_some e
    obtain ⟨ys, e2, e⟩ := bind_some e
    obtain ⟨g, rfl⟩ := guard_some e
    obtain ⟨l, vs, rfl, hd, hs⟩ := hu.seq Y2 e1
    cases of_strs hd e2
    refine ⟨s, l, ys, rfl, rfl, hs.elim .inl (fun z => .inr z.2.1), ?_, h3 _ _ _ _ Ext.refl Y2 rfl⟩
    exact of_decide_eq_true g
  · exact h1.elim
theorem se_di (hc : X.calm = true) (hl : Gl X "dict") (hm : X.mg "dict" = none) (ha : PE X a (tE X E fa)) (hn : noStar a = true) :
    PE X (.Call (.Name "dict" p) [a] [] pos) (tE X E fun σ S => (fa σ S).bind fun w S1 => Res.of S1 (dictW S1 w)) := by
  refine (pe_callTy (p := p) (pos := pos) (call_dictP hc) hl hm (by decide +kernel) (pa_cons ha pa_nil (star_cons hn)) (by decide) (by decide) (star_cons hn) (any_star pos [] rfl)).imp fun σ H Q ⟨F, m, S, σd, Y, G, h⟩ => ?_
  refine ⟨F, m, S, σd, Y, G, (Rp.bind h).mono fun F1 m1 H1 S1 w x1 Y1 h1 v hv => ?_⟩
  obtain ⟨r, e, h2⟩ := h1.ret
  unfold dictW at e
  obtain ⟨ds, e1, e⟩ := bind_some e
  obtain ⟨xs, e2, rfl⟩ := map_some e
  obtain ⟨l, vs, rfl, g1, g2⟩ := hv.lst Y1 e1
  obtain ⟨ps, kvs, rfl, k1, k2⟩ := pairs_at g2 e2
  refine ⟨l, ps, kvs, rfl, g1, k2, fun d hd => ?_⟩
  obtain ⟨Y3, x3⟩ := Y1.frz (o := .dK (mergeK [] kvs)) hd
  exact h2 _ _ _ _ x3 Y3 ⟨d, _, rfl, if_pos rfl, upd_same, AtKV.mono x3.g (merge_at k1 (show AtKV X.K F1 H1 [] [] from rfl))⟩
theorem vws_dp {F : Addr → Nat} {m : List Addr} {H : Hp} {S : Store} (Y : Wd (tbX X) X.K F m H S) : ∀ {ws : List W} {vs : List V} {ds : List D}, AtWs X.K X.mg F m H ws vs → vwsW S ws = some ds → DpAll X.K H vs (toPs ds) ∧ vs.length = ds.length
  | [], vs, ds, h, e => by
    cases (show vs = [] from h)
    cases e
    exact ⟨.nil, rfl⟩
  | w :: ws, vs, ds, h, e => by
    obtain ⟨v, r, rfl, h1, h2⟩ := h
    unfold vwsW at e
    obtain ⟨d, e1, e⟩ := bind_some e
    obtain ⟨es, e2, rfl⟩ := map_some e
    obtain ⟨g1, g2⟩ := vws_dp Y h2 e2
    exact ⟨.cons (h1.vwDp Y e1) g1, by rw [List.length_cons, List.length_cons, g2]⟩
theorem se_rp {es : List Expr} {fs : Sg → Store → Res (List W)} (hg : X.A.guards = some []) (hu : X.A.units + 100 < cLine) (hl : Gl X "repr") (hm : X.mg "repr" = none) (ha : PA X es (tAw X E fs)) :
    PE X (.Call (.Name "repr" p) [.List es q] [] pos) (tE X E fun σ S => (fs σ S).bind fun ws S1 => Res.of S1 (rpW S1 ws)) := by
  have hs := star_cons (env := X.env) (es := []) (show noStar (.List es q) = true from rfl)
  refine (pe_callB (p := p) (pos := pos) (cr_repr hg hu) hl hm (by decide +kernel) (pa_cons (pe_lst ha) pa_nil hs) (by decide) (by decide) hs (any_star pos [] rfl)).imp fun σ H Q ⟨F, m, S, σd, Y, G, h⟩ => ?_
  refine ⟨F, m, S, σd, Y, G, (Rp.bind h).mono fun F1 m1 H1 S1 ws x1 Y1 h1 vs hvs => ?_⟩
  obtain ⟨r, e, h2⟩ := h1.ret
  unfold rpW at e
  obtain ⟨ds, e1, e⟩ := bind_some e
  obtain ⟨g, rfl⟩ := guard_some e
  simp only [Bool.and_eq_true] at g
  obtain ⟨_, hlen⟩ := vws_dp Y1 hvs e1
  refine ⟨by rw [hlen]; exact fit_line g.1, fun a ha => ?_⟩
  obtain ⟨Y3, x3⟩ := Y1.frz (o := .lst vs) ha
  exact ⟨.ref a, .lst ds, rfl, Dp.lst (SqL.of upd_same) (vws_dp Y3 (AtWs.mono x3 hvs) e1).1, g.2, h2 _ _ _ _ x3 Y3 rfl⟩
end
end Pyi
/-! Pi4: dicts whose keys are tuples of ints: sorted(d). -/
namespace Pyi
open PySem PySem.Spec PyProof.Rows L2
variable [Gd]
theorem keys_rows {H : Hp} : ∀ {kvs : List (List Key × V)} {xs : List (List Key × Addr × Value)} {ks : List (List Int)}, KT H kvs xs → kvs.map (·.1) = ks.map (fun k => k.map Sum.inl) →
    ∃ L : List (Addr × List Int), (xs.map fun x => Value.ref x.2.1) = L.map (fun q => Value.ref q.1) ∧ L.map (·.2) = ks ∧ (∀ q ∈ L, H q.1 = some (.tup (q.2.map V.int))) ∧ xs.map (·.1) = ks.map (fun k => k.map Sum.inl) := by
  intro kvs xs ks r
  induction r generalizing ks with
  | nil =>
    intro e
    cases ks with
    | nil => exact ⟨[], rfl, rfl, (fun q hq => by cases hq), rfl⟩
    | cons k ks => cases e
  | @cons p x ps xs h t ih =>
    intro e
    cases ks with
    | nil => cases e
    | cons k ks =>
      rw [List.map_cons, List.map_cons] at e
      injection e with e1 e2
      obtain ⟨L, l1, l2, l3, l4⟩ := ih e2
      refine ⟨(x.2.1, k) :: L, by rw [List.map_cons, List.map_cons, l1], by rw [List.map_cons, l2], fun q hq => ?_, by rw [List.map_cons, List.map_cons, l4, ← h.1, e1]⟩
      rcases List.mem_cons.mp hq with rfl | hq
      · have := h.2.1
        rw [e1, List.map_map] at this
        exact this
      · exact l3 q hq
theorem perm_map' {α β : Type} {f : α → β} {as : List α} {bs : List β} (h : bs.Perm (as.map f)) : ∃ cs : List α, cs.Perm as ∧ bs = cs.map f := by
  induction as generalizing bs with
  | nil => exact ⟨[], .refl _, h.eq_nil⟩
  | cons a as ih =>
    rw [List.map_cons] at h
    have ha : f a ∈ bs := h.symm.subset List.mem_cons_self
    obtain ⟨l1, l2, rfl⟩ := List.append_of_mem ha
    have h2 : (l1 ++ l2).Perm (as.map f) := (List.perm_middle.symm.trans h).cons_inv
    obtain ⟨cs, hp, e⟩ := ih h2
    obtain ⟨c1, c2, rfl, e1, e2⟩ := List.map_eq_append_iff.mp e.symm
    refine ⟨c1 ++ a :: c2, List.perm_middle.trans (hp.cons a), ?_⟩
    rw [List.map_append, List.map_cons, e1, e2]
theorem cr_sortedDT {X : Cx} (hc : X.calm = true) : CallR X (.builtin "sorted") (fun xs H Q => ∃ (a : Addr) (kvs : List (List Key × V)) (ks : List (List Int)) (d : Nat) (B : Int), xs = [.ref a] ∧ Rd H a (.dT kvs) ∧ kvs.map (·.1) = ks.map (fun k => k.map Sum.inl) ∧
    ks.length < 64 ∧ 1 ≤ d ∧ (∀ k ∈ ks, k.length = d ∧ TS.Bd B k) ∧
    ∀ (L' : List (Addr × List Int)) p, (L'.map (·.2)).Perm ks → ks.Nodup → L'.Pairwise (fun q r => TS.code B q.2 ≤ TS.code B r.2) → (∀ q ∈ L', H q.1 = some (.tup (q.2.map V.int))) → H p = none → Q (.ref p) (upd H p (.lst (L'.map fun q => V.ref q.1)))) := by
  intro pins s σ H xs us Q I r h
  obtain ⟨a, kvs, ks, d, B, rfl, ha, hks, h64, hd, hB, q⟩ := h
  obtain ⟨u, rfl, rx⟩ := vals1 r
  cases rx
  obtain ⟨z, hs, xs, pr, o, es, ep, ho, hx, hdt, he, hn⟩ := (show ObjOk X.prog X.w H s.heap a (.dT kvs) from ha.ok I.hok)
  obtain ⟨L, l1, l2, l3, l4⟩ := keys_rows pr hks
  have n1 : es.size = xs.length := size_of_entries he
  have n2 : xs.length = L.length := by
    have := congrArg List.length l1
    rw [List.length_map, List.length_map] at this
    exact this
  have nd : ks.Nodup := by
    rw [l4] at hn
    exact nodup_of_map hn
  have n3 : L.length = ks.length := by rw [← l2, List.length_map]
  refine Calls.call_function_entry PyProof.Rows.kind_sorted PyProof.Rows.plain_sorted PyProof.Rows.entry_sorted (PyProof.Rows.args_sorted1 _) ?_
  unfold Builtin.«sorted»
  refine wpAny_bind (m := checkCount "sorted" 1 1 _) (wpAny_pure ?_)
  refine wpAny_bind (PySem.W.kdu_collect (A := X.A.in1) (kdl_raw hs hx hdt) (I.ok.hd hc) ho (by rw [sizeLine_eq]; omega) fun h' tk acc hk hacc => ?_)
  have ea : acc.toList = L.map fun q => Value.ref q.1 := by
    rw [← l1]
    have hl : acc.toList.length = xs.length := by rw [Array.length_toList, hacc.1]; exact n1
    apply List.ext_getElem?
    intro j
    rw [List.getElem?_map]
    cases hj : acc.toList[j]? with
    | none =>
      have h1 := List.getElem?_eq_none_iff.mp hj
      rw [List.getElem?_eq_none (by omega)]
      all_goals rfl
    | some v =>
      obtain ⟨en, hen, hv⟩ := hacc.2 j v (by rw [← Array.getElem?_toList]; exact hj)
      have qe := entry_at he j
      rw [hen] at qe
      cases hb : xs[j]? with
      | none =>
        rw [hb] at qe
        exact nomatch (show some en = none from qe)
      | some b =>
        rw [hb] at qe
        have e2 : en = entryOfKey (tupleKind (mixKind X.prog X.w)) b := Option.some.inj qe
        rw [hv, e2]
        all_goals rfl
  have hal : acc.toList.length < 64 := by rw [ea, List.length_map]; omega
  have I1 : Inv X pins σ H { s with heap := h', toks := tk } := I.kept hk
  refine wpAny_bind (wpAny_newList ?_ (by rw [sizeLine_eq]; omega))
  have hoL : (h'.push (seqObj "list" acc.toList.toArray 0)).get? h'.objs.size = some (seqObj "list" acc.toList.toArray 0) := Heap.get?_push_size _ rfl
  have tk' : ∀ q ∈ L, TS.TupInts (h'.push (seqObj "list" acc.toList.toArray 0)) (.ref q.1) q.2 := fun q hq => tupInts_of (P := X.prog) (w := X.w) (isT_keep (I1.isT (SqT.of (l3 q hq))) fun b u e => Heap.get?_push_of_some _ e)
  have x : TS.TupsOk (h'.push (seqObj "list" acc.toList.toArray 0)) d B acc.toList := fun v hv => by
    rw [ea] at hv
    obtain ⟨q, hq, e⟩ := List.mem_map.mp hv
    rw [← e]
    have := hB q.2 (by rw [← l2]; exact List.mem_map.mpr ⟨q, hq, rfl⟩)
    exact ⟨q.2, tk' q hq, this.1, this.2⟩
  show wpAny _ _ _ _ _ { s with heap := h'.push (seqObj "list" acc.toList.toArray 0), toks := tk }
  refine wpAny_bind (wpAny_holding (TS.call_sort_tups (s := { s with heap := h'.push (seqObj "list" acc.toList.toArray 0), toks := tk }) hoL hal hd x fun out a1 a2 => ?_))
  obtain ⟨c, hcc⟩ := PyProof.Rows.sortedHeap_at (vs := acc.toList) (out := out) hoL
  obtain ⟨L', pL, e'⟩ : ∃ L' : List (Addr × List Int), L'.Perm L ∧ out.toList = L'.map fun q => Value.ref q.1 := by
    rw [ea] at a1
    obtain ⟨L', p, e⟩ := perm_map' a1
    exact ⟨L', p, e⟩
  have hs' : ∀ q ∈ L', q ∈ L := fun q hq => pL.mem_iff.mp hq
  have pw : L'.Pairwise (fun q r => TS.code B q.2 ≤ TS.code B r.2) := by
    rw [e'] at a2
    refine List.Pairwise.imp_of_mem (fun {q r} hq hr hle => ?_) (List.pairwise_map.mp a2)
    have f1 : TS.intsOf (h'.push (seqObj "list" acc.toList.toArray 0)) (.ref q.1) = q.2 := (tk' q (hs' q hq)).ints
    have f2 : TS.intsOf (h'.push (seqObj "list" acc.toList.toArray 0)) (.ref r.1) = r.2 := (tk' r (hs' r hr)).ints
    rw [← f1, ← f2]
    exact hle
  have hlen : (L'.map fun q => V.ref q.1).length ≤ sizeLine := by rw [List.length_map, pL.length_eq, sizeLine_eq]; omega
  have hv : Vals (L'.map fun q => V.ref q.1) out.toList := by rw [e']; exact vals_of_refs L'
  refine wpAny_pure ⟨_, rfl, .ref h'.objs.size, upd H h'.objs.size (.lst (L'.map fun q => V.ref q.1)), I1.laid (t' := tk) (fun b u e => ?_) (Nat.le_refl _)
    (show ObjOk X.prog X.w _ _ _ (.lst (L'.map fun q => V.ref q.1)) from ⟨hlen, out.toList, c, hv, by rw [Array.toArray_toList]; exact hcc⟩), rfl, q L' _ (by rw [← l2]; exact pL.map _) nd pw (fun q hq => l3 q (hs' q hq)) (I1.hok.fresh (Nat.le_refl _))⟩
  have hb : b < h'.objs.size := Heap.lt_size e
  rw [PyProof.Rows.sortedHeap_old (Nat.ne_of_lt hb) (by rw [size_push']; exact Nat.lt_succ_of_lt hb)]
  exact Heap.get?_push_of_some _ e
section
variable {X : Cx} {E : XK} {F : Addr → Nat} {m : List Addr} {S : Store} {H : Hp}
/-- what stands there is held from now on -/
theorem hold_all {as : List Addr} (Y : Wd (tbX X) X.K F m H S) (h : ∀ a ∈ as, ∃ vs, H a = some (.tup vs)) : ∃ F', Ext F m H F' m H ∧ Wd (tbX X) X.K F' m H S ∧ ∀ a ∈ as, F' a = 1 := by
  have hx : Ext F m H (fun a => if a ∈ as ∧ F a = 0 then 1 else F a) m H := .of (fun a ha => ⟨if_neg fun z => ha z.2, rfl⟩) (List.prefix_refl _)
  refine ⟨fun a => if a ∈ as ∧ F a = 0 then 1 else F a, hx, ⟨Y.len, Y.nd, fun a ha => ?_, fun a hF => ?_, fun i a c h1 h2 => (Y.cell i a c h1 h2).mono hx.g, fun a ha => ?_, fun a vs hv => ?_⟩, fun a ha => ?_⟩
  · have hn : a ∉ as := fun z => by
      obtain ⟨vs, e⟩ := h a z
      obtain ⟨i, hi⟩ := List.getElem?_of_mem ha
      have hl : i < S.length := by rw [← Y.len]; exact (List.getElem?_eq_some_iff.mp hi).1
      have q := Y.cell i a _ hi (List.getElem?_eq_getElem hl)
      rw [e] at q
      generalize S[i] = cc at q
      cases cc with
      | lst ds => obtain ⟨_, z, _⟩ := q; cases z
      | dct ds => obtain ⟨_, z, _⟩ := q; cases z
      | tks ds => obtain ⟨_, z, _⟩ := q; cases z
    rw [if_neg fun z => hn z.1]
    exact Y.nF a ha
  · by_cases z : a ∈ as
    · obtain ⟨vs, e⟩ := h a z
      rw [e]
      exact fun z => by cases z
    · rw [if_neg fun q => z q.1] at hF
      exact Y.Fs a hF
  · obtain ⟨t1, t2⟩ := Y.tab a ha
    refine ⟨?_, t2.mono hx.g rfl⟩
    rw [if_neg fun z => by rw [t1] at z; exact absurd z.2 (by decide)]
    exact t1
  · split
    · exact Nat.le_refl _
    · exact Y.tup a vs hv
  · obtain ⟨vs, e⟩ := h a ha
    have := Y.tup a vs e
    dsimp only
    split
    · rfl
    · rename_i z
      by_cases z0 : F a = 0
      · exact absurd ⟨ha, z0⟩ z
      · omega
variable {a b : Expr} {p pos : Pos} {fa fb : Sg → Store → Res W}
theorem se_sdt (hc : X.calm = true) (hl : Gl X "sorted") (hm : X.mg "sorted" = none) (ha : PE X a (tE X E fa)) (hn : noStar a = true) :
    PE X (.Call (.Name "sorted" p) [a] [] pos) (tE X E fun σ S => (fa σ S).bind fun w S1 => Res.of S1 (sdtW S1 w)) := by
  refine (pe_callB (p := p) (pos := pos) (cr_sortedDT hc) hl hm (by decide +kernel) (pa_cons ha pa_nil (star_cons hn)) (by decide) (by decide) (star_cons hn) (any_star pos [] rfl)).imp fun σ H Q ⟨F, m, S, σd, Y, G, h⟩ => ?_
  refine ⟨F, m, S, σd, Y, G, (Rp.bind h).mono fun F1 m1 H1 S1 w x1 Y1 h1 v hv => ?_⟩
  obtain ⟨r, e, h2⟩ := h1.ret
  unfold sdtW at e
  cases w with
  | ref i =>
    dsimp only at e
    obtain ⟨A, g1, rfl⟩ := hv
    cases c : S1[i]? with
    | none => rw [c] at e; cases e
    | some cc =>
      rw [c] at e
      cases cc with
      | tks ks =>
        dsimp only at e
        by_cases ok : ssOk ks = true
        · rw [if_pos ok] at e
          cases e
          obtain ⟨vs, g2, g3⟩ := Y1.cell i A _ g1 c
          unfold ssOk at ok
          simp only [Bool.and_eq_true, decide_eq_true_eq, List.all_eq_true] at ok
          obtain ⟨⟨o1, o2⟩, o3⟩ := ok
          have bd : ∀ x ∈ ks, x.length = ssLen ks ∧ TS.Bd 1000 x := fun x hx => ⟨(o3 x hx).1, fun i hi => (o3 x hx).2 i hi⟩
          refine ⟨A, vs, ks, ssLen ks, 1000, rfl, .inl g2, g3, o1, o2, bd, fun L' P pm nd pw hk hP => ?_⟩
          have eL : L'.map (·.2) = ssL ks := by
            refine List.Perm.eq_of_pairwise (le := fun a b => codeL a ≤ codeL b) (fun a b ha hb h1 h2 => ?_) ?_ (ssL_sorted ks) ?_
            · have ba := bd a (pm.mem_iff.mp ha)
              have bb := bd b (ssL_mem.mp hb)
              rw [codeL_eq, codeL_eq] at h1 h2
              exact code_inj (ba.1.trans bb.1.symm) ba.2 bb.2 (by omega)
            · refine List.pairwise_map.mpr (pw.imp fun {a b} h => ?_)
              rw [codeL_eq, codeL_eq]
              exact h
            · rw [List.perm_ext_iff_of_nodup (pm.nodup_iff.mpr nd) (ssL_nodup ks)]
              intro x
              rw [ssL_mem]
              exact pm.mem_iff
          obtain ⟨F2, x2, Y2, hF⟩ := hold_all (as := L'.map (·.1)) Y1 fun q hq => by
            obtain ⟨z, hz, rfl⟩ := List.mem_map.mp hq
            exact ⟨_, hk z hz⟩
          obtain ⟨Y3, x3⟩ := Y2.frz (o := .lst (L'.map fun q => V.ref q.1)) hP
          refine h2 _ _ _ _ (x2.trans x3) Y3 ⟨P, _, rfl, ⟨SqL.of upd_same, .inl (if_pos rfl)⟩, ?_⟩
          rw [← eL, List.map_map]
          exact atDs_tups L' fun q hq => TupF.mono x3.g ⟨SqT.of (hk q hq), .inl (hF _ (List.mem_map.mpr ⟨q, hq, rfl⟩))⟩
        · rw [if_neg ok] at e
          cases e
      | _ => cases e
  | _ => cases e
end
end Pyi
/-! Pj0: zip of three, lists or tuples. -/
namespace Pyi
open PySem PySem.Spec PyProof.Rows L2
/-- a list, or a tuple -/
def IsSrc (b : Bool) (h : Heap) (a : Addr) (its : Array Value) : Prop := match b with
  | true => h.IsTuple a its
  | false => h.IsList a its
def IsItr (b : Bool) (h : Heap) (it a : Addr) (i : Nat) : Prop := match b with
  | true => h.IsTupleIter it a i
  | false => h.IsListIter it a i
def objItr (b : Bool) (a : Addr) : Obj := match b with
  | true => { cls := .type "tuple_iterator", data := .fields #[.ref a, .int 0 0] }
  | false => { cls := .type "list_iterator", data := .fields #[.ref a, .int 0 0] }
theorem draws_src {prog : Program} {w : World} {A : Around} (hh : A.handled = none) (b : Bool) (it a : Addr) (hne : a ≠ it) (its : Array Value) :
    Draws prog w A it [it, a] its.size (fun i v => its[i]? = some v) (fun i h => IsItr b h it a i ∧ IsSrc b h a its) := by
  cases b
  · exact Draws.list hh it a hne its
  · exact Draws.tuple hh it a hne its
theorem begins_src (b : Bool) (a : Addr) (its : Array Value) : Begins (.ref a) (objItr b a) fun h => IsSrc b h a its := by
  cases b
  · exact begins_list a its
  · exact begins_tuple a its
theorem itr_new {b : Bool} {h : Heap} {it a : Addr} (e : h.get? it = some (objItr b a)) : IsItr b h it a 0 := by
  cases b
  · exact ⟨_, e, rfl, rfl⟩
  · exact ⟨_, e, rfl, rfl⟩
theorem itr_obj {b : Bool} {h : Heap} {it a : Addr} {i : Nat} (e : IsItr b h it a i) : ∃ o, h.get? it = some o ∧ ∀ v, o.data ≠ .cell v := by
  cases b
  · obtain ⟨o, e, c, d⟩ := e
    exact ⟨o, e, fun v z => by rw [d] at z; cases z⟩
  · obtain ⟨o, e, c, d⟩ := e
    exact ⟨o, e, fun v z => by rw [d] at z; cases z⟩
theorem itr_at {b : Bool} {h h' : Heap} {it a : Addr} {i : Nat} (e : IsItr b h it a i) (k : ∀ o, h.get? it = some o → h'.get? it = some o) : IsItr b h' it a i := by
  cases b
  · exact Heap.IsListIter.at e k
  · exact Heap.IsTupleIter.at e k
def SqS (K : PySem.W.Frag) (H : Hp) (b : Bool) (a : Addr) (xs : List V) : Prop := match b with
  | true => SqT K H a xs
  | false => SqL K H a xs
theorem sq_src {X : Cx} {pins : List (Addr × Obj)} {σ : L2.St} {H : Hp} {s : Shared} (I : Inv X pins σ H s) {b : Bool} {a : Addr} {xs : List V} (h : SqS X.K H b a xs) : ∃ its : List Value, Vals xs its ∧ IsSrc b s.heap a its.toArray ∧ a < s.heap.objs.size := by
  cases b
  · obtain ⟨its, rv, p, _⟩ := I.list h
    exact ⟨its, rv, p.isList, p.lt⟩
  · obtain ⟨its, rv, p, _⟩ := I.tuple h
    obtain ⟨o1, ho1, _⟩ := id p
    exact ⟨its, rv, p, Heap.lt_size ho1⟩
theorem sq_inj {X : Cx} {pins : List (Addr × Obj)} {σ : L2.St} {H : Hp} {s : Shared} (I : Inv X pins σ H s) {b : Bool} {a : Addr} {xs ys : List V} (h : SqS X.K H b a xs) (h2 : SqS X.K H b a ys) : xs = ys := by
  cases b
  · exact I.list_inj h h2
  · exact I.tuple_inj h h2
/-- what stands at three places, the items in new triples -/
def Itz3 (K : PySem.W.Frag) (k1 k2 k3 : Bool) (a b c : Addr) (xs ys zs : List V) : It :=
  ⟨fun i H => SqS K H k1 a xs ∧ SqS K H k2 b ys ∧ SqS K H k3 c zs ∧ ∃ x y z : V, xs[i]? = some x ∧ ys[i]? = some y ∧ zs[i]? = some z,
    fun i H v H' => ∃ T x y z, v = .ref T ∧ H T = none ∧ H' = upd H T (.tup [x, y, z]) ∧ xs[i]? = some x ∧ ys[i]? = some y ∧ zs[i]? = some z,
    fun i H => SqS K H k1 a xs ∧ SqS K H k2 b ys ∧ SqS K H k3 c zs ∧ (xs.length ≤ i ∨ ys.length ≤ i ∨ zs.length ≤ i)⟩
theorem sep3 {n a b c : Nat} (ha : a < n) (hb : b < n) (hc : c < n) : ZipSep3 (n + 5) (n + 3) (n + 4) n (n + 1) (n + 2) [n, a] [n + 1, b] [n + 2, c] := by
  have key : ∀ x y z : Nat, x ≠ y → x ≠ z → x ∉ [y, z] := fun x y z p q h => by
    rcases List.mem_cons.mp h with h | h
    · exact p h
    · exact q (List.mem_singleton.mp h)
  constructor <;> first
    | (exact key _ _ _ (by omega) (by omega))
    | (exact List.mem_cons_self ..)
    | (refine (show ∀ x y : Nat, ¬ x = y → x ≠ y from fun _ _ h => h) _ _ ?_; omega)
theorem turn_zip3 {P : Program} {w : World} {K : PySem.W.Frag} {elts : List Expr} {kk : Nat} {tpos : Pos} {n a b c : Addr} {k1 k2 k3 : Bool} {xs ys zs : List V} (ha : a < n) (hb : b < n) (hc : c < n) :
    Turn P w K (.Tuple elts kk tpos) (Itz3 K k1 k2 k3 a b c xs ys zs) [n + 5, n + 3, n + 4, n, n + 1, n + 2] (n + 5) (fun i h => IsZip h (n + 5) (n + 3) (n + 4) .none ∧ IsTupOf3 h (n + 3) (.ref n) (.ref (n + 1)) (.ref (n + 2)) ∧ (∃ x y z, IsTupOf3 h (n + 4) x y z) ∧ IsItr k1 h n a i ∧ IsItr k2 h (n + 1) b i ∧ IsItr k3 h (n + 2) c i ∧ i ≤ xs.length ∧ i ≤ ys.length ∧ i ≤ zs.length) where
  mem := List.mem_cons_self ..
  obj := fun i h st e he => by
    obtain ⟨hz, hTI, ⟨x, y, z, hTO⟩, h1, h2, h3, _⟩ := st
    rcases List.mem_cons.mp he with q | he
    · rw [q]; exact ⟨_, hz, fun v q => nomatch q⟩
    rcases List.mem_cons.mp he with q | he
    · rw [q]; exact ⟨_, hTI, fun v q => nomatch q⟩
    rcases List.mem_cons.mp he with q | he
    · rw [q]; exact ⟨_, hTO, fun v q => nomatch q⟩
    rcases List.mem_cons.mp he with q | he
    · rw [q]; exact itr_obj h1
    rcases List.mem_cons.mp he with q | he
    · rw [q]; exact itr_obj h2
    · rw [List.mem_singleton.mp he]; exact itr_obj h3
  keep := fun i h h' st k => by
    obtain ⟨hz, hTI, ⟨x, y, z, hTO⟩, h1, h2, h3, hle⟩ := st
    exact ⟨k _ (by simp) _ hz, k _ (by simp) _ hTI, ⟨x, y, z, k _ (by simp) _ hTO⟩, itr_at h1 fun o q => k _ (by simp) o q, itr_at h2 fun o q => k _ (by simp) o q, itr_at h3 fun o q => k _ (by simp) o q, hle⟩
  item := by
    intro X hP hw hK hcalm i pins s σ H E I hf st hg
    subst hP hw hK
    obtain ⟨hz, hTI, ⟨x0, y0, z0, hTO⟩, h1, h2, h3, _⟩ := st
    obtain ⟨hqx, hqy, hqz, x, y, z, hx, hy, hzz⟩ := hg
    have m1 : i < xs.length := (List.getElem?_eq_some_iff.mp hx).1
    have m2 : i < ys.length := (List.getElem?_eq_some_iff.mp hy).1
    have m3 : i < zs.length := (List.getElem?_eq_some_iff.mp hzz).1
    obtain ⟨its, rv, p, _⟩ := sq_src I hqx
    obtain ⟨its2, rv2, p2, _⟩ := sq_src I hqy
    obtain ⟨its3, rv3, p3, _⟩ := sq_src I hqz
    obtain ⟨u, hu, ru⟩ := rv.get hx
    obtain ⟨u2, hu2, ru2⟩ := rv2.get hy
    obtain ⟨u3, hu3, ru3⟩ := rv3.get hzz
    have S := sep3 ha hb hc
    have hh : X.A.in1.handled = none := I.ok.hd hcalm
    have zlt : n + 5 < s.heap.objs.size := Heap.lt_size hz
    have l1 : i < its.toArray.size := by simpa using (List.getElem?_eq_some_iff.mp hu).1
    have l2 : i < its2.toArray.size := by simpa using (List.getElem?_eq_some_iff.mp hu2).1
    have l3 : i < its3.toArray.size := by simpa using (List.getElem?_eq_some_iff.mp hu3).1
    refine wpAny_pyNext_zipD3_item S (draws_src hh k1 n a (Nat.ne_of_lt ha) its.toArray) (draws_src hh k2 (n + 1) b (Nat.ne_of_lt (Nat.lt_succ_of_lt hb)) its2.toArray) (draws_src hh k3 (n + 2) c (Nat.ne_of_lt (Nat.lt_succ_of_lt (Nat.lt_succ_of_lt hc))) its3.toArray) hz hTI hTO ⟨h1, p⟩ ⟨h2, p2⟩ ⟨h3, p3⟩ l1 l2 l3 fun w1 w2 w3 h' tk y1 y2 y3 b1 b2 d1 d2 d3 b5 b6 hk => ?_
    have e1 : w1 = u := by
      have : some w1 = some u := by rw [← y1, ← hu]; simp
      exact Option.some.inj this
    have e2 : w2 = u2 := by
      have : some w2 = some u2 := by rw [← y2, ← hu2]; simp
      exact Option.some.inj this
    have e3 : w3 = u3 := by
      have : some w3 = some u3 := by rw [← y3, ← hu3]; simp
      exact Option.some.inj this
    subst e1 e2 e3
    refine ⟨_, rfl, wpAny_letOwnedTupleGo_zip (s := { s with heap := h', toks := tk }) b1 fun h'' z'' sb => ?_⟩
    have hT2 : h''.get? s.heap.objs.size = some { cls := .type "tuple", data := .seq #[w1, w2, w3] } := (sb.2 _ (Nat.ne_of_gt zlt)).trans b5
    have new : ObjOk X.prog X.w (upd H s.heap.objs.size (.tup [x, y, z])) h'' s.heap.objs.size (.tup [x, y, z]) :=
      ⟨by show 3 ≤ sizeLine; decide, [w1, w2, w3], .cons ru (.cons ru2 (.cons ru3 .nil)), ⟨_, hT2, rfl, _, rfl⟩⟩
    have I1 : Inv X pins σ (upd H s.heap.objs.size (.tup [x, y, z])) { s with heap := h'', toks := tk } :=
      I.turnedNew (t' := tk) (ch := [n + 5, n + 3, n + 4, n, n + 1, n + 2]) (fun e o hb' q => (sb.2 e (fun q' => hb' (by simp [q']))).trans (hk e o (fun q' => hb' (by simp [q'])) (fun q' => hb' (by simp [q'])) (fun q' => hb' (by simp [q'])) (fun q' => hb' (by simp [q'])) (fun q' => hb' (by simp [q'])) q)) hf (Nat.le_refl _) new
    refine ⟨.ref s.heap.objs.size, _, I1, rfl, ⟨_, x, y, z, rfl, I.hok.fresh (Nat.le_refl _), rfl, hx, hy, hzz⟩, ⟨z'', ?_, ⟨w1, w2, w3, ?_⟩, ?_, ?_, ?_, m1, m2, m3⟩, fun e he => ?_⟩
    · exact (sb.2 _ S.TIz).trans (hk _ _ S.TIz S.TITO S.TIi1 S.TIi2 S.TIi3 hTI)
    · exact (sb.2 _ S.TOz).trans b2
    · exact itr_at d1.1 fun o q => (sb.2 _ S.zi1.symm).trans q
    · exact itr_at d2.1 fun o q => (sb.2 _ S.zi2.symm).trans q
    · exact itr_at d3.1 fun o q => (sb.2 _ S.zi3.symm).trans q
    · have hlt : e < s.heap.objs.size := by
        rcases List.mem_cons.mp he with q | he
        · rw [q]; exact zlt
        rcases List.mem_cons.mp he with q | he
        · rw [q]; exact Heap.lt_size hTI
        rcases List.mem_cons.mp he with q | he
        · rw [q]; exact Heap.lt_size hTO
        rcases List.mem_cons.mp he with q | he
        · rw [q]; obtain ⟨_, e1, _⟩ := itr_obj h1; exact Heap.lt_size e1
        rcases List.mem_cons.mp he with q | he
        · rw [q]; obtain ⟨_, e1, _⟩ := itr_obj h2; exact Heap.lt_size e1
        · rw [List.mem_singleton.mp he]; obtain ⟨_, e1, _⟩ := itr_obj h3; exact Heap.lt_size e1
      rw [upd_ne (Nat.ne_of_lt hlt)]
      exact (hf e he).1
  done := by
    intro X hP hw hK hcalm i pins s σ H E I hf st hg
    subst hP hw hK
    obtain ⟨hz, hTI, ⟨x0, y0, z0, hTO⟩, h1, h2, h3, hi1, hi2, hi3⟩ := st
    obtain ⟨hqx, hqy, hqz, hend⟩ := hg
    obtain ⟨its, rv, p, _⟩ := sq_src I hqx
    obtain ⟨its2, rv2, p2, _⟩ := sq_src I hqy
    obtain ⟨its3, rv3, p3, _⟩ := sq_src I hqz
    have l1 : its.toArray.size = xs.length := by simpa using rv.length.symm
    have l2 : its2.toArray.size = ys.length := by simpa using rv2.length.symm
    have l3 : its3.toArray.size = zs.length := by simpa using rv3.length.symm
    have S := sep3 ha hb hc
    have hh : X.A.in1.handled = none := I.ok.hd hcalm
    exact wpAny_pyNext_zipD3_end S (draws_src hh k1 n a (Nat.ne_of_lt ha) its.toArray) (draws_src hh k2 (n + 1) b (Nat.ne_of_lt (Nat.lt_succ_of_lt hb)) its2.toArray) (draws_src hh k3 (n + 2) c (Nat.ne_of_lt (Nat.lt_succ_of_lt (Nat.lt_succ_of_lt hc))) its3.toArray) hz hTI hTO ⟨h1, p⟩ ⟨h2, p2⟩ ⟨h3, p3⟩ (by omega) (by omega) (by omega) (by omega) fun h' tk hk => ⟨rfl, I.turnedL (t' := tk) (ch := [n + 5, n + 3, n + 4, n, n + 1, n + 2]) (fun e o hb' q =>
      hk e o (fun q' => hb' (by simp [q'])) (fun q' => hb' (by simp [q'])) (fun q' => hb' (by simp [q'])) (fun q' => hb' (by simp [q'])) (fun q' => hb' (by simp [q'])) q) hf⟩
  self := fun A i s Q E st h => wpAny_pyIter_zip st.1 h
def iZip3 (K : PySem.W.Frag) (ta : TA) : TI := fun σ H R => ta σ H fun vs H1 => ∃ k1 k2 k3 a b c xs ys zs, vs = [.ref a, .ref b, .ref c] ∧ SqS K H1 k1 a xs ∧ SqS K H1 k2 b ys ∧ SqS K H1 k3 c zs ∧ R (Itz3 K k1 k2 k3 a b c xs ys zs) H1
theorem pi_zip3 {X : Cx} {e e2 e3 : Expr} {ta : TA} {p pos tpos : Pos} {elts : List Expr} {kk : Nat} (hg : Gl X "zip") (hm : X.mg "zip" = none) (ha : PA X [e, e2, e3] ta)
    (hs : starEach [e, e2, e3] X.env = (false, eval e X.env) :: starEach [e2, e3] X.env := by rfl) (hpl : (backTo pos (starEach [e2, e3] X.env)).any (·.1) = false := by rfl) :
    PI X (.Tuple elts kk tpos) (.Call (.Name "zip" p) [e, e2, e3] [] pos) (iZip3 X.K ta) := by
  refine ⟨fun pins s σ H R I h => ?_⟩
  refine Call_ (ld_blt I hg hm PyProof.Rows.boot_zip (PyProof.Rows.callWith_type1 (thn (ha.run pos pins s σ H _ I h) fun us s1 ⟨vs, H1, I1, r1, q1⟩ => ?_) hs hpl))
  obtain ⟨k1, k2, k3, a, b, c, xs, ys, zs, ex, hqx, hqy, hqz, q⟩ := q1
  subst ex
  cases r1 with
  | cons r rr =>
    cases rr with
    | cons r' rr =>
      cases rr with
      | cons r'' rr =>
        cases rr
        cases r
        cases r'
        cases r''
        have fresh6 : ∀ e, e ∈ [s1.heap.objs.size + 5, s1.heap.objs.size + 3, s1.heap.objs.size + 4, s1.heap.objs.size, s1.heap.objs.size + 1, s1.heap.objs.size + 2] → FpOk X pins H1 e := fun e he => by
          have hle : s1.heap.objs.size ≤ e := by
            rcases List.mem_cons.mp he with z | he
            · rw [z]; exact Nat.le_add_right _ _
            rcases List.mem_cons.mp he with z | he
            · rw [z]; exact Nat.le_add_right _ _
            rcases List.mem_cons.mp he with z | he
            · rw [z]; exact Nat.le_add_right _ _
            rcases List.mem_cons.mp he with z | he
            · rw [z]; exact Nat.le_refl _
            rcases List.mem_cons.mp he with z | he
            · rw [z]; exact Nat.le_add_right _ _
            · rw [List.mem_singleton.mp he]; exact Nat.le_add_right _ _
          exact I1.fpOk hle (I1.hok.fresh hle)
        obtain ⟨its, rv, p1, t1⟩ := sq_src I1 hqx
        obtain ⟨its2, rv2, p2, t2⟩ := sq_src I1 hqy
        obtain ⟨its3, rv3, p3, t3⟩ := sq_src I1 hqz
        refine zip_begins3 (begins_src k1 a its.toArray) (begins_src k2 b its2.toArray) (begins_src k3 c its3.toArray) p1 p2 p3 fun h' hz hTI hTO h1 h2 h3 hsz hk => wpAny_pyIter_zip hz ?_
        have I2 : Inv X pins σ H1 { s1 with heap := h' } := I1.kept (t' := s1.toks) hk
        exact ⟨s1.heap.objs.size + 5, [s1.heap.objs.size + 5, s1.heap.objs.size + 3, s1.heap.objs.size + 4, s1.heap.objs.size, s1.heap.objs.size + 1, s1.heap.objs.size + 2], _, _, H1, rfl, I2, turn_zip3 t1 t2 t3, ⟨hz, hTI, ⟨_, _, _, hTO⟩, itr_new h1, itr_new h2, itr_new h3, Nat.zero_le _, Nat.zero_le _, Nat.zero_le _⟩, fresh6, q⟩
end Pyi
/-! Pj: isinstance; what is walked; targets. -/
namespace Pyi
open PySem PySem.Spec PyProof.Rows L2
variable [Gd]
section
variable {X : Cx} {E : XK} {a b e : Expr} {pos p : Pos} {es : List Expr} {fa fb : Sg → Store → Res W} {fs : Sg → Store → Res (List W)}
/-! ### isinstance -/
def isiTys : List String := ["int", "bool", "str", "tuple", "list"]
theorem cr_isi {t : String} (ht : t ∈ isiTys) : CallR X (.builtin "isinstance") (fun xs H Q => ∃ x d, xs = [x, .ty t] ∧ Dp X.K H x d.toP ∧ Q (.bl (isiD t d)) H) := by
  intro pins s σ H xs us Q I r ⟨x, d, e, hd, q⟩
  subst e
  obtain ⟨u, u2, rfl, r1, r2⟩ := vals2 r
  cases (show u2 = Value.type t from r2)
  obtain ⟨as, rd⟩ := Dp.reads I d.toP x u hd r1
  have fin : ∀ (k : Bool) tk, k = isiD t d → EP X pins σ Q (.bool k) { s with toks := tk } := fun k tk e => ⟨.bl k, H, I.tok tk, rfl, by rw [e]; exact q⟩
  simp only [isiTys, List.mem_cons, List.not_mem_nil, or_false] at ht
  rcases ht with rfl | rfl | rfl | rfl | rfl
  · exact PySem.W.isinstance_int_data rd fun tk _ => fin _ tk (by cases d <;> (rw [D.toP]; rfl))
  · exact PySem.W.isinstance_bool_data rd fun tk _ => fin _ tk (by cases d <;> (rw [D.toP]; rfl))
  · exact PySem.W.isinstance_str_data rd fun tk _ => fin _ tk (by cases d <;> (rw [D.toP]; rfl))
  · exact PySem.W.isinstance_tuple_data rd fun tk _ => fin _ tk (by cases d <;> (rw [D.toP]; rfl))
  · exact PySem.W.isinstance_list_data rd fun tk _ => fin _ tk (by cases d <;> (rw [D.toP]; rfl))
/-- isinstance(e, T), T one built-in class -/
theorem se_isi {t : String} {tn : Str} {p2 : Pos} (ht : t ∈ isiTys) (hl : Gl X "isinstance") (hm : X.mg "isinstance" = none) (hl2 : Gl X tn) (hm2 : X.mg tn = none) (hv : bootBuiltins tn = some (.type t)) (hnn : tn ≠ "__name__") (hdb : (tn == ("__debug__" : Str)) = false)
    (ha : PE X a (tE X E fa)) (hn : noStar a = true) :
    PE X (.Call (.Name "isinstance" p) [a, .Name tn p2] [] pos) (tE X E fun σ S => (fa σ S).bind fun w S1 => Res.of S1 ((isiW [t] S1 w).map fun b => .d (.bl b))) := by
  have hp : PE X (.Name tn p2) (tC (.ty t)) := pe_bltn hl2 hm2 hv rfl hnn hdb
  have hs := star_cons (env := X.env) (es := [.Name tn p2]) hn
  refine (pe_callB (cr_isi ht) hl hm (by decide +kernel) (pa_cons ha (pa_cons hp pa_nil (by rfl)) hs) (by decide) (by decide) hs (by rfl)).imp fun σ H Q ⟨F, m, S, σd, Y, G, h⟩ => ?_
  refine ⟨F, m, S, σd, Y, G, (Rp.bind h).mono fun F1 m1 H1 S1 w x1 Y1 h1 v hv => ?_⟩
  obtain ⟨w', e, h2⟩ := h1.ret
  obtain ⟨k, e1, rfl⟩ := map_some e
  unfold isiW at e1
  cases ev : vw S1 w with
  | none =>
    rw [ev] at e1
    cases e1
  | some d =>
    rw [ev] at e1
    cases e1
    refine ⟨v, d, rfl, hv.vwDp Y1 ev, ?_⟩
    simp only [List.any_cons, List.any_nil, Bool.or_false] at h2
    exact h2.here Y1 rfl
/-! ### what is walked -/
/-- what is referenced stands -/
structure KpS (F : Addr → Nat) (H : Hp) (F' : Addr → Nat) (H' : Hp) : Prop where
  g : Kp F H F' H'
/-- an iterator yields these data -/
structure Yields (X : Cx) (F : Addr → Nat) (H : Hp) (ds : List D) (J : It) : Prop where
  go : ∀ (i : Nat) F' (m : List Addr) m' H' S, KpS F H F' H' → Wd (tbX X) X.K F' m' H' S → i < ds.length → J.go i H'
  yld : ∀ (i : Nat) d F' (m : List Addr) m' H' S v H2, KpS F H F' H' → Wd (tbX X) X.K F' m' H' S → ds[i]? = some d → J.yld i H' v H2 → ∃ F2, Ext F' m' H' F2 m' H2 ∧ Wd (tbX X) X.K F2 m' H2 S ∧ AtD X.K F2 H2 d v
  stop : ∀ (i : Nat) F' (m : List Addr) m' H' S, KpS F H F' H' → Wd (tbX X) X.K F' m' H' S → ds.length ≤ i → J.stop i H'
def tIt (X : Cx) (E : XK) (f : Sg → Store → Res (List D)) : TI := fun σ H R => ∃ F m S σd, Wd (tbX X) X.K F m H S ∧ SgAt X.K X.mg F m H σd σ ∧
  Rp X E F m H (f σd S) fun F' _ H' _ ds => ∀ J, Yields X F' H' ds J → R J H'
theorem yields_list {F : Addr → Nat} {H : Hp} {a : Addr} {vs : List V} {ds : List D} (h1 : LstF X.K F H a vs) (h2 : AtDs X.K F H ds vs) : Yields X F H ds (Itl X.K a) where
  go i F' m m' H' S x Y hi := by
    obtain ⟨v, e, _⟩ := h2.get (List.getElem?_eq_getElem hi)
    exact ⟨vs, v, (h1.mono x.g).1, e⟩
  yld i d F' m m' H' S v H2 x Y hd hy := by
    obtain ⟨e, hy⟩ := hy
    subst e
    obtain ⟨v', e, hv⟩ := h2.get hd
    have e2 := hy vs (h1.mono x.g).1
    rw [e] at e2
    cases e2
    exact ⟨F', Ext.refl, Y, AtD.mono x.g hv⟩
  stop i F' m m' H' S x Y hi := ⟨vs, (h1.mono x.g).1, by rw [h2.length]; exact hi⟩
theorem yields_tup {F : Addr → Nat} {H : Hp} {a : Addr} {vs : List V} {ds : List D} (h1 : TupF X.K F H a vs) (h2 : AtDs X.K F H ds vs) : Yields X F H ds (Itt X.K a) where
  go i F' m m' H' S x Y hi := by
    obtain ⟨v, e, _⟩ := h2.get (List.getElem?_eq_getElem hi)
    exact ⟨vs, v, (h1.mono x.g).1, e⟩
  yld i d F' m m' H' S v H2 x Y hd hy := by
    obtain ⟨e, hy⟩ := hy
    subst e
    obtain ⟨v', e, hv⟩ := h2.get hd
    have e2 := hy vs (h1.mono x.g).1
    rw [e] at e2
    cases e2
    exact ⟨F', Ext.refl, Y, AtD.mono x.g hv⟩
  stop i F' m m' H' S x Y hi := ⟨vs, (h1.mono x.g).1, by rw [h2.length]; exact hi⟩
theorem yields_str {F : Addr → Nat} {H : Hp} {x : Str} : Yields X F H (x.cps.toList.map fun c => D.str ⟨#[c]⟩) (Its x) where
  go i F' m m' H' S _ Y hi := by
    show i < x.cps.size
    simpa using hi
  yld i d F' m m' H' S v H2 _ Y hd hy := by
    obtain ⟨e, c, e1, e2⟩ := hy
    subst e
    rw [List.getElem?_map, Array.getElem?_toList, e1] at hd
    cases hd
    exact ⟨F', Ext.refl, Y, e2⟩
  stop i F' m m' H' S _ Y hi := by
    show x.cps.size ≤ i
    simpa using hi
theorem yields_rng {F : Addr → Nat} {H : Hp} {lo : Int} {n : Nat} : Yields X F H ((List.range n).map fun (i : Nat) => D.int (lo + i)) (Itr lo n) where
  go i F' m m' H' S _ Y hi := by
    show i < n
    simpa using hi
  yld i d F' m m' H' S v H2 _ Y hd hy := by
    obtain ⟨e, e1⟩ := hy
    subst e
    obtain ⟨hl, e⟩ := List.getElem?_eq_some_iff.mp hd
    simp only [List.getElem_map, List.getElem_range] at e
    subst e
    exact ⟨F', Ext.refl, Y, e1⟩
  stop i F' m m' H' S _ Y hi := by
    show n ≤ i
    simpa using hi
theorem yields_zipL {F : Addr → Nat} {H : Hp} {a b : Addr} {vs us : List V} {ds es : List D} (h1 : LstF X.K F H a vs) (h2 : AtDs X.K F H ds vs) (g1 : LstF X.K F H b us) (g2 : AtDs X.K F H es us) :
    Yields X F H ((ds.zip es).map fun p => D.tup [p.1, p.2]) (Itz X.K a b) where
  go i F' m m' H' S x Y hi := by
    rw [List.length_map, List.length_zip] at hi
    obtain ⟨v, e, _⟩ := h2.get (List.getElem?_eq_getElem (show i < ds.length by omega))
    obtain ⟨u, e', _⟩ := g2.get (List.getElem?_eq_getElem (show i < es.length by omega))
    exact ⟨vs, us, v, u, (h1.mono x.g).1, (g1.mono x.g).1, e, e'⟩
  yld i d F' m m' H' S v H2 x Y hd hy := by
    obtain ⟨T, y, z, rfl, hT, rfl, hy1, hy2⟩ := hy
    rw [List.getElem?_map] at hd
    obtain ⟨⟨d1, d2⟩, e1, rfl⟩ := map_some hd
    obtain ⟨q1, q2⟩ := List.getElem?_zip_eq_some.mp e1
    obtain ⟨v', e, hv⟩ := h2.get q1
    obtain ⟨u', e', hu⟩ := g2.get q2
    have e2 := hy1 vs (h1.mono x.g).1
    have e3 := hy2 us (g1.mono x.g).1
    rw [e] at e2
    rw [e'] at e3
    cases e2
    cases e3
    obtain ⟨Y', x'⟩ := Y.frz (o := .tup [y, z]) hT
    exact ⟨_, x', Y', T, _, rfl, ⟨SqT.of upd_same, .inl (if_pos rfl)⟩, _, _, rfl, AtD.mono x'.g (AtD.mono x.g hv), _, _, rfl, AtD.mono x'.g (AtD.mono x.g hu), rfl⟩
  stop i F' m m' H' S x Y hi := by
    rw [List.length_map, List.length_zip] at hi
    refine ⟨vs, us, (h1.mono x.g).1, (g1.mono x.g).1, ?_⟩
    rw [h2.length, g2.length]
    omega
theorem yields_zipT {F : Addr → Nat} {H : Hp} {a b : Addr} {vs us : List V} {ds es : List D} (h1 : TupF X.K F H a vs) (h2 : AtDs X.K F H ds vs) (g1 : TupF X.K F H b us) (g2 : AtDs X.K F H es us) :
    Yields X F H ((ds.zip es).map fun p => D.tup [p.1, p.2]) (RZ.ItzT X.K a b) where
  go i F' m m' H' S x Y hi := by
    rw [List.length_map, List.length_zip] at hi
    obtain ⟨v, e, _⟩ := h2.get (List.getElem?_eq_getElem (show i < ds.length by omega))
    obtain ⟨u, e', _⟩ := g2.get (List.getElem?_eq_getElem (show i < es.length by omega))
    exact ⟨vs, us, v, u, (h1.mono x.g).1, (g1.mono x.g).1, e, e'⟩
  yld i d F' m m' H' S v H2 x Y hd hy := by
    obtain ⟨T, y, z, rfl, hT, rfl, hy1, hy2⟩ := hy
    rw [List.getElem?_map] at hd
    obtain ⟨⟨d1, d2⟩, e1, rfl⟩ := map_some hd
    obtain ⟨q1, q2⟩ := List.getElem?_zip_eq_some.mp e1
    obtain ⟨v', e, hv⟩ := h2.get q1
    obtain ⟨u', e', hu⟩ := g2.get q2
    have e2 := hy1 vs (h1.mono x.g).1
    have e3 := hy2 us (g1.mono x.g).1
    rw [e] at e2
    rw [e'] at e3
    cases e2
    cases e3
    obtain ⟨Y', x'⟩ := Y.frz (o := .tup [y, z]) hT
    exact ⟨_, x', Y', T, _, rfl, ⟨SqT.of upd_same, .inl (if_pos rfl)⟩, _, _, rfl, AtD.mono x'.g (AtD.mono x.g hv), _, _, rfl, AtD.mono x'.g (AtD.mono x.g hu), rfl⟩
  stop i F' m m' H' S x Y hi := by
    rw [List.length_map, List.length_zip] at hi
    refine ⟨vs, us, (h1.mono x.g).1, (g1.mono x.g).1, ?_⟩
    rw [h2.length, g2.length]
    omega
theorem yields_enum {F : Addr → Nat} {H : Hp} {a : Addr} {vs : List V} {ds : List D} (h1 : LstF X.K F H a vs) (h2 : AtDs X.K F H ds vs) :
    Yields X F H (ds.zipIdx.map fun p => D.tup [.int p.2, p.1]) (Ite X.K a) where
  go i F' m m' H' S x Y hi := by
    rw [List.length_map, List.length_zipIdx] at hi
    obtain ⟨v, e, _⟩ := h2.get (List.getElem?_eq_getElem hi)
    exact ⟨vs, v, (h1.mono x.g).1, e⟩
  yld i d F' m m' H' S v H2 x Y hd hy := by
    obtain ⟨T, y, rfl, hT, rfl, hy1⟩ := hy
    rw [List.getElem?_map] at hd
    obtain ⟨⟨d1, k⟩, e1, rfl⟩ := map_some hd
    rw [List.getElem?_zipIdx] at e1
    obtain ⟨d2, q1, q2⟩ := map_some e1
    cases q2
    obtain ⟨v', e, hv⟩ := h2.get q1
    have e2 := hy1 vs (h1.mono x.g).1
    rw [e] at e2
    cases e2
    obtain ⟨Y', x'⟩ := Y.frz (o := .tup [.int i, y]) hT
    exact ⟨_, x', Y', T, _, rfl, ⟨SqT.of upd_same, .inl (if_pos rfl)⟩, _, _, rfl, by rw [Nat.zero_add]; rfl, _, _, rfl, AtD.mono x'.g (AtD.mono x.g hv), rfl⟩
  stop i F' m m' H' S x Y hi := by
    rw [List.length_map, List.length_zipIdx] at hi
    exact ⟨vs, (h1.mono x.g).1, by rw [h2.length]; exact hi⟩
theorem yields_enumT {F : Addr → Nat} {H : Hp} {a : Addr} {vs : List V} {ds : List D} (h1 : TupF X.K F H a vs) (h2 : AtDs X.K F H ds vs) :
    Yields X F H (ds.zipIdx.map fun p => D.tup [.int p.2, p.1]) (Iet X.K a) where
  go i F' m m' H' S x Y hi := by
    rw [List.length_map, List.length_zipIdx] at hi
    obtain ⟨v, e, _⟩ := h2.get (List.getElem?_eq_getElem hi)
    exact ⟨vs, v, (h1.mono x.g).1, e⟩
  yld i d F' m m' H' S v H2 x Y hd hy := by
    obtain ⟨T, y, rfl, hT, rfl, hy1⟩ := hy
    rw [List.getElem?_map] at hd
    obtain ⟨⟨d1, k⟩, e1, rfl⟩ := map_some hd
    rw [List.getElem?_zipIdx] at e1
    obtain ⟨d2, q1, q2⟩ := map_some e1
    cases q2
    obtain ⟨v', e, hv⟩ := h2.get q1
    have e2 := hy1 vs (h1.mono x.g).1
    rw [e] at e2
    cases e2
    obtain ⟨Y', x'⟩ := Y.frz (o := .tup [.int i, y]) hT
    exact ⟨_, x', Y', T, _, rfl, ⟨SqT.of upd_same, .inl (if_pos rfl)⟩, _, _, rfl, by rw [Nat.zero_add]; rfl, _, _, rfl, AtD.mono x'.g (AtD.mono x.g hv), rfl⟩
  stop i F' m m' H' S x Y hi := by
    rw [List.length_map, List.length_zipIdx] at hi
    exact ⟨vs, (h1.mono x.g).1, by rw [h2.length]; exact hi⟩
theorem PI.imp {tg it : Expr} {t t' : TI} (h : PI X tg it t) (i : ∀ σ H R, t' σ H R → t σ H R) : PI X tg it t' := ⟨fun pins s σ H R I q => h.run pins s σ H R I (i _ _ _ q)⟩
variable {tg : Expr}
/-- a list, a tuple, a text: walked as it is -/
theorem pi_seq {te : TE} (he : PE X e te) : PI X tg e (fun σ H R => te σ H fun x H1 => (∃ a, x = .ref a ∧ (∃ xs, SqL X.K H1 a xs) ∧ R (Itl X.K a) H1) ∨ (∃ a, x = .ref a ∧ (∃ xs, SqT X.K H1 a xs) ∧ R (Itt X.K a) H1) ∨ ∃ z, x = .str z ∧ R (Its z) H1) := by
  refine ⟨fun pins s σ H R I h => thn (he.run pins s σ H _ I h) fun u s1 ⟨x, H1, I1, r1, q⟩ => ?_⟩
  rcases q with ⟨a, rfl, ⟨xs, hx⟩, q⟩ | ⟨a, rfl, ⟨xs, hx⟩, q⟩ | ⟨z, rfl, q⟩
  · cases (show u = Value.ref a from r1)
    obtain ⟨its, rv, pl, _⟩ := I1.list hx
    exact wpAny_pyIter_list pl.isList (pi_one (tk := s1.toks) I1 _ (turn_list a _) ⟨_, Heap.get?_push_size _ rfl, rfl, rfl⟩ q)
  · cases (show u = Value.ref a from r1)
    obtain ⟨its, rv, pl, _⟩ := I1.tuple hx
    exact wpAny_pyIter_tuple (show s1.heap.IsTuple a its.toArray from pl) (pi_one (tk := s1.toks) I1 _ (turn_tuple a _) ⟨_, Heap.get?_push_size _ rfl, rfl, rfl⟩ q)
  · obtain ⟨t, rfl⟩ := (show ∃ t, u = Value.str z t from r1)
    cases hz : z.cps.all (· < 128)
    · exact wpAny_pyIter_wide hz (pi_one (tk := s1.toks) I1 _ (turn_str _ z t "str_iterator" (.inr rfl)) ⟨_, Heap.get?_push_size _ rfl, rfl, rfl⟩ q)
    · exact wpAny_pyIter_ascii hz (pi_one (tk := s1.toks) I1 _ (turn_str _ z t "str_ascii_iterator" (.inl rfl)) ⟨_, Heap.get?_push_size _ rfl, rfl, rfl⟩ q)
/-- the arguments of what is walked -/
theorem tIt.args {k : ItK} {σ : L2.St} {H : Hp} {R : It → Hp → Prop} (h : tIt X E (fun σ S => (fs σ S).bind fun ws S1 => Res.of S1 (itW k S1 ws)) σ H R) {Q : List V → Hp → Prop}
    (i : ∀ F m H S ws vs ds, Wd (tbX X) X.K F m H S → AtWs X.K X.mg F m H ws vs → itW k S ws = some ds → (∀ J, Yields X F H ds J → R J H) → Q vs H) : tAw X E fs σ H Q := by
  obtain ⟨F, m, S, σd, Y, G, h⟩ := h
  refine ⟨F, m, S, σd, Y, G, (Rp.bind h).mono fun F1 m1 H1 S1 ws x1 Y1 h1 vs hvs => ?_⟩
  obtain ⟨ds, e, h2⟩ := Rp.of h1
  exact i F1 m1 H1 S1 ws vs ds Y1 hvs e (h2 _ _ _ Ext.refl Y1)
theorem si_seq (he : PE X e (tE X E fa)) : PI X tg e (tIt X E fun σ S => ((fa σ S).bind fun w S1 => .ok [w] S1).bind fun ws S1 => Res.of S1 (itW .seq S1 ws)) := by
  refine PI.imp (pi_seq he) fun σ H R ⟨F, m, S, σd, Y, G, h⟩ => ?_
  dsimp only at h
  rw [Res.bind_assoc] at h
  refine ⟨F, m, S, σd, Y, G, (Rp.bind h).mono fun F1 m1 H1 S1 w x1 Y1 h1 v hv => ?_⟩
  obtain ⟨ds, e, h2⟩ := Rp.of (Rp.bind h1 |>.ok_here Y1)
  have q := h2 _ _ _ Ext.refl Y1
  cases w with
  | d d =>
    cases d with
    | tup xs =>
      cases e
      obtain ⟨a, vs, rfl, g1, g2⟩ := hv
      exact .inr (.inl ⟨a, rfl, ⟨vs, g1.1⟩, q _ (yields_tup g1 g2)⟩)
    | lst xs =>
      cases e
      obtain ⟨a, vs, rfl, g1, g2⟩ := hv
      exact .inl ⟨a, rfl, ⟨vs, g1.1⟩, q _ (yields_list g1 g2)⟩
    | str z =>
      obtain ⟨_, rfl⟩ := guard_some e
      exact .inr (.inr ⟨z, hv, q _ yields_str⟩)
    | _ => cases e
  | _ => cases e
theorem itW_two {k : ItK} {S : Store} {w w2 : W} {ds : List D} (h : itW k S [w, w2] = some ds) : (∃ a b, k = .rng ∧ w = .d (.int a) ∧ w2 = .d (.int b) ∧ (-(2 ^ 62) ≤ a ∧ a < 2 ^ 62 ∧ -(2 ^ 62) ≤ b ∧ b < 2 ^ 62) ∧ ds = (List.range (b - a).toNat).map fun (i : Nat) => .int (a + i)) ∨
    (∃ xs ys, k = .zip ∧ w = .d (.lst xs) ∧ w2 = .d (.lst ys) ∧ ds = (xs.zip ys).map fun p => .tup [p.1, p.2]) ∨ ∃ xs ys, k = .zip ∧ w = .d (.tup xs) ∧ w2 = .d (.tup ys) ∧ ds = (xs.zip ys).map fun p => .tup [p.1, p.2] := by
  unfold itW at h
  split at h
  · rename_i w' e
    cases e
  · rename_i a b e
    cases e
    split at h
    · obtain ⟨g, e⟩ := guard_some h
      rw [Bool.and_eq_true] at g
      exact .inl ⟨a, b, rfl, rfl, rfl, ⟨(rngOk_lt g.1).1, (rngOk_lt g.1).2, rngOk_lt g.2⟩, e.symm⟩
    · cases h
  · rename_i a b e
    cases e
    split at h
    · exact .inr (.inl ⟨a, b, rfl, rfl, rfl, (Option.some.inj h).symm⟩)
    · cases h
  · rename_i a b e
    cases e
    split at h
    · exact .inr (.inr ⟨a, b, rfl, rfl, rfl, (Option.some.inj h).symm⟩)
    · cases h
  · rename_i a b c e
    cases e
  · cases h
theorem itW_three {k : ItK} {S : Store} {w w2 w3 : W} {ds : List D} (h : itW k S [w, w2, w3] = some ds) : (∃ a b, k = .rng ∧ w = .d (.int a) ∧ w2 = .d (.int b) ∧ w3 = .d (.int (-1)) ∧ (-(2 ^ 62) ≤ a ∧ a < 2 ^ 62 ∧ -(2 ^ 62) ≤ b ∧ b < 2 ^ 62) ∧ ds = (List.range (a - b).toNat).map fun (i : Nat) => .int (a + (i : Int) * (-1))) ∨
    ∃ x y z a b c, k = .zip ∧ w = .d x ∧ w2 = .d y ∧ w3 = .d z ∧ seqD x = some a ∧ seqD y = some b ∧ seqD z = some c ∧ ds = (a.2.zip (b.2.zip c.2)).map fun p => .tup [p.1, p.2.1, p.2.2] := by
  unfold itW at h
  split at h
  · rename_i w' e
    cases e
  · rename_i a b e
    cases e
  · rename_i a b e
    cases e
  · rename_i a b e
    cases e
  · rename_i x y z e
    cases e
    unfold it3 at h
    split at h
    · split at h
      · obtain ⟨g, e⟩ := guard_some h
        rw [Bool.and_eq_true, Bool.and_eq_true, decide_eq_true_eq] at g
        obtain ⟨⟨g1, g2⟩, rfl⟩ := g
        exact .inl ⟨_, _, rfl, rfl, rfl, rfl, ⟨(rngOk_lt g1).1, (rngOk_lt g1).2, rngOk_lt g2⟩, e.symm⟩
      · cases h
    · split at h
      · rename_i a b c e1 e2 e3
        exact .inr ⟨x, y, z, a, b, c, rfl, rfl, rfl, rfl, e1, e2, e3, (Option.some.inj h).symm⟩
      · cases h
    · cases h
  · cases h
/-- a list or a tuple that stands -/
def SrcF (K : PySem.W.Frag) (F : Addr → Nat) (H : Hp) (b : Bool) (a : Addr) (vs : List V) : Prop := match b with
  | true => TupF K F H a vs
  | false => LstF K F H a vs
theorem SrcF.sq {K : PySem.W.Frag} {F F' : Addr → Nat} {H H' : Hp} {b : Bool} {a : Addr} {vs : List V} (h : SrcF K F H b a vs) (e : Kp F H F' H') : SqS K H' b a vs := by
  cases b
  · exact (LstF.mono e h).1
  · exact (TupF.mono e h).1
theorem AtD.src {K : PySem.W.Frag} {F : Addr → Nat} {H : Hp} {d : D} {v : V} {a : Bool × List D} (h : AtD K F H d v) (e : seqD d = some a) : ∃ p vs, v = .ref p ∧ SrcF K F H a.1 p vs ∧ AtDs K F H a.2 vs := by
  cases d with
  | tup ds =>
    cases e
    obtain ⟨p, vs, rfl, h1, h2⟩ := h
    exact ⟨p, vs, rfl, h1, h2⟩
  | lst ds =>
    cases e
    obtain ⟨p, vs, rfl, h1, h2⟩ := h
    exact ⟨p, vs, rfl, h1, h2⟩
  | _ => cases e
theorem yields_zip3 {F : Addr → Nat} {H : Hp} {k1 k2 k3 : Bool} {a b c : Addr} {vs us ts : List V} {ds es fs : List D} (h1 : SrcF X.K F H k1 a vs) (h2 : AtDs X.K F H ds vs) (g1 : SrcF X.K F H k2 b us) (g2 : AtDs X.K F H es us) (j1 : SrcF X.K F H k3 c ts) (j2 : AtDs X.K F H fs ts) :
    Yields X F H ((ds.zip (es.zip fs)).map fun p => D.tup [p.1, p.2.1, p.2.2]) (Itz3 X.K k1 k2 k3 a b c vs us ts) where
  go i F' m m' H' S x Y hi := by
    rw [List.length_map, List.length_zip, List.length_zip] at hi
    obtain ⟨v, e, _⟩ := h2.get (List.getElem?_eq_getElem (show i < ds.length by omega))
    obtain ⟨u, e', _⟩ := g2.get (List.getElem?_eq_getElem (show i < es.length by omega))
    obtain ⟨t, e'', _⟩ := j2.get (List.getElem?_eq_getElem (show i < fs.length by omega))
    exact ⟨h1.sq x.g, g1.sq x.g, j1.sq x.g, v, u, t, e, e', e''⟩
  yld i d F' m m' H' S v H2 x Y hd hy := by
    obtain ⟨T, y, z, t, rfl, hT, rfl, e2, e3, e4⟩ := hy
    rw [List.getElem?_map] at hd
    obtain ⟨⟨d1, d2, d3⟩, e1, rfl⟩ := map_some hd
    obtain ⟨q1, q2⟩ := List.getElem?_zip_eq_some.mp e1
    obtain ⟨q2, q3⟩ := List.getElem?_zip_eq_some.mp q2
    obtain ⟨v', e, hv⟩ := h2.get q1
    obtain ⟨u', e', hu⟩ := g2.get q2
    obtain ⟨t', e'', ht⟩ := j2.get q3
    rw [e] at e2
    rw [e'] at e3
    rw [e''] at e4
    cases e2
    cases e3
    cases e4
    obtain ⟨Y', x'⟩ := Y.frz (o := .tup [y, z, t]) hT
    exact ⟨_, x', Y', T, _, rfl, ⟨SqT.of upd_same, .inl (if_pos rfl)⟩, _, _, rfl, AtD.mono x'.g (AtD.mono x.g hv), _, _, rfl, AtD.mono x'.g (AtD.mono x.g hu), _, _, rfl, AtD.mono x'.g (AtD.mono x.g ht), rfl⟩
  stop i F' m m' H' S x Y hi := by
    rw [List.length_map, List.length_zip, List.length_zip] at hi
    refine ⟨h1.sq x.g, g1.sq x.g, j1.sq x.g, ?_⟩
    rw [h2.length, g2.length, j2.length]
    omega
theorem sa_len : ∀ {ws : List W} {vs : List V} {F : Addr → Nat} {m : List Addr} {H : Hp}, AtWs X.K X.mg F m H ws vs → vs.length = ws.length
  | [], _, _, _, _, h => by cases (show _ = _ from h); rfl
  | w :: ws, _, _, _, _, h => by
    obtain ⟨v, r, rfl, _, h2⟩ := h
    rw [List.length_cons, List.length_cons, sa_len h2]
theorem si_rng1 (hg : Gl X "range") (hm : X.mg "range" = none) (ha : PE X a (tE X E fa)) (hn : noStar a = true) : PI X tg (.Call (.Name "range" p) [a] [] pos) (tIt X E fun σ S => ((fa σ S).bind fun w S1 => .ok [w] S1).bind fun ws S1 => Res.of S1 (itW .rng S1 ws)) := by
  refine PI.imp (pi_range1 hg hm (pa_cons ha pa_nil (star_cons hn)) (star_cons hn)) fun σ H R ⟨F, m, S, σd, Y, G, h⟩ => ?_
  dsimp only at h
  rw [Res.bind_assoc] at h
  refine ⟨F, m, S, σd, Y, G, (Rp.bind h).mono fun F1 m1 H1 S1 w x1 Y1 h1 v hv => ?_⟩
  obtain ⟨ds, e, h2⟩ := Rp.of (Rp.bind h1 |>.ok_here Y1)
  have q := h2 _ _ _ Ext.refl Y1
  cases w with
  | d d =>
    cases d with
    | int n =>
      obtain ⟨g, rfl⟩ := guard_some e
      have g := rngOk_lt g
      exact ⟨n, by rw [show v = .int n from hv], g.1, g.2, q _ yields_rng⟩
    | _ => cases e
  | _ => cases e
theorem tIt.two {k : ItK} {σ : L2.St} {H : Hp} {R : It → Hp → Prop} (h : tIt X E (fun σ S => ((fa σ S).bind fun w S1 => (fb σ S1).bind fun w2 S2 => .ok [w, w2] S2).bind fun ws S1 => Res.of S1 (itW k S1 ws)) σ H R) {Q : List V → Hp → Prop}
    (i : ∀ F m H S w w2 v v2 ds, Wd (tbX X) X.K F m H S → AtW X.K X.mg F m H w v → AtW X.K X.mg F m H w2 v2 → itW k S [w, w2] = some ds → (∀ J, Yields X F H ds J → R J H) → Q [v, v2] H) : tCons (tE X E fa) (tCons (tE X E fb) tNil) σ H Q := by
  obtain ⟨F, m, S, σd, Y, G, h⟩ := h
  dsimp only at h
  rw [Res.bind_assoc] at h
  refine ⟨F, m, S, σd, Y, G, (Rp.bind h).mono fun F1 m1 H1 S1 w x1 Y1 h1 v hv => ?_⟩
  rw [Res.bind_assoc] at h1
  refine ⟨F1, m1, S1, σd, Y1, G.mono x1, (Rp.bind h1).mono fun F2 m2 H2 S2 w2 x2 Y2 h2 v2 hv2 => ?_⟩
  obtain ⟨ds, e, h3⟩ := Rp.of (Rp.bind h2 |>.ok_here Y2)
  exact i F2 m2 H2 S2 w w2 v v2 ds Y2 (hv.mono x2) hv2 e (h3 _ _ _ Ext.refl Y2)
theorem si_rng2 (hg : Gl X "range") (hm : X.mg "range" = none) (ha : PE X a (tE X E fa)) (hb : PE X b (tE X E fb)) (hn : noStar a = true) (hn2 : noStar b = true) :
    PI X tg (.Call (.Name "range" p) [a, b] [] pos) (tIt X E fun σ S => ((fa σ S).bind fun w S1 => (fb σ S1).bind fun w2 S2 => .ok [w, w2] S2).bind fun ws S1 => Res.of S1 (itW .rng S1 ws)) := by
  have s2 : starEach [b] X.env = [(false, eval b X.env)] := star_cons hn2
  have s1 : starEach [a, b] X.env = [(false, eval a X.env), (false, eval b X.env)] := by rw [star_cons hn, s2]
  refine PI.imp (pi_range2 hg hm (pa_cons ha (pa_cons hb pa_nil s2) (star_cons hn)) s1 s2) fun σ H R h => tIt.two h fun F m H S w w2 v v2 ds Y hv hv2 e q => ?_
  rcases itW_two e with ⟨i, j, _, rfl, rfl, g, rfl⟩ | ⟨xs, ys, e0, _⟩ | ⟨xs, ys, e0, _⟩
  · exact ⟨i, j, by rw [show v = .int i from hv, show v2 = .int j from hv2], g, q _ yields_rng⟩
  · cases e0
  · cases e0
theorem tIt.three {k : ItK} {fc : Sg → Store → Res W} {σ : L2.St} {H : Hp} {R : It → Hp → Prop} (h : tIt X E (fun σ S => ((fa σ S).bind fun w S1 => (fb σ S1).bind fun w2 S2 => (fc σ S2).bind fun w3 S3 => .ok [w, w2, w3] S3).bind fun ws S1 => Res.of S1 (itW k S1 ws)) σ H R) {Q : List V → Hp → Prop}
    (i : ∀ F m H S w w2 w3 v v2 v3 ds, Wd (tbX X) X.K F m H S → AtW X.K X.mg F m H w v → AtW X.K X.mg F m H w2 v2 → AtW X.K X.mg F m H w3 v3 → itW k S [w, w2, w3] = some ds → (∀ J, Yields X F H ds J → R J H) → Q [v, v2, v3] H) : tCons (tE X E fa) (tCons (tE X E fb) (tCons (tE X E fc) tNil)) σ H Q := by
  obtain ⟨F, m, S, σd, Y, G, h⟩ := h
  dsimp only at h
  rw [Res.bind_assoc] at h
  refine ⟨F, m, S, σd, Y, G, (Rp.bind h).mono fun F1 m1 H1 S1 w x1 Y1 h1 v hv => ?_⟩
  rw [Res.bind_assoc] at h1
  refine ⟨F1, m1, S1, σd, Y1, G.mono x1, (Rp.bind h1).mono fun F2 m2 H2 S2 w2 x2 Y2 h2 v2 hv2 => ?_⟩
  rw [Res.bind_assoc] at h2
  refine ⟨F2, m2, S2, σd, Y2, (G.mono x1).mono x2, (Rp.bind h2).mono fun F3 m3 H3 S3 w3 x3 Y3 h3 v3 hv3 => ?_⟩
  obtain ⟨ds, e, h4⟩ := Rp.of (Rp.bind h3 |>.ok_here Y3)
  exact i F3 m3 H3 S3 w w2 w3 v v2 v3 ds Y3 ((hv.mono x2).mono x3) (hv2.mono x3) hv3 e (h4 _ _ _ Ext.refl Y3)
theorem yields_rngC {F : Addr → Nat} {H : Hp} {lo c : Int} {n : Nat} : Yields X F H ((List.range n).map fun (i : Nat) => D.int (lo + (i : Int) * c)) (Itc lo c n) where
  go i F' m m' H' S _ Y hi := by
    show i < n
    simpa using hi
  yld i d F' m m' H' S v H2 _ Y hd hy := by
    obtain ⟨e, e1⟩ := hy
    subst e
    obtain ⟨hl, e⟩ := List.getElem?_eq_some_iff.mp hd
    simp only [List.getElem_map, List.getElem_range] at e
    subst e
    exact ⟨F', Ext.refl, Y, e1⟩
  stop i F' m m' H' S _ Y hi := by
    show n ≤ i
    simpa using hi
theorem si_rng3 {c : Expr} {fc : Sg → Store → Res W} (hg : Gl X "range") (hm : X.mg "range" = none) (ha : PE X a (tE X E fa)) (hb : PE X b (tE X E fb)) (hc : PE X c (tE X E fc)) (hn : noStar a = true) (hn2 : noStar b = true) (hn3 : noStar c = true) :
    PI X tg (.Call (.Name "range" p) [a, b, c] [] pos) (tIt X E fun σ S => ((fa σ S).bind fun w S1 => (fb σ S1).bind fun w2 S2 => (fc σ S2).bind fun w3 S3 => .ok [w, w2, w3] S3).bind fun ws S1 => Res.of S1 (itW .rng S1 ws)) := by
  have s3 : starEach [c] X.env = [(false, eval c X.env)] := star_cons hn3
  have s2 : starEach [b, c] X.env = [(false, eval b X.env), (false, eval c X.env)] := by rw [star_cons hn2, s3]
  refine PI.imp (pi_range3 hg hm (pa_cons ha (pa_cons hb (pa_cons hc pa_nil s3) (star_cons hn2)) (star_cons hn)) (star_cons hn) (by rw [s2]; rfl)) fun σ H R h => tIt.three h fun F m H S w w2 w3 v v2 v3 ds Y hv hv2 hv3 e q => ?_
  rcases itW_three e with ⟨i, j, _, rfl, rfl, rfl, g, rfl⟩ | ⟨_, _, _, _, _, _, e0, _⟩
  · exact ⟨i, j, -1, _, by rw [show v = .int i from hv, show v2 = .int j from hv2, show v3 = .int (-1) from hv3], RgC.neg g.1 g.2.1 g.2.2.1 g.2.2.2, q _ yields_rngC⟩
  · cases e0
theorem si_zip {elts : List Expr} {kk : Nat} {tpos : Pos} (hg : Gl X "zip") (hm : X.mg "zip" = none) (ha : PE X a (tE X E fa)) (hb : PE X b (tE X E fb)) (hn : noStar a = true) (hn2 : noStar b = true) :
    PI X (.Tuple elts kk tpos) (.Call (.Name "zip" p) [a, b] [] pos) (tIt X E fun σ S => ((fa σ S).bind fun w S1 => (fb σ S1).bind fun w2 S2 => .ok [w, w2] S2).bind fun ws S1 => Res.of S1 (itW .zip S1 ws)) := by
  have s2 : starEach [b] X.env = [(false, eval b X.env)] := star_cons hn2
  have s1 : starEach [a, b] X.env = [(false, eval a X.env), (false, eval b X.env)] := by rw [star_cons hn, s2]
  refine PI.imp (RZ.pi_zipA hg hm (pa_cons ha (pa_cons hb pa_nil s2) (star_cons hn)) (star_cons hn) (by rw [s2]; rfl)) fun σ H R h => tIt.two h fun F m H S w w2 v v2 ds Y hv hv2 e q => ?_
  rcases itW_two e with ⟨i, j, e0, _⟩ | ⟨xs, ys, _, rfl, rfl, rfl⟩ | ⟨xs, ys, _, rfl, rfl, rfl⟩
  · cases e0
  · obtain ⟨p1, vs, rfl, h1, h2⟩ := hv
    obtain ⟨p2, us, rfl, g1, g2⟩ := hv2
    exact ⟨p1, p2, vs, us, rfl, .inl ⟨h1.1, g1.1, q _ (yields_zipL h1 h2 g1 g2)⟩⟩
  · obtain ⟨p1, vs, rfl, h1, h2⟩ := hv
    obtain ⟨p2, us, rfl, g1, g2⟩ := hv2
    exact ⟨p1, p2, vs, us, rfl, .inr ⟨h1.1, g1.1, q _ (yields_zipT h1 h2 g1 g2)⟩⟩
theorem si_zip3 {c : Expr} {fc : Sg → Store → Res W} {elts : List Expr} {kk : Nat} {tpos : Pos} (hg : Gl X "zip") (hm : X.mg "zip" = none) (ha : PE X a (tE X E fa)) (hb : PE X b (tE X E fb)) (hc : PE X c (tE X E fc)) (hn : noStar a = true) (hn2 : noStar b = true) (hn3 : noStar c = true) :
    PI X (.Tuple elts kk tpos) (.Call (.Name "zip" p) [a, b, c] [] pos) (tIt X E fun σ S => ((fa σ S).bind fun w S1 => (fb σ S1).bind fun w2 S2 => (fc σ S2).bind fun w3 S3 => .ok [w, w2, w3] S3).bind fun ws S1 => Res.of S1 (itW .zip S1 ws)) := by
  have s3 : starEach [c] X.env = [(false, eval c X.env)] := star_cons hn3
  have s2 : starEach [b, c] X.env = [(false, eval b X.env), (false, eval c X.env)] := by rw [star_cons hn2, s3]
  refine PI.imp (pi_zip3 hg hm (pa_cons ha (pa_cons hb (pa_cons hc pa_nil s3) (star_cons hn2)) (star_cons hn)) (star_cons hn) (by rw [s2]; rfl)) fun σ H R h => tIt.three h fun F m H S w w2 w3 v v2 v3 ds Y hv hv2 hv3 e q => ?_
  rcases itW_three e with ⟨_, _, e0, _⟩ | ⟨x, y, z, a, b, c, _, rfl, rfl, rfl, e1, e2, e3, rfl⟩
  · cases e0
  obtain ⟨p1, vs, rfl, h1, h2⟩ := AtD.src hv e1
  obtain ⟨p2, us, rfl, g1, g2⟩ := AtD.src hv2 e2
  obtain ⟨p3, ts, rfl, j1, j2⟩ := AtD.src hv3 e3
  exact ⟨a.1, b.1, c.1, p1, p2, p3, vs, us, ts, rfl, h1.sq (fun _ z => ⟨z, fun _ e _ => e⟩), g1.sq (fun _ z => ⟨z, fun _ e _ => e⟩), j1.sq (fun _ z => ⟨z, fun _ e _ => e⟩), q _ (yields_zip3 h1 h2 g1 g2 j1 j2)⟩
theorem si_enum {elts : List Expr} {kk : Nat} {tpos : Pos} (hg : Gl X "enumerate") (hm : X.mg "enumerate" = none) (ha : PE X a (tE X E fa)) (hn : noStar a = true) :
    PI X (.Tuple elts kk tpos) (.Call (.Name "enumerate" p) [a] [] pos) (tIt X E fun σ S => ((fa σ S).bind fun w S1 => .ok [w] S1).bind fun ws S1 => Res.of S1 (itW .enum S1 ws)) := by
  refine PI.imp (pi_enum2 hg hm (pa_cons ha pa_nil (star_cons hn)) (star_cons hn)) fun σ H R ⟨F, m, S, σd, Y, G, h⟩ => ?_
  dsimp only at h
  rw [Res.bind_assoc] at h
  refine ⟨F, m, S, σd, Y, G, (Rp.bind h).mono fun F1 m1 H1 S1 w x1 Y1 h1 v hv => ?_⟩
  obtain ⟨ds, e, h2⟩ := Rp.of (Rp.bind h1 |>.ok_here Y1)
  have q := h2 _ _ _ Ext.refl Y1
  cases w with
  | d d =>
    cases d with
    | lst xs =>
      cases e
      obtain ⟨p1, vs, rfl, g1, g2⟩ := hv
      exact ⟨p1, vs, rfl, .inl ⟨g1.1, q _ (yields_enum g1 g2)⟩⟩
    | tup xs =>
      cases e
      obtain ⟨p1, vs, rfl, g1, g2⟩ := hv
      exact ⟨p1, vs, rfl, .inr ⟨g1.1, q _ (yields_enumT g1 g2)⟩⟩
    | _ => cases e
  | _ => cases e
/-! ### targets -/
/-- only these slots have changed -/
def Touch (js : List Nat) (σ σ' : L2.St) : Prop := σ'.length = σ.length ∧ ∀ i, i ∉ js → σ'[i]? = σ[i]?
theorem Touch.refl {js : List Nat} {σ : L2.St} : Touch js σ σ := ⟨rfl, fun _ _ => rfl⟩
theorem Touch.trans {js ks : List Nat} {σ σ1 σ2 : L2.St} (a : Touch js σ σ1) (b : Touch ks σ1 σ2) : Touch (js ++ ks) σ σ2 :=
  ⟨b.1.trans a.1, fun i h => (b.2 i fun z => h (List.mem_append_right _ z)).trans (a.2 i fun z => h (List.mem_append_left _ z))⟩
/-- a target by the evaluator -/
def gTg (X : Cx) (js : List Nat) (f : D → Sg → Option Sg) : TG := fun v σ H Q => ∃ F m S σd d σd', Wd (tbX X) X.K F m H S ∧ SgAt X.K X.mg F m H σd σ ∧ AtD X.K F H d v ∧ f d σd = some σd' ∧ ∀ σ', SgAt X.K X.mg F m H σd' σ' → Touch js σ σ' → Q σ' H
def gTgs (X : Cx) (js : List Nat) (f : List D → Sg → Option Sg) : TGs := fun vs σ H Q => ∃ F m S σd ds σd', Wd (tbX X) X.K F m H S ∧ SgAt X.K X.mg F m H σd σ ∧ AtDs X.K F H ds vs ∧ f ds σd = some σd' ∧ ∀ σ', SgAt X.K X.mg F m H σd' σ' → Touch js σ σ' → Q σ' H
theorem SgAt.set {F : Addr → Nat} {m : List Addr} {H : Hp} {σd : Sg} {σ : L2.St} {i : Nat} {w : W} {v : V} (G : SgAt X.K X.mg F m H σd σ) (hv : AtW X.K X.mg F m H w v) : SgAt X.K X.mg F m H (σd.set i (some w)) (σ.set i (some v)) := by
  refine ⟨by rw [List.length_set, List.length_set]; exact G.1, fun j w' h => ?_⟩
  by_cases e : i = j
  · subst e
    have hl : i < σd.length := by
      have := (List.getElem?_eq_some_iff.mp h).1
      rwa [List.length_set] at this
    rw [List.getElem?_set_self hl] at h
    cases h
    exact ⟨v, by rw [List.getElem?_set_self (by rw [← G.1]; exact hl)], hv⟩
  · rw [List.getElem?_set_ne e] at h
    obtain ⟨v', h1, h2⟩ := G.2 j w' h
    exact ⟨v', by rw [List.getElem?_set_ne e]; exact h1, h2⟩
theorem PG.imp {tg : Expr} {t t' : TG} (h : PG X tg t) (i : ∀ v σ H Q, t' v σ H Q → t v σ H Q) : PG X tg t' := ⟨fun pins s σ H v u Q I r q => h.run pins s σ H v u Q I r (i _ _ _ _ q)⟩
theorem PGs.imp {tg : List Expr} {t t' : TGs} (h : PGs X tg t) (i : ∀ v σ H Q, t' v σ H Q → t v σ H Q) : PGs X tg t' := ⟨fun pins s σ H v u Q I r q => h.run pins s σ H v u Q I r (i _ _ _ _ q)⟩
theorem sg_nm {i : Nat} {x : Str} (hN : X.N.Nodup) (hi : X.N[i]? = some x) (hx : Loc X.env.scope x) (hf : X.fn x = true ∨ X.env.scope.names.lookup x = some .local) : PG X (.Name x pos) (gTg X [i] fun d σ => if i < σ.length then some (σ.set i (some (.d d))) else none) := by
  refine PG.imp (pg_name hN hi hx hf) fun v σ H Q ⟨F, m, S, σd, d, σd', Y, G, hd, e, q⟩ => ?_
  dsimp only at e
  by_cases c : i < σd.length
  · rw [if_pos c] at e
    cases e
    exact q _ (G.set hd) ⟨List.length_set, fun j hj => by rw [List.getElem?_set_ne fun z => hj (by simp [z])]⟩
  · rw [if_neg c] at e; cases e
theorem sg_nil : PGs X [] (gTgs X [] fun ds σ => match ds with
    | [] => some σ
    | _ => none) := by
  refine PGs.imp pgs_nil fun v σ H Q ⟨F, m, S, σd, ds, σd', Y, G, hd, e, q⟩ => ?_
  cases ds with
  | nil => cases e; exact ⟨hd, q _ G .refl⟩
  | cons d ds => cases e
theorem sg_cons {js ks : List Nat} {f : D → Sg → Option Sg} {g : List D → Sg → Option Sg} (h1 : PG X e (gTg X js f)) (h2 : PGs X es (gTgs X ks g)) (hs : (assignEach (e :: es) X.env).map (·.2) = assign e X.env :: (assignEach es X.env).map (·.2)) :
    PGs X (e :: es) (gTgs X (js ++ ks) fun ds σ => match ds with
    | d :: ds => match f d σ with
      | some σ1 => g ds σ1
      | none => none
    | [] => none) := by
  refine PGs.imp (pgs_cons h1 h2 hs) fun v σ H Q ⟨F, m, S, σd, ds, σd', Y, G, hd, e, q⟩ => ?_
  cases ds with
  | nil => cases e
  | cons d ds =>
    dsimp only at e
    obtain ⟨v, r, rfl, hv, hr⟩ := hd
    cases e1 : f d σd with
    | none => rw [e1] at e; cases e
    | some σ1 =>
      rw [e1] at e
      exact ⟨v, r, rfl, F, m, S, σd, d, σ1, Y, G, hv, e1, fun σ' G' t => ⟨F, m, S, σ1, ds, σd', Y, G', hr, e, fun σ2 G2 t2 => q σ2 G2 (t.trans t2)⟩⟩
theorem sg_tup {js : List Nat} {g : List D → Sg → Option Sg} {k n : Nat} (hc : X.calm = true) (h : PGs X es (gTgs X js g)) (hn : (assignEach es X.env).length = n) (hst : (assignEach es X.env).findIdx? (·.1) = none) (hl : ∀ ds σ σ', g ds σ = some σ' → ds.length = n) :
    PG X (.Tuple es k pos) (gTg X js fun d σ => match d with
    | .tup ds => g ds σ
    | _ => none) := by
  refine PG.imp (pg_tup (n := n) hc h hn hst) fun v σ H Q ⟨F, m, S, σd, d, σd', Y, G, hd, e, q⟩ => ?_
  cases d with
  | tup ds =>
    obtain ⟨a, vs, rfl, g1, g2⟩ := hd
    exact ⟨a, vs, rfl, g1.1, by rw [g2.length]; exact hl _ _ _ e, F, m, S, σd, ds, σd', Y, G, g2, e, q⟩
  | _ => cases e
end
end Pyi
/-! Pk: comprehensions. -/
namespace Pyi
open PySem PySem.Spec PyProof.Rows L2
variable [Gd]
section
variable {X : Cx} {E : XK} {a b e : Expr} {pos p : Pos} {es : List Expr} {fa fb : Sg → Store → Res W}
abbrev E0' : XK := fun _ _ _ => False
def fLc (cel : Bool) (fi : Sg → Store → Res (List D)) (ft : D → Sg → Option Sg) (fq fe : Sg → Store → Res W) (own : List Nat) : Sg → Store → Res W := fun σ S => (fi σ S).bind fun items S1 => if fit items.length then
      (lcLoop (lcTurn ft fq fe own σ) items S1).bind fun ds S2 => if cel then .ok (.ref S2.length) (S2 ++ [.lst ds]) else .ok (.d (.lst ds)) S2
      else .fail
def setF (F : Addr → Nat) (p : Addr) (k : Nat) : Addr → Nat := fun a => if a = p then k else F a
theorem setF_same {F : Addr → Nat} {p : Addr} {k : Nat} : setF F p k p = k := if_pos rfl
theorem setF_ne {F : Addr → Nat} {p a : Addr} {k : Nat} (h : a ≠ p) : setF F p k a = F a := if_neg h
/-- an address that nobody speaks of is set aside -/
theorem Wd.aside {F : Addr → Nat} {m : List Addr} {H : Hp} {S : Store} {p : Addr} {k : Nat} (Y : Wd (tbX X) X.K F m H S) (h0 : F p = 0) (hm : p ∉ m) (hp : H p ≠ none) (ht : k ≤ 1 ∨ ∀ vs, H p ≠ some (.tup vs)) : Wd (tbX X) X.K (setF F p k) m H S ∧ Ext F m H (setF F p k) m H := by
  have hx : Ext F m H (setF F p k) m H := .of (fun a ha => ⟨setF_ne fun e => ha (e ▸ h0), rfl⟩) (List.prefix_refl _)
  refine ⟨⟨Y.len, Y.nd, fun a ha => ?_, fun a ha => ?_, fun i a c h1 h2 => (Y.cell i a c h1 h2).mono hx.g, fun a ha => (let ⟨t1, t2⟩ := Y.tab a ha; ⟨(setF_ne fun e => by rw [e, h0] at t1; cases t1).trans t1, t2.mono hx.g rfl⟩), fun a vs h => ?_⟩, hx⟩
  rotate_left 2
  · by_cases e : a = p
    · rw [e, setF_same]
      rcases ht with ht | ht
      · exact ht
      · exact absurd (e ▸ h) (ht vs)
    · rw [setF_ne e]
      exact Y.tup a vs h
  · rw [setF_ne fun e => hm (by rw [← e]; exact ha)]
    exact Y.nF a ha
  · by_cases e : a = p
    · rw [e]; exact hp
    · rw [setF_ne e] at ha
      exact Y.Fs a ha
/-- .. it changes, and is free again -/
theorem Wd.back {F F' : Addr → Nat} {m m' : List Addr} {H H' : Hp} {S : Store} {p : Addr} {o : HO} (Y : Wd (tbX X) X.K F' m' H' S) (h0 : F p = 0) (x : Ext (setF F p 2) m H F' m' H') :
    Wd (tbX X) X.K (setF F' p 0) m' (upd H' p o) S ∧ Ext F m H (setF F' p 0) m' (upd H' p o) ∧ Kp F' H' (setF F' p 0) (upd H' p o) ∧ p ∉ m' ∧ ∀ o, H p = some o → NT o → H' p = some o := by
  have x2 := x.f p (by rw [setF_same]; decide)
  rw [setF_same] at x2
  have hm : p ∉ m' := fun h => by
    have := Y.nF p h
    rw [x2.1] at this
    cases this
  have hne : ∀ a, F' a = 1 → a ≠ p := fun a ha e => by rw [e, x2.1] at ha; cases ha
  have hg : Kp F' H' (setF F' p 0) (upd H' p o) := .of fun a ha => ⟨by rw [setF_ne (hne a ha)]; exact ha, upd_ne (hne a ha)⟩
  refine ⟨⟨Y.len, Y.nd, fun a ha => ?_, fun a ha => ?_, fun i a c h1 h2 => ?_, fun a ha => (let ⟨t1, t2⟩ := Y.tab a ha; have hn : a ≠ p := (fun e => by rw [e, x2.1] at t1; cases t1); ⟨(setF_ne hn).trans t1, t2.mono hg (upd_ne hn)⟩), fun a vs h => ?_⟩, ⟨fun a ha => ?_, x.p⟩, hg, hm, x2.2⟩
  rotate_left 3
  · by_cases e : a = p
    · rw [e, setF_same]; decide
    · rw [setF_ne e]
      rw [upd_ne e] at h
      exact Y.tup a vs h
  rotate_left 1
  · rw [setF_ne fun e => hm (by rw [← e]; exact ha)]
    exact Y.nF a ha
  · by_cases e : a = p
    · rw [e, setF_same] at ha; exact absurd rfl ha
    · rw [setF_ne e] at ha
      rw [upd_ne e]
      exact Y.Fs a ha
  · rw [upd_ne fun e => hm (by rw [← e]; exact List.mem_of_getElem? h1)]
    exact (Y.cell i a c h1 h2).mono hg
  · have e : a ≠ p := fun e => ha (e ▸ h0)
    have x3 := x.f a (by rw [setF_ne e]; exact ha)
    rw [setF_ne e] at x3
    rw [setF_ne e, upd_ne e]
    exact x3
theorem SgAt.wiped {F : Addr → Nat} {m : List Addr} {H : Hp} {σd : Sg} {σ : L2.St} (G : SgAt X.K X.mg F m H σd σ) : ∀ own : List Nat, SgAt X.K X.mg F m H (wipeW σd own) (wipe σ own)
  | [] => G
  | v :: vs => by
    have ih := SgAt.wiped G vs
    refine ⟨?_, fun j w h => ?_⟩
    · unfold wipeW wipe
      rw [List.length_set, List.length_set]
      exact ih.1
    · unfold wipeW at h
      unfold wipe
      by_cases e : v = j
      · subst e
        have hl := (List.getElem?_eq_some_iff.mp h).1
        rw [List.length_set] at hl
        rw [List.getElem?_set_self hl] at h
        cases h
      · rw [List.getElem?_set_ne e] at h
        rw [List.getElem?_set_ne e]
        exact ih.2 j w h
theorem quiet_ok {α : Type} {r : Res α} {β : Type} {k : α → Store → Res β} {F : Addr → Nat} {m : List Addr} {H : Hp} {Φ : (Addr → Nat) → List Addr → Hp → Store → β → Prop} (h : Rp X E F m H (r.quiet.bind k) Φ) : ∃ a S, r = .ok a S ∧ Rp X E F m H (k a S) Φ := by
  cases r with
  | ok a S => exact ⟨a, S, rfl, h⟩
  | exc e S => exact h.elim
  | fail => exact h.elim
theorem wipe_touch {js : List Nat} {σ σ' : L2.St} (t : Touch js σ σ') : ∀ own : List Nat, (∀ j ∈ js, j ∈ own) → wipe σ' own = wipe σ own := by
  intro own hj
  have key : ∀ (own : List Nat) (i : Nat) (σ : L2.St), (wipe σ own)[i]? = if i ∈ own then (if i < σ.length then some none else none) else σ[i]? := by
    intro own
    induction own with
    | nil => intro i σ; simp [wipe]
    | cons v vs ih =>
      intro i σ
      unfold wipe
      by_cases e : v = i
      · subst e
        rw [if_pos List.mem_cons_self]
        by_cases hl : v < σ.length
        · rw [if_pos hl, List.getElem?_set_self (by rw [wipe_length]; exact hl)]
        · rw [if_neg hl, List.getElem?_eq_none (by rw [List.length_set, wipe_length]; omega)]
      · rw [List.getElem?_set_ne e, ih i σ]
        have : (i ∈ v :: vs) = (i ∈ vs) := by
          simp only [List.mem_cons, eq_iff_iff]
          exact ⟨fun h => h.resolve_left fun z => e z.symm, .inr⟩
        simp only [this]
  refine List.ext_getElem? fun i => ?_
  rw [key, key, t.1]
  by_cases h : i ∈ own
  · rw [if_pos h, if_pos h]
  · rw [if_neg h, if_neg h]
    exact t.2 i fun z => h (hj i z)
theorem lc_read {cel : Bool} {own js : List Nat} {fi : Sg → Store → Res (List D)} {ft : D → Sg → Option Sg} {fq fe : Sg → Store → Res W} {σ : L2.St} {H : Hp} {Q : VK} (hj : ∀ j ∈ js, j ∈ own) (h : tE X E (fLc cel fi ft fq fe own) σ H Q) :
    tLc (tIt X E fi) (gTg X js ft) (tT X E0' (tr fq)) (tE X E0' fe) own σ H Q := by
  obtain ⟨F0, m0, S0, σd, Y0, G0, h⟩ := h
  refine ⟨F0, m0, S0, σd, Y0, G0, (Rp.bind h).mono fun F1 m1 H1 S1 items x1 Y1 h1 J yl D hD => ?_⟩
  have G1 := G0.mono x1
  clear h
  by_cases c : fit items.length = true
  · rw [if_pos c] at h1
    -- the wish of what is left
    let fin : List Pyi.D → Store → Res W := fun ds S2 => if cel then .ok (.ref S2.length) (S2 ++ [.lst ds]) else .ok (.d (.lst ds)) S2
    let Inv' : Nat → Hp → Prop := fun i H => ∃ F m S acc vs, Wd (tbX X) X.K F m H S ∧ Ext F1 m1 H1 F m H ∧ F D = 0 ∧ D ∉ m ∧ H D = some (.lst vs) ∧ AtDs X.K F H acc vs ∧ acc.length ≤ i ∧
      Rp X E F m H ((lcLoop (lcTurn ft fq fe own σd) (items.drop i) S).bind fun r S2 => fin (acc ++ r) S2) (fun F' m' H' _ w => ∀ v, AtW X.K X.mg F' m' H' w v → Q v H')
    have hD1 : F1 D = 0 := Decidable.byContradiction fun z => Y1.Fs D z hD
    have hDm : D ∉ m1 := fun z => by
      obtain ⟨i, hi⟩ := List.getElem?_of_mem z
      exact Y1.ne hD hi rfl
    refine ⟨fun i n H => i ≤ items.length ∧ n + i = items.length ∧ Inv' i H, ⟨items.length, Nat.zero_le _, rfl, ?_⟩, fun i n H ⟨hi, hn, F, m, S, acc, vs, Y, x, z0, zm, zD, ha, hl, hrp⟩ => ?_⟩
    · obtain ⟨Y2, x2⟩ := Y1.keep (k := 0) (o := .lst []) hD
      have e0 : (fun a => if a = D then 0 else F1 a) = F1 := by
        funext a
        by_cases e : a = D
        · rw [if_pos e, e, hD1]
        · rw [if_neg e]
      rw [e0] at Y2 x2
      refine ⟨F1, m1, S1, [], [], Y2, x2, hD1, hDm, upd_same, rfl, Nat.zero_le _, ?_⟩
      exact Rp.shift x2 h1
    · by_cases hlt : i < items.length
      · right
        obtain ⟨Ya, xa⟩ := Y.aside (k := 2) z0 zm (by rw [zD]; exact fun z => by cases z) (.inr fun _ => by rw [zD]; exact fun z => by cases z)
        have xx := x.trans xa
        refine ⟨yl.go i _ m1 m H S ⟨xx.g⟩ Ya hlt, fun H' => i + 1 ≤ items.length ∧ (n - 1) + (i + 1) = items.length ∧ Inv' (i + 1) H', fun H' ⟨q1, q2, q3⟩ => ⟨n - 1, by omega, q1, q2, q3⟩, fun u H2 hy => ?_⟩
        obtain ⟨F2, x2, Y2, hu⟩ := yl.yld i items[i] _ m1 m H S u H2 ⟨xx.g⟩ Ya (List.getElem?_eq_getElem hlt) hy
        rw [List.drop_eq_getElem_cons hlt, lcLoop, Res.bind_assoc] at hrp
        obtain ⟨o, S3, e3, hrp⟩ := quiet_ok hrp
        rw [Res.bind_assoc] at hrp
        unfold lcTurn at e3
        have Gw : SgAt X.K X.mg F2 m H2 (wipeW σd own) (wipe σ own) := (((G1.mono x).mono xa).mono x2).wiped own
        cases et : ft items[i] (wipeW σd own) with
        | none => rw [et] at e3; cases e3
        | some σ1 =>
          rw [et] at e3
          refine ⟨F2, m, S, _, items[i], σ1, Y2, Gw, hu, et, fun σ' G' t => ⟨?_, ?_⟩⟩
          · have := wipe_touch t own hj
            rw [this]
            exact wipe_touch (js := own) ⟨wipe_length σ own, fun j hj => by
              have key := wipe_out (σ := σ) (i := j) (vs := own) hj
              exact key⟩ own fun _ z => z
          · -- the test
            dsimp only at e3
            cases eq : fq σ1 S with
            | fail => rw [eq] at e3; cases e3
            | exc x y => rw [eq] at e3; cases e3
            | ok b S4 =>
              rw [eq, Res.bind_ok] at e3
              cases eb : truW S4 b with
              | none => rw [eb] at e3; cases e3
              | some k =>
                rw [eb] at e3
                refine ⟨F2, m, S, σ1, Y2, G', ?_⟩
                unfold tr Res.tru
                rw [eq, Res.bind_ok, eb]
                intro F4 m4 H4 x4 Y4
                cases k with
                | false =>
                  dsimp only at e3
                  cases e3
                  refine iteF ⟨hlt, by omega, ?_⟩
                  obtain ⟨Yb, xb, hg, hm4, hD4⟩ := Y4.back (o := .lst vs) z0 (x2.trans x4)
                  have e5 : upd H4 D (.lst vs) = H4 := by
                    funext q
                    by_cases e : q = D
                    · rw [e, upd_same, hD4 _ zD nt_lst]
                    · rw [upd_ne e]
                  rw [e5] at Yb xb hg
                  exact ⟨_, m4, S3, acc, vs, Yb, x.trans xb, setF_same, hm4, hD4 _ zD nt_lst, AtDs.mono xb.g ha, Nat.le_succ_of_le hl, Rp.shift xb hrp⟩
                | true =>
                  dsimp only at e3
                  refine iteT ⟨F4, m4, S4, σ1, Y4, G'.mono x4, ?_⟩
                  cases ee : fe σ1 S4 with
                  | fail => rw [ee] at e3; cases e3
                  | exc x y => rw [ee] at e3; cases e3
                  | ok w S5 =>
                    rw [ee, Res.bind_ok] at e3
                    cases w with
                    | d y =>
                      cases e3
                      intro F5 m5 H5 x5 Y5 v hv
                      obtain ⟨Yb, xb, hg, hm5, hD5⟩ := Y5.back (o := .lst (vs ++ [v])) z0 ((x2.trans x4).trans x5)
                      have hl2 : vs.length < sizeLine := by
                        rw [ha.length]
                        have := fit_line c
                        omega
                      refine ⟨vs, hD5 _ zD nt_lst, hl2, hlt, by omega, _, m5, S3, acc ++ [y], vs ++ [v], Yb, x.trans xb, setF_same, hm5, upd_same, (AtDs.mono xb.g ha).app (AtDs.one (AtD.mono hg hv)), by rw [List.length_append]; simp; omega, ?_⟩
                      refine Rp.shift xb ?_
                      have e6 : ∀ r : List Pyi.D, acc ++ [y] ++ r = acc ++ y :: r := fun r => by simp
                      simp only [e6]
                      exact hrp
                    | _ => cases e3
      · left
        have ei : i = items.length := by omega
        refine ⟨yl.stop i _ m1 m H S ⟨x.g⟩ Y (by omega), ?_⟩
        rw [ei, List.drop_length] at hrp
        have hrp : Rp X E F m H (fin (acc ++ []) S) (fun F' m' H' _ w => ∀ v, AtW X.K X.mg F' m' H' w v → Q v H') := hrp
        rw [List.append_nil] at hrp
        cases cel with
        | false =>
          obtain ⟨Yb, xb⟩ := Y.aside (k := 1) z0 zm (by rw [zD]; exact fun z => by cases z) (.inl (by decide))
          exact hrp _ _ _ xb Yb _ ⟨D, vs, rfl, ⟨SqL.of zD, .inl setF_same⟩, AtDs.mono xb.g ha⟩
        | true =>
          have xb : Ext F m H F (m ++ [D]) H := .of (fun _ _ => ⟨rfl, rfl⟩) (List.prefix_append _ _)
          have Yb : Wd (tbX X) X.K F (m ++ [D]) H (S ++ [.lst acc]) := by
            refine ⟨by rw [List.length_append, List.length_append, Y.len]; rfl, ?_, fun a ha => ?_, Y.Fs, fun i a d h1 h2 => ?_, Y.tab, Y.tup⟩
            · rw [List.nodup_append]
              exact ⟨Y.nd, by simp, fun a ha b hb => by
                have : b = D := by simpa using hb
                rw [this]
                exact fun e => zm (e ▸ ha)⟩
            · rcases List.mem_append.mp ha with ha | ha
              · exact Y.nF a ha
              · rw [show a = D by simpa using ha]; exact z0
            · by_cases hi : i < m.length
              · rw [List.getElem?_append_left hi] at h1
                rw [List.getElem?_append_left (by rw [← Y.len]; exact hi)] at h2
                exact Y.cell i a d h1 h2
              · have hi' : m.length ≤ i := Nat.le_of_not_lt hi
                rw [List.getElem?_append_right hi'] at h1
                rw [List.getElem?_append_right (by rw [← Y.len]; exact hi'), ← Y.len] at h2
                have h0 : i - m.length = 0 := by
                  have := (List.getElem?_eq_some_iff.mp h1).1
                  simp at this
                  omega
                rw [h0] at h1 h2
                simp at h1 h2
                subst h1
                subst h2
                exact ⟨vs, zD, ha⟩
          refine hrp _ _ _ xb Yb _ ⟨D, ?_, rfl⟩
          rw [← Y.len, List.getElem?_append_right (Nat.le_refl _), Nat.sub_self]
          rfl
  · rw [if_neg c] at h1
    exact h1.elim
/-- a comprehension over a list of the store, by the evaluator -/
def fLcr (fx : Sg → Store → Res W) (ft : D → Sg → Option Sg) (fq fe : Sg → Store → Res W) (own : List Nat) : Sg → Store → Res W := fun σ S => (fx σ S).bind fun w S1 => match w with
  | .ref r => match S1[r]? with
    | some (.lst ds) => if fit (ds.length + 1) then (lcLive (lcTurn ft fq fe own σ) r (ds.length + 1) 0 S1).bind fun out S2 => .ok (.d (.lst out)) S2 else .fail
    | _ => .fail
  | _ => .fail
theorem lcr_read {own js : List Nat} {fx : Sg → Store → Res W} {ft : D → Sg → Option Sg} {fq fe : Sg → Store → Res W} {σ : L2.St} {H : Hp} {Q : VK} (hj : ∀ j ∈ js, j ∈ own) (h : tE X E (fLcr fx ft fq fe own) σ H Q) :
    tLc (iList X.K (tE X E fx)) (gTg X js ft) (tT X E0' (tr fq)) (tE X E0' fe) own σ H Q := by
  obtain ⟨F0, m0, S0, σd, Y0, G0, h⟩ := h
  refine ⟨F0, m0, S0, σd, Y0, G0, (Rp.bind h).mono fun F1 m1 H1 S1 w x1 Y1 h1 v hv => ?_⟩
  have G1 := G0.mono x1
  clear h
  cases w with
  | ref r =>
    obtain ⟨A, hA, rfl⟩ := hv
    dsimp only at h1
    cases c0 : S1[r]? with
    | none => rw [c0] at h1; exact h1.elim
    | some cc =>
      rw [c0] at h1
      cases cc with
      | lst ds0 =>
        dsimp only at h1
        obtain ⟨us0, hH0, _⟩ := Y1.cell r A _ hA c0
        refine ⟨A, rfl, ⟨us0, SqL.of hH0⟩, fun D hD => ?_⟩
        by_cases c : fit (ds0.length + 1) = true
        · rw [if_pos c] at h1
          have hz := fit_line c
          generalize hN : ds0.length + 1 = N at h1 hz
          let Inv' : Nat → Nat → Hp → Prop := fun i n H => ∃ F m S acc vs, Wd (tbX X) X.K F m H S ∧ Ext F1 m1 H1 F m H ∧ F D = 0 ∧ D ∉ m ∧ H D = some (.lst vs) ∧ AtDs X.K F H acc vs ∧ acc.length ≤ i ∧
            Rp X E F m H ((lcLive (lcTurn ft fq fe own σd) r n i S).bind fun out S2 => .ok (.d (.lst (acc ++ out))) S2) (fun F' m' H' _ w => ∀ v, AtW X.K X.mg F' m' H' w v → Q v H')
          have hD1 : F1 D = 0 := Decidable.byContradiction fun z => Y1.Fs D z hD
          have hDm : D ∉ m1 := fun z => by
            obtain ⟨i, hi⟩ := List.getElem?_of_mem z
            exact Y1.ne hD hi rfl
          refine ⟨fun i n H => n + i = N ∧ Inv' i n H, ⟨N, rfl, ?_⟩, fun i n H ⟨hn, F, m, S, acc, vs, Y, x, z0, zm, zD, ha, hl, hrp⟩ => ?_⟩
          · obtain ⟨Y2, x2⟩ := Y1.keep (k := 0) (o := .lst []) hD
            have e0 : (fun a => if a = D then 0 else F1 a) = F1 := by
              funext a
              by_cases e : a = D
              · rw [if_pos e, e, hD1]
              · rw [if_neg e]
            rw [e0] at Y2 x2
            refine ⟨F1, m1, S1, [], [], Y2, x2, hD1, hDm, upd_same, rfl, Nat.zero_le _, ?_⟩
            exact Rp.shift x2 h1
          · have hAm : m[r]? = some A := by
              obtain ⟨q, e⟩ := x.p
              rw [← e, List.getElem?_append_left (List.getElem?_eq_some_iff.mp hA).1]
              exact hA
            cases n with
            | zero => exact hrp.elim
            | succ n =>
              unfold lcLive at hrp
              cases cS : S[r]? with
              | none => rw [cS] at hrp; exact hrp.elim
              | some cc =>
                rw [cS] at hrp
                cases cc with
                | lst ds =>
                  dsimp only at hrp
                  obtain ⟨us, hHA, hus⟩ := Y.cell r A _ hAm cS
                  cases ed : ds[i]? with
                  | some d =>
                    right
                    rw [ed] at hrp
                    dsimp only at hrp
                    obtain ⟨u0, eu, hu0⟩ := hus.get ed
                    obtain ⟨Ya, xa⟩ := Y.aside (k := 2) z0 zm (by rw [zD]; exact fun z => by cases z) (.inr fun _ => by rw [zD]; exact fun z => by cases z)
                    have xx := x.trans xa
                    refine ⟨⟨us, u0, SqL.of hHA, eu⟩, fun H' => n + (i + 1) = N ∧ Inv' (i + 1) n H', fun H' ⟨q2, q3⟩ => ⟨n, by omega, q2, q3⟩, fun u H2 hy => ?_⟩
                    obtain ⟨rfl, hy⟩ := hy
                    have eu2 := hy us (SqL.of hHA)
                    rw [eu] at eu2
                    obtain rfl := Option.some.inj eu2
                    have hu : AtD X.K (setF F D 2) H2 d u0 := AtD.mono xa.g hu0
                    rw [Res.bind_assoc] at hrp
                    obtain ⟨o, S3, e3, hrp⟩ := quiet_ok hrp
                    rw [Res.bind_assoc] at hrp
                    unfold lcTurn at e3
                    have Gw : SgAt X.K X.mg (setF F D 2) m H2 (wipeW σd own) (wipe σ own) := ((G1.mono x).mono xa).wiped own
                    cases et : ft d (wipeW σd own) with
                    | none => rw [et] at e3; cases e3
                    | some σ1 =>
                      rw [et] at e3
                      refine ⟨setF F D 2, m, S, _, d, σ1, Ya, Gw, hu, et, fun σ' G' t => ⟨?_, ?_⟩⟩
                      · have := wipe_touch t own hj
                        rw [this]
                        exact wipe_touch (js := own) ⟨wipe_length σ own, fun j hj => by
                          have key := wipe_out (σ := σ) (i := j) (vs := own) hj
                          exact key⟩ own fun _ z => z
                      · -- the test
                        dsimp only at e3
                        cases eq : fq σ1 S with
                        | fail => rw [eq] at e3; cases e3
                        | exc x y => rw [eq] at e3; cases e3
                        | ok b S4 =>
                          rw [eq, Res.bind_ok] at e3
                          cases eb : truW S4 b with
                          | none => rw [eb] at e3; cases e3
                          | some k =>
                            rw [eb] at e3
                            refine ⟨setF F D 2, m, S, σ1, Ya, G', ?_⟩
                            unfold tr Res.tru
                            rw [eq, Res.bind_ok, eb]
                            intro F4 m4 H4 x4 Y4
                            cases k with
                            | false =>
                              dsimp only at e3
                              cases e3
                              refine iteF ⟨by omega, ?_⟩
                              obtain ⟨Yb, xb, hg, hm4, hD4⟩ := Y4.back (o := .lst vs) z0 x4
                              have e5 : upd H4 D (.lst vs) = H4 := by
                                funext q
                                by_cases e : q = D
                                · rw [e, upd_same, hD4 _ zD nt_lst]
                                · rw [upd_ne e]
                              rw [e5] at Yb xb hg
                              exact ⟨_, m4, S3, acc, vs, Yb, x.trans xb, setF_same, hm4, hD4 _ zD nt_lst, AtDs.mono xb.g ha, Nat.le_succ_of_le hl, Rp.shift xb hrp⟩
                            | true =>
                              dsimp only at e3
                              refine iteT ⟨F4, m4, S4, σ1, Y4, G'.mono x4, ?_⟩
                              cases ee : fe σ1 S4 with
                              | fail => rw [ee] at e3; cases e3
                              | exc x y => rw [ee] at e3; cases e3
                              | ok w S5 =>
                                rw [ee, Res.bind_ok] at e3
                                cases w with
                                | d y =>
                                  cases e3
                                  intro F5 m5 H5 x5 Y5 v hv
                                  obtain ⟨Yb, xb, hg, hm5, hD5⟩ := Y5.back (o := .lst (vs ++ [v])) z0 (x4.trans x5)
                                  have hl2 : vs.length < sizeLine := by
                                    rw [ha.length]
                                    omega
                                  refine ⟨vs, hD5 _ zD nt_lst, hl2, by omega, _, m5, S3, acc ++ [y], vs ++ [v], Yb, x.trans xb, setF_same, hm5, upd_same, (AtDs.mono xb.g ha).app (AtDs.one (AtD.mono hg hv)), by rw [List.length_append]; simp; omega, ?_⟩
                                  refine Rp.shift xb ?_
                                  have e6 : ∀ r : List Pyi.D, acc ++ [y] ++ r = acc ++ y :: r := fun r => by simp
                                  simp only [e6]
                                  exact hrp
                                | _ => cases e3
                  | none =>
                    left
                    rw [ed] at hrp
                    dsimp only at hrp
                    refine ⟨⟨us, SqL.of hHA, by rw [hus.length]; exact List.getElem?_eq_none_iff.mp ed⟩, ?_⟩
                    have hrp : Rp X E F m H (.ok (.d (.lst (acc ++ []))) S) (fun F' m' H' _ w => ∀ v, AtW X.K X.mg F' m' H' w v → Q v H') := hrp
                    rw [List.append_nil] at hrp
                    obtain ⟨Yb, xb⟩ := Y.aside (k := 1) z0 zm (by rw [zD]; exact fun z => by cases z) (.inl (by decide))
                    exact hrp _ _ _ xb Yb _ ⟨D, vs, rfl, ⟨SqL.of zD, .inl setF_same⟩, AtDs.mono xb.g ha⟩
                | _ => exact hrp.elim
        · rw [if_neg c] at h1
          exact h1.elim
      | _ => exact h1.elim
  | _ => exact h1.elim
end
end Pyi
/-! Pl: statements. -/
namespace Pyi
open PySem PySem.Spec PyProof.Rows L2
variable [Gd]
section
variable {X : Cx} {E : XK} {a b e : Expr} {pos p : Pos} {es : List Expr} {fa fb : Sg → Store → Res W} {st : Stmt} {sts : List Stmt}
/-- a statement's end holds what is wanted -/
def Rf (X : Cx) (E : XK) (F : Addr → Nat) (m : List Addr) (H : Hp) (r : Fl) (D : Ends) : Prop := match r with
  | .nx σd S => ∀ F' m' H' σ', Ext F m H F' m' H' → Wd (tbX X) X.K F' m' H' S → SgAt X.K X.mg F' m' H' σd σ' → D.nx σ' H'
  | .rt w S => ∀ F' m' H' v, Ext F m H F' m' H' → Wd (tbX X) X.K F' m' H' S → AtW X.K X.mg F' m' H' w v → D.rt v H'
  | .bk σd S => ∀ F' m' H' σ', Ext F m H F' m' H' → Wd (tbX X) X.K F' m' H' S → SgAt X.K X.mg F' m' H' σd σ' → D.bk σ' H'
  | .ct σd S => ∀ F' m' H' σ', Ext F m H F' m' H' → Wd (tbX X) X.K F' m' H' S → SgAt X.K X.mg F' m' H' σd σ' → D.ct σ' H'
  | .exc e S => ∀ F' m' H' c d, Ext F m H F' m' H' → Wd (tbX X) X.K F' m' H' S → XAt X.K X.mg F' H' e c d → E c d H'
  | .fail => False
def tS (X : Cx) (E : XK) (f : Sg → Store → Fl) : TS := fun D σ H => ∃ F m S σd, Wd (tbX X) X.K F m H S ∧ SgAt X.K X.mg F m H σd σ ∧ Rf X E F m H (f σd S) D
section
variable {F F' : Addr → Nat} {m m' : List Addr} {H H' : Hp} {S : Store} {D : Ends}
theorem Rf.shift {r : Fl} (x : Ext F m H F' m' H') (h : Rf X E F m H r D) : Rf X E F' m' H' r D := by
  cases r with
  | nx a S => exact fun F2 m2 H2 s y z g => h F2 m2 H2 s (x.trans y) z g
  | rt a S => exact fun F2 m2 H2 s y z g => h F2 m2 H2 s (x.trans y) z g
  | bk a S => exact fun F2 m2 H2 s y z g => h F2 m2 H2 s (x.trans y) z g
  | ct a S => exact fun F2 m2 H2 s y z g => h F2 m2 H2 s (x.trans y) z g
  | exc e S => exact fun F2 m2 H2 c d y z g => h F2 m2 H2 c d (x.trans y) z g
  | fail => exact h
/-- an expression, then what is done with it -/
theorem Rf.fl {α : Type} {r : Res α} {k : α → Store → Fl} (h : Rf X E F m H (r.fl k) D) : Rp X E F m H r fun F1 m1 H1 S1 a => Rf X E F1 m1 H1 (k a S1) D := by
  cases r with
  | ok a S => exact fun F1 m1 H1 x y => Rf.shift x h
  | exc e S => exact h
  | fail => exact h
theorem Rf.nx_here {σd : Sg} {σ : L2.St} (h : Rf X E F m H (.nx σd S) D) (Y : Wd (tbX X) X.K F m H S) (G : SgAt X.K X.mg F m H σd σ) : D.nx σ H := h _ _ _ _ Ext.refl Y G
end
theorem ss_nil : PSs X [] (tS X E fun σ S => .nx σ S) := pss_nil.imp fun D σ H ⟨F, m, S, σd, Y, G, h⟩ => h.nx_here Y G
theorem ss_cons {f g : Sg → Store → Fl} (h1 : PS X st (tS X E f)) (h2 : PSs X sts (tS X E g)) : PSs X (st :: sts) (tS X E fun σ S => (f σ S).next fun σ1 S1 => g σ1 S1) := by
  refine (pss_cons h1 h2).imp fun D σ H ⟨F, m, S, σd, Y, G, h⟩ => ⟨F, m, S, σd, Y, G, ?_⟩
  dsimp only at h
  cases r : f σd S with
  | nx a S1 =>
    rw [r] at h
    exact fun F1 m1 H1 σ1 x Y1 G1 => ⟨F1, m1, S1, a, Y1, G1, Rf.shift x h⟩
  | rt a S1 => rw [r] at h; exact h
  | bk a S1 => rw [r] at h; exact h
  | ct a S1 => rw [r] at h; exact h
  | exc a S1 => rw [r] at h; exact h
  | fail => rw [r] at h; exact h
theorem st_pass : PS X (.Pass pos) (tS X E fun σ S => .nx σ S) := ps_pass.imp fun D σ H ⟨F, m, S, σd, Y, G, h⟩ => h.nx_here Y G
theorem st_break : PS X (.Break pos) (tS X E fun σ S => .bk σ S) := ps_break.imp fun D σ H ⟨F, m, S, σd, Y, G, h⟩ => h _ _ _ _ Ext.refl Y G
theorem st_cont : PS X (.Continue pos) (tS X E fun σ S => .ct σ S) := ps_continue.imp fun D σ H ⟨F, m, S, σd, Y, G, h⟩ => h _ _ _ _ Ext.refl Y G
theorem st_never : PS X st (tS X E fun _ _ => .fail) := ps_never.imp fun D σ H ⟨F, m, S, σd, Y, G, h⟩ => h
theorem st_ret (ha : PE X e (tE X E fa)) : PS X (.Return (some e) pos) (tS X E fun σ S => (fa σ S).fl fun w S1 => .rt w S1) :=
  (ps_ret ha).imp fun D σ H ⟨F, m, S, σd, Y, G, h⟩ => ⟨F, m, S, σd, Y, G, (Rf.fl h).mono fun F1 m1 H1 S1 w x1 Y1 h1 v hv => h1 _ _ _ _ Ext.refl Y1 hv⟩
theorem st_retN : PS X (.Return none pos) (tS X E fun _ S => .rt (.d .non) S) := ps_retN.imp fun D σ H ⟨F, m, S, σd, Y, G, h⟩ => h _ _ _ _ Ext.refl Y rfl
theorem st_exp (ha : PE X e (tE X E fa)) (hs : swapsWith e none pos.line X.env = pure false) : PS X (.Expr e pos) (tS X E fun σ S => (fa σ S).fl fun _ S1 => .nx σ S1) :=
  (ps_expr ha hs).imp fun D σ H ⟨F, m, S, σd, Y, G, h⟩ => ⟨F, m, S, σd, Y, G, (Rf.fl h).mono fun F1 m1 H1 S1 w x1 Y1 h1 v hv => h1.nx_here Y1 (G.mono x1)⟩
theorem st_if {c : Expr} {xs ys : List Stmt} {ft : Sg → Store → Res Bool} {f g : Sg → Store → Fl} (hc : PT X c (tT X E ft)) (hx : PSs X xs (tS X E f)) (hy : PSs X ys (tS X E g)) :
    PS X (.If c xs ys pos) (tS X E fun σ S => (ft σ S).fl fun q S1 => if q then f σ S1 else g σ S1) := by
  refine (ps_if hc hx hy).imp fun D σ H ⟨F, m, S, σd, Y, G, h⟩ => ⟨F, m, S, σd, Y, G, (Rf.fl h).mono fun F1 m1 H1 S1 q x1 Y1 h1 => ?_⟩
  cases q with
  | true => exact iteT ⟨F1, m1, S1, σd, Y1, G.mono x1, h1⟩
  | false => exact iteF ⟨F1, m1, S1, σd, Y1, G.mono x1, h1⟩
theorem st_whl {c : Expr} {xs : List Stmt} {ft : Sg → Store → Res Bool} {f : Sg → Store → Fl} {n : Nat} (hp : PassesOwn (model X.prog X.w) X.A X.env X.xe) (hc : PT X c (tT X E ft)) (hx : PSs X xs (tS X E f)) :
    PS X (.While c xs [] pos) (tS X E fun σ S => whlLoop ft f n σ S) := by
  refine (ps_while hp hc hx).imp fun D σ H ⟨F, m, S, σd, Y, G, h⟩ => ?_
  refine ⟨fun k σ H => ∃ F m S σd, Wd (tbX X) X.K F m H S ∧ SgAt X.K X.mg F m H σd σ ∧ Rf X E F m H (whlLoop ft f k σd S) D, ⟨n, F, m, S, σd, Y, G, h⟩, fun k σ H ⟨F, m, S, σd, Y, G, h⟩ => ?_⟩
  cases k with
  | zero => exact h.elim
  | succ k =>
    refine ⟨F, m, S, σd, Y, G, (Rf.fl h).mono fun F1 m1 H1 S1 q x1 Y1 h1 => ?_⟩
    have G1 := G.mono x1
    cases q with
    | false => exact iteF (h1.nx_here Y1 G1)
    | true =>
      refine iteT ⟨fun σ' H' => ∃ F m S σd, Wd (tbX X) X.K F m H' S ∧ SgAt X.K X.mg F m H' σd σ' ∧ Rf X E F m H' (whlLoop ft f k σd S) D, fun σ' H' q => ⟨k, Nat.lt_succ_self k, q⟩, F1, m1, S1, σd, Y1, G1, ?_⟩
      rw [if_pos rfl] at h1
      cases r : f σd S1 with
      | nx a S2 => rw [r] at h1; exact fun F2 m2 H2 σ2 x Y2 G2 => ⟨F2, m2, S2, a, Y2, G2, Rf.shift x h1⟩
      | ct a S2 => rw [r] at h1; exact fun F2 m2 H2 σ2 x Y2 G2 => ⟨F2, m2, S2, a, Y2, G2, Rf.shift x h1⟩
      | bk a S2 => rw [r] at h1; exact h1
      | rt a S2 => rw [r] at h1; exact h1
      | exc a S2 => rw [r] at h1; exact h1
      | fail => rw [r] at h1; exact h1
theorem st_for {tg it : Expr} {xs : List Stmt} {js : List Nat} {fi : Sg → Store → Res (List D)} {ft : D → Sg → Option Sg} {f : Sg → Store → Fl} (hp : PassesOwn (model X.prog X.w) X.A X.env X.xe) (hc : X.calm = true) (hi : PI X tg it (tIt X E fi)) (hg : PG X tg (gTg X js ft)) (hx : PSs X xs (tS X E f)) (hf : ∀ x, foldedSetIterable it X.env x = pure x) :
    PS X (.For tg it xs [] pos) (tS X E fun σ S => (fi σ S).fl fun items S1 => forLoop (forTurn ft f) items σ S1) := by
  refine (ps_for hp hc hi hg hx hf).imp fun D σ H ⟨F, m, S, σd, Y, G, h⟩ => ⟨F, m, S, σd, Y, G, (Rf.fl h).mono fun F1 m1 H1 S1 items x1 Y1 h1 J yl => ?_⟩
  refine ⟨fun i n σ H => ∃ F m S σd, i ≤ items.length ∧ n + i = items.length ∧ Wd (tbX X) X.K F m H S ∧ Ext F1 m1 H1 F m H ∧ SgAt X.K X.mg F m H σd σ ∧ Rf X E F m H (forLoop (forTurn ft f) (items.drop i) σd S) D,
    ⟨items.length, F1, m1, S1, σd, Nat.zero_le _, rfl, Y1, Ext.refl, G.mono x1, h1⟩, fun i n σ H ⟨F, m, S, σd, q1, q2, Y, x, G, h⟩ => ?_⟩
  by_cases hlt : i < items.length
  · refine .inr ⟨yl.go i _ m1 m H S ⟨x.g⟩ Y hlt, fun σ' H' => ∃ F m S σd, i + 1 ≤ items.length ∧ (n - 1) + (i + 1) = items.length ∧ Wd (tbX X) X.K F m H' S ∧ Ext F1 m1 H1 F m H' ∧ SgAt X.K X.mg F m H' σd σ' ∧ Rf X E F m H' (forLoop (forTurn ft f) (items.drop (i + 1)) σd S) D,
      fun σ' H' q => ⟨n - 1, by omega, q⟩, fun u H2 hy => ?_⟩
    obtain ⟨F2, x2, Y2, hu⟩ := yl.yld i items[i] _ m1 m H S u H2 ⟨x.g⟩ Y (List.getElem?_eq_getElem hlt) hy
    rw [List.drop_eq_getElem_cons hlt, forLoop] at h
    unfold forTurn at h
    cases et : ft items[i] σd with
    | none => rw [et] at h; exact h.elim
    | some σ1 =>
      rw [et] at h
      refine ⟨F2, m, S, σd, items[i], σ1, Y2, G.mono x2, hu, et, fun σ' G' _ => ⟨F2, m, S, σ1, Y2, G', ?_⟩⟩
      have h := Rf.shift x2 h
      dsimp only at h
      cases r : f σ1 S with
      | nx a S2 => rw [r] at h; exact fun F3 m3 H3 σ3 x3 Y3 G3 => ⟨F3, m3, S2, a, hlt, by omega, Y3, (x.trans x2).trans x3, G3, Rf.shift x3 h⟩
      | ct a S2 => rw [r] at h; exact fun F3 m3 H3 σ3 x3 Y3 G3 => ⟨F3, m3, S2, a, hlt, by omega, Y3, (x.trans x2).trans x3, G3, Rf.shift x3 h⟩
      | bk a S2 => rw [r] at h; exact h
      | rt a S2 => rw [r] at h; exact h
      | exc a S2 => rw [r] at h; exact h
      | fail => rw [r] at h; exact h
  · have ei : i = items.length := by omega
    refine .inl ⟨yl.stop i _ m1 m H S ⟨x.g⟩ Y (by omega), ?_⟩
    rw [ei, List.drop_length] at h
    exact h.nx_here Y G
/-! ### assignments -/
def gTx (X : Cx) (E : XK) (f : W → Sg → Store → Res Sg) : TG := fun v σ H Q => ∃ F m S σd w, Wd (tbX X) X.K F m H S ∧ SgAt X.K X.mg F m H σd σ ∧ AtW X.K X.mg F m H w v ∧
  Rp X E F m H (f w σd S) fun F' m' H' _ σd' => ∀ σ', SgAt X.K X.mg F' m' H' σd' σ' → Q σ' H'
def gTxs (X : Cx) (E : XK) (f : List D → Sg → Store → Res Sg) : TGs := fun vs σ H Q => ∃ F m S σd ds, Wd (tbX X) X.K F m H S ∧ SgAt X.K X.mg F m H σd σ ∧ AtDs X.K F H ds vs ∧
  Rp X E F m H (f ds σd S) fun F' m' H' _ σd' => ∀ σ', SgAt X.K X.mg F' m' H' σd' σ' → Q σ' H'
theorem sx_nm {i : Nat} {x : Str} (hN : X.N.Nodup) (hi : X.N[i]? = some x) (hx : Loc X.env.scope x) (hf : X.fn x = true ∨ X.env.scope.names.lookup x = some .local) : PG X (.Name x pos) (gTx X E fun w σ S => if i < σ.length then .ok (σ.set i (some w)) S else .fail) := by
  refine PG.imp (pg_name hN hi hx hf) fun v σ H Q ⟨F, m, S, σd, w, Y, G, hd, h⟩ => ?_
  dsimp only at h
  by_cases c : i < σd.length
  · rw [if_pos c] at h
    exact h.ok_here Y _ (G.set hd)
  · rw [if_neg c] at h; exact h.elim
theorem sx_nil : PGs X [] (gTxs X E fun ds σ S => match ds with
    | [] => .ok σ S
    | _ => .fail) := by
  refine PGs.imp pgs_nil fun v σ H Q ⟨F, m, S, σd, ds, Y, G, hd, h⟩ => ?_
  cases ds with
  | nil => exact ⟨hd, h.ok_here Y _ G⟩
  | cons d ds => exact h.elim
theorem sx_cons {f : W → Sg → Store → Res Sg} {g : List D → Sg → Store → Res Sg} (h1 : PG X e (gTx X E f)) (h2 : PGs X es (gTxs X E g)) (hs : (assignEach (e :: es) X.env).map (·.2) = assign e X.env :: (assignEach es X.env).map (·.2)) :
    PGs X (e :: es) (gTxs X E fun ds σ S => match ds with
    | d :: ds => (f (.d d) σ S).bind fun σ1 S1 => g ds σ1 S1
    | [] => .fail) := by
  refine PGs.imp (pgs_cons h1 h2 hs) fun v σ H Q ⟨F, m, S, σd, ds, Y, G, hd, h⟩ => ?_
  cases ds with
  | nil => exact h.elim
  | cons d ds =>
    dsimp only at h
    obtain ⟨v, r, rfl, hv, hr⟩ := hd
    exact ⟨v, r, rfl, F, m, S, σd, .d d, Y, G, hv, (Rp.bind h).mono fun F1 m1 H1 S1 σ1 x1 Y1 h1 σ' G' => ⟨F1, m1, S1, σ1, ds, Y1, G', AtDs.mono x1.g hr, h1⟩⟩
theorem PG.by {tg : Expr} {t' : TG} (h : ∀ v σ H Q, t' v σ H Q → ∃ t, PG X tg t ∧ t v σ H Q) : PG X tg t' := ⟨fun pins s σ H v u Q I r q => let ⟨_, p, q'⟩ := h v σ H Q q; p.run pins s σ H v u Q I r q'⟩
theorem sx_tup {g : List D → Sg → Store → Res Sg} {k n : Nat} (hc : X.calm = true) (h : PGs X es (gTxs X E g)) (hn : (assignEach es X.env).length = n) (hst : (assignEach es X.env).findIdx? (·.1) = none) :
    PG X (.Tuple es k pos) (gTx X E fun w σ S => match w with
    | .d (.tup ds) => if ds.length = n then g ds σ S else .fail
    | .d (.lst ds) => if ds.length = n then g ds σ S else .fail
    | _ => .fail) := by
  refine PG.by fun v σ H Q ⟨F, m, S, σd, w, Y, G, hd, h'⟩ => ?_
  have hh := h'
  cases w with
  | d d =>
    cases d with
    | tup ds =>
      obtain ⟨a, vs, rfl, g1, g2⟩ := hd
      dsimp only at hh
      by_cases c : ds.length = n
      · rw [if_pos c] at hh
        exact ⟨_, pg_tup (n := n) hc h hn hst, a, vs, rfl, g1.1, by rw [g2.length]; exact c, F, m, S, σd, ds, Y, G, g2, hh⟩
      · rw [if_neg c] at hh
        exact hh.elim
    | lst ds =>
      obtain ⟨a, vs, rfl, g1, g2⟩ := hd
      dsimp only at hh
      by_cases c : ds.length = n
      · rw [if_pos c] at hh
        exact ⟨_, pg_lst (n := n) hc h hn hst, a, vs, rfl, g1.1, by rw [g2.length]; exact c, F, m, S, σd, ds, Y, G, g2, hh⟩
      · rw [if_neg c] at hh
        exact hh.elim
    | _ => exact hh.elim
  | _ => exact hh.elim
theorem PSet.by {t' : TSet} (h : ∀ o i v H Q, t' o i v H Q → ∃ t, PSet X t ∧ t o i v H Q) : PSet X t' := by
  intro pins s σ H o i v ov iv u Q I ro ri rv q
  obtain ⟨t, o', q'⟩ := h o i v H Q q
  exact o' pins s σ H o i v ov iv u Q I ro ri rv q'
theorem set_W (hu : X.A.units + 1 < cLine) : PSet X (fun o i v H Q => ∃ F m S a k w S', Wd (tbX X) X.K F m H S ∧ AtW X.K X.mg F m H a o ∧ AtW X.K X.mg F m H k i ∧ AtW X.K X.mg F m H w v ∧ setC S a k w = some S' ∧ ∀ F' m' H', Ext F m H F' m' H' → Wd (tbX X) X.K F' m' H' S' → Q H') := by
  refine PSet.by fun o i v H Q ⟨F, m, S, a, k, w, S', Y, ho, hi, hv, e, q⟩ => ?_
  unfold setC at e
  split at e
  · rename_i r n d
    split at e
    · rename_i ds c
      cases n with
      | int k =>
      obtain ⟨j, e1, rfl⟩ := map_some e
      obtain ⟨p, h1, rfl⟩ := ho
      obtain ⟨vs, h2, h3⟩ := Y.cell r p _ h1 c
      refine ⟨_, set_list, p, vs, k, j, rfl, hi, h2, by rw [h3.length]; exact e1, ?_⟩
      have hne : Kp F H F (upd H p (.lst (vs.set j v))) := .of fun b hb => ⟨hb, upd_ne fun z => by
        have := Y.nF p (List.mem_of_getElem? h1)
        rw [← z, hb] at this
        cases this⟩
      obtain ⟨Y', x⟩ := Y.write (o := .lst (vs.set j v)) (c := .lst (ds.set j d)) h1 ⟨_, rfl, AtDs.mono hne (h3.set j hv)⟩
      exact q _ _ _ x Y'
      | _ => cases e
    · rename_i kvs c
      split at e
      · rename_i k ek
        by_cases cl : kvs.length < 16777216
        · rw [if_pos cl] at e
          cases e
          obtain ⟨p, h1, rfl⟩ := ho
          obtain ⟨vs, h2, h3⟩ := Y.cell r p _ h1 c
          have ey := keyD_at hi ek
          subst ey
          have lv : ∀ {kvs : List (Key × D)} {vs : List (Key × V)}, AtKV X.K F H kvs vs → vs.length = kvs.length := fun {kvs} => by
            induction kvs with
            | nil => intro vs h; cases (show _ = _ from h); rfl
            | cons p ds ih => intro vs h; obtain ⟨k, d⟩ := p; obtain ⟨v, r, rfl, _, h2⟩ := h; rw [List.length_cons, List.length_cons, ih h2]
          refine ⟨_, set_dict hu, p, _, rfl, DPut.k h2 (by rw [lv h3, sizeLine_eq]; exact cl), ?_⟩
          have hne : Kp F H F (upd H p (.dK (putK vs k v))) := .of fun b hb => ⟨hb, upd_ne fun z => by
            have := Y.nF p (List.mem_of_getElem? h1)
            rw [← z, hb] at this
            cases this⟩
          obtain ⟨Y', x⟩ := Y.write (o := .dK (putK vs k v)) (c := .dct (putD kvs k d)) h1 ⟨_, rfl, AtKV.mono hne (h3.put hv)⟩
          exact q _ _ _ x Y'
        · rw [if_neg cl] at e
          cases e
      · cases e
    · cases e
    · cases e
  · cases e
theorem sx_sub (hu : X.A.units + 1 < cLine) (ha : PE X a (tE X E fa)) (hb : PE X b (tE X E fb)) (hs : ∀ v, assign (.Subscript a b pos) X.env v = (do
      let ov ← holding [v] (eval a X.env)
      let iv ← holding [v, ov] (eval b X.env)
      standAt pos
      holding [v, ov, iv] (setItem ov iv v)
      release [v, ov, iv] [])) : PG X (.Subscript a b pos) (gTx X E fun w σ S => (fa σ S).bind fun o S1 => (fb σ S1).bind fun k S2 => match setC S2 o k w with
    | some S3 => .ok σ S3
    | none => .fail) := by
  refine PG.imp (pg_sub ha hb (set_W hu) hs) fun v σ H Q ⟨F, m, S, σd, w, Y, G, hd, h⟩ => ?_
  refine ⟨F, m, S, σd, Y, G, (Rp.bind h).mono fun F1 m1 H1 S1 o x1 Y1 h1 u hu => ⟨F1, m1, S1, σd, Y1, G.mono x1, (Rp.bind h1).mono fun F2 m2 H2 S2 k x2 Y2 h2 j hj => ?_⟩⟩
  cases e : setC S2 o k w with
  | none => rw [e] at h2; exact h2.elim
  | some S3 =>
    rw [e] at h2
    exact ⟨F2, m2, S2, o, k, w, S3, Y2, hu.mono x2, hj, (hd.mono x1).mono x2, e, fun F3 m3 H3 x3 Y3 => h2 _ _ _ x3 Y3 _ (((G.mono x1).mono x2).mono x3)⟩
theorem st_asg {tg : Expr} {ft : W → Sg → Store → Res Sg} (ha : PE X e (tE X E fa)) (hg : PG X tg (gTx X E ft)) (hs : swapsWithSole [tg] e pos.line X.env = pure false) (hw : swappedStores [tg] e X.env = pure none) (h1 : (assignEach [tg] X.env).map (·.2) = [assign tg X.env]) :
    PS X (.Assign [tg] e pos) (tS X E fun σ S => (fa σ S).fl fun w S1 => (ft w σ S1).fl fun σ1 S2 => .nx σ1 S2) := by
  refine (ps_asg ha hg hs hw h1).imp fun D σ H ⟨F, m, S, σd, Y, G, h⟩ => ⟨F, m, S, σd, Y, G, (Rf.fl h).mono fun F1 m1 H1 S1 w x1 Y1 h1 v hv => ⟨F1, m1, S1, σd, w, Y1, G.mono x1, hv, (Rf.fl h1).mono fun F2 m2 H2 S2 σ2 x2 Y2 h2 σ' G' => ?_⟩⟩
  exact h2.nx_here Y2 G'
/-- several names at once: nothing else is made -/
theorem AtWs.setAll2 {F : Addr → Nat} {m : List Addr} {H : Hp} {σd σd' : Sg} {σ : L2.St} {i j : Nat} {ws : List W} {vs : List V} (G : SgAt X.K X.mg F m H σd σ) (h : AtWs X.K X.mg F m H ws vs) (e : setAll [i, j] ws σd = some σd') :
    ∃ v w, vs = [v, w] ∧ SgAt X.K X.mg F m H σd' ((σ.set i (some v)).set j (some w)) := by
  rcases ws with _ | ⟨w1, _ | ⟨w2, _ | ⟨w3, ws⟩⟩⟩
  · cases e
  · unfold setAll at e
    split at e
    · cases e
    · cases e
  · obtain ⟨v, v2, rfl, h1, h2⟩ := h.two
    unfold setAll at e
    split at e
    · unfold setAll at e
      split at e
      · cases e
        exact ⟨v, v2, rfl, (G.set h1).set h2⟩
      · cases e
    · cases e
  · unfold setAll at e
    split at e
    · unfold setAll at e
      split at e
      · cases e
      · cases e
    · cases e
theorem AtWs.setAll3 {F : Addr → Nat} {m : List Addr} {H : Hp} {σd σd' : Sg} {σ : L2.St} {i j k : Nat} {ws : List W} {vs : List V} (G : SgAt X.K X.mg F m H σd σ) (h : AtWs X.K X.mg F m H ws vs) (e : setAll [i, j, k] ws σd = some σd') :
    ∃ u v w, vs = [u, v, w] ∧ SgAt X.K X.mg F m H σd' (((σ.set i (some u)).set j (some v)).set k (some w)) := by
  rcases ws with _ | ⟨w1, ws⟩
  · cases e
  · obtain ⟨v, r, rfl, h1, h2⟩ := h
    unfold setAll at e
    split at e
    · obtain ⟨v2, v3, rfl, g⟩ := AtWs.setAll2 (G.set h1) h2 e
      exact ⟨v, v2, v3, rfl, g⟩
    · cases e
theorem st_par2 {i j : Nat} {x y : Str} {px py pt : Pos} {kt k2 : Nat} {pt2 : Pos} {fs : Sg → Store → Res (List W)} (hc : X.calm = true) (hN : X.N.Nodup) (hi : X.N[i]? = some x) (hj : X.N[j]? = some y) (hij : i ≠ j)
    (hx : X.env.scope.names.lookup x = some .local) (hy : X.env.scope.names.lookup y = some .local) (ha : PA X [a, b] (tAw X E fs))
    (hw : swappedStores [.Tuple [.Name x px, .Name y py] kt pt] (.Tuple [a, b] k2 pt2) X.env = pure (some [x, y])) (hs : swapsWithSole [.Tuple [.Name x px, .Name y py] kt pt] (.Tuple [a, b] k2 pt2) pos.line X.env = pure false) :
    PS X (.Assign [.Tuple [.Name x px, .Name y py] kt pt] (.Tuple [a, b] k2 pt2) pos) (tS X E fun σ S => (fs σ S).fl fun ws S1 => match setAll [i, j] ws σ with
    | some σ1 => .nx σ1 S1
    | none => .fail) := by
  refine (ps_par hc hN hi hj hij hx hy ha hw hs).imp fun D σ H ⟨F, m, S, σd, Y, G, h⟩ => ⟨F, m, S, σd, Y, G, (Rf.fl h).mono fun F1 m1 H1 S1 ws x1 Y1 h1 vs hv => ?_⟩
  cases e : setAll [i, j] ws σd with
  | none => rw [e] at h1; exact h1.elim
  | some σ2 =>
    rw [e] at h1
    obtain ⟨v, w, rfl, g⟩ := hv.setAll2 (G.mono x1) e
    exact ⟨v, w, rfl, h1.nx_here Y1 g⟩
theorem st_par3 {i j l : Nat} {x y z : Str} {c : Expr} {px py pz pt : Pos} {kt k2 : Nat} {pt2 : Pos} {fs : Sg → Store → Res (List W)} (hc : X.calm = true) (hN : X.N.Nodup) (hi : X.N[i]? = some x) (hj : X.N[j]? = some y) (hl : X.N[l]? = some z) (hij : i ≠ j) (hil : i ≠ l) (hjl : j ≠ l)
    (hx : X.env.scope.names.lookup x = some .local) (hy : X.env.scope.names.lookup y = some .local) (hz : X.env.scope.names.lookup z = some .local) (ha : PA X [a, b, c] (tAw X E fs))
    (hw : swappedStores [.Tuple [.Name x px, .Name y py, .Name z pz] kt pt] (.Tuple [a, b, c] k2 pt2) X.env = pure (some [x, y, z])) (hs : swapsWithSole [.Tuple [.Name x px, .Name y py, .Name z pz] kt pt] (.Tuple [a, b, c] k2 pt2) pos.line X.env = pure false) :
    PS X (.Assign [.Tuple [.Name x px, .Name y py, .Name z pz] kt pt] (.Tuple [a, b, c] k2 pt2) pos) (tS X E fun σ S => (fs σ S).fl fun ws S1 => match setAll [i, j, l] ws σ with
    | some σ1 => .nx σ1 S1
    | none => .fail) := by
  refine (ps_par3 hc hN hi hj hl hij hil hjl hx hy hz ha hw hs).imp fun D σ H ⟨F, m, S, σd, Y, G, h⟩ => ⟨F, m, S, σd, Y, G, (Rf.fl h).mono fun F1 m1 H1 S1 ws x1 Y1 h1 vs hv => ?_⟩
  cases e : setAll [i, j, l] ws σd with
  | none => rw [e] at h1; exact h1.elim
  | some σ2 =>
    rw [e] at h1
    obtain ⟨u, v, w, rfl, g⟩ := hv.setAll3 (G.mono x1) e
    exact ⟨u, v, w, rfl, h1.nx_here Y1 g⟩
/-! names = values by a tuple in between -/
def setVs : List Nat → List V → L2.St → L2.St
  | i :: is, v :: vs, σ => setVs is vs (σ.set i (some v))
  | _, _, σ => σ
def gWs (is : List Nat) : TGs := fun vs σ H Q => vs.length = is.length ∧ Q (setVs is vs σ) H
theorem gws_nil : PGs X [] (gWs []) := PGs.imp pgs_nil fun v σ H Q ⟨h1, h2⟩ => by
  cases v with
  | nil => exact ⟨rfl, h2⟩
  | cons _ _ => cases h1
theorem gws_cons {i : Nat} {is : List Nat} {es : List Expr} {x : Str} (hN : X.N.Nodup) (hi : X.N[i]? = some x) (hx : Loc X.env.scope x) (hf : X.fn x = true ∨ X.env.scope.names.lookup x = some .local) (h : PGs X es (gWs is)) (hs : (assignEach (.Name x pos :: es) X.env).map (·.2) = assign (.Name x pos) X.env :: (assignEach es X.env).map (·.2)) : PGs X (.Name x pos :: es) (gWs (i :: is)) :=
  PGs.imp (pgs_cons (pg_name hN hi hx hf) h hs) fun vs σ H Q ⟨h1, h2⟩ => by
    cases vs with
    | nil => cases h1
    | cons v r => exact ⟨v, r, rfl, Nat.succ.inj h1, h2⟩
theorem AtWs.setAll {F : Addr → Nat} {m : List Addr} {H : Hp} : ∀ {is : List Nat} {ws : List W} {vs : List V} {σd σd' : Sg} {σ : L2.St}, SgAt X.K X.mg F m H σd σ → AtWs X.K X.mg F m H ws vs → Pyi.setAll is ws σd = some σd' →
    vs.length = is.length ∧ SgAt X.K X.mg F m H σd' (setVs is vs σ)
  | [], [], vs, σd, σd', σ, G, h, e => by
    cases (show vs = [] from h)
    cases e
    exact ⟨rfl, G⟩
  | i :: is, w :: ws, vs, σd, σd', σ, G, h, e => by
    obtain ⟨v, r, rfl, h1, h2⟩ := h
    unfold Pyi.setAll at e
    split at e
    · obtain ⟨g1, g2⟩ := AtWs.setAll (G.set h1) h2 e
      exact ⟨congrArg (· + 1) g1, g2⟩
    · cases e
  | [], _ :: _, _, _, _, _, _, _, e => by cases e
  | _ :: _, [], _, _, _, _, _, _, e => by cases e
theorem st_parT {is : List Nat} {ts vs : List Expr} {kt k2 : Nat} {pt pt2 : Pos} {fs : Sg → Store → Res (List W)} (hc : X.calm = true) (ha : PA X vs (tAw X E fs)) (hg : PGs X ts (gWs is)) (hl : is.length ≤ 9)
    (hn : (assignEach ts X.env).length = is.length) (hst : (assignEach ts X.env).findIdx? (·.1) = none) (hs : swapsWithSole [.Tuple ts kt pt] (.Tuple vs k2 pt2) pos.line X.env = pure false) (hw : swappedStores [.Tuple ts kt pt] (.Tuple vs k2 pt2) X.env = pure none)
    (h1 : (assignEach [.Tuple ts kt pt] X.env).map (·.2) = [assign (.Tuple ts kt pt) X.env]) :
    PS X (.Assign [.Tuple ts kt pt] (.Tuple vs k2 pt2) pos) (tS X E fun σ S => (fs σ S).fl fun ws S1 => match Pyi.setAll is ws σ with
    | some σ1 => .nx σ1 S1
    | none => .fail) := by
  refine (ps_asg (pe_tup ha) (pg_tup hc hg hn hst) hs hw h1).imp fun D σ H ⟨F, m, S, σd, Y, G, h⟩ => ⟨F, m, S, σd, Y, G, (Rf.fl h).mono fun F1 m1 H1 S1 ws x1 Y1 h1 us hu => ?_⟩
  cases e : Pyi.setAll is ws σd with
  | none => rw [e] at h1; exact h1.elim
  | some σ2 =>
    rw [e] at h1
    obtain ⟨l, g⟩ := AtWs.setAll (G.mono x1) hu e
    refine ⟨by rw [l]; exact Nat.le_trans hl (by decide), fun p hp => ?_⟩
    obtain ⟨Y2, x2⟩ := Y1.keep (k := 0) (o := .tup us) hp
    exact ⟨p, us, rfl, SqT.of upd_same, l, l, (Rf.shift x2 h1).nx_here Y2 (g.mono x2)⟩
/-- name = [.. for ..] -/
theorem lc_set {cel : Bool} {own js : List Nat} {i : Nat} {fi : Sg → Store → Res (List D)} {ft : D → Sg → Option Sg} {fq fe : Sg → Store → Res W} {D : Ends} {σ : L2.St} {H : Hp} (hj : ∀ j ∈ js, j ∈ own)
    (h : tS X E (fun σ S => (fLc cel fi ft fq fe own σ S).fl fun w S1 => (if i < σ.length then Res.ok (σ.set i (some w)) S1 else Res.fail).fl fun σ1 S2 => .nx σ1 S2) D σ H) :
    tAsg (tLc (tIt X E fi) (gTg X js ft) (tT X E0' (tr fq)) (tE X E0' fe) own) (gName i) D σ H := by
  show tLc (tIt X E fi) (gTg X js ft) (tT X E0' (tr fq)) (tE X E0' fe) own σ H fun x H1 => D.nx (σ.set i (some x)) H1
  refine lc_read (cel := cel) hj ?_
  obtain ⟨F, m, S, σd, Y, G, h⟩ := h
  refine ⟨F, m, S, σd, Y, G, (Rf.fl h).mono fun F1 m1 H1 S1 w x1 Y1 h1 v hv => ?_⟩
  by_cases c : i < σd.length
  · rw [if_pos c] at h1
    exact h1.nx_here Y1 ((G.mono x1).set hv)
  · rw [if_neg c] at h1
    exact h1.elim
theorem st_aug {i : Nat} {x : Str} {pos' : Pos} (hN : X.N.Nodup) (hi : X.N[i]? = some x) (hx : Loc X.env.scope x) (hf : X.fn x = true ∨ X.env.scope.names.lookup x = some .local) (ha : PE X e (tE X E fa)) :
    PS X (.AugAssign (.Name x pos') .Add e pos) (tS X E fun σ S => match σ[i]? with
    | some (some x) => (fa σ S).fl fun y S1 => match binW .Add x y with
      | some (.d (.int n)) => .nx (σ.set i (some (.d (.int n)))) S1
      | _ => .fail
    | _ => .fail) := by
  refine (ps_aug hN hi hx ha ip_add hf).imp fun D σ H ⟨F, m, S, σd, Y, G, h⟩ => ?_
  dsimp only at h
  split at h
  · rename_i w ew
    obtain ⟨v, e1, hv⟩ := G.2 i w ew
    refine ⟨v, e1, F, m, S, σd, Y, G, (Rf.fl h).mono fun F1 m1 H1 S1 y x1 Y1 h1 u hu => ?_⟩
    split at h1
    · rename_i n eb
      obtain ⟨c, d, z, rfl, rfl, e3, e2⟩ := d2_some eb
      cases e3
      cases c with
      | int p =>
        cases d with
        | int q =>
          cases e2
          exact ⟨p, q, hv, hu, h1.nx_here Y1 ((G.mono x1).set (w := .d (.int (p + q))) (v := .int (p + q)) rfl)⟩
        | _ => cases e2
      | _ =>
        exfalso
        cases d <;> first
          | cases e2
          | (obtain ⟨g, e4⟩ := guard_some e2; cases e4)
    · exact h1.elim
  · exact h.elim
end
end Pyi
/-! Pl1: o[a + b] = v, o a dict whose keys are tuples. -/
namespace Pyi
open PySem PySem.Spec PyProof.Rows L2
variable [Gd]
section
variable {X : Cx} {E : XK} {a b o : Expr} {pos q : Pos} {fa fb fo : Sg → Store → Res W}
theorem inl_inj : ∀ {a b : List Int}, a.map (Sum.inl (β := Str)) = b.map Sum.inl → a = b
  | [], [], _ => rfl
  | [], _ :: _, h => by cases h
  | _ :: _, [], h => by cases h
  | a :: as, b :: bs, h => by
    rw [List.map_cons, List.map_cons] at h
    injection h with h1 h2
    injection h1 with h1
    rw [h1, inl_inj h2]
theorem keys_put {vs : List (List Key × V)} {ks : List (List Int)} (h : vs.map (·.1) = ks.map (fun k => k.map Sum.inl)) (k : List Int) (v : V) : (putK vs (k.map Sum.inl) v).map (·.1) = (putT ks k).map (fun k => k.map Sum.inl) := by
  have hm : (vs.any fun kv => decide (kv.1 = k.map Sum.inl)) = true ↔ k ∈ ks := by
    rw [List.any_eq_true]
    constructor
    · rintro ⟨p, hp, e⟩
      have : p.1 ∈ ks.map (fun k => k.map (Sum.inl (β := Str))) := by rw [← h]; exact List.mem_map.mpr ⟨p, hp, rfl⟩
      rw [of_decide_eq_true e] at this
      obtain ⟨k2, hk, e2⟩ := List.mem_map.mp this
      rw [← inl_inj e2]
      exact hk
    · intro hk
      have : k.map Sum.inl ∈ vs.map (·.1) := by rw [h]; exact List.mem_map.mpr ⟨k, hk, rfl⟩
      obtain ⟨p, hp, e⟩ := List.mem_map.mp this
      exact ⟨p, hp, decide_eq_true e⟩
  unfold putK putT
  by_cases c : k ∈ ks
  · rw [if_pos (hm.mpr c), if_pos c, ← h, List.map_map]
    refine List.map_congr_left fun p _ => ?_
    show (if p.1 = k.map Sum.inl then (p.1, v) else p).1 = p.1
    split <;> rfl
  · rw [if_neg fun z => c (hm.mp z), if_neg c, List.map_append, List.map_append, h]
    rfl
def tK (X : Cx) (E : XK) (f : Sg → Store → Res (List Int)) : TE := fun σ H Q => ∃ F m S σd, Wd (tbX X) X.K F m H S ∧ SgAt X.K X.mg F m H σd σ ∧
  Rp X E F m H (f σd S) fun F' _ H' _ k => ∀ p, F' p = 1 → H' p = some (.tup (k.map V.int)) → Q (.ref p) H'
theorem tupI_of {F : Addr → Nat} {m : List Addr} {H : Hp} {d : D} {v : V} {xs : List Int} (h : AtW X.K X.mg F m H (.d d) v) (e : tupI d = some xs) : ∃ a, v = .ref a ∧ SqT X.K H a (xs.map V.int) := by
  cases d with
  | tup ds =>
    obtain ⟨a, us, rfl, ht, hu⟩ := h
    have := of_ints hu e
    subst this
    exact ⟨a, rfl, ht.1⟩
  | _ => cases e
theorem pe_catK (ha : PE X a (tE X E fa)) (hb : PE X b (tE X E fb)) : PE X (.BinOp a .Add b q) (tK X E fun σ S => (fa σ S).bind fun x S1 => (fb σ S1).bind fun y S2 => Res.of S2 (catK x y)) := by
  refine (pe_op op_catA ha hb).imp fun σ H Q ⟨F, m, S, σd, Y, G, h⟩ => ?_
  refine ⟨F, m, S, σd, Y, G, (Rp.bind h).mono fun F1 m1 H1 S1 x x1 Y1 h1 u hu => ⟨F1, m1, S1, σd, Y1, G.mono x1, (Rp.bind h1).mono fun F2 m2 H2 S2 y x2 Y2 h2 j hj => ?_⟩⟩
  obtain ⟨k, e, h3⟩ := Rp.of h2
  unfold catK at e
  split at e
  · rename_i dx dy
    split at e
    · rename_i c cs d ds e1 e2
      by_cases g : fit ((c :: cs).length + (d :: ds).length) = true
      · rw [if_pos g] at e
        cases e
        obtain ⟨p1, rfl, t1⟩ := tupI_of (hu.mono x2) e1
        obtain ⟨p2, rfl, t2⟩ := tupI_of hj e2
        refine ⟨p1, p2, _, _, rfl, rfl, t1, t2, by rw [List.length_map, List.length_map]; exact fit_line g, (fun z => by cases z), (fun _ z => by cases z), fun _ _ p hp => ?_⟩
        obtain ⟨Y3, x3⟩ := Y2.frz (o := .tup ((c :: cs).map V.int ++ (d :: ds).map V.int)) hp
        exact h3 _ _ _ x3 Y3 p (if_pos rfl) (by rw [upd_same, List.map_append])
      · rw [if_neg g] at e
        cases e
    · cases e
  · cases e
theorem sx_subK (hu : X.A.units + 1 < cLine) (ho : PE X o (tE X E fo)) (ha : PE X a (tE X E fa)) (hb : PE X b (tE X E fb)) (hs : ∀ v, assign (.Subscript o (.BinOp a .Add b q) pos) X.env v = (do
      let ov ← holding [v] (eval o X.env)
      let iv ← holding [v, ov] (eval (.BinOp a .Add b q) X.env)
      standAt pos
      holding [v, ov, iv] (setItem ov iv v)
      release [v, ov, iv] [])) : PG X (.Subscript o (.BinOp a .Add b q) pos) (gTx X E fun w σ S => (fo σ S).bind fun r S1 => (fa σ S1).bind fun x S2 => (fb σ S2).bind fun y S3 => match catK x y with
    | some k => match setK S3 r k with
      | some S4 => .ok σ S4
      | none => .fail
    | none => .fail) := by
  refine PG.imp (pg_sub ho (pe_catK ha hb) (set_dict hu) hs) fun v σ H Q ⟨F, m, S, σd, w, Y, G, hd, h⟩ => ?_
  refine ⟨F, m, S, σd, Y, G, (Rp.bind h).mono fun F1 m1 H1 S1 r x1 Y1 h1 u hu => ⟨F1, m1, S1, σd, Y1, G.mono x1, ?_⟩⟩
  have e : ((fa σd S1).bind fun x S2 => (fb σd S2).bind fun y S3 => match catK x y with
    | some k => match setK S3 r k with
      | some S4 => Res.ok σd S4
      | none => .fail
    | none => .fail) = ((fa σd S1).bind fun x S2 => (fb σd S2).bind fun y S3 => Res.of S3 (catK x y)).bind fun k S4 => match setK S4 r k with
      | some S5 => .ok σd S5
      | none => .fail := by
    rw [Res.bind_assoc]
    congr 1
    funext x S2
    rw [Res.bind_assoc]
    congr 1
    funext y S3
    cases catK x y <;> rfl
  rw [e] at h1
  refine (Rp.bind h1).mono fun F2 m2 H2 S2 k x2 Y2 h2 p hF hp => ?_
  unfold setK at h2
  cases r with
  | ref i =>
    dsimp only at h2
    obtain ⟨A, g1, rfl⟩ := hu.mono x2
    cases c : S2[i]? with
    | none => rw [c] at h2; exact h2.elim
    | some cc =>
      rw [c] at h2
      cases cc with
      | tks ks =>
        dsimp only at h2
        by_cases l : ks.length < 16777216
        · rw [if_pos l] at h2
          obtain ⟨vs, g2, g3⟩ := Y2.cell i A _ g1 c
          have hl : vs.length = ks.length := by
            have := congrArg List.length g3
            rw [List.length_map, List.length_map] at this
            exact this
          have hp' : H2 p = some (.tup ((k.map (Sum.inl (β := Str))).map kV)) := by rw [hp, List.map_map]; rfl
          refine ⟨A, _, rfl, DPut.t g2 hp' (by rw [hl, sizeLine_eq]; exact l), ?_⟩
          obtain ⟨Y4, x4⟩ := Y2.write (o := .dT (putK vs (k.map Sum.inl) v)) (c := .tks (putT ks k)) g1 ⟨_, rfl, keys_put g3 k v⟩
          exact h2 _ _ _ x4 Y4 _ (((G.mono x1).mono x2).mono x4)
        · rw [if_neg l] at h2
          exact h2.elim
      | _ => exact h2.elim
  | _ => exact h2.elim
end
end Pyi
/-! Pm: list comprehensions as values; methods of lists. -/
namespace Pyi
open PySem PySem.Spec PyProof.Rows L2
variable [Gd]
section
variable {X : Cx} {E : XK} {a b e : Expr} {pos p : Pos} {es : List Expr} {fa fb : Sg → Store → Res W} {fs : Sg → Store → Res (List W)}
abbrev blkE (scope : Scope) (cl : List (Str × Addr)) (C : Addr) (X : Cx) : Env := compEnvC scope cl C X.env
theorem se_lc {elt tg iter : Expr} {ifs : List Expr} {scope : Scope} {own : List (Str × Nat)} {js : List Nat} {fi : Sg → Store → Res (List D)} {ft : D → Sg → Option Sg} {fq fe : Sg → Store → Res W} (cel : Bool)
    (hc : X.calm = true) (hN : X.N.Nodup) (hi : PI X tg iter (tIt X E fi)) (ok : BlkOk X.N X.env.scope scope own)
    (hg : ∀ (s : Shared) (H : Hp) (C : Addr) (cl : List (Str × Addr)) (fp : List Addr), PG (X.blk s H scope (blkE scope cl C X) fp) tg (gTg X js ft))
    (ht : ∀ (s : Shared) (H : Hp) (C : Addr) (cl : List (Str × Addr)) (fp : List Addr), PTs (X.blk s H scope (blkE scope cl C X) fp) ifs (tT X E0' (tr fq)))
    (he : ∀ (s : Shared) (H : Hp) (C : Addr) (cl : List (Str × Addr)) (fp : List Addr), PE (X.blk s H scope (blkE scope cl C X) fp) elt (tE X E0' fe))
    (hs : ∀ x, foldedSetIterable iter X.env x = pure x) (hj : ∀ j ∈ js, j ∈ own.map (·.2)) :
    PE X (.ListComp elt [⟨tg, iter, ifs, 0⟩] scope pos) (tE X E (fLc cel fi ft fq fe (own.map (·.2)))) :=
  (pe_lc hc hN hi ok hg ht he hs).imp fun σ H Q h => lc_read hj h
theorem se_lcr {elt tg iter : Expr} {ifs : List Expr} {scope : Scope} {own : List (Str × Nat)} {js : List Nat} {fx : Sg → Store → Res W} {ft : D → Sg → Option Sg} {fq fe : Sg → Store → Res W}
    (hc : X.calm = true) (hN : X.N.Nodup) (hi : PE X iter (tE X E fx)) (ok : BlkOk X.N X.env.scope scope own)
    (hg : ∀ (s : Shared) (H : Hp) (C : Addr) (cl : List (Str × Addr)) (fp : List Addr), PG (X.blk s H scope (blkE scope cl C X) fp) tg (gTg X js ft))
    (ht : ∀ (s : Shared) (H : Hp) (C : Addr) (cl : List (Str × Addr)) (fp : List Addr), PTs (X.blk s H scope (blkE scope cl C X) fp) ifs (tT X E0' (tr fq)))
    (he : ∀ (s : Shared) (H : Hp) (C : Addr) (cl : List (Str × Addr)) (fp : List Addr), PE (X.blk s H scope (blkE scope cl C X) fp) elt (tE X E0' fe))
    (hs : ∀ x, foldedSetIterable iter X.env x = pure x) (hj : ∀ j ∈ js, j ∈ own.map (·.2)) :
    PE X (.ListComp elt [⟨tg, iter, ifs, 0⟩] scope pos) (tE X E (fLcr fx ft fq fe (own.map (·.2)))) :=
  (pe_lc hc hN (pi_list hi) ok hg ht he hs).imp fun σ H Q h => lcr_read hj h
theorem ss_lc {i : Nat} {y : Str} {py spos : Pos} {elt tg iter : Expr} {ifs : List Expr} {scope : Scope} {own : List (Str × Nat)} {js : List Nat} {fi : Sg → Store → Res (List D)} {ft : D → Sg → Option Sg} {fq fe : Sg → Store → Res W} (cel : Bool)
    (hc : X.calm = true) (hN : X.N.Nodup) (hy : X.N[i]? = some y) (hyl : X.env.scope.names.lookup y = some .local) (hsw : swapsWith (.ListComp elt [⟨tg, iter, ifs, 0⟩] scope pos) (some (.Name y py)) spos.line X.env = pure true)
    (hi : PI X tg iter (tIt X E fi)) (ok : BlkOk X.N X.env.scope scope own)
    (hg : ∀ (s : Shared) (H : Hp) (C : Addr) (cl : List (Str × Addr)) (fp : List Addr), PG (X.blk s H scope (blkE scope cl C X) fp) tg (gTg X js ft))
    (ht : ∀ (s : Shared) (H : Hp) (C : Addr) (cl : List (Str × Addr)) (fp : List Addr), PTs (X.blk s H scope (blkE scope cl C X) fp) ifs (tT X E0' (tr fq)))
    (he : ∀ (s : Shared) (H : Hp) (C : Addr) (cl : List (Str × Addr)) (fp : List Addr), PE (X.blk s H scope (blkE scope cl C X) fp) elt (tE X E0' fe))
    (hs : ∀ x, foldedSetIterable iter X.env x = pure x) (hj : ∀ j ∈ js, j ∈ own.map (·.2)) :
    PS X (.Assign [.Name y py] (.ListComp elt [⟨tg, iter, ifs, 0⟩] scope pos) spos) (tS X E fun σ S => (fLc cel fi ft fq fe (own.map (·.2)) σ S).fl fun w S1 => (if i < σ.length then Res.ok (σ.set i (some w)) S1 else Res.fail).fl fun σ1 S2 => .nx σ1 S2) :=
  (ps_setLc hc hN hy hyl hsw hi ok hg ht he hs).imp fun D σ H h => lc_set hj h
theorem pts_yes : PTs X [] (tT X E0' (tr fun _ S => .ok (.d (.bl true)) S)) := ⟨fun pins s σ H Q I ⟨F, m, S, σd, Y, G, h⟩ => pts_nil.run pins s σ H Q I (h _ _ _ Ext.refl Y)⟩
theorem pts_1 {c : Expr} {f : Sg → Store → Res Bool} (h : PT X c (tT X E0' f)) : PTs X [c] (tT X E0' f) := pts_one h
/-! ### methods -/
/-- o.m(..) of a list of the store, read by the evaluator -/
def rMt (X : Cx) (E : XK) (m : Mt) : V → List V → Hp → VK → Prop := fun x vs H Q => ∃ F mm S w ws, Wd (tbX X) X.K F mm H S ∧ AtW X.K X.mg F mm H w x ∧ AtWs X.K X.mg F mm H ws vs ∧
  Rp X E F mm H (mtW m S w ws) fun F' m' H' _ w => ∀ v, AtW X.K X.mg F' m' H' w v → Q v H'
theorem MtM.by {id : String} {r' : V → List V → Hp → VK → Prop} (h : ∀ x vs H Q, r' x vs H Q → ∃ r, MtM X id r ∧ r x vs H Q) : MtM X id r' := fun pins s σ H x xs v us Q I rx rv q =>
  let ⟨_, o, q'⟩ := h x xs H Q q
  o pins s σ H x xs v us Q I rx rv q'
/-- list.extend by a list with whatever slots -/
theorem extend_slots (l : Addr) (xs : Array Value) (n : Nat) (b : Addr) (ys : Array Value) (k : Nat) (sl : Array (Option Value)) (hz : xs.size + ys.size ≤ sizeLine) :
    Meets (Builtin.«list.extend» ⟨[.ref l, .ref b], []⟩) (fun _ R s => s.heap.get? l = some { cls := .type "list", data := .seq xs n } ∧ s.heap.get? b = some { cls := .type "list", data := .seq ys k, slots := sl } ∧
      R (.ok (.ret Value.none)) { s with heap := s.heap.update l (Obj.mapSeq fun x => x ++ ys), toks := s.toks }) := by
  have hc : ¬(!xs.isEmpty && Builtin.List.listTooLong (xs.size + ys.size)) = true := by
    rw [notLongL hz]
    simp
  have hs : xs.size ≤ sizeLine := by omega
  have hp : (xs ++ ys).size ≤ sizeLine + 1 := by
    rw [Array.size_append]
    omega
  refine .of_wp fun prog w A R s h => ?_
  obtain ⟨hh, g, d, tk, os⟩ := s
  obtain ⟨h1, h2, h⟩ := h
  have f1 := PySem.AutoSeq1.idx_int
  have f2 := PySem.AutoSeq1.sub_tuple_tuple
  have f3 := PySem.AutoSeq1.sub_list_list
  have f4 := PySem.AutoSeq1.sub_tuple_list
  have f5 := PySem.AutoSeq1.sub_list_tuple
  wp_walk using (wpAny_updateSeq h1 rfl (hz := hs) (_hz' := hp)), PySem.AutoSeq1.wpAny_loadPart' h1, PySem.AutoSeq1.wpAny_loadPart' h2
  exact ⟨_, rfl, h⟩
/-- l.extend(l2), l2 any list -/
theorem mt_extendW : MtM X "list.extend" (fun x vs H Q => ∃ l b xs zs, x = .ref l ∧ vs = [.ref b] ∧ H l = some (.lst xs) ∧ SqL X.K H b zs ∧ xs.length + zs.length ≤ sizeLine ∧ Q .non (upd H l (.lst (xs ++ zs)))) := by
  rintro pins s σ H x vs v us Q I rx rv ⟨l, b, xs, zs, rfl, rfl, hl, hb, hz, q⟩
  cases rx
  obtain ⟨u, rfl, ru⟩ := rv.one
  cases ru
  obtain ⟨z1, it1, n1, r1, e1, g1⟩ := I.lstM hl
  obtain ⟨it2, r2, ⟨⟨c2, d2, da2, sl2⟩, n2, g2, k2, y2, x2⟩, _⟩ := I.list hb
  dsimp only at k2 x2 y2
  subst k2; subst x2; subst y2
  have e2 := r2.length
  have hs : it1.toArray.size + it2.toArray.size ≤ sizeLine := by rw [List.size_toArray, List.size_toArray]; omega
  have hv : L2.EP X pins σ Q Value.none { s with heap := s.heap.update l (Obj.mapSeq fun x => x ++ it2.toArray), toks := s.toks } :=
    ⟨.non, _, I.lset (its' := it1 ++ it2) hl g1 (by simp) (r1.append r2) (by rw [List.length_append]; exact hz), rfl, q⟩
  exact call_meets F.slot_list_extend ⟨_, g1, rfl⟩ F.entry_list_extend (F.args_list_extend_2 _ _) (extend_slots l it1.toArray n1 b it2.toArray n2 sl2 hs) ⟨g1, g2, hv⟩
/-- the methods that are served: their names, what they are -/
def Mt.name : Mt → Str
  | .append => "append"
  | .extend => "extend"
  | .pop => "pop"
  | _ => ""
def Mt.id : Mt → String
  | .append => "list.append"
  | .extend => "list.extend"
  | _ => "list.pop"
def Mt.ok : Mt → Bool
  | .append => true
  | .extend => true
  | .pop => true
  | _ => false
theorem mt_slot {m : Mt} (h : m.ok = true) : Slot "list" m.name m.id ∧ typeOf (.builtin m.id) = pure (.type "method_descriptor") := by
  cases m with
  | append => exact ⟨F.slot_list_append, F.type_list_append⟩
  | extend => exact ⟨F.slot_list_extend, F.type_list_extend⟩
  | pop => exact ⟨F.slot_list_pop, F.type_list_pop⟩
  | _ => cases h
/-- a cell of the store is written -/
theorem Rp.wr {F : Addr → Nat} {m : List Addr} {S : Store} {H : Hp} {Q : VK} {w : W} {r : Nat} {p : Addr} {vs : List V} {ds : List D} (h : Rp X E F m H (.ok w (S.set r (.lst ds))) (fun F' m' H' _ w => ∀ v, AtW X.K X.mg F' m' H' w v → Q v H')) (Y : Wd (tbX X) X.K F m H S)
    (h1 : m[r]? = some p) (hv : AtDs X.K F H ds vs) {v : V} (hw : ∀ F' m' H', Ext F m H F' m' H' → AtW X.K X.mg F' m' H' w v) : Q v (upd H p (.lst vs)) := by
  have hne : Kp F H F (upd H p (.lst vs)) := .of fun b hb => ⟨hb, upd_ne fun z => by
    have := Y.nF p (List.mem_of_getElem? h1)
    rw [← z, hb] at this
    cases this⟩
  obtain ⟨Y', x⟩ := Y.write (o := .lst vs) (c := .lst ds) h1 ⟨vs, rfl, AtDs.mono hne hv⟩
  exact h _ _ _ x Y' v (hw _ _ _ x)
theorem mt_W {m : Mt} (hm : m.ok = true) : MtM X m.id (rMt X E m) := by
  refine MtM.by fun x vs H Q ⟨F, mm, S, w, ws, Y, hx, hvs, h⟩ => ?_
  unfold mtW at h
  split at h
  · skip
    rename_i r d _
    split at h
    · rename_i ds c
      split at h
      · rename_i hl
        obtain ⟨p, h1, rfl⟩ := hx
        obtain ⟨us, h2, h3⟩ := Y.cell r p _ h1 c
        obtain ⟨v, rfl, hv⟩ := hvs.one
        refine ⟨_, mt_append, p, us, v, rfl, rfl, h2, ?_, Rp.wr h Y h1 (h3.app (AtDs.one hv)) fun _ _ _ _ => rfl⟩
        rw [h3.length, sizeLine_eq]
        exact hl
      · exact h.elim
    · exact h.elim
  · rename_i r es _
    split at h
    · rename_i ds c
      split at h
      · rename_i hl
        obtain ⟨p, h1, rfl⟩ := hx
        obtain ⟨us, h2, h3⟩ := Y.cell r p _ h1 c
        obtain ⟨v, rfl, hv⟩ := hvs.one
        obtain ⟨b, zs, rfl, h4, h5⟩ := hv
        refine ⟨_, mt_extendW, p, b, us, zs, rfl, rfl, h2, h4.1, ?_, Rp.wr h Y h1 (h3.app h5) fun _ _ _ _ => rfl⟩
        rw [h3.length, h5.length]
        exact fit_line hl
      · exact h.elim
    · exact h.elim
  · rename_i r k _
    split at h
    · rename_i ds c
      split at h
      · rename_i hl
        split at h
        · rename_i j ej
          split at h
          · rename_i d ed
            obtain ⟨p, h1, rfl⟩ := hx
            obtain ⟨us, h2, h3⟩ := Y.cell r p _ h1 c
            obtain ⟨v, rfl, hv⟩ := hvs.one
            obtain ⟨y, e1, hy⟩ := h3.get ed
            refine ⟨_, mt_popAt, p, us, k, j, y, rfl, ?_, h2, hl.1, hl.2, ?_, e1, Rp.wr h Y h1 (h3.eraseIdx j) fun F' m' H' x => AtD.mono x.g hy⟩
            · rw [show v = .int k from hv]
            · rw [h3.length]; exact (ixN_seq ej).1
          · exact h.elim
        · exact h.elim
      · exact h.elim
    · exact h.elim
  · rename_i r _
    split at h
    · rename_i ds c
      split at h
      · rename_i d ed
        obtain ⟨p, h1, rfl⟩ := hx
        obtain ⟨us, h2, h3⟩ := Y.cell r p _ h1 c
        cases (show vs = [] from hvs)
        obtain ⟨y, e1, hy⟩ := h3.get ed
        exact ⟨_, mt_pop, p, us, y, rfl, rfl, h2, by rw [h3.length]; exact e1, Rp.wr h Y h1 h3.dropLast fun F' m' H' x => AtD.mono x.g hy⟩
      · exact h.elim
    · exact h.elim
  · exact h.elim
def fMt (m : Mt) (fa : Sg → Store → Res W) (fs : Sg → Store → Res (List W)) : Sg → Store → Res W := fun σ S => (fa σ S).bind fun w S1 => match lstOf S1 w with
    | some _ => (fs σ S1).bind fun ws S2 => mtW m S2 w ws
    | none => .fail
theorem mt_read {m : Mt} {σ : L2.St} {H : Hp} {Q : VK} (h : tE X E (fMt m fa fs) σ H Q) : tBM X.K "list" (rMt X E m) (tE X E fa) (tAw X E fs) σ H Q := by
  obtain ⟨F, mm, S, σd, Y, G, h⟩ := h
  refine ⟨F, mm, S, σd, Y, G, (Rp.bind h).mono fun F1 m1 H1 S1 w x1 Y1 h1 v hv => ?_⟩
  cases e : lstOf S1 w with
  | none => rw [e] at h1; exact h1.elim
  | some ds =>
    rw [e] at h1
    obtain ⟨a, vs, rfl, hs, _⟩ := hv.lst Y1 e
    refine ⟨.inl ⟨rfl, vs, hs⟩, F1, m1, S1, σd, Y1, G.mono x1, (Rp.bind h1).mono fun F2 m2 H2 S2 ws x2 Y2 h2 us hus => ?_⟩
    exact ⟨F2, m2, S2, w, ws, Y2, hv.mono x2, hus, h2⟩
theorem mtR_of {m : Mt} (hm : m.ok = true) : MtR X m.id (rMt X E m) := fun pins s σ H x xs v us Q I r1 r2 h => mt_W hm pins s σ H x xs v us Q I r1 r2 h
theorem se_mt1 {x : Str} {p apos cpos : Pos} {m : Mt} (hm : m.ok = true) (ho : PE X (.Name x p) (tE X E fa)) (ha : PA X [e] (tAw X E fs)) (hn : noStar e = true) (hline : (apos.endLine == cpos.line) = true) :
    PE X (.Call (.Attribute (.Name x p) m.name apos) [e] [] cpos) (tE X E (fMt m fa fs)) := by
  have hs := star_cons (env := X.env) (es := []) hn
  obtain ⟨s1, s2⟩ := mt_slot hm
  exact (pe_bm PySem.F.plainAttrs_list s1 s2 (mtR_of hm) ho ha (by rfl) (by rw [hs]; rfl) hline hs (by rfl)).imp fun σ H Q h => mt_read h
theorem mt_thn0 {m : Mt} {σ : L2.St} {H : Hp} {Q : VK} (h : tBM X.K "list" (rMt X E m) (tE X E fa) (tAw X E fun _ S => .ok [] S) σ H Q) : tBM0 X.K "list" (rMt X E m) (tE X E fa) σ H Q := by
  obtain ⟨F, mm, S, σd, Y, G, h⟩ := h
  refine ⟨F, mm, S, σd, Y, G, h.mono fun F1 m1 H1 S1 w x1 Y1 h1 v hv => ?_⟩
  obtain ⟨ty, F2, m2, S2, σ2, Y2, G2, h2⟩ := h1 v hv
  exact ⟨ty, h2 _ _ _ Ext.refl Y2 [] rfl⟩
theorem se_mt0 {x : Str} {p apos cpos : Pos} {m : Mt} (hm : m.ok = true) (ho : PE X (.Name x p) (tE X E fa)) (hline : (apos.endLine == cpos.line) = true) :
    PE X (.Call (.Attribute (.Name x p) m.name apos) [] [] cpos) (tE X E (fMt m fa fun _ S => .ok [] S)) := by
  obtain ⟨s1, s2⟩ := mt_slot hm
  refine (pe_bm0 PySem.F.plainAttrs_list s1 s2 (mtR_of (E := E) hm) ho (by rfl) hline).imp fun σ H Q h => ?_
  exact mt_thn0 (mt_read (fs := fun _ S => .ok [] S) h)
end
end Pyi
/-! Pm1: dict comprehensions. -/
namespace Pyi
open PySem PySem.Spec PyProof.Rows L2
variable [Gd]
section
variable {X : Cx} {E : XK}
def fDc (fi : Sg → Store → Res (List D)) (ft : D → Sg → Option Sg) (fq fk fe : Sg → Store → Res W) (own : List Nat) : Sg → Store → Res W := fun σ S => (fi σ S).bind fun items S1 => if fit items.length then
      (dcLoop (dcTurn ft fq fk fe own σ) items [] S1).bind fun kvs S2 => .ok (.dct kvs) S2
      else .fail
theorem put_len (kvs : List (Key × D)) (k : Key) (d : D) : (putD kvs k d).length ≤ kvs.length + 1 := by
  unfold putD
  split
  · rw [List.length_map]; omega
  · simp
theorem AtKV.length2 {K : PySem.W.Frag} {F : Addr → Nat} {H : Hp} : ∀ {ds : List (Key × D)} {vs : List (Key × V)}, AtKV K F H ds vs → vs.length = ds.length
  | [], _, h => by cases (show _ = _ from h); rfl
  | (k, d) :: ds, _, h => by
    obtain ⟨v, r, rfl, _, h2⟩ := h
    rw [List.length_cons, List.length_cons, AtKV.length2 h2]
theorem dc_read {own js : List Nat} {fi : Sg → Store → Res (List D)} {ft : D → Sg → Option Sg} {fq fk fe : Sg → Store → Res W} {σ : L2.St} {H : Hp} {Q : VK} (hj : ∀ j ∈ js, j ∈ own) (h : tE X E (fDc fi ft fq fk fe own) σ H Q) :
    tDc (tIt X E fi) (gTg X js ft) (tT X E0' (tr fq)) (tE X E0' fk) (tE X E0' fe) own σ H Q := by
  obtain ⟨F0, m0, S0, σd, Y0, G0, h⟩ := h
  refine ⟨F0, m0, S0, σd, Y0, G0, (Rp.bind h).mono fun F1 m1 H1 S1 items x1 Y1 h1 J yl D hD => ?_⟩
  have G1 := G0.mono x1
  clear h
  by_cases c : fit items.length = true
  · rw [if_pos c] at h1
    let Inv' : Nat → Hp → Prop := fun i H => ∃ F m S kvs vs, Wd (tbX X) X.K F m H S ∧ Ext F1 m1 H1 F m H ∧ F D = 0 ∧ D ∉ m ∧ H D = some (.dK vs) ∧ AtKV X.K F H kvs vs ∧ kvs.length ≤ i ∧
      Rp X E F m H ((dcLoop (dcTurn ft fq fk fe own σd) (items.drop i) kvs S).bind fun r S2 => .ok (.dct r) S2) (fun F' m' H' _ w => ∀ v, AtW X.K X.mg F' m' H' w v → Q v H')
    have hD1 : F1 D = 0 := Decidable.byContradiction fun z => Y1.Fs D z hD
    have hDm : D ∉ m1 := fun z => by
      obtain ⟨i, hi⟩ := List.getElem?_of_mem z
      exact Y1.ne hD hi rfl
    refine ⟨fun i n H => i ≤ items.length ∧ n + i = items.length ∧ Inv' i H, ⟨items.length, Nat.zero_le _, rfl, ?_⟩, fun i n H ⟨hi, hn, F, m, S, kvs, vs, Y, x, z0, zm, zD, ha, hl, hrp⟩ => ?_⟩
    · obtain ⟨Y2, x2⟩ := Y1.keep (k := 0) (o := .dK []) hD
      have e0 : (fun a => if a = D then 0 else F1 a) = F1 := by
        funext a
        by_cases e : a = D
        · rw [if_pos e, e, hD1]
        · rw [if_neg e]
      rw [e0] at Y2 x2
      refine ⟨F1, m1, S1, [], [], Y2, x2, hD1, hDm, upd_same, rfl, Nat.zero_le _, ?_⟩
      exact Rp.shift x2 h1
    · by_cases hlt : i < items.length
      · right
        obtain ⟨Ya, xa⟩ := Y.aside (k := 2) z0 zm (by rw [zD]; exact fun z => by cases z) (.inr fun _ => by rw [zD]; exact fun z => by cases z)
        have xx := x.trans xa
        refine ⟨yl.go i _ m1 m H S ⟨xx.g⟩ Ya hlt, fun H' => i + 1 ≤ items.length ∧ (n - 1) + (i + 1) = items.length ∧ Inv' (i + 1) H', fun H' ⟨q1, q2, q3⟩ => ⟨n - 1, by omega, q1, q2, q3⟩, fun u H2 hy => ?_⟩
        obtain ⟨F2, x2, Y2, hu⟩ := yl.yld i items[i] _ m1 m H S u H2 ⟨xx.g⟩ Ya (List.getElem?_eq_getElem hlt) hy
        rw [List.drop_eq_getElem_cons hlt, dcLoop, Res.bind_assoc] at hrp
        obtain ⟨o, S3, e3, hrp⟩ := quiet_ok hrp
        unfold dcTurn at e3
        have Gw : SgAt X.K X.mg F2 m H2 (wipeW σd own) (wipe σ own) := (((G1.mono x).mono xa).mono x2).wiped own
        cases et : ft items[i] (wipeW σd own) with
        | none => rw [et] at e3; cases e3
        | some σ1 =>
          rw [et] at e3
          refine ⟨F2, m, S, _, items[i], σ1, Y2, Gw, hu, et, fun σ' G' t => ⟨?_, ?_⟩⟩
          · have := wipe_touch t own hj
            rw [this]
            exact wipe_touch (js := own) ⟨wipe_length σ own, fun j hj => by
              have key := wipe_out (σ := σ) (i := j) (vs := own) hj
              exact key⟩ own fun _ z => z
          · dsimp only at e3
            cases eq : fq σ1 S with
            | fail => rw [eq] at e3; cases e3
            | exc x y => rw [eq] at e3; cases e3
            | ok b S4 =>
              rw [eq, Res.bind_ok] at e3
              cases eb : truW S4 b with
              | none => rw [eb] at e3; cases e3
              | some k =>
                rw [eb] at e3
                refine ⟨F2, m, S, σ1, Y2, G', ?_⟩
                unfold tr Res.tru
                rw [eq, Res.bind_ok, eb]
                intro F4 m4 H4 x4 Y4
                cases k with
                | false =>
                  dsimp only at e3
                  cases e3
                  refine iteF ⟨hlt, by omega, ?_⟩
                  obtain ⟨Yb, xb, hg, hm4, hD4⟩ := Y4.back (o := .dK vs) z0 (x2.trans x4)
                  have e5 : upd H4 D (.dK vs) = H4 := by
                    funext q
                    by_cases e : q = D
                    · rw [e, upd_same, hD4 _ zD nt_dK]
                    · rw [upd_ne e]
                  rw [e5] at Yb xb hg
                  exact ⟨_, m4, S3, kvs, vs, Yb, x.trans xb, setF_same, hm4, hD4 _ zD nt_dK, AtKV.mono xb.g ha, Nat.le_succ_of_le hl, Rp.shift xb hrp⟩
                | true =>
                  dsimp only at e3
                  refine iteT ⟨F4, m4, S4, σ1, Y4, G'.mono x4, ?_⟩
                  cases ek : fk σ1 S4 with
                  | fail => rw [ek] at e3; cases e3
                  | exc x y => rw [ek] at e3; cases e3
                  | ok y S5 =>
                    rw [ek, Res.bind_ok] at e3
                    intro F5 m5 H5 x5 Y5 vy hvy
                    refine ⟨F5, m5, S5, σ1, Y5, (G'.mono x4).mono x5, ?_⟩
                    cases ee : fe σ1 S5 with
                    | fail => rw [ee] at e3; cases e3
                    | exc x y => rw [ee] at e3; cases e3
                    | ok w S6 =>
                      rw [ee, Res.bind_ok] at e3
                      intro F6 m6 H6 x6 Y6 v hv
                      cases y with
                      | d n =>
                        cases w with
                        | d z =>
                          dsimp only at e3
                          cases ekd : keyD n with
                          | none => rw [ekd] at e3; cases e3
                          | some kk =>
                            rw [ekd] at e3
                            cases e3
                            obtain ⟨Yb, xb, hg, hm6, hD6⟩ := Y6.back (o := .dK (putK vs kk v)) z0 (((x2.trans x4).trans x5).trans x6)
                            have hl2 : vs.length < sizeLine := by
                              rw [ha.length2]
                              have := fit_line c
                              omega
                            refine ⟨vs, kk, keyD_at hvy ekd, hD6 _ zD nt_dK, hl2, hlt, by omega, _, m6, S3, putD kvs kk z, putK vs kk v, Yb, x.trans xb, setF_same, hm6, upd_same, (AtKV.mono xb.g ha).put (AtD.mono hg hv), ?_, Rp.shift xb hrp⟩
                            have := put_len kvs kk z
                            omega
                        | _ => cases e3
                      | _ => cases e3
      · left
        have ei : i = items.length := by omega
        refine ⟨yl.stop i _ m1 m H S ⟨x.g⟩ Y (by omega), ?_⟩
        rw [ei, List.drop_length] at hrp
        have hrp : Rp X E F m H (.ok (.dct kvs) S) (fun F' m' H' _ w => ∀ v, AtW X.K X.mg F' m' H' w v → Q v H') := hrp
        obtain ⟨Yb, xb⟩ := Y.aside (k := 1) z0 zm (by rw [zD]; exact fun z => by cases z) (.inl (by decide))
        exact hrp _ _ _ xb Yb _ ⟨D, vs, rfl, setF_same, zD, AtKV.mono xb.g ha⟩
  · rw [if_neg c] at h1
    exact h1.elim
theorem se_dc {kx vx tg iter : Expr} {ifs : List Expr} {scope : Scope} {pos : Pos} {own : List (Str × Nat)} {js : List Nat} {fi : Sg → Store → Res (List D)} {ft : D → Sg → Option Sg} {fq fk fe : Sg → Store → Res W}
    (hc : X.calm = true) (hN : X.N.Nodup) (hi : PI X tg iter (tIt X E fi)) (ok : BlkOk X.N X.env.scope scope own)
    (hg : ∀ (s : Shared) (H : Hp) (C : Addr) (cl : List (Str × Addr)) (fp : List Addr), PG (X.blk s H scope (blkE scope cl C X) fp) tg (gTg X js ft))
    (ht : ∀ (s : Shared) (H : Hp) (C : Addr) (cl : List (Str × Addr)) (fp : List Addr), PTs (X.blk s H scope (blkE scope cl C X) fp) ifs (tT X E0' (tr fq)))
    (hk : ∀ (s : Shared) (H : Hp) (C : Addr) (cl : List (Str × Addr)) (fp : List Addr), PE (X.blk s H scope (blkE scope cl C X) fp) kx (tE X E0' fk))
    (he : ∀ (s : Shared) (H : Hp) (C : Addr) (cl : List (Str × Addr)) (fp : List Addr), PE (X.blk s H scope (blkE scope cl C X) fp) vx (tE X E0' fe))
    (hs : ∀ x, foldedSetIterable iter X.env x = pure x) (hj : ∀ j ∈ js, j ∈ own.map (·.2)) :
    PE X (.DictComp kx vx [⟨tg, iter, ifs, 0⟩] scope pos) (tE X E (fDc fi ft fq fk fe (own.map (·.2)))) :=
  (pe_dc hc hN hi ok hg ht hk he hs).imp fun σ H Q h => dc_read hj h
end
end Pyi
/-! Pm2: list comprehensions of two clauses. -/
namespace Pyi
open PySem PySem.Spec PyProof.Rows L2
variable [Gd]
section
variable {K : PySem.W.Frag} {mg : Str → Option Value} {F F' F2 : Addr → Nat} {m m' : List Addr} {H H' H2 : Hp}
theorem Kp.trans (a : Kp F H F' H') (b : Kp F' H' F2 H2) : Kp F H F2 H2 := fun x h => by
  obtain ⟨h1, h2⟩ := a x h
  obtain ⟨h3, h4⟩ := b x h1
  exact ⟨h3, fun o e n => h4 o (h2 o e n) n⟩
theorem Kp.refl : Kp F H F H := fun x h => ⟨h, fun o e _ => e⟩
mutual
theorem AtW.monoK (e : Kp F H F' H') (p : m <+: m') : ∀ {w : W} {v : V}, AtW K mg F m H w v → AtW K mg F' m' H' w v
  | .d _, _, h => AtD.mono e h
  | .dct kvs, _, h => by
    obtain ⟨a, vs, rfl, h1, h2, h3⟩ := h
    exact ⟨a, vs, rfl, (e a h1).1, (e a h1).2 _ h2 nt_dK, AtKV.mono e h3⟩
  | .ref i, _, h => by
    obtain ⟨a, h1, rfl⟩ := h
    exact ⟨a, pre_get p h1, rfl⟩
  | .fn _, _, h => h
  | .lf d ws, _, h => by
    obtain ⟨f, M, rfl, h1, h2, h3, h4, h5, h6, h7, h8⟩ := h
    exact ⟨f, M, rfl, (e f h1).1, (e f h1).2 _ h2 (fun ps => mfO_ne ps), (e M.c h3).1, (e M.c h3).2 _ h4 nt_code, h5, h6, h7, AtCs.monoK e p h8⟩
theorem AtCs.monoK (e : Kp F H F' H') (p : m <+: m') : ∀ {cl : List (Str × Addr)} {fr : List Str} {ws : List W}, AtCs K mg F m H cl fr ws → AtCs K mg F' m' H' cl fr ws
  | _, _, [], h => h
  | cl, _, w :: ws, h => by
    obtain ⟨y, r, c, o, u, v, rfl, h1, h2, h3, h6, h7, h4, h5⟩ := h
    exact ⟨y, r, c, o, u, v, rfl, h1, (e c h2).1, (e c h2).2 _ h3 (fun ps => cellO_ne ps), h6, h7, AtW.monoK e p h4, AtCs.monoK e p h5⟩
end
theorem SgAt.monoK {σd : Sg} {σ : L2.St} (e : Kp F H F' H') (p : m <+: m') (h : SgAt K mg F m H σd σ) : SgAt K mg F' m' H' σd σ :=
  ⟨h.1, fun i w h1 => let ⟨v, a, b⟩ := h.2 i w h1; ⟨v, a, b.monoK e p⟩⟩
theorem Ext.updD {p : Addr} {o : HO} (x : Ext F m H F' m' H') (h0 : F p = 0) : Ext F m H F' m' (upd H' p o) :=
  ⟨fun a ha => by
    have e : a ≠ p := fun e => ha (e ▸ h0)
    rw [upd_ne e]
    exact x.f a ha, x.p⟩
theorem Ext.setD {p : Addr} (x : Ext F m H F' m' H') (h0 : F p = 0) : Ext F m H (setF F' p 0) m' H' :=
  ⟨fun a ha => by
    have e : a ≠ p := fun e => ha (e ▸ h0)
    rw [setF_ne e]
    exact x.f a ha, x.p⟩
end
section
variable {X : Cx} {E : XK}
/-- what is set aside changes -/
theorem Wd.chg {F : Addr → Nat} {m : List Addr} {H : Hp} {S : Store} {p : Addr} {o : HO} (Y : Wd (tbX X) X.K F m H S) (h2 : F p = 2) (ho : ∀ vs, o ≠ .tup vs := by intro _ z; cases z) : Wd (tbX X) X.K F m (upd H p o) S ∧ Kp F H F (upd H p o) := by
  have hm : p ∉ m := fun h => by
    have := Y.nF p h
    rw [h2] at this
    cases this
  have hne : ∀ a, F a = 1 → a ≠ p := fun a ha e => by rw [e, h2] at ha; cases ha
  have hg : Kp F H F (upd H p o) := .of fun a ha => ⟨ha, upd_ne (hne a ha)⟩
  refine ⟨⟨Y.len, Y.nd, Y.nF, fun a ha => ?_, fun i a c h1 h2 => ?_, fun a ha => (let ⟨t1, t2⟩ := Y.tab a ha; have hn : a ≠ p := (fun e => by rw [e, h2] at t1; cases t1); ⟨t1, t2.mono hg (upd_ne hn)⟩), fun a vs h => ?_⟩, hg⟩
  rotate_left 2
  · by_cases e : a = p
    · rw [e, upd_same] at h
      exact absurd (Option.some.inj h) (ho vs)
    · rw [upd_ne e] at h
      exact Y.tup a vs h
  · by_cases e : a = p
    · rw [e, upd_same]; exact fun z => by cases z
    · rw [upd_ne e]
      exact Y.Fs a ha
  · rw [upd_ne fun e => hm (by rw [← e]; exact List.mem_of_getElem? h1)]
    exact (Y.cell i a c h1 h2).mono hg
/-- .. and is free again -/
theorem Wd.free {F : Addr → Nat} {m : List Addr} {H : Hp} {S : Store} {p : Addr} (Y : Wd (tbX X) X.K F m H S) (h2 : F p = 2) : Wd (tbX X) X.K (setF F p 0) m H S ∧ Kp F H (setF F p 0) H ∧ p ∉ m := by
  have hm : p ∉ m := fun h => by
    have := Y.nF p h
    rw [h2] at this
    cases this
  have hne : ∀ a, F a = 1 → a ≠ p := fun a ha e => by rw [e, h2] at ha; cases ha
  have hg : Kp F H (setF F p 0) H := .of fun a ha => ⟨by rw [setF_ne (hne a ha)]; exact ha, rfl⟩
  refine ⟨⟨Y.len, Y.nd, fun a ha => ?_, fun a ha => ?_, fun i a c h1 h2 => (Y.cell i a c h1 h2).mono hg, fun a ha => (let ⟨t1, t2⟩ := Y.tab a ha; have hn : a ≠ p := (fun e => by rw [e, h2] at t1; cases t1); ⟨(setF_ne hn).trans t1, t2.mono hg rfl⟩), fun a vs h => ?_⟩, hg, hm⟩
  rotate_left 2
  · by_cases e : a = p
    · rw [e, setF_same]; decide
    · rw [setF_ne e]
      exact Y.tup a vs h
  · rw [setF_ne fun e => hm (by rw [← e]; exact ha)]
    exact Y.nF a ha
  · by_cases e : a = p
    · rw [e, setF_same] at ha; exact absurd rfl ha
    · rw [setF_ne e] at ha
      exact Y.Fs a ha
/-- it becomes a cell -/
theorem Wd.cellD {F : Addr → Nat} {m : List Addr} {H : Hp} {S : Store} {D : Addr} {acc : List Pyi.D} {vs : List V} (Y : Wd (tbX X) X.K F m H S) (z0 : F D = 0) (zm : D ∉ m) (zD : H D = some (.lst vs)) (ha : AtDs X.K F H acc vs) : Wd (tbX X) X.K F (m ++ [D]) H (S ++ [.lst acc]) ∧ Ext F m H F (m ++ [D]) H := by
  refine ⟨⟨by rw [List.length_append, List.length_append, Y.len]; rfl, ?_, fun a ha => ?_, Y.Fs, fun i a d h1 h2 => ?_, Y.tab, Y.tup⟩, .of (fun _ _ => ⟨rfl, rfl⟩) (List.prefix_append _ _)⟩
  · rw [List.nodup_append]
    exact ⟨Y.nd, by simp, fun a ha b hb => by
      have : b = D := by simpa using hb
      rw [this]
      exact fun e => zm (e ▸ ha)⟩
  · rcases List.mem_append.mp ha with ha | ha
    · exact Y.nF a ha
    · rw [show a = D by simpa using ha]; exact z0
  · by_cases hi : i < m.length
    · rw [List.getElem?_append_left hi] at h1
      rw [List.getElem?_append_left (by rw [← Y.len]; exact hi)] at h2
      exact Y.cell i a d h1 h2
    · have hi' : m.length ≤ i := Nat.le_of_not_lt hi
      rw [List.getElem?_append_right hi'] at h1
      rw [List.getElem?_append_right (by rw [← Y.len]; exact hi'), ← Y.len] at h2
      have h0 : i - m.length = 0 := by
        have := (List.getElem?_eq_some_iff.mp h1).1
        simp at this
        omega
      rw [h0] at h1 h2
      simp at h1 h2
      subst h1
      subst h2
      exact ⟨vs, zD, ha⟩
def fLc2 (cel : Bool) (fi : Sg → Store → Res (List D)) (ft : D → Sg → Option Sg) (fi2 : Sg → Store → Res (List D)) (ft2 : D → Sg → Option Sg) (fq fe : Sg → Store → Res W) (own own2 : List Nat) : Sg → Store → Res W := fun σ S => (fi σ S).bind fun items S1 => if fit items.length then
      (lcLoop2 (lc2Turn ft fi2 ft2 fq fe own own2 σ) items S1).bind fun ds S2 => if fit ds.length then (if cel then .ok (.ref S2.length) (S2 ++ [.lst ds]) else .ok (.d (.lst ds)) S2) else .fail
      else .fail
theorem loop2_ok {f : D → Store → Res (List D)} {F : Addr → Nat} {m : List Addr} {H : Hp} {α : Type} {k : List D → Store → Res α} {Φ : (Addr → Nat) → List Addr → Hp → Store → α → Prop} : ∀ {ds : List D} {S : Store}, Rp X E F m H ((lcLoop2 f ds S).bind k) Φ → ∃ r S', lcLoop2 f ds S = .ok r S'
  | [], S, _ => ⟨[], S, rfl⟩
  | d :: ds, S, h => by
    rw [lcLoop2, Res.bind_assoc] at h
    obtain ⟨o, S1, e1, h1⟩ := quiet_ok h
    rw [Res.bind_assoc] at h1
    obtain ⟨r, S2, e2⟩ := loop2_ok h1
    refine ⟨o ++ r, S2, ?_⟩
    rw [lcLoop2, e1]
    show (lcLoop2 f ds S1).bind _ = _
    rw [e2]
    rfl
/-- a turn of a loop that ends well -/
theorem loop_inv {f : D → Store → Res (Option D)} {d : D} {ds r : List D} {S S' : Store} (h : lcLoop f (d :: ds) S = .ok r S') : ∃ o S1 r', f d S = .ok o S1 ∧ lcLoop f ds S1 = .ok r' S' ∧ r = (match o with
    | some x => x :: r'
    | none => r') := by
  rw [lcLoop] at h
  cases e : f d S with
  | fail => rw [e] at h; cases h
  | exc x y => rw [e] at h; cases h
  | ok o S1 =>
    rw [e] at h
    have h : (lcLoop f ds S1).bind _ = _ := h
    cases e2 : lcLoop f ds S1 with
    | fail => rw [e2] at h; cases h
    | exc x y => rw [e2] at h; cases h
    | ok r' S2 =>
      rw [e2] at h
      cases h
      exact ⟨o, S1, r', rfl, e2, rfl⟩
/-- the inner loop -/
theorem inner_read {own2 js2 : List Nat} {ft2 : D → Sg → Option Sg} {fq fe : Sg → Store → Res W} {σ1 : Sg} {σ' : L2.St} {F F5 : Addr → Nat} {m m5 : List Addr} {H H5 : Hp} {S5 S3 : Store} {D : Addr} {acc o items2 : List Pyi.D} {vs : List V} {J1 : It} {Nx : Hp → Prop}
    (hj2 : ∀ j ∈ js2, j ∈ own2) (h0 : F D = 0) (Y5 : Wd (tbX X) X.K F5 m5 H5 S5) (hD : F5 D = 2) (hH : H5 D = some (.lst vs)) (ha : AtDs X.K F5 H5 acc vs) (x5 : Ext F m H F5 m5 H5) (G5 : SgAt X.K X.mg F5 m5 H5 σ1 σ') (yl : Yields X F5 H5 items2 J1)
    (e3 : lcLoop (lcTurn ft2 fq fe own2 σ1) items2 S5 = .ok o S3) (hl : acc.length + o.length ≤ 16777216)
    (hNx : ∀ F' m' H' vs', Wd (tbX X) X.K F' m' H' S3 → Ext F m H F' m' H' → F' D = 0 → D ∉ m' → H' D = some (.lst vs') → AtDs X.K F' H' (acc ++ o) vs' → Nx H') :
    ∃ W1 : Nat → Nat → Hp → Prop, (∃ m, W1 0 m H5) ∧ ∀ j k H, W1 j k H →
      (J1.stop j H ∧ Nx H) ∨ (J1.go j H ∧ ∃ Nx1 : Hp → Prop, (∀ H', Nx1 H' → ∃ k', k' < k ∧ W1 (j + 1) k' H') ∧ ∀ x H', J1.yld j H x H' → gTg X js2 ft2 x (wipe σ' own2) H' fun σ3 H5 => wipe σ3 own2 = wipe σ' own2 ∧ tT X E0' (tr fq) σ3 H5 fun b H6 =>
        if b = true then tE X E0' fe σ3 H6 fun y H7 => ∃ acc, H7 D = some (.lst acc) ∧ acc.length < sizeLine ∧ Nx1 (upd H7 D (.lst (acc ++ [y]))) else Nx1 H6) := by
  let W1 : Nat → Nat → Hp → Prop := fun j k H' => j ≤ items2.length ∧ k + j = items2.length ∧ ∃ (Fj : Addr → Nat) (mj : List Addr) (Sj : Store) (accj : List Pyi.D) (vsj : List V) (r : List Pyi.D), Wd (tbX X) X.K Fj mj H' Sj ∧ Fj D = 2 ∧ H' D = some (.lst vsj) ∧ AtDs X.K Fj H' accj vsj ∧ Ext F m H Fj mj H' ∧ Kp F5 H5 Fj H' ∧ m5 <+: mj ∧
    lcLoop (lcTurn ft2 fq fe own2 σ1) (items2.drop j) Sj = .ok r S3 ∧ accj ++ r = acc ++ o
  refine ⟨W1, ⟨items2.length, Nat.zero_le _, rfl, F5, m5, S5, acc, vs, o, Y5, hD, hH, ha, x5, Kp.refl, List.prefix_refl _, e3, rfl⟩, fun j k H' ⟨hj, hk, Fj, mj, Sj, accj, vsj, r, Yj, hDj, hHj, haj, xj, kj, pj, ej, er⟩ => ?_⟩
  by_cases hlt : j < items2.length
  · right
    refine ⟨yl.go j _ m5 mj H' Sj ⟨kj⟩ Yj hlt, fun H'' => W1 (j + 1) (k - 1) H'', fun H'' h => ⟨k - 1, by omega, h⟩, fun u H2 hy => ?_⟩
    obtain ⟨F2, x2, Y2, hu⟩ := yl.yld j items2[j] _ m5 mj H' Sj u H2 ⟨kj⟩ Yj (List.getElem?_eq_getElem hlt) hy
    rw [List.drop_eq_getElem_cons hlt] at ej
    obtain ⟨oj, S1, r', et, el, rfl⟩ := loop_inv ej
    have Gw : SgAt X.K X.mg F2 mj H2 (wipeW σ1 own2) (wipe σ' own2) := (G5.monoK (kj.trans x2.g) (pj.trans x2.p)).wiped own2
    unfold lcTurn at et
    cases ef : ft2 items2[j] (wipeW σ1 own2) with
    | none => rw [ef] at et; cases et
    | some σ2 =>
      rw [ef] at et
      dsimp only at et
      refine ⟨F2, mj, Sj, _, items2[j], σ2, Y2, Gw, hu, ef, fun σ'' G' t => ⟨?_, ?_⟩⟩
      · have := wipe_touch t own2 hj2
        rw [this]
        exact wipe_touch (js := own2) ⟨wipe_length σ' own2, fun j hj => by
          have key := wipe_out (σ := σ') (i := j) (vs := own2) hj
          exact key⟩ own2 fun _ z => z
      · cases eq : fq σ2 Sj with
        | fail => rw [eq] at et; cases et
        | exc x y => rw [eq] at et; cases et
        | ok b S4 =>
          rw [eq, Res.bind_ok] at et
          cases eb : truW S4 b with
          | none => rw [eb] at et; cases et
          | some kk =>
            rw [eb] at et
            refine ⟨F2, mj, Sj, σ2, Y2, G', ?_⟩
            unfold tr Res.tru
            rw [eq, Res.bind_ok, eb]
            intro F4 m4 H4 x4 Y4
            have y4 := x2.trans x4
            have d4 := y4.f D (by rw [hDj]; decide)
            cases kk with
            | false =>
              dsimp only at et
              cases et
              exact iteF ⟨hlt, by omega, F4, m4, S1, accj, vsj, r', Y4, d4.1.trans hDj, d4.2 _ hHj nt_lst, AtDs.mono y4.g haj, xj.trans y4, kj.trans y4.g, pj.trans y4.p, el, er⟩
            | true =>
              dsimp only at et
              refine iteT ⟨F4, m4, S4, σ2, Y4, G'.mono x4, ?_⟩
              cases ee : fe σ2 S4 with
              | fail => rw [ee] at et; cases et
              | exc x y => rw [ee] at et; cases et
              | ok w S5' =>
                rw [ee, Res.bind_ok] at et
                cases w with
                | d y =>
                  cases et
                  intro F6 m6 H6 x6 Y6 v hv
                  have y6 := y4.trans x6
                  have d6 := y6.f D (by rw [hDj]; decide)
                  have z6 := d6.1.trans hDj
                  obtain ⟨Y7, k7⟩ := Y6.chg (o := .lst (vsj ++ [v])) z6
                  have hl2 : vsj.length < sizeLine := by
                    rw [haj.length, sizeLine_eq]
                    have := congrArg List.length er
                    simp only [List.length_append, List.length_cons] at this
                    omega
                  refine ⟨vsj, d6.2 _ hHj nt_lst, hl2, hlt, by omega, F6, m6, S1, accj ++ [y], vsj ++ [v], r', Y7, z6, upd_same, (AtDs.mono (y6.g.trans k7) haj).app (AtDs.one (AtD.mono k7 hv)), (xj.trans y6).updD h0, (kj.trans y6.g).trans k7, pj.trans y6.p, el, ?_⟩
                  rw [← er, List.append_assoc]
                  rfl
                | _ => cases et
  · left
    have ei : j = items2.length := by omega
    refine ⟨yl.stop j _ m5 mj H' Sj ⟨kj⟩ Yj (by omega), ?_⟩
    rw [ei, List.drop_length] at ej
    cases ej
    rw [List.append_nil] at er
    subst er
    obtain ⟨Yf, kf, hm⟩ := Yj.free hDj
    exact hNx _ _ _ vsj Yf (xj.setD h0) setF_same hm hHj (AtDs.mono kf haj)
theorem lc2_read {cel : Bool} {own own2 js js2 : List Nat} {fi fi2 : Sg → Store → Res (List D)} {ft ft2 : D → Sg → Option Sg} {fq fe : Sg → Store → Res W} {σ : L2.St} {H : Hp} {Q : VK} (hj : ∀ j ∈ js, j ∈ own) (hj2 : ∀ j ∈ js2, j ∈ own2) (h : tE X E (fLc2 cel fi ft fi2 ft2 fq fe own own2) σ H Q) :
    tLc2 (tIt X E fi) (gTg X js ft) (tT X E0' (tr fun _ S => .ok (.d (.bl true)) S)) (tIt X E0' fi2) (gTg X js2 ft2) (tT X E0' (tr fq)) (tE X E0' fe) own own2 σ H Q := by
  obtain ⟨F0, m0, S0, σd, Y0, G0, h⟩ := h
  refine ⟨F0, m0, S0, σd, Y0, G0, (Rp.bind h).mono fun F1 m1 H1 S1 items x1 Y1 h1 J yl D hD => ?_⟩
  have G1 := G0.mono x1
  clear h
  by_cases c : fit items.length = true
  · rw [if_pos c] at h1
    let fin : List Pyi.D → Store → Res W := fun ds S2 => if fit ds.length then (if cel then .ok (.ref S2.length) (S2 ++ [.lst ds]) else .ok (.d (.lst ds)) S2) else .fail
    let Inv' : Nat → Hp → Prop := fun i H => ∃ F m S acc vs, Wd (tbX X) X.K F m H S ∧ Ext F1 m1 H1 F m H ∧ F D = 0 ∧ D ∉ m ∧ H D = some (.lst vs) ∧ AtDs X.K F H acc vs ∧
      Rp X E F m H ((lcLoop2 (lc2Turn ft fi2 ft2 fq fe own own2 σd) (items.drop i) S).bind fun r S2 => fin (acc ++ r) S2) (fun F' m' H' _ w => ∀ v, AtW X.K X.mg F' m' H' w v → Q v H')
    have hD1 : F1 D = 0 := Decidable.byContradiction fun z => Y1.Fs D z hD
    have hDm : D ∉ m1 := fun z => by
      obtain ⟨i, hi⟩ := List.getElem?_of_mem z
      exact Y1.ne hD hi rfl
    refine ⟨fun i n H => i ≤ items.length ∧ n + i = items.length ∧ Inv' i H, ⟨items.length, Nat.zero_le _, rfl, ?_⟩, fun i n H ⟨hi, hn, F, m, S, acc, vs, Y, x, z0, zm, zD, ha, hrp⟩ => ?_⟩
    · obtain ⟨Y2, x2⟩ := Y1.keep (k := 0) (o := .lst []) hD
      have e0 : (fun a => if a = D then 0 else F1 a) = F1 := by
        funext a
        by_cases e : a = D
        · rw [if_pos e, e, hD1]
        · rw [if_neg e]
      rw [e0] at Y2 x2
      refine ⟨F1, m1, S1, [], [], Y2, x2, hD1, hDm, upd_same, rfl, ?_⟩
      exact Rp.shift x2 h1
    · by_cases hlt : i < items.length
      · right
        obtain ⟨Ya, xa⟩ := Y.aside (k := 2) z0 zm (by rw [zD]; exact fun z => by cases z) (.inr fun _ => by rw [zD]; exact fun z => by cases z)
        have xx := x.trans xa
        refine ⟨yl.go i _ m1 m H S ⟨xx.g⟩ Ya hlt, fun H' => i + 1 ≤ items.length ∧ (n - 1) + (i + 1) = items.length ∧ Inv' (i + 1) H', fun H' ⟨q1, q2, q3⟩ => ⟨n - 1, by omega, q1, q2, q3⟩, fun u H2 hy => ?_⟩
        obtain ⟨F2, x2, Y2, hu⟩ := yl.yld i items[i] _ m1 m H S u H2 ⟨xx.g⟩ Ya (List.getElem?_eq_getElem hlt) hy
        rw [List.drop_eq_getElem_cons hlt, lcLoop2, Res.bind_assoc] at hrp
        obtain ⟨o, S3, e3, hrp⟩ := quiet_ok hrp
        rw [Res.bind_assoc] at hrp
        have hfit : acc.length + o.length ≤ 16777216 := by
          obtain ⟨r, S6, e6⟩ := loop2_ok hrp
          rw [e6] at hrp
          have hrp : Rp X E F m H (fin (acc ++ (o ++ r)) S6) _ := hrp
          by_cases z : fit (acc ++ (o ++ r)).length = true
          · have := of_decide_eq_true z
            simp only [List.length_append] at this
            omega
          · have : fin (acc ++ (o ++ r)) S6 = .fail := if_neg z
            rw [this] at hrp
            exact hrp.elim
        unfold lc2Turn at e3
        have Gw : SgAt X.K X.mg F2 m H2 (wipeW σd own) (wipe σ own) := (((G1.mono x).mono xa).mono x2).wiped own
        cases et : ft items[i] (wipeW σd own) with
        | none => rw [et] at e3; cases e3
        | some σ1 =>
          rw [et] at e3
          refine ⟨F2, m, S, _, items[i], σ1, Y2, Gw, hu, et, fun σ' G' t => ⟨?_, ?_⟩⟩
          · have := wipe_touch t own hj
            rw [this]
            exact wipe_touch (js := own) ⟨wipe_length σ own, fun j hj => by
              have key := wipe_out (σ := σ) (i := j) (vs := own) hj
              exact key⟩ own fun _ z => z
          · dsimp only at e3
            refine ⟨F2, m, S, σ1, Y2, G', ?_⟩
            intro F4 m4 H4 x4 Y4
            refine iteT ⟨F4, m4, S, σ1, Y4, G'.mono x4, ?_⟩
            cases ei2 : fi2 σ1 S with
            | fail => rw [ei2] at e3; cases e3
            | exc x y => rw [ei2] at e3; cases e3
            | ok items2 S5 =>
              rw [ei2, Res.bind_ok] at e3
              by_cases c2 : fit items2.length = true
              · rw [if_pos c2] at e3
                intro F5 m5 H5 x5 Y5 J1 yl1
                have y5 := (x2.trans x4).trans x5
                have d5 := y5.f D (by rw [setF_same]; decide)
                rw [setF_same] at d5
                refine inner_read (js2 := js2) hj2 z0 Y5 d5.1 (d5.2 _ zD nt_lst) (AtDs.mono (xa.trans y5).g ha) (xa.trans y5) ((G'.mono x4).mono x5) yl1 e3 hfit fun F' m' H' vs' Y' x' d' hm' hH' ha' => ⟨hlt, by omega, F', m', S3, acc ++ o, vs', Y', x.trans x', d', hm', hH', ha', ?_⟩
                refine Rp.shift x' ?_
                have e6 : ∀ r : List Pyi.D, acc ++ o ++ r = acc ++ (o ++ r) := fun r => List.append_assoc _ _ _
                simp only [e6]
                exact hrp
              · rw [if_neg c2] at e3; cases e3
      · left
        have ei : i = items.length := by omega
        refine ⟨yl.stop i _ m1 m H S ⟨x.g⟩ Y (by omega), ?_⟩
        rw [ei, List.drop_length] at hrp
        have hrp : Rp X E F m H (fin (acc ++ []) S) (fun F' m' H' _ w => ∀ v, AtW X.K X.mg F' m' H' w v → Q v H') := hrp
        rw [List.append_nil] at hrp
        by_cases z : fit acc.length = true
        · have ef : fin acc S = if cel then .ok (.ref S.length) (S ++ [.lst acc]) else .ok (.d (.lst acc)) S := if_pos z
          rw [ef] at hrp
          cases cel with
          | false =>
            obtain ⟨Yb, xb⟩ := Y.aside (k := 1) z0 zm (by rw [zD]; exact fun z => by cases z) (.inl (by decide))
            exact hrp _ _ _ xb Yb _ ⟨D, vs, rfl, ⟨SqL.of zD, .inl setF_same⟩, AtDs.mono xb.g ha⟩
          | true =>
            obtain ⟨Yb, xb⟩ := Y.cellD z0 zm zD ha
            refine hrp _ _ _ xb Yb _ ⟨D, ?_, rfl⟩
            rw [← Y.len, List.getElem?_append_right (Nat.le_refl _), Nat.sub_self]
            rfl
        · have ef : fin acc S = .fail := if_neg z
          rw [ef] at hrp
          exact hrp.elim
  · rw [if_neg c] at h1
    exact h1.elim
/-- the parts of a comprehension of two clauses -/
structure Lc2Parts (X : Cx) (E : XK) (elt tg iter tg1 iter1 : Expr) (ifs1 : List Expr) (scope : Scope) (own : List (Str × Nat)) (own2 js js2 : List Nat) (fi : Sg → Store → Res (List D)) (ft : D → Sg → Option Sg) (fi2 : Sg → Store → Res (List D)) (ft2 : D → Sg → Option Sg) (fq fe : Sg → Store → Res W) : Prop where
  hi : PI X tg iter (tIt X E fi)
  ok : BlkOk X.N X.env.scope scope own
  hv : ∀ i ∈ own2, i ∈ own.map (·.2)
  hg : ∀ (s : Shared) (H : Hp) (C : Addr) (cl : List (Str × Addr)) (fp : List Addr), PG (X.blk s H scope (blkE scope cl C X) fp) tg (gTg X js ft)
  hi1 : ∀ (s : Shared) (H : Hp) (C : Addr) (cl : List (Str × Addr)) (fp : List Addr), PI (X.blk s H scope (blkE scope cl C X) fp) tg1 iter1 (tIt X E0' fi2)
  hg1 : ∀ (s : Shared) (H : Hp) (C : Addr) (cl : List (Str × Addr)) (fp : List Addr), PG (X.blk s H scope (blkE scope cl C X) fp) tg1 (gTg X js2 ft2)
  ht1 : ∀ (s : Shared) (H : Hp) (C : Addr) (cl : List (Str × Addr)) (fp : List Addr), PTs (X.blk s H scope (blkE scope cl C X) fp) ifs1 (tT X E0' (tr fq))
  he : ∀ (s : Shared) (H : Hp) (C : Addr) (cl : List (Str × Addr)) (fp : List Addr), PE (X.blk s H scope (blkE scope cl C X) fp) elt (tE X E0' fe)
  hs : ∀ x, foldedSetIterable iter X.env x = pure x
  hs1 : ∀ env x, foldedSetIterable iter1 env x = pure x
  hj : ∀ j ∈ js, j ∈ own.map (·.2)
  hj2 : ∀ j ∈ js2, j ∈ own2
theorem pts_blk {scope : Scope} : ∀ (s : Shared) (H : Hp) (C : Addr) (cl : List (Str × Addr)) (fp : List Addr), PTs (X.blk s H scope (blkE scope cl C X) fp) [] (tT X E0' (tr fun _ S => .ok (.d (.bl true)) S)) :=
  fun s H C cl fp => pts_yes (X := X.blk s H scope (blkE scope cl C X) fp)
theorem se_lc2 {elt tg iter tg1 iter1 : Expr} {ifs1 : List Expr} {scope : Scope} {own : List (Str × Nat)} {own2 js js2 : List Nat} {fi fi2 : Sg → Store → Res (List D)} {ft ft2 : D → Sg → Option Sg} {fq fe : Sg → Store → Res W} {pos : Pos} (cel : Bool) (hc : X.calm = true) (hN : X.N.Nodup) (P : Lc2Parts X E elt tg iter tg1 iter1 ifs1 scope own own2 js js2 fi ft fi2 ft2 fq fe) :
    PE X (.ListComp elt [⟨tg, iter, [], 0⟩, ⟨tg1, iter1, ifs1, 0⟩] scope pos) (tE X E (fLc2 cel fi ft fi2 ft2 fq fe (own.map (·.2)) own2)) :=
  (pe_lc2 hc hN P.hi P.ok P.hv P.hg pts_blk P.hi1 P.hg1 P.ht1 P.he P.hs P.hs1).imp fun σ H Q h => lc2_read P.hj P.hj2 h
theorem ss_lc2 {i : Nat} {y : Str} {py spos : Pos} {elt tg iter tg1 iter1 : Expr} {ifs1 : List Expr} {scope : Scope} {own : List (Str × Nat)} {own2 js js2 : List Nat} {fi fi2 : Sg → Store → Res (List D)} {ft ft2 : D → Sg → Option Sg} {fq fe : Sg → Store → Res W} {pos : Pos} (cel : Bool) (hc : X.calm = true) (hN : X.N.Nodup) (hy : X.N[i]? = some y) (hyl : X.env.scope.names.lookup y = some .local)
    (hsw : swapsWith (.ListComp elt [⟨tg, iter, [], 0⟩, ⟨tg1, iter1, ifs1, 0⟩] scope pos) (some (.Name y py)) spos.line X.env = pure true) (P : Lc2Parts X E elt tg iter tg1 iter1 ifs1 scope own own2 js js2 fi ft fi2 ft2 fq fe) :
    PS X (.Assign [.Name y py] (.ListComp elt [⟨tg, iter, [], 0⟩, ⟨tg1, iter1, ifs1, 0⟩] scope pos) spos) (tS X E fun σ S => (fLc2 cel fi ft fi2 ft2 fq fe (own.map (·.2)) own2 σ S).fl fun w S1 => (if i < σ.length then Res.ok (σ.set i (some w)) S1 else Res.fail).fl fun σ1 S2 => .nx σ1 S2) := by
  refine (ps_setLc2 hc hN hy hyl hsw P.hi P.ok P.hv P.hg pts_blk P.hi1 P.hg1 P.ht1 P.he P.hs P.hs1).imp fun D σ H h => ?_
  show tLc2 _ _ _ _ _ _ _ _ _ σ H fun x H1 => D.nx (σ.set i (some x)) H1
  refine lc2_read (cel := cel) P.hj P.hj2 ?_
  obtain ⟨F, m, S, σd, Y, G, h⟩ := h
  refine ⟨F, m, S, σd, Y, G, (Rf.fl h).mono fun F1 m1 H1 S1 w x1 Y1 h1 v hv => ?_⟩
  by_cases c : i < σd.length
  · rw [if_pos c] at h1
    exact h1.nx_here Y1 ((G.mono x1).set hv)
  · rw [if_neg c] at h1
    exact h1.elim
end
end Pyi
/-! Pn0: functions made within a def. -/
namespace Pyi
open PySem PySem.Spec PyProof.Rows L2
variable [Gd]
section
variable {t : Tbs} {K : PySem.W.Frag} {mg : Str → Option Value} {F : Addr → Nat} {m : List Addr} {H : Hp} {S : Store}
theorem Wd.tabMore (Y : Wd t K F m H S) {P c' : Addr} {ps : Array Value} {pos : Pos} (hP : P ∈ t.ads) (hH : H P = some (.tbl ps)) (hc : H c' = none) :
    Wd t K (setF F c' 1) m (upd (upd H P (.tbl (ps ++ #[rawInt pos.line, rawInt pos.col, .ref c']))) c' (LamX.CodeO c' (t.nm pos.line pos.col))) S ∧
      Ext F m H (setF F c' 1) m (upd (upd H P (.tbl (ps ++ #[rawInt pos.line, rawInt pos.col, .ref c']))) c' (LamX.CodeO c' (t.nm pos.line pos.col))) := by
  have hne : ∀ a, H a ≠ none → a ≠ c' := fun a h e => h (e ▸ hc)
  have F3 : F P = 3 := (Y.tab P hP).1
  have hx : Ext F m H (setF F c' 1) m (upd (upd H P (.tbl (ps ++ #[rawInt pos.line, rawInt pos.col, .ref c']))) c' (LamX.CodeO c' (t.nm pos.line pos.col))) := by
    refine ⟨fun a ha => ?_, List.prefix_refl _⟩
    have n1 := hne a (Y.Fs a ha)
    refine ⟨setF_ne n1, fun o e n => ?_⟩
    rw [upd_ne n1]
    by_cases h : a = P
    · subst h
      rw [hH] at e
      exact absurd (Option.some.inj e).symm (n ps)
    · rw [upd_ne h]; exact e
  refine ⟨⟨Y.len, Y.nd, fun a ha => ?_, fun a ha => ?_, fun i a c h1 h2 => ?_, fun a ha => ?_, fun a vs h => ?_⟩, hx⟩
  rotate_left 4
  · by_cases e : a = c'
    · rw [e, setF_same]; exact Nat.le_refl _
    · rw [setF_ne e]
      rw [upd_ne e] at h
      by_cases h' : a = P
      · rw [h', upd_same] at h; cases h
      · rw [upd_ne h'] at h
        exact Y.tup a vs h
  · obtain ⟨i, hi⟩ := List.getElem?_of_mem ha
    rw [setF_ne (Y.ne hc hi)]
    exact Y.nF a ha
  · by_cases e : a = c'
    · rw [e, upd_same]; exact fun z => by cases z
    · rw [setF_ne e] at ha
      rw [upd_ne e]
      by_cases h : a = P
      · rw [h, upd_same]; exact fun z => by cases z
      · rw [upd_ne h]; exact Y.Fs a ha
  · have n1 := Y.ne hc h1
    have n2 : a ≠ P := fun e => by
      have := Y.nF a (List.mem_of_getElem? h1)
      rw [e, F3] at this; cases this
    rw [upd_ne n1, upd_ne n2]
    exact (Y.cell i a c h1 h2).mono hx.g
  · obtain ⟨t1, t2⟩ := Y.tab a ha
    have n1 := hne a (Y.Fs a (by rw [t1]; decide))
    refine ⟨(setF_ne n1).trans t1, ?_⟩
    by_cases h : a = P
    · subst h
      obtain ⟨ps', h1, h2, h3⟩ := t2
      rw [hH] at h1
      cases h1
      have eL : (ps ++ #[rawInt pos.line, rawInt pos.col, .ref c']).toList = ps.toList ++ [rawInt pos.line, rawInt pos.col, .ref c'] := by simp
      refine ⟨_, by rw [upd_ne n1, upd_same], by rw [eL]; exact PySem.TriplesOk_snoc _ _ _ _ h2, fun p' cv hcv => ?_⟩
      rw [eL] at hcv
      rcases NdefX.among_app2 _ h2 hcv with z | ⟨z, z1, z2⟩
      · obtain ⟨c0, e1, e2, e3⟩ := h3 p' cv z
        exact ⟨c0, e1, (hx.g c0 e2).1, (hx.g c0 e2).2 _ e3 nt_code⟩
      · exact ⟨c', z, setF_same, by rw [← z1, ← z2]; exact upd_same⟩
    · exact t2.mono hx.g (by rw [upd_ne n1, upd_ne h])
end
section
variable {X : Cx} {pins : List (Addr × Obj)} {σ : L2.St} {H : Hp} {s : Shared} {F : Addr → Nat} {m : List Addr} {S : Store}
/-- a function object just made is known from now on -/
theorem inv_mf {M : MF} {o : Obj} {t' : Nat} {doc pm ctv : Value} (I : L2.Inv X pins σ H s) (ho : o = { cls := .type "function", data := .func (M.fd doc pm ctv) }) :
    L2.Inv X pins σ (upd H s.heap.objs.size (MfO s.heap.objs.size M)) { s with heap := s.heap.push o, toks := t' } := by
  subst ho
  refine I.laid (a := s.heap.objs.size) (fun b u e => Heap.get?_push_of_some _ e) (Nat.le_refl _) ?_
  have e : (s.heap.push ({ cls := .type "function", data := .func (M.fd doc pm ctv) } : Obj)).get? s.heap.objs.size = some ({ cls := .type "function", data := .func (M.fd doc pm ctv) } : Obj) := Heap.get?_push_size _ rfl
  exact ⟨⟨_, _, doc, pm, ctv, e⟩, ⟨_, e⟩, fun h1 h2 ⟨od, sl, d, p, t, z⟩ st => ⟨od, sl, d, p, t, st _ z⟩⟩
/-- what the maker of a function has -/
structure Mk (X : Cx) (pos : Pos) (q : Str) (c P : Addr) : Prop where
  tb : LamX.TabB X.base X.mg c P
  code : X.env.code = .ref c
  mem : P ∈ (tbX X).ads
  nm : (tbX X).nm pos.line pos.col = q
/-- a function's object is made -/
theorem mf_make {T : FTxt} {pos : Pos} {q : Str} {c P : Addr} {Q : Value → Shared → Prop} {E : Value → Shared → Prop} (I : L2.Inv X pins σ H s) (Y : Wd (tbX X) X.K F m H S) (k : Mk X pos q c P) (hfree : ∀ y ∈ T.scope.names, y.2 = .free → ∃ c, X.env.cells.lookup y.1 = some c)
    (h : ∀ (f : Addr) (F1 : Addr → Nat) (H1 : Hp) (s' : Shared) (M : MF), L2.Inv X pins σ H1 s' → Ext F m H F1 m H1 → Wd (tbX X) X.K F1 m H1 S → M.t = T → M.cl = cloFrom X.env.cells T.scope.names [] → M.qual = q → F1 f = 1 → H1 f = some (MfO f M) → F1 M.c = 1 → H1 M.c = some (LamX.CodeO M.c q) → Q (.ref f) s') :
    wpAny (model X.prog X.w) X.A (makeFunction T.name q T.params T.body T.scope X.env [] [] [] pos pos.line) Q E s := by
  obtain ⟨name, params, body, scope⟩ := T
  dsimp only at hfree
  obtain ⟨t3, ps, hP, ht, ha⟩ := Y.tab P k.mem
  have bP : s.heap.BuiltinsAt X.mg P := k.tb.bm.keeps I.bk
  have hP' : s.heap.get? P = some { cls := .none, data := .fields ps } := I.hok P _ hP
  have fin : ∀ (c' : Addr) (F0 : Addr → Nat) (H0 : Hp) (s0 : Shared) (doc ctv : Value) (tk : Nat), L2.Inv X pins σ H0 s0 → Ext F m H F0 m H0 → Wd (tbX X) X.K F0 m H0 S → F0 c' = 1 → H0 c' = some (LamX.CodeO c' q) →
      Q (.ref s0.heap.objs.size) { s0 with heap := s0.heap.push { cls := .type "function", data := .func ((MF.mk ⟨name, params, body, scope⟩ q (cloFrom X.env.cells scope.names []) c').fd doc ((X.mg "__name__").getD .none) ctv) }, toks := tk } := by
    intro c' F0 H0 s0 doc ctv tk I0 x0 Y0 hf hc
    have nF := I0.hok.fresh (Nat.le_refl _)
    have I2 := inv_mf (M := ⟨⟨name, params, body, scope⟩, q, cloFrom X.env.cells scope.names [], c'⟩) (t' := tk) (doc := doc) (pm := (X.mg "__name__").getD .none) (ctv := ctv) I0 rfl
    obtain ⟨Y2, x2⟩ := Y0.keep (k := 1) (o := MfO s0.heap.objs.size ⟨⟨name, params, body, scope⟩, q, cloFrom X.env.cells scope.names [], c'⟩) nF
    have x3 := x0.trans x2
    exact h _ _ _ _ ⟨⟨name, params, body, scope⟩, q, cloFrom X.env.cells scope.names [], c'⟩ I2 x3 Y2 rfl rfl rfl (if_pos rfl) upd_same (x2.g c' hf).1 ((x2.g c' hf).2 _ hc nt_code)
  cases hc : codeAmong pos ps.toList with
  | none =>
    have new : ∀ (c' : Addr) (h' : Heap) (tk : Nat), Heap.ExtBut P s.heap h' → s.heap.objs.size ≤ c' → h'.CodeRec (.ref c') q → h'.get? P = some (PySem.W.tabObj (ps ++ #[rawInt pos.line, rawInt pos.col, .ref c'])) →
        ∃ F0 H0, L2.Inv X pins σ H0 { s with heap := h', toks := tk } ∧ Ext F m H F0 m H0 ∧ Wd (tbX X) X.K F0 m H0 S ∧ F0 c' = 1 ∧ H0 c' = some (LamX.CodeO c' q) := by
      intro c' h' tk hx hge hrec htb
      obtain ⟨c2, oc, vs, t, e2, hoc, hd, hv⟩ := hrec
      cases e2
      have nC : H c' = none := I.hok.fresh hge
      have I1 := LamX.inv_table (t' := tk) (more := #[rawInt pos.line, rawInt pos.col, .ref c']) (h' := h') I hP (fun b o hb e => hx b o hb e) htb hge ⟨oc, vs, t, hoc, hd, hv⟩
      obtain ⟨Y1, x1⟩ := Y.tabMore (pos := pos) k.mem hP nC
      rw [k.nm] at Y1 x1
      exact ⟨_, _, I1, x1, Y1, setF_same, upd_same⟩
    cases body with
    | stmts b =>
      refine PySem.W.makeFunction_K (mg := X.mg) (c := c) (P := P) (ps := ps) (closure_ok hfree) I.ok.glob (I.mod.glob.keeps I.bk) k.code (k.tb.code.keeps I.bk) hP' ht hc k.tb.gP bP fun c' ctv doc h' tk hx hge hlt hrec htb => ?_
      obtain ⟨F0, H0, I1, x1, Y1, f1, c1⟩ := new c' h' tk hx hge hrec htb
      exact fin c' F0 H0 _ doc ctv tk I1 x1 Y1 f1 c1
    | expr b =>
      refine PySem.W.kla_makeFunction (mg := X.mg) (c := c) (P := P) (ps := ps) (closure_ok hfree) I.ok.glob (I.mod.glob.keeps I.bk) k.code (k.tb.code.keeps I.bk) hP' ht hc k.tb.gP bP fun c' ctv h' tk hx hge hlt hrec htb => ?_
      obtain ⟨F0, H0, I1, x1, Y1, f1, c1⟩ := new c' h' tk hx hge hrec htb
      exact fin c' F0 H0 _ .none ctv tk I1 x1 Y1 f1 c1
  | some cv =>
    obtain ⟨c', e, hf, hco⟩ := ha pos cv hc
    subst e
    rw [k.nm] at hco
    cases body with
    | stmts b =>
      refine PySem.W.makeFunction_hit (mg := X.mg) (c := c) (P := P) (ps := ps) (closure_ok hfree) I.ok.glob (I.mod.glob.keeps I.bk) k.code (k.tb.code.keeps I.bk) hP' ht hc bP fun ctv doc h' tk hx hsz => ?_
      exact fin c' F H { s with heap := h', toks := tk } doc ctv tk (I.kept hx) Ext.refl Y hf hco
    | expr b =>
      refine PySem.W.kla_makeFunctionHit (mg := X.mg) (c := c) (P := P) (ps := ps) (closure_ok hfree) I.ok.glob (I.mod.glob.keeps I.bk) k.code (k.tb.code.keeps I.bk) hP' ht hc bP fun ctv h' tk hx hsz => ?_
      exact fin c' F H { s with heap := h', toks := tk } .none ctv tk (I.kept hx) Ext.refl Y hf hco
theorem cloFrom_none {cells : List (Str × Addr)} : ∀ {names : List (Str × NameKind)} {acc : List (Str × Addr)}, (∀ y ∈ names, y.2 ≠ .free) → cloFrom cells names acc = acc
  | [], _, _ => rfl
  | (n, k) :: r, acc, h => by
    unfold cloFrom
    have hk : (k == NameKind.free) = false := by
      cases k <;> first
        | rfl
        | exact absurd rfl (h _ List.mem_cons_self)
    rw [hk]
    exact cloFrom_none fun y hy => h y (List.mem_cons_of_mem _ hy)
/-- a function that captures nothing -/
theorem AtW.lf0 {K : PySem.W.Frag} {mg : Str → Option Value} {F : Addr → Nat} {m : List Addr} {H : Hp} {d : Df} {M : MF} {f : Addr} (h1 : F f = 1) (h2 : H f = some (MfO f M)) (h3 : F M.c = 1) (h4 : H M.c = some (LamX.CodeO M.c M.qual)) (h5 : Gd.ok d M.t) (h6 : M.cl = []) (h7 : d.fr = []) : AtW K mg F m H (.lf d []) (.ref f) := by
  refine ⟨f, M, rfl, h1, h2, h3, h4, h5, fun y c e => ?_, fun x y c e => ?_, ?_⟩
  · rw [h6] at e; cases e
  · rw [h6] at e; cases e
  · rw [h7]; rfl
variable {E : XK}
/-- lambda ..: .. -/
theorem se_lam {d : Df} {params : Arguments} {body : Expr} {scope : Scope} {pos : Pos} (k : ∃ c P, Mk X pos (X.env.qual ++ "<lambda>") c P) (hd : defaultsOf params X.env = ([], [])) (hf : ∀ y ∈ scope.names, y.2 ≠ .free) (g : Gd.ok d ⟨"<lambda>", params, .expr body, scope⟩) (h0 : d.fr = []) :
    PE X (.Lambda params body scope pos) (tE X E fun _ S => .ok (.lf d []) S) := by
  refine ⟨fun pins s σ H Q I ⟨F, m, S, σd, Y, G, h⟩ => ?_⟩
  obtain ⟨c, P, k⟩ := k
  refine PySem.W.kla_eval hd (mf_make (T := ⟨"<lambda>", params, .expr body, scope⟩) I Y k (fun y hy e => absurd e (hf y hy)) fun f F1 H1 s' M I1 x1 Y1 e1 e2 e3 e4 e5 e6 e7 => ?_)
  refine ⟨.ref f, H1, I1, rfl, h _ _ _ x1 Y1 _ (AtW.lf0 e4 e5 e6 (by rw [e3]; exact e7) (by rw [e1]; exact g) (by rw [e2]; exact cloFrom_none hf) h0)⟩
/-- def ..: .. within a def -/
theorem ss_ndef {d : Df} {i : Nat} {name : Str} {params : Arguments} {body : List Stmt} {scope : Scope} {pos : Pos} (k : ∃ c P, Mk X pos (X.env.qual ++ name) c P) (hd0 : params.defaults = []) (hk0 : params.kw_defaults = []) (ha : annTrees params none X.env = []) (hfr : ∀ y ∈ scope.names, y.2 ≠ .free) (g : Gd.ok d ⟨name, params, .stmts body, scope⟩) (h0 : d.fr = [])
    (hN : X.N.Nodup) (hi : X.N[i]? = some name) (hx : L2.Loc X.env.scope name) (hf : X.fn name = true ∨ X.env.scope.names.lookup name = some .local) :
    PS X (.FunctionDef name params body [] none [] scope none name pos) (tS X E fun σ S => .nx (σ.set i (some (.lf d []))) S) := by
  refine ⟨fun pins s σ H D I ⟨F, m, S, σd, Y, G, h⟩ => ?_⟩
  obtain ⟨c, P, k⟩ := k
  have hq : qualnameIn X.env name name = X.env.qual ++ name := by
    have hk : X.env.kindOf name = some .local ∨ X.env.kindOf name = some .cell := hx
    unfold qualnameIn
    rcases hk with k | k <;> rw [k] <;> first | rfl | exact if_neg (by decide)
  refine PySem.W.nestDef_K hd0 hk0 ha ?_
  rw [hq]
  refine mf_make (T := ⟨name, params, .stmts body, scope⟩) I Y k (fun y hy e => absurd e (hfr y hy)) fun f F1 H1 s' M I1 x1 Y1 e1 e2 e3 e4 e5 e6 e7 => ?_
  have hw : AtW X.K X.mg F1 m H1 (.lf d []) (.ref f) := AtW.lf0 e4 e5 e6 (by rw [e3]; exact e7) (by rw [e1]; exact g) (by rw [e2]; exact cloFrom_none hfr) h0
  exact store_ok I1 hN hi hx (v := .ref f) rfl (fun s'' J => ⟨_, H1, J, h _ _ _ _ x1 Y1 ((G.mono x1).set hw)⟩) hf
end
end Pyi
/-! Pn: defs of the module, calls of them. -/
namespace Pyi
open PySem PySem.Spec PyProof.Rows L2
variable [Gd]
/-- room for a call at k levels, and no guard about -/
structure RoomC (k : Nat) (A : Around) : Prop where
  room : Room k A
  gd : A.guards = some []
/-- .. within a def, where such calls are made, by built-ins too -/
structure RoomG (k : Nat) (A : Around) : Prop where
  c : RoomC k A
  un : A.units + 16 * k + 210 < cLine
theorem RoomG.room {k : Nat} {A : Around} (r : RoomG k A) : Room k A := r.c.room
theorem RoomG.gd {k : Nat} {A : Around} (r : RoomG k A) : A.guards = some [] := r.c.gd
theorem RoomC.deeper {k : Nat} {A : Around} (r : RoomC (k + 1) A) (env : Env) : RoomG k (A.deeper env) := ⟨⟨r.room.deeper env, r.gd⟩, by
  have := r.room.un
  show A.units + 3 + 16 * k + 210 < _
  omega⟩
theorem RoomG.in2 {k : Nat} {A : Around} (r : RoomG k A) : RoomC k A.in1.in1 := ⟨⟨r.room.hd, by
  have := r.room.dp
  show A.depth + 3 * k + 5 < _
  omega, by
  have := r.un
  show A.units + 1 + 1 + 16 * k + 200 < _
  omega⟩, r.gd⟩
theorem RoomG.u {k : Nat} {A : Around} (r : RoomG k A) : A.units + 100 < cLine := by
  have := r.room.un
  omega
/-- the reading of a call by the evaluator, wherever it stands -/
def RpK {α : Type} (P : Program) (K : PySem.W.Frag) (mg : Str → Option Value) (E : XK) (F : Addr → Nat) (m : List Addr) (H : Hp) (r : Res α) (Φ : (Addr → Nat) → List Addr → Hp → Store → α → Prop) : Prop := match r with
  | .ok a S => ∀ F' m' H', Ext F m H F' m' H' → Wd (tbOf P K) K F' m' H' S → Φ F' m' H' S a
  | .exc e S => ∀ F' m' H' c d, Ext F m H F' m' H' → Wd (tbOf P K) K F' m' H' S → XAt K mg F' H' e c d → E c d H'
  | .fail => False
theorem rpK {α : Type} {X : Cx} {E : XK} {F : Addr → Nat} {m : List Addr} {H : Hp} {r : Res α} {Φ : (Addr → Nat) → List Addr → Hp → Store → α → Prop} : Rp X E F m H r Φ = RpK X.prog X.K X.mg E F m H r Φ := rfl
abbrev Out (K : PySem.W.Frag) (mg : Str → Option Value) (Q : VK) : (Addr → Nat) → List Addr → Hp → Store → W → Prop := fun F' m' H' _ w => ∀ v, AtW K mg F' m' H' w v → Q v H'
/-- what a def of n parameters promises: its runs by f -/
def SpF (P : Program) (K : PySem.W.Frag) (mg : Str → Option Value) (n : Nat) (f : List W → Store → Res W) : Sp := fun vs H Q E => vs.length = n ∧ ∃ F m S ws, Wd (tbOf P K) K F m H S ∧ AtWs K mg F m H ws vs ∧ RpK P K mg E F m H (f ws S) (Out K mg Q)
structure FnG (P : Program) (w : World) (K : PySem.W.Frag) (mg : Str → Option Value) (base : Heap) (CX : CXT) (k : Nat) (f : Addr) (fd : FuncData) (ps : List Str) (g : List W → Store → Res W) : Prop where
  run : ∀ (A : Around) (outer : List Env) (s : Shared) (H : Hp) (args : Args) (us : List Value) (vs : List V) (Q : VK) (E : XK), RoomC k A → Env0 P w K mg base A outer s H → BindsTo s fd args (ps.zip us) → Vals vs us →
    SpF P K mg ps.length g vs H Q E → codeAny (model P w) A (.call (.ref f) args) (CR CX outer P w H s Q E) s
def SpL (P : Program) (K : PySem.W.Frag) (mg : Str → Option Value) (f : Addr) (d : Df) (g : List W → List W → Store → Res W) : Sp := fun vs H Q E => vs.length = d.ps.length ∧ ∃ F m S us ws, Wd (tbOf P K) K F m H S ∧ AtW K mg F m H (.lf d us) (.ref f) ∧ AtWs K mg F m H ws vs ∧ RpK P K mg E F m H (g us ws S) (Out K mg Q)
/-- the promise of functions made within a def -/
structure NnG (P : Program) (w : World) (K : PySem.W.Frag) (mg : Str → Option Value) (base : Heap) (CX : CXT) (k : Nat) (g : Df → List W → List W → Store → Res W) : Prop where
  run : ∀ (d : Df) (A : Around) (outer : List Env) (s : Shared) (H : Hp) (f : Addr) (us : List Value) (vs : List V) (Q : VK) (E : XK), RoomC k A → Env0 P w K mg base A outer s H → Vals vs us → SpL P K mg f d (g d) vs H Q E → codeAny (model P w) A (.call (.ref f) ⟨us, []⟩) (CR CX outer P w H s Q E) s
  len : ∀ d us ws S, ws.length ≠ d.ps.length → g d us ws S = .fail
def Binds1 (fd : FuncData) (ps : List Str) (h : Shape) : Prop := ∀ us ws : List Value, us.length = h.n → ws.length = h.ks.length → bindArgs fd ⟨us, h.ks.zip ws⟩ = pure (ps.zip (h.out .none us ws))
/-- a def of the module -/
structure DefAt (K : PySem.W.Frag) (mg : Str → Option Value) (x : Str) (f : Addr) (fd : FuncData) (ps : List Str) (hs : List Shape) : Prop where
  mgx : mg x = some (.ref f)
  kp : PySem.W.keepIn K (.ref f) = true
  ix : ∀ h ∈ hs, h.pi.length = ps.length ∧ ∀ i ∈ h.pi, i < h.n + h.ks.length
  bd : ∀ h ∈ hs, Binds1 fd ps h
theorem vals_getD {vs : List V} {us : List Value} (r : Vals vs us) (i : Nat) (h : i < vs.length) : RelV (vs.getD i .non) (us.getD i .none) := by
  have e : vs[i]? = some vs[i] := List.getElem?_eq_getElem h
  obtain ⟨u, e2, q⟩ := r.get e
  rw [List.getD_eq_getElem?_getD, List.getD_eq_getElem?_getD, e, e2]
  exact q
theorem vals_map {vs : List V} {us : List Value} (r : Vals vs us) : ∀ pi : List Nat, (∀ i ∈ pi, i < vs.length) → Vals (pi.map fun i => vs.getD i .non) (pi.map fun i => us.getD i .none)
  | [], _ => .nil
  | i :: pi, h => .cons (vals_getD r i (h i List.mem_cons_self)) (vals_map r pi fun j hj => h j (List.mem_cons_of_mem _ hj))
theorem atWs_len {K : PySem.W.Frag} {mg : Str → Option Value} {F : Addr → Nat} {m : List Addr} {H : Hp} : ∀ {ws : List W} {vs : List V}, AtWs K mg F m H ws vs → vs.length = ws.length
  | [], _, h => by cases (show _ = _ from h); rfl
  | w :: ws, _, h => by
    obtain ⟨v, r, rfl, _, h2⟩ := h
    rw [List.length_cons, List.length_cons, atWs_len h2]
theorem atWs_get {K : PySem.W.Frag} {mg : Str → Option Value} {F : Addr → Nat} {m : List Addr} {H : Hp} : ∀ {ws : List W} {vs : List V} (i : Nat), AtWs K mg F m H ws vs → i < ws.length → AtW K mg F m H (ws.getD i (.d .non)) (vs.getD i .non)
  | [], _, i, _, hi => by cases hi
  | w :: ws, _, 0, h, _ => by
    obtain ⟨v, r, rfl, h1, _⟩ := h
    exact h1
  | w :: ws, _, i + 1, h, hi => by
    obtain ⟨v, r, rfl, _, h2⟩ := h
    exact atWs_get (ws := ws) i h2 (by rw [List.length_cons] at hi; omega)
theorem atWs_map {K : PySem.W.Frag} {mg : Str → Option Value} {F : Addr → Nat} {m : List Addr} {H : Hp} {ws : List W} {vs : List V} (h : AtWs K mg F m H ws vs) : ∀ pi : List Nat, (∀ i ∈ pi, i < ws.length) →
    AtWs K mg F m H (pi.map fun i => ws.getD i (.d .non)) (pi.map fun i => vs.getD i .non)
  | [], _ => rfl
  | i :: pi, hp => ⟨_, _, rfl, atWs_get i h (hp i List.mem_cons_self), atWs_map h pi fun j hj => hp j (List.mem_cons_of_mem _ hj)⟩
theorem atWs_app {K : PySem.W.Frag} {mg : Str → Option Value} {F : Addr → Nat} {m : List Addr} {H : Hp} : ∀ {ws zs : List W} {vs us : List V}, AtWs K mg F m H ws vs → AtWs K mg F m H zs us → AtWs K mg F m H (ws ++ zs) (vs ++ us)
  | [], _, _, _, h, h' => by cases (show _ = _ from h); exact h'
  | w :: ws, _, _, _, h, h' => by
    obtain ⟨v, r, rfl, h1, h2⟩ := h
    exact ⟨v, _, rfl, h1, atWs_app h2 h'⟩
section
variable {X : Cx} {CX : CXT} {E : XK} {k : Nat} {f : Addr} {fd : FuncData} {ps : List Str} {hs : List Shape} {g : List W → Store → Res W} {x : Str} {e : Expr} {es : List Expr} {kws : List Keyword} {p pos : Pos} {fs fk : Sg → Store → Res (List W)}
/-- a call runs: what is bound, what is promised -/
theorem runG {pins : List (Addr × Obj)} {σ : L2.St} {H : Hp} {s : Shared} {Q : VK} {us ws : List Value} {vs zs : List V} {h : Shape} (Fn : FnG X.prog X.w X.K X.mg X.base CX k f fd ps g) (hr : RoomG k X.A) (D : DefAt X.K X.mg x f fd ps hs) (hh : h ∈ hs) (hx : Passes CX X E)
    (I : L2.Inv X pins σ H s) (r : Vals vs us) (rz : Vals zs ws) (h1 : vs.length = h.n) (h2 : zs.length = h.ks.length) (q : SpF X.prog X.K X.mg ps.length g (h.out .non vs zs) H Q E) : wpAny (model X.prog X.w) X.A (PySem.call (.ref f) us (h.ks.zip ws)) (EP X pins σ Q) X.xe s := by
  have b := BindsTo.of_eq (s := s) (D.bd h hh us ws (by rw [← r.length]; exact h1) (by rw [← rz.length]; exact h2))
  have rr : Vals (h.out .non vs zs) (h.out .none us ws) := vals_map (r.append rz) h.pi fun i hi => by
    rw [List.length_append, h1, h2]
    exact (D.ix h hh).2 i hi
  have run := Fn.run X.A X.stack s H ⟨us, h.ks.zip ws⟩ _ _ Q E hr.c I.env0 b rr q
  refine wpAny_call (codeAny_mono run fun res s' hq => ?_)
  rcases res with err | fl
  · exact hx pins σ H s err s' I hq
  · cases fl with
    | ret u => exact I.after hq
    | _ => exact hq.elim
/-- what the evaluator says of a call -/
def fCall (g : List W → Store → Res W) (h : Shape) (fs fk : Sg → Store → Res (List W)) : Sg → Store → Res W := fun σ S => (fs σ S).bind fun ws S1 => (fk σ S1).bind fun zs S2 => if ws.length = h.n ∧ zs.length = h.ks.length then g (h.out (.d .non) ws zs) S2 else .fail
theorem call_spec {F : Addr → Nat} {m : List Addr} {H : Hp} {S : Store} {ws zs : List W} {vs us : List V} {Q : VK} {h : Shape} (D : DefAt X.K X.mg x f fd ps hs) (hh : h ∈ hs) (Y : Wd (tbX X) X.K F m H S) (h1 : AtWs X.K X.mg F m H ws vs) (h2 : AtWs X.K X.mg F m H zs us)
    (r : Rp X E F m H (if ws.length = h.n ∧ zs.length = h.ks.length then g (h.out (.d .non) ws zs) S else .fail) (Out X.K X.mg Q)) : vs.length = h.n ∧ us.length = h.ks.length ∧ SpF X.prog X.K X.mg ps.length g (h.out .non vs us) H Q E := by
  by_cases c : ws.length = h.n ∧ zs.length = h.ks.length
  · rw [if_pos c] at r
    refine ⟨(atWs_len h1).trans c.1, (atWs_len h2).trans c.2, ?_, F, m, S, h.out (.d .non) ws zs, Y, ?_, r⟩
    · show (h.pi.map _).length = _
      rw [List.length_map]
      exact (D.ix h hh).1
    · refine atWs_map (atWs_app h1 h2) h.pi fun i hi => ?_
      rw [List.length_append, c.1, c.2]
      exact (D.ix h hh).2 i hi
  · rw [if_neg c] at r
    exact r.elim
theorem starEach_one {env : Env} (h : noStar e = true) : starEach (e :: es) env = (false, eval e env) :: starEach es env := star_cons h
theorem kw_some {env : Env} : ∀ kws : List Keyword, (kws.all fun q => q.arg.isSome) = true → (backToKw pos (keywordEach kws env)).all (·.1.isSome) = true ∧ (backToKw pos (keywordEach kws env)).filterMap (·.1) = kws.filterMap (·.arg) ∧
    (backToKw pos (keywordEach kws env)).any (·.1.isNone) = false
  | [], _ => ⟨rfl, rfl, rfl⟩
  | ⟨a, v, q⟩ :: kws, h => by
    simp only [List.all_cons, Bool.and_eq_true] at h
    obtain ⟨i1, i2, i3⟩ := kw_some (env := env) kws h.2
    cases a with
    | none => exact absurd h.1 (by simp)
    | some y =>
      refine ⟨?_, ?_, ?_⟩
      · show (true && (backToKw pos (keywordEach kws env)).all (·.1.isSome)) = true
        rw [i1]; rfl
      · show y :: (backToKw pos (keywordEach kws env)).filterMap (·.1) = y :: kws.filterMap (·.arg)
        rw [i2]
      · show (false || (backToKw pos (keywordEach kws env)).any (·.1.isNone)) = false
        rw [i3]; rfl
/-- f(e, ..) -/
theorem se_call {h : Shape} (Fn : FnG X.prog X.w X.K X.mg X.base CX k f fd ps g) (hr : RoomG k X.A) (D : DefAt X.K X.mg x f fd ps hs) (hh : h ∈ hs) (hx : Passes CX X E) (hg : Gl X x) (hdb : (x == ("__debug__" : Str)) = false) (h0 : h.ks = [])
    (ha : PA X (e :: es) (tAw X E fs)) (hn : (e :: es).all noStar = true) : PE X (.Call (.Name x p) (e :: es) [] pos) (tE X E (fCall g h fs fun _ S => .ok [] S)) := by
  simp only [List.all_cons, Bool.and_eq_true] at hn
  refine ⟨fun pins s σ H Q I ⟨F, m, S, σd, Y, G, q⟩ => wpAny_Call_Name_kw (ld_glob I hg D.mgx ?_ hdb)⟩
  refine PySem.W.callWith_K (h₀ := X.base) I.ok.mod.kin D.kp (thn (ha.run pos pins s σ H (fun vs H1 => SpF X.prog X.K X.mg ps.length g (h.out .non vs []) H1 Q E ∧ vs.length = h.n) I ⟨F, m, S, σd, Y, G, (Rp.bind q).mono fun F1 m1 H1 S1 ws x1 Y1 q1 vs hv => ?_⟩) fun us s1 ⟨vs, H1, I1, r, q1, l1⟩ => ⟨I1.kIn, ?_⟩) (star_cons hn.1) (any_star pos es hn.2)
  · have q1 := q1
    rw [Res.bind_ok] at q1
    obtain ⟨l1, l2, l3⟩ := call_spec (zs := []) (us := []) D hh Y1 hv rfl q1
    exact ⟨l3, l1⟩
  · have := runG (ws := []) (zs := []) Fn hr D hh hx I1 r .nil l1 (by rw [h0]; rfl) q1
    rw [h0] at this
    exact this
/-- f() -/
theorem se_call0 {h : Shape} (Fn : FnG X.prog X.w X.K X.mg X.base CX k f fd ps g) (hr : RoomG k X.A) (D : DefAt X.K X.mg x f fd ps hs) (hh : h ∈ hs) (hx : Passes CX X E) (hg : Gl X x) (hdb : (x == ("__debug__" : Str)) = false) (h0 : h.ks = []) :
    PE X (.Call (.Name x p) [] [] pos) (tE X E (fCall g h (fun _ S => .ok [] S) fun _ S => .ok [] S)) := by
  refine ⟨fun pins s σ H Q I ⟨F, m, S, σd, Y, G, q⟩ => wpAny_Call_Name_kw (ld_glob I hg D.mgx ?_ hdb)⟩
  have q : Rp X E F m H (if ([] : List W).length = h.n ∧ ([] : List W).length = h.ks.length then g (h.out (.d .non) [] []) S else .fail) _ := q
  obtain ⟨l1, l2, l3⟩ := call_spec (ws := []) (zs := []) (vs := []) (us := []) D hh Y rfl rfl q
  have := runG (us := []) (ws := []) Fn hr D hh hx I .nil .nil l1 l2 l3
  rw [h0] at this
  exact PySem.W.callWith_K0 I.kIn D.kp this
/-- f(e, .., k = v, ..) -/
theorem se_callK {h : Shape} (Fn : FnG X.prog X.w X.K X.mg X.base CX k f fd ps g) (hr : RoomG k X.A) (D : DefAt X.K X.mg x f fd ps hs) (hh : h ∈ hs) (hx : Passes CX X E) (hg : Gl X x) (hdb : (x == ("__debug__" : Str)) = false)
    (hks : kws.filterMap (·.arg) = h.ks) (hka : (kws.all fun q => q.arg.isSome) = true) (ha : PA X (e :: es) (tAw X E fs)) (hk : PK X kws (tAw X E fk)) (hn : (e :: es).all noStar = true) : PE X (.Call (.Name x p) (e :: es) kws pos) (tE X E (fCall g h fs fk)) := by
  obtain ⟨w1, w2, w3⟩ := kw_some (env := X.env) (pos := pos) kws hka
  have hn2 := hn
  simp only [List.all_cons, Bool.and_eq_true] at hn
  refine ⟨fun pins s σ H Q I ⟨F, m, S, σd, Y, G, q⟩ => wpAny_Call_Name_kw (ld_glob I hg D.mgx ?_ hdb)⟩
  refine PySem.W.callWith_KW (h₀ := X.base) I.ok.mod.kin D.kp w1 (thn (ha.run pos pins s σ H (fun vs H1 => tAw X E fk σ H1 fun zs H2 => SpF X.prog X.K X.mg ps.length g (h.out .non vs zs) H2 Q E ∧ vs.length = h.n ∧ zs.length = h.ks.length) I ⟨F, m, S, σd, Y, G, (Rp.bind q).mono fun F1 m1 H1 S1 ws x1 Y1 q1 vs hv => ?_⟩) fun us s1 ⟨vs, H1, I1, r, q1⟩ => ?_) (by rw [any_star pos (e :: es) hn2, w3]; rfl) (star_cons hn.1)
  · refine ⟨F1, m1, S1, σd, Y1, G.mono x1, (Rp.bind q1).mono fun F2 m2 H2 S2 zs x2 Y2 q2 us hu => ?_⟩
    obtain ⟨l1, l2, l3⟩ := call_spec D hh Y2 (hv.mono x2) hu q2
    exact ⟨l3, l1, l2⟩
  · refine thn (hk.run pos pins s1 σ H1 _ I1 q1) fun ws s2 ⟨zs, H2, I2, rz, q2, l1, l2⟩ => ⟨I2.kIn, ?_⟩
    rw [w2, hks]
    exact runG Fn hr D hh hx I2 r rz l1 l2 q2
/-- f(k = v, ..) -/
theorem se_callK0 {h : Shape} (Fn : FnG X.prog X.w X.K X.mg X.base CX k f fd ps g) (hr : RoomG k X.A) (D : DefAt X.K X.mg x f fd ps hs) (hh : h ∈ hs) (hx : Passes CX X E) (hg : Gl X x) (hdb : (x == ("__debug__" : Str)) = false)
    (hks : kws.filterMap (·.arg) = h.ks) (hka : (kws.all fun q => q.arg.isSome) = true) (hk : PK X kws (tAw X E fk)) : PE X (.Call (.Name x p) [] kws pos) (tE X E (fCall g h (fun _ S => .ok [] S) fk)) := by
  obtain ⟨w1, w2, w3⟩ := kw_some (env := X.env) (pos := pos) kws hka
  refine ⟨fun pins s σ H Q I ⟨F, m, S, σd, Y, G, q⟩ => wpAny_Call_Name_kw (ld_glob I hg D.mgx ?_ hdb)⟩
  have q : Rp X E F m H ((fk σd S).bind fun zs S2 => if ([] : List W).length = h.n ∧ zs.length = h.ks.length then g (h.out (.d .non) [] zs) S2 else .fail) _ := q
  refine PySem.W.callWith_KW0 (h₀ := X.base) I.ok.mod.kin D.kp w1 (thn (hk.run pos pins s σ H (fun zs H2 => SpF X.prog X.K X.mg ps.length g (h.out .non [] zs) H2 Q E ∧ ([] : List V).length = h.n ∧ zs.length = h.ks.length) I ⟨F, m, S, σd, Y, G, (Rp.bind q).mono fun F2 m2 H2 S2 zs x2 Y2 q2 us hu => ?_⟩) fun ws s2 ⟨zs, H2, I2, rz, q2, l1, l2⟩ => ⟨I2.kIn, ?_⟩) (by show (false || _) = false; rw [w3]; rfl)
  · obtain ⟨l1, l2, l3⟩ := call_spec (ws := []) (vs := []) D hh Y2 rfl hu q2
    exact ⟨l3, l1, l2⟩
  · rw [w2, hks]
    exact runG (us := []) Fn hr D hh hx I2 .nil rz l1 l2 q2
/-- f(e, ..), every parameter by place -/
def Shape.all (n : Nat) : Shape := ⟨n, [], List.range n⟩
theorem range_out {α : Type} (d : α) (ws : List α) : (Shape.all ws.length).out d ws [] = ws := by
  unfold Shape.out Shape.all
  rw [List.append_nil]
  refine List.ext_getElem (by rw [List.length_map, List.length_range]) fun i h1 h2 => ?_
  rw [List.getElem_map, List.getElem_range, List.getD_eq_getElem?_getD, List.getElem?_eq_getElem h2]
  rfl
theorem fCall_all (hl : ∀ ws S, ws.length ≠ ps.length → g ws S = .fail) (σ : Sg) (S : Store) (fs : Sg → Store → Res (List W)) : fCall g (Shape.all ps.length) fs (fun _ S => .ok [] S) σ S = (fs σ S).bind fun ws S1 => g ws S1 := by
  unfold fCall
  congr 1
  funext ws S1
  rw [Res.bind_ok]
  by_cases c : ws.length = ps.length
  · rw [if_pos ⟨c, rfl⟩, ← c, range_out]
  · rw [if_neg fun z => c z.1, hl ws S1 c]
theorem tE_eq {f1 f2 : Sg → Store → Res W} (h : ∀ σ S, f1 σ S = f2 σ S) : tE X E f1 = tE X E f2 := by
  rw [show f1 = f2 from funext fun σ => funext fun S => h σ S]
theorem fnAt_mf {pins : List (Addr × Obj)} {σ : L2.St} {H : Hp} {s : Shared} {f : Addr} {M : MF} (I : L2.Inv X pins σ H s) (e : H f = some (MfO f M)) : PySem.W.FnAt f s.heap := by
  obtain ⟨od, sl, doc, pm, ctv, ho⟩ := mfO_at I.hok e
  exact ⟨_, od, _, sl, ho⟩
/-- a function made within a def is called -/
theorem runN {pins : List (Addr × Obj)} {σ : L2.St} {H : Hp} {s : Shared} {Q : VK} {us : List Value} {vs : List V} {d : Df} {gl : Df → List W → List W → Store → Res W} (Fn : NnG X.prog X.w X.K X.mg X.base CX k gl) (hr : RoomG k X.A) (hx : Passes CX X E)
    (I : L2.Inv X pins σ H s) (r : Vals vs us) (q : SpL X.prog X.K X.mg f d (gl d) vs H Q E) : wpAny (model X.prog X.w) X.A (PySem.call (.ref f) us) (EP X pins σ Q) X.xe s := by
  have run := Fn.run d X.A X.stack s H f us vs Q E hr.c I.env0 r q
  refine wpAny_call (codeAny_mono run fun res s' hq => ?_)
  rcases res with err | fl
  · exact hx pins σ H s err s' I hq
  · cases fl with
    | ret u => exact I.after hq
    | _ => exact hq.elim
theorem lf_spec {F : Addr → Nat} {m : List Addr} {H : Hp} {S : Store} {us ws : List W} {vs : List V} {Q : VK} {d : Df} {gl : Df → List W → List W → Store → Res W} (Fn : NnG X.prog X.w X.K X.mg X.base CX k gl) (Y : Wd (tbX X) X.K F m H S) (h0 : AtW X.K X.mg F m H (.lf d us) (.ref f)) (h1 : AtWs X.K X.mg F m H ws vs)
    (r : Rp X E F m H (gl d us ws S) (Out X.K X.mg Q)) : SpL X.prog X.K X.mg f d (gl d) vs H Q E := by
  refine ⟨?_, F, m, S, us, ws, Y, h0, h1, r⟩
  rw [atWs_len h1]
  refine Decidable.byContradiction fun c => ?_
  rw [Fn.len d us ws S c] at r
  exact r
/-- f(e, ..), f a variable that holds a def of the module, or a function made within a def -/
def fCalv (g : Str → List W → Store → Res W) (gl : Str → Option W) (lf : Df → List W → List W → Store → Res W) (i : Nat) (fs : Sg → Store → Res (List W)) : Sg → Store → Res W := fun σ S => match σ[i]? with
    | some (some (.fn x)) => match gl x with
      | some (.fn _) => (fs σ S).bind fun ws S1 => g x ws S1
      | _ => .fail
    | some (some (.lf f us)) => (fs σ S).bind fun ws S1 => lf f us ws S1
    | _ => .fail
theorem se_calv {i : Nat} {gg : Str → List W → Store → Res W} {gl : Str → Option W} {lf : Df → List W → List W → Store → Res W} (hr : RoomG k X.A) (hx : Passes CX X E) (hN : X.N[i]? = some x) (hv : Vis X.env.scope x) (hd : (x == ("__debug__" : Str)) = false) (hcd : (x == ("__classdict__" : Str)) = false)
    (hfn : ∀ y z, gl y = some (.fn z) → ∃ fa fd ps hs, DefAt X.K X.mg y fa fd ps (Shape.all ps.length :: hs) ∧ FnG X.prog X.w X.K X.mg X.base CX k fa fd ps (gg y) ∧ ∀ ws S, ws.length ≠ ps.length → gg y ws S = .fail) (hlf : NnG X.prog X.w X.K X.mg X.base CX k lf)
    (ha : PA X (e :: es) (tAw X E fs)) (hn : (e :: es).all noStar = true) : PE X (.Call (.Name x p) (e :: es) [] pos) (tE X E (fCalv gg gl lf i fs)) := by
  have hn2 := hn
  simp only [List.all_cons, Bool.and_eq_true] at hn
  refine ⟨fun pins s σ H Q I ⟨F, m, S, σd, Y, G, q⟩ => ?_⟩
  unfold fCalv at q
  split at q
  · rename_i y hy
    split at q
    · rename_i z hz
      obtain ⟨fa, fd, ps, hs, D, Fn, hl⟩ := hfn y z hz
      obtain ⟨v, hσ, hv2⟩ := G.2 i _ hy
      obtain ⟨fa', hm, rfl⟩ := hv2
      have e1 := hm.symm.trans D.mgx
      cases e1
      refine wpAny_Call_Name_kw (thn ((pe_var (pos := p) hN hv hd hcd).run pins s σ H (fun v H1 => v = .ref fa ∧ H1 = H) I ⟨.ref fa, hσ, rfl, rfl⟩) fun u s0 ⟨v, H1, I0, r1, q1⟩ => ?_)
      obtain ⟨ev, eH⟩ := q1
      subst ev
      subst eH
      obtain rfl : u = Value.ref fa := r1
      have q : Rp X E F m H1 (fCall (gg y) (Shape.all ps.length) fs (fun _ S => .ok [] S) σd S) (fun F' m' H' _ w => ∀ v, AtW X.K X.mg F' m' H' w v → Q v H') := by
        rw [fCall_all hl]
        exact q
      refine PySem.W.callWith_K (h₀ := X.base) I0.ok.mod.kin D.kp (thn (ha.run pos pins s0 σ H1 (fun vs H1 => SpF X.prog X.K X.mg ps.length (gg y) ((Shape.all ps.length).out .non vs []) H1 Q E ∧ vs.length = (Shape.all ps.length).n) I0 ⟨F, m, S, σd, Y, G, (Rp.bind q).mono fun F1 m1 H1 S1 ws x1 Y1 q1 vs hvs => ?_⟩) fun us s1 ⟨vs, H1, I1, r, q1, l1⟩ => ⟨I1.kIn, ?_⟩) (star_cons hn.1) (any_star pos es hn.2)
      · have q1 := q1
        rw [Res.bind_ok] at q1
        obtain ⟨l1, l2, l3⟩ := call_spec (zs := []) (us := []) D List.mem_cons_self Y1 hvs rfl q1
        exact ⟨l3, l1⟩
      · exact runG (ws := []) (zs := []) Fn hr D List.mem_cons_self hx I1 r .nil l1 rfl q1
    · exact q.elim
  · rename_i d us hy
    obtain ⟨v, hσ, hv2⟩ := G.2 i _ hy
    have hv3 := hv2
    obtain ⟨f, M, rfl, h1, h2, h3, h4, h5⟩ := hv3
    refine wpAny_Call_Name_kw (thn ((pe_var (pos := p) hN hv hd hcd).run pins s σ H (fun v H1 => v = .ref f ∧ H1 = H) I ⟨.ref f, hσ, rfl, rfl⟩) fun u s0 ⟨v, H1, I0, r1, q1⟩ => ?_)
    obtain ⟨ev, eH⟩ := q1
    subst ev
    subst eH
    obtain rfl : u = Value.ref f := r1
    refine PySem.W.callWith_F (first := []) (fnAt_mf I0 h2) (thn (ha.run pos pins s0 σ H1 (fun vs H1 => SpL X.prog X.K X.mg f d (lf d) vs H1 Q E ∧ H1 f = some (MfO f M)) I0 ⟨F, m, S, σd, Y, G, (Rp.bind q).mono fun F1 m1 H1 S1 ws x1 Y1 q1 vs hvs => ?_⟩) fun us s1 ⟨vs, H1, I1, r, q1, e1⟩ => ⟨fnAt_mf I1 e1, ?_⟩) (star_cons hn.1) (any_star pos es hn.2)
    · exact ⟨lf_spec hlf Y1 (hv2.mono x1) hvs q1, (x1.g f h1).2 _ h2 fun ps => mfO_ne ps⟩
    · show wpAny _ _ (PySem.call (.ref f) us) _ _ _
      exact runN hlf hr hx I1 r q1
  · exact q.elim
/-- keywords' values -/
theorem sk_nil : PK X [] (tAw X E fun _ S => .ok [] S) := ⟨fun pos pins s σ H Q I ⟨F, m, S, σd, Y, G, h⟩ => pk_nil.run pos pins s σ H Q I (h _ _ _ Ext.refl Y [] rfl)⟩
theorem sk_cons {fa : Sg → Store → Res W} {nm : Option Str} {kpos : Pos} (ha : PE X e (tE X E fa)) (hr : PK X kws (tAw X E fk)) : PK X (⟨nm, e, kpos⟩ :: kws) (tAw X E fun σ S => (fa σ S).bind fun w S1 => (fk σ S1).bind fun ws S2 => .ok (w :: ws) S2) := by
  refine ⟨fun pos pins s σ H Q I ⟨F, m, S, σd, Y, G, h⟩ => (pk_cons ha hr).run pos pins s σ H Q I ?_⟩
  refine ⟨F, m, S, σd, Y, G, (Rp.bind h).mono fun F1 m1 H1 S1 w x1 Y1 h1 v hv => ⟨F1, m1, S1, σd, Y1, G.mono x1, (Rp.bind h1).mono fun F2 m2 H2 S2 ws x2 Y2 h2 vs hvs => ?_⟩⟩
  exact h2 _ _ _ Ext.refl Y2 (v :: vs) ⟨v, vs, rfl, hv.mono x2, hvs⟩
end
end Pyi
/-! Po: a def by its body; tests of conditionals. -/
namespace Pyi
open PySem PySem.Spec PyProof.Rows L2
variable [Gd]
section
variable {P : Program} {K : PySem.W.Frag} {mg : Str → Option Value} {F F' : Addr → Nat} {m m' : List Addr} {H H' : Hp} {S S1 : Store}
/-- cells that were made within are forgotten -/
theorem Wd.trunc (Y : Wd (tbOf P K) K F' m' H' S1) (p : m <+: m') : Wd (tbOf P K) K F' m H' (S1.take m.length) := by
  obtain ⟨r, rfl⟩ := p
  refine ⟨?_, (List.nodup_append.mp Y.nd).1, fun a ha => Y.nF a (List.mem_append_left _ ha), Y.Fs, fun i a c h1 h2 => ?_, Y.tab, Y.tup⟩
  · have := Y.len
    rw [List.length_append] at this
    rw [List.length_take]
    omega
  · have hi := (List.getElem?_eq_some_iff.mp h1).1
    rw [List.getElem?_take_of_lt hi] at h2
    exact Y.cell i a c (by rw [List.getElem?_append_left hi]; exact h1) h2
theorem Ext.trunc (x : Ext F m H F' m' H') : Ext F m H F' m H' := ⟨x.f, List.prefix_refl _⟩
/-- a cell of one's own is frozen -/
theorem Wd.froze (Y : Wd (tbOf P K) K F' m' H' S1) (p : m <+: m') {i : Nat} {a : Addr} (hi : m'[i]? = some a) (hm : m.length ≤ i) (hs : H' a ≠ none) : Wd (tbOf P K) K (setF F' a 1) m H' (S1.take m.length) ∧ Kp F' H' (setF F' a 1) H' := by
  have hg : Kp F' H' (setF F' a 1) H' := .of fun b hb => by
    by_cases e : b = a
    · rw [e, setF_same]; exact ⟨rfl, rfl⟩
    · rw [setF_ne e]; exact ⟨hb, rfl⟩
  have Y2 := Y.trunc p
  obtain ⟨r, rfl⟩ := p
  have hn : a ∉ m := fun ha => by
    rw [List.getElem?_append_right hm] at hi
    exact (List.nodup_append.mp Y.nd).2.2 a ha a (List.mem_of_getElem? hi) rfl
  have h0 : F' a = 0 := Y.nF a (List.mem_of_getElem? hi)
  refine ⟨⟨Y2.len, Y2.nd, fun b hb => ?_, fun b hb => ?_, fun j b c h1 h2 => (Y2.cell j b c h1 h2).mono hg, fun b hb => (let ⟨t1, t2⟩ := Y.tab b hb; ⟨(setF_ne fun e => by rw [e, h0] at t1; cases t1).trans t1, t2.mono hg rfl⟩), fun b vs h => ?_⟩, hg⟩
  rotate_left 2
  · by_cases e : b = a
    · rw [e, setF_same]; exact Nat.le_refl _
    · rw [setF_ne e]
      exact Y.tup b vs h
  · rw [setF_ne fun e => hn (by rw [← e]; exact hb)]
    exact Y2.nF b hb
  · by_cases e : b = a
    · rw [e]; exact hs
    · rw [setF_ne e] at hb
      exact Y2.Fs b hb
theorem Ext.froze (x : Ext F m H F' m' H') {i : Nat} {a : Addr} (h0 : F' a = 0) : Ext F m H (setF F' a 1) m H' := ⟨fun b hb => by
  obtain ⟨h1, h2⟩ := x.f b hb
  have e : b ≠ a := fun e => hb (by rw [e] at h1 ⊢; rw [← h1]; exact h0)
  exact ⟨by rw [setF_ne e]; exact h1, h2⟩, List.prefix_refl _⟩
/-- a cell of one's own is handed on, the others forgotten -/
theorem Wd.handed (Y : Wd (tbOf P K) K F' m' H' S1) (p : m <+: m') {i : Nat} {a : Addr} {c : Cell} (hi : m'[i]? = some a) (hm : m.length ≤ i) (hc : S1[i]? = some c) : Wd (tbOf P K) K F' (m ++ [a]) H' (S1.take m.length ++ [c]) := by
  have Y2 := Y.trunc p
  obtain ⟨r, rfl⟩ := p
  have ha : a ∈ r := by
    rw [List.getElem?_append_right hm] at hi
    exact List.mem_of_getElem? hi
  have hn : a ∉ m := fun h => (List.nodup_append.mp Y.nd).2.2 a h a ha rfl
  have l2 := Y2.len
  refine ⟨by simp only [List.length_append, List.length_cons, List.length_nil]; omega, ?_, fun b hb => ?_, Y2.Fs, fun j b d h1 h2 => ?_, Y2.tab, Y2.tup⟩
  · rw [List.nodup_append]
    refine ⟨Y2.nd, by simp, fun b hb b2 hb2 e => hn ?_⟩
    rw [show b2 = a by simpa using hb2] at e
    exact e ▸ hb
  · rcases List.mem_append.mp hb with hb | hb
    · exact Y2.nF b hb
    · rw [show b = a by simpa using hb]
      exact Y.nF a (List.mem_append_right _ ha)
  · by_cases hj : j < m.length
    · rw [List.getElem?_append_left hj] at h1
      rw [List.getElem?_append_left (by rw [← Y2.len]; exact hj)] at h2
      exact Y2.cell j b d h1 h2
    · have hj' : m.length ≤ j := Nat.le_of_not_lt hj
      rw [List.getElem?_append_right hj'] at h1
      rw [List.getElem?_append_right (by rw [← Y2.len]; exact hj'), ← Y2.len] at h2
      have h0 : j - m.length = 0 := by
        have := (List.getElem?_eq_some_iff.mp h1).1
        simp at this
        omega
      rw [h0] at h1 h2
      simp at h1 h2
      subst h1
      subst h2
      exact Y.cell i a c hi hc
theorem close_ok {E : XK} {keep : Bool} {w : W} {v : V} {Q : VK} (Y : Wd (tbOf P K) K F' m' H' S1) (x : Ext F m H F' m' H') (hw : AtW K mg F' m' H' w v) (h : RpK P K mg E F m H (close keep m.length w S1) (Out K mg Q)) : Q v H' := by
  have plain : (∀ F2 H2, F2 = F' → H2 = H' → AtW K mg F2 m H2 w v) → close keep m.length w S1 = .ok w (S1.take m.length) → Q v H' := fun hw e => by
    rw [e] at h
    exact h _ _ _ x.trunc (Y.trunc x.p) v (hw _ _ rfl rfl)
  cases w with
  | d d => exact plain (fun F2 H2 e1 e2 => by subst e1; subst e2; exact hw) rfl
  | fn f => exact plain (fun F2 H2 e1 e2 => hw) rfl
  | lf d us =>
    cases us with
    | nil => exact plain (fun F2 H2 e1 e2 => by
        subst e1; subst e2
        obtain ⟨f, M, rfl, h1, h2, h3, h4, h5, h6, h7, h8⟩ := hw
        exact ⟨f, M, rfl, h1, h2, h3, h4, h5, h6, h7, h8⟩) rfl
    | cons a us => exact (show False from h).elim
  | dct kvs => exact plain (fun F2 H2 e1 e2 => by subst e1; subst e2; exact hw) rfl
  | ref i =>
    obtain ⟨a, hi, rfl⟩ := hw
    unfold close at h
    dsimp only at h
    by_cases c : i < m.length
    · rw [if_pos c] at h
      refine h _ _ _ x.trunc (Y.trunc x.p) _ ⟨a, ?_, rfl⟩
      obtain ⟨r, e⟩ := x.p
      rw [← e, List.getElem?_append_left c] at hi
      exact hi
    · rw [if_neg c] at h
      have c := Nat.le_of_not_lt c
      have h0 : F' a = 0 := Y.nF a (List.mem_of_getElem? hi)
      have keepit : ∀ cc, S1[i]? = some cc → RpK P K mg E F m H (.ok (.ref m.length) (S1.take m.length ++ [cc])) (Out K mg Q) → Q (.ref a) H' := fun cc ec h => by
        refine h F' (m ++ [a]) H' ⟨x.f, List.prefix_append _ _⟩ (Y.handed x.p hi c ec) _ ⟨a, ?_, rfl⟩
        rw [List.getElem?_append_right (Nat.le_refl _), Nat.sub_self]
        rfl
      split at h
      · rename_i ds ec
        obtain ⟨vs, g1, g2⟩ := Y.cell i a _ hi ec
        by_cases ck : keep = true
        · rw [if_pos ck] at h
          exact keepit _ ec h
        · rw [if_neg ck] at h
          obtain ⟨Y2, hg⟩ := Y.froze x.p hi c (by rw [g1]; exact fun z => by cases z)
          exact h _ _ _ (x.froze (i := i) h0) Y2 _ ⟨a, vs, rfl, ⟨SqL.of g1, .inl setF_same⟩, AtDs.mono hg g2⟩
      · rename_i kvs ec
        obtain ⟨vs, g1, g2⟩ := Y.cell i a _ hi ec
        by_cases ck : keep = true
        · rw [if_pos ck] at h
          exact keepit _ ec h
        · rw [if_neg ck] at h
          obtain ⟨Y2, hg⟩ := Y.froze x.p hi c (by rw [g1]; exact fun z => by cases z)
          exact h _ _ _ (x.froze (i := i) h0) Y2 _ ⟨a, vs, rfl, setF_same, g1, AtKV.mono hg g2⟩
      · exact h.elim
      · exact h.elim
theorem atWs_some : ∀ {ws : List W} {vs : List V} {i : Nat} {w : W}, AtWs K mg F m H ws vs → ws[i]? = some w → ∃ v, vs[i]? = some v ∧ AtW K mg F m H w v
  | [], _, _, _, _, e => by simp at e
  | a :: ws, _, 0, w, h, e => by
    obtain ⟨v, r, rfl, h1, h2⟩ := h
    have e' : a = w := by simpa using e
    subst e'
    exact ⟨v, rfl, h1⟩
  | a :: ws, _, i + 1, w, h, e => by
    obtain ⟨v, r, rfl, h1, h2⟩ := h
    exact atWs_some (i := i) h2 (by simpa using e)
theorem sgAt_start {N : List Str} : ∀ {ws : List W} {vs : List V}, AtWs K mg F m H ws vs → SgAt K mg F m H (ws.map some ++ List.replicate (N.length - ws.length) none) (L2.start N vs) := by
  intro ws vs h
  have hl := atWs_len h
  refine ⟨by unfold L2.start; rw [List.length_append, List.length_append, List.length_map, List.length_map, List.length_replicate, List.length_replicate, hl], fun i w hi => ?_⟩
  have hiw : i < ws.length := by
    by_cases c : i < ws.length
    · exact c
    · rw [List.getElem?_append_right (by rw [List.length_map]; omega)] at hi
      rw [List.getElem?_replicate] at hi
      split at hi <;> cases hi
  rw [List.getElem?_append_left (by rw [List.length_map]; exact hiw), List.getElem?_map] at hi
  obtain ⟨w', e, e2⟩ := map_some hi
  cases e2
  unfold L2.start
  obtain ⟨v, ev, hv⟩ := atWs_some h e
  exact ⟨v, by rw [List.getElem?_append_left (by rw [List.length_map, hl]; exact hiw), List.getElem?_map, ev]; rfl, hv⟩
end
/-- THE RULE: a def by its body -/
theorem fnG_of {CX : CXT} {P : Program} {w : World} {K : PySem.W.Frag} {mg : Str → Option Value} {base : Heap} {k : Nat} {f : Addr} {name qual : Str} {params : Arguments} {body : List Stmt} {scope : Scope} {dV kV doc pm cdv ct oc : Value} {an od : Option Addr} {osl : Array (Option Value)} {d : Df} {c : Cal}
    (lk : K.lookup f = some ⟨oc, od, .func (PySem.W.fnOf name qual params body scope dV kV doc pm an cdv ct), osl⟩) (hcd : PySem.W.codeIn K cdv qual = true) (S : FnScope d.names d.ps scope)
    (hbody : ∀ (A : Around) (outer : List Env) (s : Shared) (H : Hp) (E : XK), RoomG k (A.deeper (envOfC qual scope s.heap.objs.size f cdv)) →
      PSs (cxOf CX P w K mg base d.names qual scope f cdv A outer s H E) body (tS (cxOf CX P w K mg base d.names qual scope f cdv A outer s H E) E (execS c d.body))) :
    FnG P w K mg base CX (k + 1) f (PySem.W.fnOf name qual params body scope dV kV doc pm an cdv ct) d.ps (runDf c d) := by
  refine ⟨fun A outer s H args us vs Q E hr e0 hb r ⟨hl, F, m, S0, ws, Y, hws, hsp⟩ => ?_⟩
  have hwl : ws.length = d.ps.length := by rw [← atWs_len hws]; exact hl
  have KX : K.In s.heap := e0.mod.kin.keeps fun b o e => (e0.bs b o e).1
  have lim : s.heap.NoLimit := e0.mod.nolimit.keeps fun b o e => (e0.bs b o e).1
  have hkind : ∀ y ∈ d.ps.zip us, scope.names.lookup y.1 = some .local ∨ (scope.names.lookup y.1 = some .cell ∧ ((cellsFrom (s.heap.objs.size + 1) scope.names []).lookup y.1).isSome = true) := fun ⟨n, v⟩ hy => by
    rcases S.par n (List.of_mem_zip hy).1 with q | q
    · exact .inl q
    · exact .inr ⟨q, PySem.W.cellsFrom_some _ _ _ (.inl q)⟩
  refine codeAny_call_function hr.room.depth (KX _ _ lk) rfl S.co S.gen rfl (PySem.W.codeRec_of KX hcd) (hb _ _ _ _ ?_)
  refine wpAny_newFunctionEnv_cells S.kind hkind fun env he s1 x => ?_
  subst he
  refine ⟨lim.keeps x.toInCall.keep, codeAny_func ?_⟩
  have I : L2.Inv (cxOf CX P w K mg base d.names qual scope f cdv A outer s H E) [] (L2.start d.names vs) H s1 := inv_start S hr.room.hd e0 hl r x
  unfold runDf at hsp
  rw [if_pos hwl] at hsp
  have hq : tS (cxOf CX P w K mg base d.names qual scope f cdv A outer s H E) E (execS c d.body) { nx := fun _ H' => Q .non H', rt := Q } (L2.start d.names vs) H := by
    refine ⟨F, m, S0, startW d ws, Y, sgAt_start hws, ?_⟩
    rw [← Y.len] at hsp
    cases hr : execS c d.body (startW d ws) S0 with
    | nx σ S1 =>
      rw [hr] at hsp
      exact fun F' m' H' σ' x Y' G' => close_ok Y' x (w := .d .non) rfl hsp
    | rt w S1 =>
      rw [hr] at hsp
      exact fun F' m' H' v x Y' hv => close_ok Y' x hv hsp
    | exc e S1 =>
      rw [hr] at hsp
      exact fun F' m' H' c' d' x Y' q => hsp F' m H' c' d' x.trunc (Y'.trunc x.p) q
    | bk σ S1 => rw [hr] at hsp; exact (show False from hsp).elim
    | ct σ S1 => rw [hr] at hsp; exact (show False from hsp).elim
    | fail => rw [hr] at hsp; exact hsp
  refine wpAny_mono ((hbody A outer s H E (hr.deeper _)).run [] s1 _ H _ I hq) (fun fl s' hs => ?_) fun e s' hs => hs
  have fin : ∀ {σ' : L2.St} {H' : Hp} {v : V} {u : Value}, L2.Inv (cxOf CX P w K mg base d.names qual scope f cdv A outer s H E) [] σ' H' s' → RelV v u → Q v H' → CE outer P w H s Q u s' :=
    fun {σ' H' v u} J rv q => ⟨v, H', J.os, J.bare, J.base, J.hok, rv, q⟩
  rcases fl with _ | _ | _ | u
  all_goals first
    | exact (let ⟨σ', H', J, q⟩ := hs; fin (v := V.non) (u := Value.none) J rfl q)
    | exact (let ⟨v, σ', H', J, rv, q⟩ := hs; fin J rv q)
    | exact (let ⟨_, _, _, q⟩ := hs; q.elim)
theorem runDf_len {c : Cal} {d : Df} {ws : List W} {S : Store} (h : ws.length ≠ d.ps.length) : runDf c d ws S = .fail := by
  unfold runDf
  rw [if_neg h]
section
variable {X : Cx} {E : XK} {a b q : Expr} {pos : Pos} {fa fb fc : Sg → Store → Res W}
/-- a conditional as a test -/
theorem pt_ite {tc ta tb : TT} (hc : PT X q tc) (ha : PT X a ta) (hb : PT X b tb) : PT X (.IfExp q a b pos) (fun σ H Q => tc σ H fun k H1 => if k = true then ta σ H1 Q else tb σ H1 Q) := ⟨fun pins s σ H Q I h => by
  show wpAny _ _ (do if ← isTrue q X.env (eval q X.env) then isTrue a X.env (eval a X.env) else isTrue b X.env (eval b X.env)) _ _ _
  refine wpAny_bind (thn (hc.run pins s σ H _ I h) fun k s1 ⟨H1, I1, q1⟩ => ?_)
  cases k with
  | true => exact ha.run pins s1 σ H1 Q I1 (by simpa using q1)
  | false => exact hb.run pins s1 σ H1 Q I1 (by simpa using q1)⟩
theorem st_ite (hc : PT X q (tT X E (tr fc))) (ha : PT X a (tT X E (tr fa))) (hb : PT X b (tT X E (tr fb))) : PT X (.IfExp q a b pos) (tT X E (tr (fIte fc fa fb))) := by
  refine (pt_ite hc ha hb).imp fun σ H Q h => ?_
  rw [fIte_eq] at h
  refine tT.dec2 (k := fun σ x S1 b => if b then fa σ S1 else fb σ S1) h fun F m H S σd w b Y G e h => ?_
  cases b with
  | true => exact iteT (tT.ok Y G h)
  | false => exact iteF (tT.ok Y G h)
end
end Pyi
/-! Po1: the promise of functions made within a def. -/
namespace Pyi
open PySem PySem.Spec PyProof.Rows L2
variable [Gd]
def hideH (cs : List Addr) (H : Hp) : Hp := fun a => if a ∈ cs then none else H a
def hideF (cs : List Addr) (F : Addr → Nat) : Addr → Nat := fun a => if a ∈ cs then 0 else F a
def backH (cs : List Addr) (H H' : Hp) : Hp := fun a => if a ∈ cs then H a else H' a
def backF (cs : List Addr) (F F' : Addr → Nat) : Addr → Nat := fun a => if a ∈ cs then F a else F' a
section
variable {cs : List Addr} {K : PySem.W.Frag} {mg : Str → Option Value} {F F' : Addr → Nat} {m m' : List Addr} {H H' : Hp} {S : Store} {a : Addr}
theorem hideH_no (h : a ∉ cs) : hideH cs H a = H a := if_neg h
theorem hide_none {b : Addr} (e : H b = none) : hideH cs H b = none := by
  unfold hideH
  split
  · rfl
  · exact e
theorem hideF_no (h : a ∉ cs) : hideF cs F a = F a := if_neg h
theorem hideH_in (h : a ∈ cs) : hideH cs H a = none := if_pos h
theorem hideF_in (h : a ∈ cs) : hideF cs F a = 0 := if_pos h
theorem backH_no (h : a ∉ cs) : backH cs H H' a = H' a := if_neg h
theorem backF_no (h : a ∉ cs) : backF cs F F' a = F' a := if_neg h
theorem backH_in (h : a ∈ cs) : backH cs H H' a = H a := if_pos h
theorem backF_in (h : a ∈ cs) : backF cs F F' a = F a := if_pos h
/-- the cells that a function captured -/
structure Hid (cs : List Addr) (F : Addr → Nat) (H : Hp) : Prop where
  f : ∀ a ∈ cs, F a = 1
  h : ∀ a ∈ cs, ∃ o, H a = some (CellO a o) ∧ ∃ v, o.data = .cell v
  nf : ∀ a ∈ cs, ∀ M, H a ≠ some (MfO a M)
  nc : ∀ a ∈ cs, ∀ q, H a ≠ some (LamX.CodeO a q)
theorem Hid.not (Z : Hid cs F H) {o : HO} (e : H a = some o) (n : ∀ φ, o ≠ .ext φ) : a ∉ cs := fun z => by
  obtain ⟨v, q, _⟩ := Z.h a z
  rw [e] at q
  exact n _ (Option.some.inj q)
theorem TupF.hide (Z : Hid cs F H) {vs : List V} (h : TupF K F H a vs) : TupF K (hideF cs F) (hideH cs H) a vs := by
  by_cases z : a ∈ cs
  · obtain ⟨v, q, _⟩ := Z.h a z
    obtain ⟨h1, h2⟩ := h
    rcases h1 with (h1 | ⟨o, h1⟩) | h1
    · rw [q] at h1; cases h1
    · rw [q] at h1; cases h1
    · exact ⟨.inr h1, .inr (.inr h1)⟩
  · obtain ⟨h1, h2⟩ := h
    refine ⟨?_, h2.imp (fun e => by rw [hideF_no z]; exact e) id⟩
    rcases h1 with (h1 | ⟨o, h1⟩) | h1
    · exact .inl (.inl (by rw [hideH_no z]; exact h1))
    · exact .inl (.inr ⟨o, by rw [hideH_no z]; exact h1⟩)
    · exact .inr h1
theorem LstF.hide (Z : Hid cs F H) {vs : List V} (h : LstF K F H a vs) : LstF K (hideF cs F) (hideH cs H) a vs := by
  by_cases z : a ∈ cs
  · obtain ⟨v, q, _⟩ := Z.h a z
    obtain ⟨h1, h2⟩ := h
    rcases h1 with (h1 | ⟨o, h1⟩) | h1
    · rw [q] at h1; cases h1
    · rw [q] at h1; cases h1
    · exact ⟨.inr h1, .inr (.inr h1)⟩
  · obtain ⟨h1, h2⟩ := h
    refine ⟨?_, h2.imp (fun e => by rw [hideF_no z]; exact e) id⟩
    rcases h1 with (h1 | ⟨o, h1⟩) | h1
    · exact .inl (.inl (by rw [hideH_no z]; exact h1))
    · exact .inl (.inr ⟨o, by rw [hideH_no z]; exact h1⟩)
    · exact .inr h1
mutual
theorem AtD.hide (Z : Hid cs F H) : ∀ {d : D} {v : V}, AtD K F H d v → AtD K (hideF cs F) (hideH cs H) d v
  | .non, _, h => h
  | .bl _, _, h => h
  | .int _, _, h => h
  | .str _, _, h => h
  | .tup ds, _, h => by
    obtain ⟨a, vs, rfl, h1, h2⟩ := h
    exact ⟨a, vs, rfl, h1.hide Z, AtDs.hide Z h2⟩
  | .lst ds, _, h => by
    obtain ⟨a, vs, rfl, h1, h2⟩ := h
    exact ⟨a, vs, rfl, h1.hide Z, AtDs.hide Z h2⟩
theorem AtDs.hide (Z : Hid cs F H) : ∀ {ds : List D} {vs : List V}, AtDs K F H ds vs → AtDs K (hideF cs F) (hideH cs H) ds vs
  | [], _, h => h
  | d :: ds, _, h => by
    obtain ⟨v, r, rfl, h1, h2⟩ := h
    exact ⟨v, r, rfl, AtD.hide Z h1, AtDs.hide Z h2⟩
end
theorem AtKV.hide (Z : Hid cs F H) : ∀ {ds : List (Key × D)} {vs : List (Key × V)}, AtKV K F H ds vs → AtKV K (hideF cs F) (hideH cs H) ds vs
  | [], _, h => h
  | (k, d) :: ds, _, h => by
    obtain ⟨v, r, rfl, h1, h2⟩ := h
    exact ⟨v, r, rfl, AtD.hide Z h1, AtKV.hide Z h2⟩
theorem CellAt.hide (Z : Hid cs F H) : ∀ {c : Cell} {o : Option HO}, CellAt K F H c o → CellAt K (hideF cs F) (hideH cs H) c o
  | .lst _, _, ⟨vs, h1, h2⟩ => ⟨vs, h1, AtDs.hide Z h2⟩
  | .dct _, _, ⟨vs, h1, h2⟩ => ⟨vs, h1, AtKV.hide Z h2⟩
  | .tks _, _, h => h
variable {P : Program} {w : World} {h : Heap}
theorem cell_nf {o : Obj} (hok : HOk P w H h) (q : H a = some (CellO a o)) {v : Option Value} (hd : o.data = .cell v) (M : MF) : H a ≠ some (MfO a M) := fun e => by
  have ho := cellO_at hok q
  obtain ⟨od, sl, doc, pm, ctv, ho2⟩ := mfO_at hok e
  rw [ho] at ho2
  cases ho2
  cases hd
theorem cell_nc {o : Obj} (hok : HOk P w H h) (q : H a = some (CellO a o)) {v : Option Value} (hd : o.data = .cell v) (x : Str) : H a ≠ some (LamX.CodeO a x) := fun e => by
  have ho := cellO_at hok q
  obtain ⟨c, oc, vs, t, e1, ho2, hd2, _⟩ := NdefX.codeO_at hok e
  cases e1
  rw [ho] at ho2
  cases ho2
  rw [hd] at hd2
  cases hd2
theorem Hid.fn (Z : Hid cs F H) {M : MF} (e : H a = some (MfO a M)) : a ∉ cs := fun z => Z.nf a z M e
theorem Hid.code (Z : Hid cs F H) {q : Str} (e : H a = some (LamX.CodeO a q)) : a ∉ cs := fun z => Z.nc a z q e
theorem AtW.hide (Z : Hid cs F H) {w' : W} {v : V} (p : w'.plain = true) (q : AtW K mg F m H w' v) : AtW K mg (hideF cs F) m (hideH cs H) w' v := by
  cases w' with
  | d d => exact AtD.hide Z q
  | dct kvs =>
    obtain ⟨a, vs, rfl, h1, h2, h3⟩ := q
    have n := Z.not h2 fun φ => nofun
    exact ⟨a, vs, rfl, by rw [hideF_no n]; exact h1, by rw [hideH_no n]; exact h2, AtKV.hide Z h3⟩
  | ref i => exact q
  | fn x => exact q
  | lf d us =>
    cases us with
    | cons a us => cases p
    | nil =>
      obtain ⟨f, M, rfl, h1, h2, h3, h4, h5, h6, h7, h8⟩ := q
      have n1 := Z.fn h2
      have n2 := Z.code h4
      exact ⟨f, M, rfl, by rw [hideF_no n1]; exact h1, by rw [hideH_no n1]; exact h2, by rw [hideF_no n2]; exact h3, by rw [hideH_no n2]; exact h4, h5, h6, h7, h8⟩
theorem AtWs.hide (Z : Hid cs F H) : ∀ {ws : List W} {vs : List V}, ws.all W.plain = true → AtWs K mg F m H ws vs → AtWs K mg (hideF cs F) m (hideH cs H) ws vs
  | [], _, _, q => q
  | w :: ws, _, p, q => by
    obtain ⟨v, r, rfl, h1, h2⟩ := q
    simp only [List.all_cons, Bool.and_eq_true] at p
    exact ⟨v, r, rfl, AtW.hide Z p.1 h1, AtWs.hide Z p.2 h2⟩
theorem Wd.hide {t : Tbs} (Z : Hid cs F H) (Y : Wd t K F m H S) : Wd t K (hideF cs F) m (hideH cs H) S := by
  refine ⟨Y.len, Y.nd, fun a ha => ?_, fun a ha => ?_, fun i a c h1 h2 => ?_, fun a ha => ?_, fun a vs h => ?_⟩
  rotate_left 4
  · have n : a ∉ cs := fun z => by rw [hideH_in z] at h; cases h
    rw [hideF_no n]
    rw [hideH_no n] at h
    exact Y.tup a vs h
  · unfold hideF
    split
    · rfl
    · exact Y.nF a ha
  · have n : a ∉ cs := fun z => ha (hideF_in z)
    rw [hideF_no n] at ha
    rw [hideH_no n]
    exact Y.Fs a ha
  · have n : a ∉ cs := fun z => by
      have := Z.f a z
      rw [Y.nF a (List.mem_of_getElem? h1)] at this
      cases this
    rw [hideH_no n]
    exact (Y.cell i a c h1 h2).hide Z
  · obtain ⟨t1, ps, t2, t3, t4⟩ := Y.tab a ha
    have n : a ∉ cs := fun z => by
      have := Z.f a z
      rw [t1] at this
      cases this
    refine ⟨by rw [hideF_no n]; exact t1, ps, by rw [hideH_no n]; exact t2, t3, fun pos cv hc => ?_⟩
    obtain ⟨c, e1, e2, e3⟩ := t4 pos cv hc
    have n2 := Z.code e3
    exact ⟨c, e1, by rw [hideF_no n2]; exact e2, by rw [hideH_no n2]; exact e3⟩
theorem HOk.hide (Z : Hid cs F H) (hok : HOk P w H h) : HOk P w (hideH cs H) h := fun a o e => by
  have n : a ∉ cs := fun z => by rw [hideH_in z] at e; cases e
  rw [hideH_no n] at e
  refine (hok a o e).stay (fun b u _ q => q) (fun b q => ?_) fun b xs q => ?_
  · rw [hideH_no (Z.not q fun φ => nofun)]; exact q
  · rw [hideH_no (Z.not q fun φ => nofun)]; exact q
/-- .. they are there again -/
theorem ext_back (Z : Hid cs F H) (x : Ext (hideF cs F) m (hideH cs H) F' m' H') : Ext F m H (backF cs F F') m' (backH cs H H') := by
  refine ⟨fun a ha => ?_, x.p⟩
  by_cases z : a ∈ cs
  · rw [backF_in z, backH_in z]
    exact ⟨rfl, fun o e _ => e⟩
  · rw [backF_no z, backH_no z]
    have := x.f a (by rw [hideF_no z]; exact ha)
    rw [hideF_no z, hideH_no z] at this
    exact this
theorem ext_back2 {t : Tbs} (Y : Wd t K F' m' H' S) (n : ∀ a ∈ cs, H' a = none) : Ext F' m' H' (backF cs F F') m' (backH cs H H') := .of (fun a ha => by
  have z : a ∉ cs := fun z => Y.Fs a ha (n a z)
  exact ⟨backF_no z, backH_no z⟩) (List.prefix_refl _)
theorem wd_back {t : Tbs} (Z : Hid cs F H) (Y : Wd t K F' m' H' S) (n : ∀ a ∈ cs, H' a = none) : Wd t K (backF cs F F') m' (backH cs H H') S := by
  have x := ext_back2 (F := F) (H := H) Y n
  have nm : ∀ (i : Nat) a, m'[i]? = some a → a ∉ cs := fun i a h1 z => by
    have hi : i < S.length := by rw [← Y.len]; exact (List.getElem?_eq_some_iff.mp h1).1
    have q := Y.cell i a _ h1 (List.getElem?_eq_getElem hi)
    rw [n a z] at q
    exact CellAt.no q
  refine ⟨Y.len, Y.nd, fun a ha => ?_, fun a ha => ?_, fun i a c h1 h2 => ?_, fun a ha => ?_, fun a vs h => ?_⟩
  rotate_left 4
  · by_cases z : a ∈ cs
    · obtain ⟨v, q, _⟩ := Z.h a z
      rw [backH_in z, q] at h
      cases h
    · rw [backF_no z]
      rw [backH_no z] at h
      exact Y.tup a vs h
  · obtain ⟨i, hi⟩ := List.getElem?_of_mem ha
    rw [backF_no (nm i a hi)]
    exact Y.nF a ha
  · by_cases z : a ∈ cs
    · obtain ⟨v, q, _⟩ := Z.h a z
      rw [backH_in z, q]
      exact fun z => by cases z
    · rw [backF_no z] at ha
      rw [backH_no z]
      exact Y.Fs a ha
  · rw [backH_no (nm i a h1)]
    exact (Y.cell i a c h1 h2).mono x.g
  · obtain ⟨t1, t2⟩ := Y.tab a ha
    have z : a ∉ cs := fun z => Y.Fs a (by rw [t1]; decide) (n a z)
    exact ⟨by rw [backF_no z]; exact t1, t2.mono x.g (backH_no z)⟩
theorem HOk.back {s s' : Heap} (Z : Hid cs F H) (hok : HOk P w H s) (hok' : HOk P w H' s') (n : ∀ a ∈ cs, H' a = none) (k : ∀ a ∈ cs, ∀ o, s.get? a = some o → s'.get? a = some o) : HOk P w (backH cs H H') s' := fun a o e => by
  by_cases z : a ∈ cs
  · rw [backH_in z] at e
    obtain ⟨v, q, _⟩ := Z.h a z
    rw [q] at e
    cases e
    obtain ⟨h1, ⟨o2, h3⟩, h4⟩ := hok a _ q
    exact ⟨k a z _ h1, ⟨o2, k a z _ h3⟩, h4⟩
  · rw [backH_no z] at e
    refine (hok' a o e).stay (fun b u _ q => q) (fun b q => ?_) fun b xs q => ?_
    · rw [backH_no fun z => by rw [n b z] at q; cases q]; exact q
    · rw [backH_no fun z => by rw [n b z] at q; cases q]; exact q
theorem Un.back {fs : List Addr} {s s' : Heap} (Z : Hid cs F H) (u : Un fs [] (hideH cs H) H' s s') : Un fs [] H (backH cs H H') s s' := by
  have hn : ∀ b, H b = none → b ∉ cs ∧ hideH cs H b = none := fun b e => by
    have z : b ∉ cs := fun z => by
      obtain ⟨v, q, _⟩ := Z.h b z
      rw [e] at q; cases q
    exact ⟨z, by rw [hideH_no z]; exact e⟩
  refine ⟨fun b o h1 h2 h3 h4 => u.keep b o h1 (hn b h2).2 h3 h4, fun b o h1 h2 h3 h4 => u.slot b o h1 (hn b h2).2 h3 h4, fun b o h1 h2 h4 => ?_, u.there, fun b xs e => ?_, fun b o v e => ?_, fun b ps e => ?_⟩
  · rw [backH_no (hn b h2).1]
    exact u.free b o h1 (hn b h2).2 h4
  · have z := Z.not e fun φ => nofun
    rw [backH_no z]
    exact u.tups b xs (by rw [hideH_no z]; exact e)
  · have z := Z.not e fun φ => nofun
    rw [backH_no z]
    exact u.frzs b o v (by rw [hideH_no z]; exact e)
  · have z := Z.not e fun φ => nofun
    obtain ⟨more, q⟩ := u.tbls b ps (by rw [hideH_no z]; exact e)
    exact ⟨more, by rw [backH_no z]; exact q⟩
/-- what is wanted behind, told of the heap without the cells -/
abbrev QB (cs : List Addr) (H : Hp) (Q : VK) : VK := fun v H' => (∀ a ∈ cs, H' a = none) → Q v (backH cs H H')
abbrev EB (cs : List Addr) (H : Hp) (E : XK) : XK := fun c d H' => (∀ a ∈ cs, H' a = none) → E c d (backH cs H H')
theorem rpK_hide {E : XK} {r : Res W} {Q : VK} (Z : Hid cs F H) (h : RpK P K mg E F m H r (Out K mg Q)) : RpK P K mg (EB cs H E) (hideF cs F) m (hideH cs H) r (Out K mg (QB cs H Q)) := by
  cases r with
  | ok w S => exact fun F' m' H' x Y v hv n => h _ _ _ (ext_back Z x) (wd_back Z Y n) v (hv.mono (ext_back2 Y n))
  | exc e S => exact fun F' m' H' c d x Y q n => h _ _ _ c d (ext_back Z x) (wd_back Z Y n) trivial
  | fail => exact h
/-- an exception's end may be told of the heap with the cells -/
def HideX (CX : CXT) (P : Program) (w : World) : Prop := ∀ (cs : List Addr) (F : Addr → Nat) (outer : List Env) (H : Hp) (s : Shared) (E : XK) (e : Value) (s' : Shared), Hid cs F H → HOk P w H s.heap → (∀ b ∈ frs outer, H b = none) → CX outer (hideH cs H) s (EB cs H E) e s' → CX outer H s E e s'
theorem cr_back {CX : CXT} {outer : List Env} {s s' : Shared} {Q : VK} {E : XK} {r : Result} (hx : HideX CX P w) (Z : Hid cs F H) (hok : HOk P w H s.heap) (hf : ∀ b ∈ frs outer, H b = none) (h : CR CX outer P w (hideH cs H) s (QB cs H Q) (EB cs H E) r s') : CR CX outer P w H s Q E r s' := by
  cases r with
  | error e => exact hx cs F outer H s E e s' Z hok hf h
  | ok fl =>
    cases fl with
    | ret u =>
      obtain ⟨v, H', os, bare, un, hok', rv, q⟩ := h
      have at_ : ∀ a ∈ cs, ∃ o, s.heap.get? a = some o := fun a z => by
        obtain ⟨o, q, _⟩ := Z.h a z
        exact ⟨o, cellO_at hok q⟩
      have n : ∀ a ∈ cs, H' a = none := fun a z => let ⟨o, ho⟩ := at_ a z; un.free a o ho (hideH_in z) (by simp)
      have nf : ∀ a ∈ cs, a ∉ frs outer := fun a z y => by
        obtain ⟨v, q, _⟩ := Z.h a z
        rw [hf a y] at q; cases q
      exact ⟨v, backH cs H H', os, bare, Un.back Z un, HOk.back Z hok hok' n (fun a z o ho => un.keep a o ho (hideH_in z) (nf a z) (by simp)), rv, q n⟩
    | _ => exact h
/-- what was captured -/
theorem atCs_vals : ∀ {cl : List (Str × Addr)} {fr : List Str} {us : List W}, AtCs K mg F m H cl fr us → ∃ cv, AtWs K mg F m H us cv ∧ cv.length = fr.length ∧ ∀ (i : Nat) y, fr[i]? = some y → ∃ c o u v, cv[i]? = some v ∧ cl.lookup y = some c ∧ F c = 1 ∧ H c = some (CellO c o) ∧ o.data = .cell (some u) ∧ RelV v u
  | _, _, [], h => by
    cases (show _ = _ from h)
    exact ⟨[], rfl, rfl, fun i y e => by simp at e⟩
  | cl, _, w :: us, h => by
    obtain ⟨y, r, c, o, u, v, rfl, h1, h2, h3, h6, h7, h4, h5⟩ := h
    obtain ⟨cv, i1, i2, i3⟩ := atCs_vals h5
    refine ⟨v :: cv, ⟨v, cv, rfl, h4, i1⟩, by rw [List.length_cons, List.length_cons, i2], fun i z e => ?_⟩
    cases i with
    | zero =>
      have e : y = z := by simpa using e
      subst e
      exact ⟨c, o, u, v, rfl, h1, h2, h3, h6, h7⟩
    | succ i => exact i3 i z (by simpa using e)
end
/-- the layer's words of a function -/
def MF.nf (M : MF) : NdefX.NF := ⟨M.t.name, M.qual, M.t.params, [], M.t.scope, M.cl, M.c⟩
abbrev nfX (CX : CXT) (P : Program) (w : World) (K : PySem.W.Frag) (mg : Str → Option Value) (base : Heap) (N : List Str) (M : MF) (f : Addr) (A : Around) (outer : List Env) (s : Shared) (H : Hp) (E : XK) : Cx := NdefX.ncx CX P w K mg base N M.nf f A outer s H E
/-- what is told of a form and its text -/
structure LfOk (CX : CXT) (P : Program) (w : World) (K : PySem.W.Frag) (mg : Str → Option Value) (base : Heap) (k : Nat) (c : Cal) (d : Df) (T : FTxt) : Prop where
  sc : NdefX.NScope d.names d.ps d.fr T.scope
  bd : ∀ (M : MF) (doc pm ctv : Value) (us : List Value), M.t = T → us.length = d.ps.length → bindArgs (M.fd doc pm ctv) ⟨us, []⟩ = pure (d.ps.zip us)
  body : ∀ (M : MF) (f : Addr) (A : Around) (outer : List Env) (s : Shared) (H : Hp) (E : XK), M.t = T → RoomG k (A.deeper (NdefX.envF M.nf f s.heap.objs.size)) → match T.body with
    | .stmts b => PSs (nfX CX P w K mg base d.names M f A outer s H E) b (tS (nfX CX P w K mg base d.names M f A outer s H E) E (execS c d.body))
    | .expr e => ∃ be, d.body = .ret be ∧ PE (nfX CX P w K mg base d.names M f A outer s H E) e (tE (nfX CX P w K mg base d.names M f A outer s H E) E (evalE c be))
/-- .. of one with cells of its own that captures none -/
structure LfOk0 (CX : CXT) (P : Program) (w : World) (K : PySem.W.Frag) (mg : Str → Option Value) (base : Heap) (k : Nat) (c : Cal) (d : Df) (T : FTxt) : Prop where
  fr : d.fr = []
  sc : FnScope d.names d.ps T.scope
  bd : ∀ (M : MF) (doc pm ctv : Value) (us : List Value), M.t = T → us.length = d.ps.length → bindArgs (M.fd doc pm ctv) ⟨us, []⟩ = pure (d.ps.zip us)
  body : ∃ b, T.body = .stmts b ∧ ∀ (M : MF) (f : Addr) (A : Around) (outer : List Env) (s : Shared) (H : Hp) (E : XK), M.t = T → RoomG k (A.deeper (envOfC M.qual T.scope s.heap.objs.size f (.ref M.c))) →
    PSs (cxOf CX P w K mg base d.names M.qual T.scope f (.ref M.c) A outer s H E) b (tS (cxOf CX P w K mg base d.names M.qual T.scope f (.ref M.c) A outer s H E) E (execS c d.body))
theorem startF_eq {N : List Str} {vs cv : List V} : NdefX.startF N vs (cv.map some) = L2.start N (vs ++ cv) := by
  unfold NdefX.startF L2.start
  rw [List.map_append, List.append_assoc, List.length_append, List.length_map, Nat.sub_sub]
/-- THE RULE -/
theorem nnG_of {CX : CXT} {P : Program} {w : World} {K : PySem.W.Frag} {mg : Str → Option Value} {base : Heap} {k : Nat} {c : Cal} (hX : HideX CX P w) (ok : ∀ d T, Gd.ok d T → LfOk CX P w K mg base k c d T ∨ LfOk0 CX P w K mg base k c d T) : NnG P w K mg base CX (k + 1) (runLf c) := by
  refine ⟨fun d A outer s H f uvs vs Q E hr e0 r ⟨hl, F, m, S0, us, ws, Y, hf, hws, hsp⟩ => ?_, fun d us ws S h => ?_⟩
  · obtain ⟨f', M, e, h1, h2, h3, h4, h5, h6, h7, h8⟩ := hf
    cases e
    rcases ok d M.t h5 with L | L
    rotate_left
    · obtain ⟨cv, c1, c2, c3⟩ := atCs_vals h8
      have hul : us = [] := by
        have := atWs_len c1
        rw [c2, L.fr] at this
        exact List.length_eq_zero_iff.mp this.symm
      subst hul
      obtain ⟨T, qual, cl, cd⟩ := M
      have hcl : cl = [] := by
        cases cl with
        | nil => rfl
        | cons p cl =>
          have := h6 p.1 p.2 (by show ((p.1, p.2) :: cl).lookup p.1 = _; simp [List.lookup])
          rw [L.fr] at this
          cases this
      subst hcl
      dsimp only at *
      have hwl : ws.length = d.ps.length := by rw [← atWs_len hws]; exact hl
      unfold runLf at hsp
      by_cases hp : lfOk [] ws = true
      · rw [if_pos ⟨⟨by rw [L.fr]; rfl, hwl⟩, hp⟩, List.append_nil] at hsp
        have lim : s.heap.NoLimit := e0.mod.nolimit.keeps fun b o e => (e0.bs b o e).1
        obtain ⟨od, sl, doc, pm, ctv, ho⟩ := mfO_at e0.hok h2
        obtain ⟨b, hb, body⟩ := L.body
        have hkind : ∀ y ∈ d.ps.zip uvs, T.scope.names.lookup y.1 = some .local ∨ (T.scope.names.lookup y.1 = some .cell ∧ ((cellsFrom (s.heap.objs.size + 1) T.scope.names []).lookup y.1).isSome = true) := fun ⟨n, v⟩ hy => by
          rcases L.sc.par n (List.of_mem_zip hy).1 with q | q
          · exact .inl q
          · exact .inr ⟨q, PySem.W.cellsFrom_some _ _ _ (.inl q)⟩
        refine codeAny_call_function hr.room.depth ho rfl L.sc.co L.sc.gen hb (NdefX.codeO_at e0.hok h4) ?_
        rw [L.bd ⟨T, qual, [], cd⟩ doc pm ctv uvs rfl (by rw [← r.length]; exact hl)]
        refine wpAny_pure (wpAny_newFunctionEnv_cells L.sc.kind hkind fun env he s1 x => ?_)
        subst he
        refine ⟨lim.keeps x.toInCall.keep, codeAny_func ?_⟩
        have I : L2.Inv (cxOf CX P w K mg base d.names qual T.scope f (.ref cd) A outer s H E) [] (L2.start d.names vs) H s1 := inv_start L.sc hr.room.hd e0 hl r x
        have hq : tS (cxOf CX P w K mg base d.names qual T.scope f (.ref cd) A outer s H E) E (execS c d.body) { nx := fun _ H' => Q .non H', rt := Q } (L2.start d.names vs) H := by
          refine ⟨F, m, S0, startW d ws, Y, sgAt_start hws, ?_⟩
          rw [← Y.len] at hsp
          cases hr : execS c d.body (startW d ws) S0 with
          | nx σ S1 =>
            rw [hr] at hsp
            exact fun F' m' H' σ' x Y' G' => close_ok Y' x (w := .d .non) rfl hsp
          | rt w S1 =>
            rw [hr] at hsp
            exact fun F' m' H' v x Y' hv => close_ok Y' x hv hsp
          | exc e S1 =>
            rw [hr] at hsp
            exact fun F' m' H' c' d' x Y' q => hsp F' m H' c' d' x.trunc (Y'.trunc x.p) q
          | bk σ S1 => rw [hr] at hsp; exact (show False from hsp).elim
          | ct σ S1 => rw [hr] at hsp; exact (show False from hsp).elim
          | fail => rw [hr] at hsp; exact hsp
        refine wpAny_mono ((body ⟨T, qual, [], cd⟩ f A outer s H E rfl (hr.deeper _)).run [] s1 _ H _ I hq) (fun fl s' hs => ?_) fun e s' hs => hs
        have fin : ∀ {σ' : L2.St} {H' : Hp} {v : V} {u : Value}, L2.Inv (cxOf CX P w K mg base d.names qual T.scope f (.ref cd) A outer s H E) [] σ' H' s' → RelV v u → Q v H' → CE outer P w H s Q u s' :=
          fun {σ' H' v u} J rv q => ⟨v, H', J.os, J.bare, J.base, J.hok, rv, q⟩
        rcases fl with _ | _ | _ | u
        all_goals first
          | exact (let ⟨σ', H', J, q⟩ := hs; fin (v := V.non) (u := Value.none) J rfl q)
          | exact (let ⟨v, σ', H', J, rv, q⟩ := hs; fin J rv q)
          | exact (let ⟨_, _, _, q⟩ := hs; q.elim)
      · rw [if_neg fun z => hp z.2] at hsp
        exact hsp.elim
    obtain ⟨cv, c1, c2, c3⟩ := atCs_vals h8
    have hwl : ws.length = d.ps.length := by rw [← atWs_len hws]; exact hl
    have hul : us.length = d.fr.length := by rw [← atWs_len c1]; exact c2
    unfold runLf at hsp
    by_cases hp : lfOk us ws = true
    · rw [if_pos ⟨⟨hul, hwl⟩, hp⟩] at hsp
      unfold lfOk at hp
      rw [Bool.and_eq_true] at hp
      obtain ⟨cs, hcs⟩ : ∃ cs, cs = d.fr.filterMap fun y => M.cl.lookup y := ⟨_, rfl⟩
      have inC : ∀ y a, M.cl.lookup y = some a → a ∈ cs ∧ ∃ i, d.fr[i]? = some y := fun y a e => by
        have hy := h6 y a e
        refine ⟨?_, List.mem_iff_getElem?.mp hy⟩
        rw [hcs]
        exact List.mem_filterMap.mpr ⟨y, hy, e⟩
      have Z : Hid cs F H := by
        refine ⟨fun a ha => ?_, fun a ha => ?_, fun a ha => ?_, fun a ha => ?_⟩
        all_goals
          rw [hcs] at ha
          obtain ⟨y, hy, ea⟩ := List.mem_filterMap.mp ha
          obtain ⟨i, hi⟩ := List.mem_iff_getElem?.mp hy
          obtain ⟨c, o, u, v, _, q1, q2, q3, q4, _⟩ := c3 i y hi
          rw [ea] at q1
          cases q1
          first
            | exact q2
            | exact ⟨o, q3, _, q4⟩
            | exact cell_nf e0.hok q3 q4
            | exact cell_nc e0.hok q3 q4
      refine codeAny_mono ?_ fun res s' hq => cr_back hX Z e0.hok e0.frf hq
      have hsp := rpK_hide Z hsp
      have Y2 := Y.hide Z
      have n1 := Z.fn h2
      have n2 := Z.code h4
      have ws2 := AtWs.hide Z hp.2 hws
      have us2 := AtWs.hide Z hp.1 c1
      have e2 : Env0 P w K mg base A outer s (hideH cs H) := ⟨e0.frames, e0.mod, fun b o e => ⟨(e0.bs b o e).1, hide_none (e0.bs b o e).2⟩, e0.bsz, e0.funs, fun b hb => hide_none (e0.frf b hb), HOk.hide Z e0.hok, e0.bare⟩
      have lim : s.heap.NoLimit := e0.mod.nolimit.keeps fun b o e => (e0.bs b o e).1
      obtain ⟨od, sl, doc, pm, ctv, ho⟩ := mfO_at e0.hok h2
      have C : NdefX.CellsAt M.nf.cl d.fr (cv.map some) s.heap (hideH cs H) := by
        refine ⟨by rw [List.length_map]; exact c2, fun y a e => ?_, h7, fun i y e => ?_⟩
        · obtain ⟨ha, i, hi⟩ := inC y a e
          obtain ⟨o, q, v, hd⟩ := Z.h a ha
          exact ⟨hideH_in ha, v, o, cellO_at e0.hok q, hd⟩
        · obtain ⟨a, o, u, v, q1, q2, q3, q4, q5, q6⟩ := c3 i y e
          refine ⟨a, q2, fun v' ev => ?_⟩
          rw [List.getElem?_map, q1] at ev
          cases ev
          exact ⟨u, q6, o, cellO_at e0.hok q4, q5⟩
      have finE : ∀ (A : Around) (s1 : Shared), L2.Inv (nfX CX P w K mg base d.names M f A outer s (hideH cs H) (EB cs H E)) [] (NdefX.startF d.names vs (cv.map some)) (hideH cs H) s1 → SgAt K mg (hideF cs F) m (hideH cs H) (startW d (ws ++ us)) (NdefX.startF d.names vs (cv.map some)) := fun A s1 I => by
        rw [startF_eq]
        exact sgAt_start (atWs_app ws2 us2)
      have sg : SgAt K mg (hideF cs F) m (hideH cs H) (startW d (ws ++ us)) (NdefX.startF d.names vs (cv.map some)) := by
        rw [startF_eq]
        exact sgAt_start (atWs_app ws2 us2)
      have bind := L.bd M doc pm ctv uvs rfl (by rw [← r.length]; exact hl)
      have fin : ∀ {σ' : L2.St} {H' : Hp} {v : V} {u : Value} {s' : Shared}, L2.Inv (nfX CX P w K mg base d.names M f A outer s (hideH cs H) (EB cs H E)) [] σ' H' s' → RelV v u → QB cs H Q v H' → CE outer P w (hideH cs H) s (QB cs H Q) u s' :=
        fun {σ' H' v u s'} J rv q => ⟨v, H', J.os, J.bare, J.base, J.hok, rv, q⟩
      have body := L.body M f A outer s (hideH cs H) (EB cs H E) rfl (hr.deeper _)
      rw [← Y.len] at hsp
      have nocell := L.sc.nocell
      have kp0 : ∀ {h₁ : Heap} {L0 : Addr}, Heap.SameBut L0 (s.heap.push ({ cls := .type "dict", data := .dict #[] } : Obj)) h₁ → True := fun _ => trivial
      cases hb : M.t.body with
      | stmts b =>
        rw [hb] at body
        refine codeAny_call_function hr.room.depth ho rfl L.sc.co L.sc.gen hb (NdefX.codeO_at e0.hok h4) ?_
        rw [bind]
        refine wpAny_pure (wpAny_newFunctionEnv nocell (fun ⟨n, _⟩ hy => L.sc.par n (List.of_mem_zip hy).1) (fun h₁ hns hsb => ⟨lim.fresh _ hsb, ?_⟩) L.sc.kind)
        show codeAny _ _ (.func b (NdefX.envF M.nf f s.heap.objs.size)) _ _
        refine codeAny_func ?_
        have kp : ∀ b o, s.heap.get? b = some o → h₁.get? b = some o := fun b o e => hsb.extBut b o (Nat.ne_of_lt (Heap.lt_size e)) (Heap.get?_push_of_some _ e)
        have I : L2.Inv (nfX CX P w K mg base d.names M f A outer s (hideH cs H) (EB cs H E)) [] (NdefX.startF d.names vs (cv.map some)) (hideH cs H) { s with heap := h₁, toks := s.toks + (d.ps.zip uvs).length } := NdefX.inv_startN L.sc hr.room.hd e2 hl r C hns kp
        have hq : tS (nfX CX P w K mg base d.names M f A outer s (hideH cs H) (EB cs H E)) (EB cs H E) (execS c d.body) { nx := fun _ H' => QB cs H Q .non H', rt := QB cs H Q } (NdefX.startF d.names vs (cv.map some)) (hideH cs H) := by
          refine ⟨hideF cs F, m, S0, startW d (ws ++ us), Y2, sg, ?_⟩
          cases hr : execS c d.body (startW d (ws ++ us)) S0 with
          | nx σ S1 =>
            rw [hr] at hsp
            exact fun F' m' H' σ' x Y' G' => close_ok Y' x (w := .d .non) rfl hsp
          | rt w S1 =>
            rw [hr] at hsp
            exact fun F' m' H' v x Y' hv => close_ok Y' x hv hsp
          | exc e S1 =>
            rw [hr] at hsp
            exact fun F' m' H' c' d' x Y' q => hsp F' m H' c' d' x.trunc (Y'.trunc x.p) q
          | bk σ S1 => rw [hr] at hsp; exact (show False from hsp).elim
          | ct σ S1 => rw [hr] at hsp; exact (show False from hsp).elim
          | fail => rw [hr] at hsp; exact hsp
        refine wpAny_mono (body.run [] _ _ _ _ I hq) (fun fl s' hs => ?_) fun e s' hs => hs
        rcases fl with _ | _ | _ | u
        all_goals first
          | exact (let ⟨σ', H', J, q⟩ := hs; fin (v := V.non) (u := Value.none) J rfl q)
          | exact (let ⟨v, σ', H', J, rv, q⟩ := hs; fin J rv q)
          | exact (let ⟨_, _, _, q⟩ := hs; q.elim)
      | expr b =>
        rw [hb] at body
        obtain ⟨be, eb, body⟩ := body
        refine PySem.W.kla_callFunE hr.room.depth ho rfl L.sc.co L.sc.gen hb (NdefX.codeO_at e0.hok h4) ?_
        rw [bind]
        refine wpAny_pure (wpAny_newFunctionEnv nocell (fun ⟨n, _⟩ hy => L.sc.par n (List.of_mem_zip hy).1) (fun h₁ hns hsb => ⟨lim.fresh _ hsb, ?_⟩) L.sc.kind)
        show codeAny _ _ (.expr b (NdefX.envF M.nf f s.heap.objs.size)) _ _
        have kp : ∀ b o, s.heap.get? b = some o → h₁.get? b = some o := fun b o e => hsb.extBut b o (Nat.ne_of_lt (Heap.lt_size e)) (Heap.get?_push_of_some _ e)
        have I : L2.Inv (nfX CX P w K mg base d.names M f A outer s (hideH cs H) (EB cs H E)) [] (NdefX.startF d.names vs (cv.map some)) (hideH cs H) { s with heap := h₁, toks := s.toks + (d.ps.zip uvs).length } := NdefX.inv_startN L.sc hr.room.hd e2 hl r C hns kp
        have hq : tE (nfX CX P w K mg base d.names M f A outer s (hideH cs H) (EB cs H E)) (EB cs H E) (evalE c be) (NdefX.startF d.names vs (cv.map some)) (hideH cs H) (QB cs H Q) := by
          refine ⟨hideF cs F, m, S0, startW d (ws ++ us), Y2, sg, ?_⟩
          rw [eb] at hsp
          unfold execS at hsp
          cases hr : evalE c be (startW d (ws ++ us)) S0 with
          | ok w S1 =>
            rw [hr] at hsp
            exact fun F' m' H' x Y' v hv => close_ok Y' x hv hsp
          | exc e S1 =>
            rw [hr] at hsp
            exact fun F' m' H' c' d' x Y' q => hsp F' m H' c' d' x.trunc (Y'.trunc x.p) q
          | fail => rw [hr] at hsp; exact hsp
        refine PySem.W.kla_codeExpr (wpAny_mono (body.run [] _ _ _ _ I hq) (fun v s' hs => ?_) fun e s' hs => hs)
        obtain ⟨w', H', J, rv, q⟩ := hs
        exact fin J rv q
    · rw [if_neg fun z => hp z.2] at hsp
      exact hsp.elim
  · unfold runLf
    rw [if_neg fun z => h z.1.2]
end Pyi
/-! Po2: sorted(.., key=f), f a function made within a def. -/
namespace Pyi
open PySem PySem.Spec PyProof.Rows L2
open PySem.W (EachIs)
variable [Gd]
section
variable {X : Cx} {F F' : Addr → Nat} {m m' : List Addr} {H H' : Hp} {S : Store} {pins : List (Addr × Obj)} {σ : L2.St} {s : Shared} {a kS : Addr}
theorem RdD.mono {u : Value} {d : D} (e : Kp F H F' H') (h : RdD X F H u d) : RdD X F' H' u d := let ⟨v, r, q⟩ := h; ⟨v, r, q.mono e⟩
/-- an object of one's own, not tracked: it may be written -/
theorem inv_own {h' : Heap} {t' : Nat} {o : Obj} {ps : List (Addr × Obj)} (I : L2.Inv X (ps ++ [(a, o)]) σ H s) (fp : FpOk X ps H a) (k : ∀ b o, b ≠ a → s.heap.get? b = some o → h'.get? b = some o) {o' : Obj} (ho : h'.get? a = some o') (hc : ∀ v, o'.data ≠ .cell v) :
    L2.Inv X (ps ++ [(a, o')]) σ H { s with heap := h', toks := t' } := by
  obtain ⟨f1, f2, f3, f4, f5, f6⟩ := fp
  have I0 : L2.Inv X ps σ H s := I.unpinned (pl := [(a, o)])
  have at0 := I.pin (a, o) (List.mem_append_right _ (List.mem_append_right _ List.mem_cons_self))
  have ne : ∀ b o, H b = some o → b ≠ a := fun b o e z => by rw [z, f1] at e; cases e
  have J : L2.Inv X ps σ H { s with heap := h', toks := t' } := by
    refine I0.step (g' := s.gens) (d' := s.drawn) (ch := [a]) (fun b hb => ?_) (fun b o h1 h2 h3 e n => k b o (fun z => h3 (by rw [z]; exact List.mem_cons_self)) e) (fun b o h1 h2 h3 e n => ⟨o.slots, k b o (fun z => h3 (by rw [z]; exact List.mem_cons_self)) e⟩)
      (fun b o h1 e n => n) (fun b o h1 e => ⟨o, k b o (fun z => h1 (by rw [z]; exact List.mem_cons_self)) e⟩) (fun b xs e => e) (fun b o u e => e) (fun b ps e => ⟨#[], by simpa using e⟩) (fun m0 hn => ?_) (fun b o e => ?_) I0.bare
    · obtain rfl : b = a := by simpa using hb
      exact ⟨f4, f2, fun x c e z => f5 x c e z, fun p hp z => f6 p hp z⟩
    · obtain ⟨ob, es, ep, ho, r⟩ := hn
      exact ⟨ob, es, ep, k _ ob (Ne.symm f2) ho, r⟩
    · refine (I0.hok b o e).stay (fun c u hc q => k c u ?_ q) (fun _ q => q) fun _ _ q => q
      rcases hc with rfl | hc
      · exact ne _ _ e
      · exact ne _ _ hc
  refine J.pins_of fun p hp => ?_
  rcases List.mem_append.mp hp with hp | hp
  · exact J.pin p (List.mem_append_right _ hp)
  · obtain rfl : p = (a, o') := by simpa using hp
    exact ⟨ho, f1, f2, f3, hc⟩
/-- .. it is tracked from now on -/
theorem inv_adopt {o : Obj} {u : HO} (I : L2.Inv X (pins ++ [(a, o)]) σ H s) (fp : FpOk X pins H a) (hs : X.s_0.heap.objs.size ≤ a) (new : ObjOk X.prog X.w (upd H a u) s.heap a u) : L2.Inv X pins σ (upd H a u) s := by
  obtain ⟨f1, f2, f3, f4, f5, f6⟩ := fp
  have I0 : L2.Inv X pins σ H s := I.unpinned (pl := [(a, o)])
  have J := I0.step (h' := s.heap) (H' := upd H a u) (g' := s.gens) (d' := s.drawn) (t' := s.toks) (ch := [a]) (fun b hb => by
      obtain rfl : b = a := by simpa using hb
      exact ⟨.inr hs, f2, fun x c e z => f5 x c e z, fun p hp z => f6 p hp z⟩) (fun b o h1 h2 h3 e n => e) (fun b o h1 h2 h3 e n => ⟨o.slots, e⟩)
      (fun b o h1 e n => by rw [upd_ne (fun z => h1 (by rw [z]; exact List.mem_cons_self))]; exact n) (fun b o h1 e => ⟨o, e⟩) (fun b xs e => by rw [upd_ne (ne_of_none e f1)]; exact e) (fun b o u e => by rw [upd_ne (ne_of_none e f1)]; exact e) (fun b ps e => ⟨#[], by rw [upd_ne (ne_of_none e f1)]; simpa using e⟩) (fun m0 hn => hn) (fun b o e => ?_) I0.bare
  · exact J
  · by_cases z : b = a
    · subst z
      rw [upd_same] at e
      cases e
      exact new
    · rw [upd_ne z] at e
      exact (I0.hok b o e).stay (fun c v hc q => q) (fun c q => by rw [upd_ne (ne_of_none q f1)]; exact q) fun c xs q => by rw [upd_ne (ne_of_none q f1)]; exact q
/-- runN where a built-in calls, and nothing is raised -/
theorem runK {CX : CXT} {k : Nat} {f : Addr} {Q : VK} {us : List Value} {vs : List V} {d : Df} {gl : Df → List W → List W → Store → Res W} {Ev : Value → Shared → Prop} (Fn : NnG X.prog X.w X.K X.mg X.base CX k gl) (hr : RoomG k X.A) (hx : ∀ X' : Cx, Passes CX X' E0')
    (I : L2.Inv X pins σ H s) (r : Vals vs us) (q : SpL X.prog X.K X.mg f d (gl d) vs H Q E0') : wpAny (model X.prog X.w) X.A.in1.in1 (PySem.call (.ref f) us) (EP X pins σ Q) Ev s := by
  have e0 : Env0 X.prog X.w X.K X.mg X.base X.A.in1.in1 X.stack s H := ⟨I.env0.frames, I.env0.mod, I.env0.bs, I.env0.bsz, I.env0.funs, I.env0.frf, I.env0.hok, I.env0.bare⟩
  have run := Fn.run d X.A.in1.in1 X.stack s H f us vs Q E0' hr.in2 e0 r q
  refine wpAny_call (codeAny_mono run fun res s' hq => ?_)
  rcases res with err | fl
  · exact ((hx (X.wish fun _ _ => False)) pins σ H s err s' (I.wish _) hq).elim
  · cases fl with
    | ret u => exact I.after hq
    | _ => exact hq.elim
theorem toP_map2 {ds ks : List D} : (ds.zip ks).map (fun p => p.2.toP) = ((ds.zip ks).map (·.2)).map D.toP := by rw [List.map_map]; rfl
theorem each_zip {R : Value → D → Prop} : ∀ {vs : List Value} {ds ks : List D}, EachIs R vs ds → ks.length = ds.length → EachIs (fun v (p : D × D) => R v p.1) vs (ds.zip ks)
  | _, _, _, .nil, _ => .nil
  | _, _, [], .cons _ _, h => by cases h
  | _, _, k :: ks, .cons r e, h => .cons r (each_zip e (by simpa using h))
theorem each_fst {R : Value → D → Prop} : ∀ {vs : List Value} {ps : List (D × D)}, EachIs (fun v (p : D × D) => R v p.1) vs ps → EachIs R vs (ps.map (·.1))
  | _, _, .nil => .nil
  | _, _, .cons r e => .cons r (each_fst e)
theorem zip_snd : ∀ {ds ks : List D}, ks.length = ds.length → (ds.zip ks).map (·.2) = ks
  | [], [], _ => rfl
  | _ :: _, [], h => by cases h
  | [], _ :: _, h => by cases h
  | d :: ds, k :: ks, h => by
    rw [List.zip_cons_cons, List.map_cons, zip_snd (by simpa using h)]
/-- list.sort with a key, of a list that is nobody's -/
theorem keyI_tree {CX : CXT} {k n : Nat} {f : Addr} {d : Df} {us : List W} {vs : List Value} {ds : List D} {gl : Df → List W → List W → Store → Res W} {P : PySem.Fin → Shared → Prop} {Ev : Value → Shared → Prop} {Φ : (Addr → Nat) → List Addr → Hp → Store → List D → Prop} (Fn : NnG X.prog X.w X.K X.mg X.base CX k gl) (hr : RoomG k X.A) (hx : ∀ X' : Cx, Passes CX X' E0')
    (I : L2.Inv X (pins ++ [(a, seqObj "list" vs.toArray n)]) σ H s) (fp : FpOk X pins H a) (Y : Wd (tbX X) X.K F m H S) (hf : AtW X.K X.mg F m H (.lf d us) (.ref f)) (he : EachIs (RdD X F H) vs ds) (hL : ds.length ≤ sizeLine)
    (hk : Rp X E0' F m H (keyLoop (fun d' S => gl d us [.d d'] S) ds S) Φ) (hok : ∀ F' m' H' S' ks, Ext F m H F' m' H' → Wd (tbX X) X.K F' m' H' S' → Φ F' m' H' S' ks → sortOk ks = true)
    (h : ∀ F' m' H' S' ks out s' c, Ext F m H F' m' H' → Wd (tbX X) X.K F' m' H' S' → Φ F' m' H' S' ks → L2.Inv X (pins ++ [(a, seqObj "list" (List.toArray out) c)]) σ H' s' → FpOk X pins H' a → out.length = ds.length → EachIs (RdD X F' H') out (sortBy ds ks) → P (.done (.ret .none)) s') :
    wpAny (model X.prog X.w) X.A.in1.in1 (ksk_tree a (.ref f) false) P Ev s := by
  have ho : s.heap.get? a = some (seqObj "list" vs.toArray n) := (I.pin (a, seqObj "list" vs.toArray n) (List.mem_append_right _ (List.mem_append_right _ List.mem_cons_self))).1
  have hvl : vs.length = ds.length := he.length
  have ha : a < s.heap.objs.size := Heap.lt_size ho
  obtain ⟨e1, ho1⟩ : ∃ e1, (s.heap.update a (Obj.mapSeq fun _ => (#[] : Array Value))).get? a = some (seqObj "list" #[] e1) := ⟨_, get?_update_seq ho fun _ => #[]⟩
  unfold ksk_tree
  refine wpAny_bind (listItems_at ho rfl ?_)
  refine wpAny_bind (listUpdate_at ho rfl ?_ (by rw [List.size_toArray, hvl]; exact hL) (Nat.zero_le _))
  refine wpAny_bind (seqEpoch_at ho1 rfl ?_)
  refine wpAny_bind (wpAny_newTuple ?_ (by show vs.length ≤ _; rw [hvl]; exact hL))
  refine wpAny_bind (wpAny_newList ?_ (Nat.zero_le _))
  refine wpAny_holding ?_
  have hu := hr.u
  -- the list is empty, the keys' list is new
  have s1 := Heap.SameBut.update s.heap a (Obj.mapSeq fun _ => (#[] : Array Value))
  have I1 : L2.Inv X (pins ++ [(a, seqObj "list" #[] e1)]) σ H { s with heap := s.heap.update a (Obj.mapSeq fun _ => (#[] : Array Value)) } := inv_own (t' := s.toks) I fp (fun b o hb e => (s1.2 b hb).trans e) ho1 (fun v => nofun)
  have I2 : L2.Inv X (pins ++ [(a, seqObj "list" #[] e1)]) σ H { s with heap := ((s.heap.update a (Obj.mapSeq fun _ => (#[] : Array Value))).push (seqObj "tuple" vs.toArray 0)).push (seqObj "list" #[] 0) } :=
    I1.kept (t' := s.toks) fun b u e => Heap.get?_push_of_some _ (Heap.get?_push_of_some _ e)
  have nk : (((s.heap.update a (Obj.mapSeq fun _ => (#[] : Array Value))).push (seqObj "tuple" vs.toArray 0)).push (seqObj "list" #[] 0)).get? ((s.heap.update a (Obj.mapSeq fun _ => (#[] : Array Value))).push (seqObj "tuple" vs.toArray 0)).objs.size = some (seqObj "list" #[] 0) := Heap.get?_push_size _ rfl
  have hsz : s.heap.objs.size ≤ ((s.heap.update a (Obj.mapSeq fun _ => (#[] : Array Value))).push (seqObj "tuple" vs.toArray 0)).objs.size := by rw [size_push', Heap.size_update]; exact Nat.le_succ _
  generalize hkS : ((s.heap.update a (Obj.mapSeq fun _ => (#[] : Array Value))).push (seqObj "tuple" vs.toArray 0)).objs.size = kS at nk hsz
  have fpk : FpOk X (pins ++ [(a, seqObj "list" #[] e1)]) H kS := by
    have z := I.fpOk (b := kS) hsz (I.hok.fresh hsz)
    obtain ⟨z1, z2, z3, z4, z5, z6⟩ := z
    refine ⟨z1, z2, z3, z4, z5, fun p hp => ?_⟩
    rcases List.mem_append.mp hp with hp | hp
    · exact z6 p (List.mem_append_left _ hp)
    · rcases List.mem_append.mp hp with hp | hp
      · exact z6 p (List.mem_append_right _ (List.mem_append_left _ hp))
      · obtain rfl : p = (a, seqObj "list" #[] e1) := by simpa using hp
        exact fun z => by
          have z : a = kS := z
          rw [z] at ha
          exact absurd (Nat.lt_of_lt_of_le ha hsz) (Nat.lt_irrefl _)
  have hka : kS ≠ a := fun z => by
    rw [z] at hsz
    exact absurd (Nat.lt_of_lt_of_le ha hsz) (Nat.lt_irrefl _)
  have I3 : L2.Inv X ((pins ++ [(a, seqObj "list" #[] e1)]) ++ [(kS, seqObj "list" #[] 0)]) σ H { s with heap := ((s.heap.update a (Obj.mapSeq fun _ => (#[] : Array Value))).push (seqObj "tuple" vs.toArray 0)).push (seqObj "list" #[] 0) } := by
    refine I2.pins_of fun p hp => ?_
    rcases List.mem_append.mp hp with hp | hp
    · exact I2.pin p (List.mem_append_right _ hp)
    · obtain rfl : p = (kS, seqObj "list" #[] 0) := by simpa using hp
      exact ⟨nk, fpk.1, fpk.2.1, fpk.2.2.1, fun v => nofun⟩
  clear I1 I2 nk
  unfold ksk_rest
  refine wpAny_bind (wpAny_rule ?_)
  first
    | rw [List.forIn_toArray]
    | (rw [← Array.forIn_toList]; simp only [List.toList_toArray])
    | rw [← Array.forIn_toList]
  refine wpAny_bind (ksk_fold (fun i s' => ∃ (Fj : Addr → Nat) (mj : List Addr) (Hj : Hp) (Sj : Store) (kA : Array Value) (e : Nat) (kp : List D), L2.Inv X ((pins ++ [(a, seqObj "list" #[] e1)]) ++ [(kS, seqObj "list" kA e)]) σ Hj s' ∧ Ext F m H Fj mj Hj ∧ Wd (tbX X) X.K Fj mj Hj Sj ∧
      EachIs (RdD X Fj Hj) kA.toList kp ∧ kp.length = i ∧ Rp X E0' Fj mj Hj ((keyLoop (fun d' S => gl d us [.d d'] S) (ds.drop i) Sj).bind fun r S2 => .ok (kp ++ r) S2) Φ) vs 0 _
    ⟨F, m, H, S, #[], 0, [], I3, Ext.refl, Y, .nil, rfl, ?_⟩ ?step ?done)
  case step =>
    rintro j x s' hxj ⟨Fj, mj, Hj, Sj, kA, e, kp, Ij, xj, Yj, ek, el, hj⟩
    simp only [Nat.zero_add] at el hj ⊢
    have hjl : j < vs.length := (List.getElem?_eq_some_iff.mp hxj).1
    obtain ⟨dj, hdj⟩ : ∃ dj, ds[j]? = some dj := ⟨_, List.getElem?_eq_getElem (by rw [← hvl]; exact hjl)⟩
    have hrd : RdD X F H x dj := by
      have hz : (x, dj) ∈ vs.zip ds := List.mem_of_getElem? (i := j) (by rw [List.getElem?_zip_eq_some]; exact ⟨hxj, hdj⟩)
      exact he.zip _ hz
    obtain ⟨v, rv, hv⟩ := hrd
    have ed : ds.drop j = dj :: ds.drop (j + 1) := by
      rw [List.drop_eq_getElem_cons (by rw [← hvl]; exact hjl)]
      congr 1
      exact Option.some.inj ((List.getElem?_eq_getElem (by rw [← hvl]; exact hjl)).symm.trans hdj)
    rw [ed] at hj
    unfold keyLoop at hj
    rw [Res.bind_assoc] at hj
    have hb := Rp.bind hj
    have hq : Rp X E0' Fj mj Hj (gl d us [.d dj] Sj) (Out X.K X.mg fun v1 H1 => ∃ F1 m1 S1 w1, Ext Fj mj Hj F1 m1 H1 ∧ Wd (tbX X) X.K F1 m1 H1 S1 ∧ AtW X.K X.mg F1 m1 H1 w1 v1 ∧ Rp X E0' F1 m1 H1 ((match w1 with
        | .d x => (keyLoop (fun d' S => gl d us [.d d'] S) (ds.drop (j + 1)) S1).bind fun r S2 => .ok (x :: r) S2
        | _ => .fail).bind fun r S2 => .ok (kp ++ r) S2) Φ) := by
      cases hg : gl d us [.d dj] Sj with
      | ok w1 S1 =>
        rw [hg] at hb
        exact fun F1 m1 H1 x1 Y1 v1 hv1 => ⟨F1, m1, S1, w1, x1, Y1, hv1, hb F1 m1 H1 x1 Y1⟩
      | exc e S1 => rw [hg] at hb; exact (show False from hb).elim
      | fail => rw [hg] at hb; exact (show False from hb).elim
    have hsp := lf_spec (E := E0') (ws := [.d dj]) (vs := [v]) Fn Yj (hf.mono xj) ⟨v, [], rfl, hv.mono xj.g, rfl⟩ hq
    refine wpAny_bind (wpAny_attempt (wpAny_mono (runK Fn hr hx Ij (us := [x]) (.cons rv .nil) hsp) (fun u s2 hs2 => ?_) fun _ _ hF => hF))
    obtain ⟨v1, H1, J, r1, F1, m1, S1, w1, x1, Y1, hv1, h1⟩ := hs2
    have e1' := (Rp.bind h1)
    cases w1 with
    | d kd =>
      dsimp only at h1
      try dsimp only
      have nk2 : s2.heap.get? kS = some (seqObj "list" kA e) := (J.pin (kS, seqObj "list" kA e) (List.mem_append_right _ (List.mem_append_right _ List.mem_cons_self))).1
      have fpk2 : FpOk X (pins ++ [(a, seqObj "list" #[] e1)]) H1 kS := ⟨(J.pin (kS, seqObj "list" kA e) (List.mem_append_right _ (List.mem_append_right _ List.mem_cons_self))).2.1, fpk.2⟩
      have hz : kA.size < vs.length := by
        have h2 := ek.length
        rw [Array.length_toList] at h2
        omega
      have su := Heap.SameBut.update s2.heap kS (Obj.mapSeq (·.push u))
      obtain ⟨c2, hc2⟩ : ∃ c2, (s2.heap.update kS (Obj.mapSeq (·.push u))).get? kS = some (seqObj "list" (kA.push u) c2) := ⟨_, get?_update_seq nk2 (·.push u)⟩
      refine wpAny_bind (listUpdate_at nk2 rfl ?_ (by omega) (Nat.le_trans (Nat.le_of_eq (Array.size_push ..)) (by omega)))
      have J2 := inv_own (t' := s2.toks) (h' := s2.heap.update kS (Obj.mapSeq (·.push u))) J fpk2 (fun b o hb e => (su.2 b hb).trans e) hc2 (fun v => nofun)
      refine wpAny_pure ⟨rfl, F1, m1, H1, S1, kA.push u, c2, kp ++ [kd], J2, xj.trans x1, Y1, ?_, by simp [el], ?_⟩
      · have ea : (kA.push u).toList = kA.toList ++ [u] := by simp
        rw [ea]
        exact PySem.W.each_snoc ⟨v1, r1, hv1⟩ (ek.mono fun u d q => q.mono x1.g)
      · rw [Res.bind_assoc] at h1
        have e4 : (fun (a : List D) (S : Store) => (Res.ok (kd :: a) S : Res (List D)).bind fun r S2 => .ok (kp ++ r) S2) = fun r S2 => .ok ((kp ++ [kd]) ++ r) S2 := by
          funext a S
          rw [Res.bind_ok, List.append_assoc]
          rfl
        rw [e4] at h1
        exact h1
    | _ => exact (show False from h1).elim
  case done =>
    rintro s' ⟨Fj, mj, Hj, Sj, kA, e, kp, Ij, xj, Yj, ek, el, hj⟩
    simp only [Nat.zero_add] at el hj
    have ed : ds.drop vs.length = [] := by rw [hvl]; exact List.drop_length
    rw [ed] at hj
    have hj : Rp X E0' Fj mj Hj (.ok (kp ++ []) Sj) Φ := hj
    rw [List.append_nil] at hj
    have hφ := hj _ _ _ Ext.refl Yj
    have hso := hok _ _ _ _ _ xj Yj hφ
    obtain ⟨q1, q2, q3, q4⟩ := sortOk_of (A := X.A) hu hso
    have hkl : kp.length = ds.length := by rw [el, hvl]
    have nk' : s'.heap.get? kS = some (seqObj "list" kA e) := (Ij.pin (kS, seqObj "list" kA e) (List.mem_append_right _ (List.mem_append_right _ List.mem_cons_self))).1
    have na' : s'.heap.get? a = some (seqObj "list" #[] e1) := (Ij.pin (a, seqObj "list" #[] e1) (List.mem_append_right _ (List.mem_append_left _ (List.mem_append_right _ List.mem_cons_self)))).1
    have er := each_reads Ij ek
    have hsz : kA.size = vs.length := by
      have h2 := ek.length
      rw [Array.length_toList] at h2
      omega
    obtain ⟨G, g1, g2⟩ := restrict s'.heap fun b => decide (b ≠ kS)
    have kp2 : PySem.W.KeepsBut a G s'.heap := fun b o hb e => by
      by_cases z : b = kS
      · rw [g2 b (by simp [z])] at e; cases e
      · rw [g1 b (by simp [z])] at e; exact e
    try dsimp only
    refine wpAny_bind (listItems_at nk' rfl ?_)
    refine PySem.W.keyH_end (κ := PySem.W.dataKind s'.heap (kp.map D.toP)) (h₁ := G) (s := s') kp2 (g2 kS (by simp)) nk' na' hka (PySem.W.SortsAt.data (s := s') (PySem.W.each_map (R := fun v d => ∃ as, Reads s'.heap v d as) D.toP er) q2 q3 (fun d hd => ?_)) hsz (by rw [hvl]; exact hL) fun h' tk c k3 n3 => ?_
    · obtain ⟨d0, hd0, rfl⟩ := List.mem_map.mp hd
      exact q4 d0 hd0
    · have hk3 : ∀ b o, b ≠ a → b ≠ kS → s'.heap.get? b = some o → h'.get? b = some o := fun b o n1 n2 e => k3 b o n1 (by rw [g1 b (by simp [n2])]; exact e)
      have hz : EachIs (fun v (p : D × D) => RdD X Fj Hj v p.1) vs (ds.zip kp) := each_zip (he.mono fun u d q => q.mono xj.g) hkl
      have ekz : (ds.zip kp).map (fun p => p.2.toP) = kp.map D.toP := by rw [toP_map2, zip_snd hkl]
      have ko : PySem.W.KeyedOut false (kp.map D.toP) vs (PySem.W.sortVals (PySem.W.dataKind s'.heap (kp.map D.toP)) false kA.toList vs) := ⟨s'.heap, kA.toList, q2, rfl, PySem.W.each_map (R := fun v d => ∃ as, Reads s'.heap v d as) D.toP er⟩
      have eo := PySem.W.keyedOut_each (bs := ds.zip kp) (fun p => p.2.toP) (by rw [ekz]; exact ko) hz
      have eo2 := each_fst eo
      have fpa : FpOk X pins Hj a := ⟨(Ij.pin (a, seqObj "list" #[] e1) (List.mem_append_right _ (List.mem_append_left _ (List.mem_append_right _ List.mem_cons_self)))).2.1, fp.2⟩
      -- both lists are written
      have fpk2 : FpOk X (pins ++ [(a, seqObj "list" #[] e1)]) Hj kS := ⟨(Ij.pin (kS, seqObj "list" kA e) (List.mem_append_right _ (List.mem_append_right _ List.mem_cons_self))).2.1, fpk.2⟩
      have I0 : L2.Inv X pins σ Hj s' := (Ij.unpinned (pl := [(kS, seqObj "list" kA e)])).unpinned (pl := [(a, seqObj "list" #[] e1)])
      have f1 := fpa.2
      have f2 := fpk2.2
      have ne1 : ∀ b o, Hj b = some o → b ≠ a := fun b o e z => by rw [z, fpa.1] at e; cases e
      have ne2 : ∀ b o, Hj b = some o → b ≠ kS := fun b o e z => by rw [z, fpk2.1] at e; cases e
      have J : L2.Inv X pins σ Hj { s' with heap := h', toks := tk } := by
        refine I0.step (g' := s'.gens) (d' := s'.drawn) (ch := [a, kS]) (fun b hb => ?_) (fun b o h1 h2 h3 e n => hk3 b o (fun z => h3 (by rw [z]; simp)) (fun z => h3 (by rw [z]; simp)) e) (fun b o h1 h2 h3 e n => ⟨o.slots, hk3 b o (fun z => h3 (by rw [z]; simp)) (fun z => h3 (by rw [z]; simp)) e⟩)
          (fun b o h1 e n => n) (fun b o h1 e => ⟨o, hk3 b o (fun z => h1 (by rw [z]; simp)) (fun z => h1 (by rw [z]; simp)) e⟩) (fun b xs e => e) (fun b o u e => e) (fun b ps e => ⟨#[], by simpa using e⟩) (fun m0 hn => ?_) (fun b o e => ?_) I0.bare
        · simp only [List.mem_cons, List.not_mem_nil, or_false] at hb
          rcases hb with rfl | rfl
          · exact ⟨f1.2.2.1, f1.1, fun x c e z => f1.2.2.2.1 x c e z, fun p hp z => f1.2.2.2.2 p hp z⟩
          · refine ⟨f2.2.2.1, f2.1, fun x c e z => f2.2.2.2.1 x c e z, fun p hp z => f2.2.2.2.2 p ?_ z⟩
            rcases List.mem_append.mp hp with hp | hp
            · exact List.mem_append_left _ hp
            · exact List.mem_append_right _ (List.mem_append_left _ hp)
        · obtain ⟨ob, es, ep, ho, r⟩ := hn
          exact ⟨ob, es, ep, hk3 _ ob (Ne.symm f1.1) (Ne.symm f2.1) ho, r⟩
        · refine (I0.hok b o e).stay (fun c u hc q => hk3 c u ?_ ?_ q) (fun _ q => q) fun _ _ q => q
          · rcases hc with rfl | hc
            · exact ne1 _ _ e
            · exact ne1 _ _ hc
          · rcases hc with rfl | hc
            · exact ne2 _ _ e
            · exact ne2 _ _ hc
      refine h Fj mj Hj Sj kp _ _ c xj Yj hφ (J.pins_of fun p hp => ?_) fpa ?_ eo2
      · rcases List.mem_append.mp hp with hp | hp
        · exact J.pin p (List.mem_append_right _ hp)
        · obtain rfl := List.mem_singleton.mp hp
          exact ⟨n3, fpa.1, fpa.2.1, fpa.2.2.1, fun v => nofun⟩
      · have := eo.length
        rw [this, List.length_mergeSort, List.length_zip, hkl, Nat.min_self]
  · rw [List.drop_zero]
    have e0 : ((keyLoop (fun d' S => gl d us [.d d'] S) ds S).bind fun r S2 => .ok ([] ++ r) S2) = keyLoop (fun d' S => gl d us [.d d'] S) ds S := by
      cases keyLoop (fun d' S => gl d us [.d d'] S) ds S <;> rfl
    rw [e0]
    exact hk
/-- sorted(.., key=f) -/
def rSortK (X : Cx) (gl : Df → List W → List W → Store → Res W) : List V → List V → Hp → VK → Prop := fun vs zs H Q => ∃ F m S w g v k ds f us, vs = [v] ∧ zs = [k] ∧ Wd (tbX X) X.K F m H S ∧ AtW X.K X.mg F m H w v ∧ AtW X.K X.mg F m H g k ∧ seqOf S w = some ds ∧ g = .lf f us ∧ fit ds.length = true ∧
  Rp X E0' F m H ((keyLoop (fun d S => gl f us [.d d] S) ds S).bind fun ks S3 => if sortOk ks then .ok (.d (.lst (sortBy ds ks))) S3 else .fail) (Out X.K X.mg Q)
theorem cr_sortK {CX : CXT} {k : Nat} {gl : Df → List W → List W → Store → Res W} (Fn : NnG X.prog X.w X.K X.mg X.base CX k gl) (hr : RoomG k X.A) (hx : ∀ X' : Cx, Passes CX X' E0') : CallRK X (.builtin "sorted") [Str.ofString "key"] (rSortK X gl) := by
  intro pins s σ H vs zs us ws Q I r rz ⟨F, m, S, w, g, v, k0, ds, f, cs, e1, e2, Y, hv, hg, hds, eg, hfit, hrp⟩
  subst e1
  subst e2
  subst eg
  obtain ⟨u, rfl, ru⟩ := vals1 r
  obtain ⟨u2, rfl, ru2⟩ := vals1 rz
  have hg2 := hg
  obtain ⟨fa, M, rfl, _⟩ := hg2
  obtain rfl : u2 = Value.ref fa := ru2
  obtain ⟨l, vs, rfl, hd, hs⟩ := hv.seq Y hds
  cases (show u = Value.ref l from ru)
  have hL : ds.length ≤ sizeLine := fit_line hfit
  have main : ∀ (its : List Value) (Ev : Value → Shared → Prop), EachIs (RdD X F H) its ds → its.length = ds.length →
      wpAny (model X.prog X.w) X.A.in1.in1 (ksk_tree (s.heap.objs.size + 1) (.ref fa) false) (fun fl s' => fl = .done (.ret .none) ∧ EP X pins σ Q (.ref (s.heap.objs.size + 1)) s') Ev { s with heap := PySem.W.copyHeap s.heap its } := by
    intro its Ev ee el
    have Ic : L2.Inv X pins σ H { s with heap := PySem.W.copyHeap s.heap its } := I.kept (t' := s.toks) fun b u e => PySem.W.copyHeap_old e
    have fp : FpOk X pins H (s.heap.objs.size + 1) := I.fpOk (Nat.le_succ _) (I.hok.fresh (Nat.le_succ _))
    have Ip : L2.Inv X (pins ++ [(s.heap.objs.size + 1, seqObj "list" its.toArray 0)]) σ H { s with heap := PySem.W.copyHeap s.heap its } := by
      refine Ic.pins_of fun p hp => ?_
      rcases List.mem_append.mp hp with hp | hp
      · exact Ic.pin p (List.mem_append_right _ hp)
      · obtain rfl := List.mem_singleton.mp hp
        exact ⟨PySem.W.copyHeap_at s.heap its, fp.1, fp.2.1, fp.2.2.1, fun v => nofun⟩
    refine keyI_tree (Φ := fun F' m' H' S' ks => Rp X E0' F' m' H' (if sortOk ks then .ok (.d (.lst (sortBy ds ks))) S' else .fail) (Out X.K X.mg Q)) Fn hr hx Ip fp Y hg ee hL (Rp.bind hrp) (fun F' m' H' S' ks x' Y' h' => ?_) fun F' m' H' S' ks out s' c x' Y' h' J fp' hl e => ⟨rfl, ?_⟩
    · by_cases z : sortOk ks = true
      · exact z
      · rw [if_neg z] at h'; exact h'.elim
    · have z : sortOk ks = true := by
        by_cases z : sortOk ks = true
        · exact z
        · rw [if_neg z] at h'; exact h'.elim
      rw [if_pos z] at h'
      obtain ⟨vs', g1, g2⟩ := of_each e
      have hl' : vs'.length ≤ sizeLine := by rw [g2.length, hl]; exact hL
      have n3 := (J.pin (s.heap.objs.size + 1, seqObj "list" (List.toArray out) c) (List.mem_append_right _ (List.mem_append_right _ List.mem_cons_self))).1
      have K := inv_adopt (u := .lst vs') J fp' (Nat.le_trans I.sz (Nat.le_succ _)) ⟨hl', out, c, g2, n3⟩
      obtain ⟨Y2, x2⟩ := Y'.frz (o := .lst vs') fp'.1
      exact ⟨.ref _, _, K, rfl, h' _ _ _ x2 Y2 _ ⟨_, vs', rfl, ⟨SqL.of upd_same, .inl (if_pos rfl)⟩, AtDs.mono x2.g g1⟩⟩
  rcases hs with hs | ⟨_, hs⟩
  · obtain ⟨its, rv, hl, _⟩ := I.list hs
    have ee := each_of hd rv
    refine PySem.W.sorted_of_sort hl.isList (by rw [ee.length]; exact hL) (PyProof.Rows.ksk_s1 _ _) (fun _ => PyProof.Rows.ksk_l1 _ _) fun E' => ?_
    rw [show Builtin.«list.sort» ⟨[.ref (s.heap.objs.size + 1)], [Str.ofString "key"].zip [Value.ref fa]⟩ = ksk_tree (s.heap.objs.size + 1) (.ref fa) false from ksk_t1 _ _]
    exact main its E' ee ee.length
  · obtain ⟨its, rv, ht, _⟩ := I.tuple hs.1
    have ee := each_of hd rv
    refine sortedT ht (by rw [ee.length]; exact hL) (PyProof.Rows.ksk_s1 _ _) (fun _ => PyProof.Rows.ksk_l1 _ _) fun E' => ?_
    rw [show Builtin.«list.sort» ⟨[.ref (s.heap.objs.size + 1)], [Str.ofString "key"].zip [Value.ref fa]⟩ = ksk_tree (s.heap.objs.size + 1) (.ref fa) false from ksk_t1 _ _]
    exact main its E' ee ee.length
variable {E : XK} {x ke : Expr} {p pos kpos : Pos} {fi fk : Sg → Store → Res W}
def fSortk (gl : Df → List W → List W → Store → Res W) (fi fk : Sg → Store → Res W) : Sg → Store → Res W := fun σ S => (fi σ S).bind fun w S1 => (fk σ S1).bind fun g S2 => match seqOf S2 w, g with
    | some ds, .lf f us => if fit ds.length then (keyLoop (fun d S => gl f us [.d d] S) ds S2).bind fun ks S3 => if sortOk ks then .ok (.d (.lst (sortBy ds ks))) S3 else .fail
      else .fail
    | _, _ => .fail
theorem keyLoop_quiet {f : D → Store → Res W} : ∀ {ds : List D} {S : Store} {e : Exc} {S' : Store}, keyLoop f ds S ≠ .exc e S'
  | [], S, e, S', h => by cases h
  | d :: ds, S, e, S', h => by
    unfold keyLoop at h
    cases q : f d S with
    | ok w S1 =>
      rw [q] at h
      have h : (match w with
        | .d x => (keyLoop f ds S1).bind fun r S2 => .ok (x :: r) S2
        | _ => .fail) = Res.exc e S' := h
      cases w with
      | d x =>
        dsimp only at h
        cases q2 : keyLoop f ds S1 with
        | ok r S2 => rw [q2] at h; cases h
        | exc e2 S2 => exact keyLoop_quiet q2
        | fail => rw [q2] at h; cases h
      | _ => cases h
    | exc e1 S1 => rw [q] at h; cases h
    | fail => rw [q] at h; cases h
theorem se_sortk {CX : CXT} {k : Nat} {gl : Df → List W → List W → Store → Res W} (Fn : NnG X.prog X.w X.K X.mg X.base CX k gl) (hr : RoomG k X.A) (hx : ∀ X' : Cx, Passes CX X' E0') (hg : Gl X "sorted") (hm : X.mg "sorted" = none) (ha : PA X [x] (tAw X E fun σ S => (fi σ S).bind fun w S1 => .ok [w] S1)) (hk : PE X ke (tE X E fk)) (hn : noStar x = true) :
    PE X (.Call (.Name "sorted" p) [x] [⟨some "key", ke, kpos⟩] pos) (tE X E (fSortk gl fi fk)) := by
  have hb := pe_callBK (p := p) (pos := pos) (kws := [⟨some "key", ke, kpos⟩]) (es := []) (e := x) (cr_sortK Fn hr hx) hg hm (by decide +kernel) ha (sk_cons (nm := some "key") (kpos := kpos) hk sk_nil) (hn := by decide) (hdb := by decide)
    (he := by
      show backTo pos (starEach [x] X.env) = _
      rw [star_cons hn]
      rfl)
    (hpl := any_star pos [x] (by simp [hn]))
    (hall := rfl) (hnone := rfl) (hks := rfl)
  refine hb.imp fun σ H Q ⟨F, m, S, σd, Y, G, h⟩ => ?_
  unfold fSortk at h
  refine ⟨F, m, S, σd, Y, G, ?_⟩
  show Rp X E F m H ((fi σd S).bind fun w S1 => (.ok [w] S1 : Res (List W))) _
  have h1 := Rp.bind h
  cases hfi : fi σd S with
  | fail => rw [hfi] at h; exact h.elim
  | exc e S1 => rw [hfi] at h; exact h
  | ok w S1 =>
    rw [hfi] at h1
    refine fun F1 m1 H1 x1 Y1 vs hvs => ⟨F1, m1, S1, σd, Y1, G.mono x1, ?_⟩
    have h2 := h1 F1 m1 H1 x1 Y1
    dsimp only at h2
    have h3 := Rp.bind h2
    show Rp X E F1 m1 H1 ((fk σd S1).bind fun w S1 => (Res.ok [] S1).bind fun ws S2 => (Res.ok (w :: ws) S2 : Res (List W))) _
    cases hfk : fk σd S1 with
    | fail => rw [hfk] at h3; exact h3.elim
    | exc e S2 => rw [hfk] at h3; exact h3
    | ok g S2 =>
      rw [hfk] at h3
      refine fun F2 m2 H2 x2 Y2 zs hzs => ?_
      obtain ⟨v, r, rfl, hv, hr0⟩ := hvs
      cases (show r = [] from hr0)
      obtain ⟨kv, r2, rfl, hkv, hr2⟩ := hzs
      cases (show r2 = [] from hr2)
      have h4 := h3 F2 m2 H2 x2 Y2
      dsimp only at h4
      split at h4
      · rename_i ds f us hds
        by_cases hf : fit ds.length = true
        · rw [if_pos hf] at h4
          refine ⟨F2, m2, S2, w, .lf f us, v, kv, ds, f, us, rfl, rfl, Y2, hv.mono x2, hkv, hds, rfl, hf, ?_⟩
          cases hkl : keyLoop (fun d S => gl f us [.d d] S) ds S2 with
          | ok ks S3 =>
            rw [hkl] at h4
            by_cases hso : sortOk ks = true
            · have h5 : Rp X E F2 m2 H2 (.ok (.d (.lst (sortBy ds ks))) S3) (Out X.K X.mg Q) := by
                have e : ((Res.ok ks S3 : Res (List D)).bind fun ks S3 => if sortOk ks then (.ok (.d (.lst (sortBy ds ks))) S3 : Res W) else .fail) = .ok (.d (.lst (sortBy ds ks))) S3 := by
                  rw [Res.bind_ok, if_pos hso]
                rw [e] at h4
                exact h4
              have e : ((Res.ok ks S3 : Res (List D)).bind fun ks S3 => if sortOk ks then (.ok (.d (.lst (sortBy ds ks))) S3 : Res W) else .fail) = .ok (.d (.lst (sortBy ds ks))) S3 := by
                rw [Res.bind_ok, if_pos hso]
              rw [e]
              exact h5
            · rw [Res.bind_ok, if_neg hso] at h4
              exact h4.elim
          | exc e S3 => exact absurd hkl keyLoop_quiet
          | fail => rw [hkl] at h4; exact h4.elim
        · rw [if_neg hf] at h4
          exact h4.elim
      · exact h4.elim
end
end Pyi
/-! Po3: lambdas that capture, handed on at once. -/
namespace Pyi
open PySem PySem.Spec PyProof.Rows L2
variable [Gd]
def showH (cs : List Addr) (H : Hp) (h : Heap) : Hp := fun a => if a ∈ cs then (h.get? a).map (CellO a) else H a
def showF (cs : List Addr) (F : Addr → Nat) : Addr → Nat := fun a => if a ∈ cs then 1 else F a
/-- cells of the running frame -/
structure OwnC (cs : List Addr) (H : Hp) (h : Heap) : Prop where
  n : ∀ a ∈ cs, H a = none
  o : ∀ a ∈ cs, ∃ ob v, h.get? a = some ob ∧ ob.data = .cell v
section
variable {cs : List Addr} {t : Tbs} {K : PySem.W.Frag} {mg : Str → Option Value} {F F' : Addr → Nat} {m m' : List Addr} {H H' : Hp} {S : Store} {a : Addr} {P : Program} {w : World} {h : Heap}
theorem showH_no (n : a ∉ cs) : showH cs H h a = H a := if_neg n
theorem showF_no (n : a ∉ cs) : showF cs F a = F a := if_neg n
theorem showF_in (n : a ∈ cs) : showF cs F a = 1 := if_pos n
theorem OwnC.at_ (Z : OwnC cs H h) (ha : a ∈ cs) : ∃ ob v, h.get? a = some ob ∧ ob.data = .cell v ∧ showH cs H h a = some (CellO a ob) := by
  obtain ⟨ob, v, h1, h2⟩ := Z.o a ha
  exact ⟨ob, v, h1, h2, by unfold showH; rw [if_pos ha, h1]; rfl⟩
theorem OwnC.no (Z : OwnC cs H h) (e : H a ≠ none) : a ∉ cs := fun z => e (Z.n a z)
theorem OwnC.ext (Z : OwnC cs H h) (Y : Wd t K F m H S) : Ext F m H (showF cs F) m (showH cs H h) := .of (fun a ha => by
  have n := Z.no (Y.Fs a ha)
  exact ⟨showF_no n, showH_no n⟩) (List.prefix_refl _)
theorem Wd.show (Y : Wd t K F m H S) (Z : OwnC cs H h) : Wd t K (showF cs F) m (showH cs H h) S := by
  have x := Z.ext Y
  refine ⟨Y.len, Y.nd, fun a ha => ?_, fun a ha => ?_, fun i a c h1 h2 => ?_, fun a ha => ?_, fun a vs h => ?_⟩
  rotate_left 4
  · by_cases z : a ∈ cs
    · obtain ⟨ob, v, _, _, e⟩ := Z.at_ z
      rw [e] at h
      cases h
    · rw [showF_no z]
      rw [showH_no z] at h
      exact Y.tup a vs h
  · obtain ⟨i, hi⟩ := List.getElem?_of_mem ha
    have n : a ∉ cs := fun z => Y.ne (Z.n a z) hi rfl
    rw [showF_no n]
    exact Y.nF a ha
  · by_cases z : a ∈ cs
    · obtain ⟨ob, v, _, _, e⟩ := Z.at_ z
      rw [e]
      exact fun z => by cases z
    · rw [showF_no z] at ha
      rw [showH_no z]
      exact Y.Fs a ha
  · have n : a ∉ cs := fun z => Y.ne (Z.n a z) h1 rfl
    rw [showH_no n]
    exact (Y.cell i a c h1 h2).mono x.g
  · obtain ⟨t1, t2⟩ := Y.tab a ha
    have n := Z.no (Y.Fs a (by rw [t1]; decide))
    exact ⟨by rw [showF_no n]; exact t1, t2.mono x.g (showH_no n)⟩
theorem HOk.show (hok : HOk P w H h) (Z : OwnC cs H h) : HOk P w (showH cs H h) h := fun a o e => by
  by_cases z : a ∈ cs
  · obtain ⟨ob, v, h1, _, e2⟩ := Z.at_ z
    rw [e2] at e
    cases e
    exact ⟨h1, ⟨ob, h1⟩, fun h1 h2 q st => st _ q⟩
  · rw [showH_no z] at e
    refine (hok a o e).stay (fun b u _ q => q) (fun b q => ?_) fun b xs q => ?_
    · rw [showH_no (Z.no (by rw [q]; exact fun z => by cases z))]; exact q
    · rw [showH_no (Z.no (by rw [q]; exact fun z => by cases z))]; exact q
/-- wherever the cells stand as they stood -/
theorem OwnC.hid (Z : OwnC cs H h) (hF : ∀ a ∈ cs, F' a = 1) (hH : ∀ a ∈ cs, H' a = showH cs H h a) : Hid cs F' H' := by
  refine ⟨hF, fun a ha => ?_, fun a ha M e => ?_, fun a ha q e => ?_⟩
  all_goals
    obtain ⟨ob, v, h1, h2, e2⟩ := Z.at_ ha
    have e3 := (hH a ha).trans e2
  · exact ⟨ob, e3, v, h2⟩
  · have e4 : CellO a ob = MfO a M := Option.some.inj (e3.symm.trans e)
    unfold CellO MfO at e4
    have e5 : (fun g : Heap => g.get? a = some ob) h := h1
    rw [HO.ext.inj e4] at e5
    obtain ⟨od, sl, doc, pm, ctv, z⟩ := e5
    rw [h1] at z
    cases z
    cases h2
  · have e4 : CellO a ob = LamX.CodeO a q := Option.some.inj (e3.symm.trans e)
    unfold CellO LamX.CodeO at e4
    have e5 : (fun g : Heap => g.get? a = some ob) h := h1
    rw [HO.ext.inj e4] at e5
    obtain ⟨oc, vs, t, z, z2, _⟩ := e5
    rw [h1] at z
    cases z
    rw [h2] at z2
    cases z2
abbrev QS (cs : List Addr) (H : Hp) (h : Heap) (Q : VK) : VK := fun v H' => (∀ a ∈ cs, H' a = showH cs H h a) ∧ Q v (hideH cs H')
abbrev ES (cs : List Addr) (H : Hp) (h : Heap) (E : XK) : XK := fun c d H' => (∀ a ∈ cs, H' a = showH cs H h a) ∧ E c d (hideH cs H')
theorem rpK_show {E : XK} {r : Res W} {Q : VK} (Z : OwnC cs H h) (Y : Wd (tbOf P K) K F m H S) (q : RpK P K mg E F m H (r.bind fun w S1 => if w.plain = true then .ok w S1 else .fail) (Out K mg Q)) :
    RpK P K mg (ES cs H h E) (showF cs F) m (showH cs H h) r (Out K mg (QS cs H h Q)) := by
  have kept : ∀ {F' m' H'}, Ext (showF cs F) m (showH cs H h) F' m' H' → (∀ a ∈ cs, F' a = 1) ∧ ∀ a ∈ cs, H' a = showH cs H h a := fun {F' m' H'} x => by
    refine ⟨fun a ha => ?_, fun a ha => ?_⟩
    · have := (x.f a (by rw [showF_in ha]; decide)).1
      rw [this, showF_in ha]
    · obtain ⟨ob, v, h1, h2, e2⟩ := Z.at_ ha
      rw [e2]
      exact (x.f a (by rw [showF_in ha]; decide)).2 _ e2 fun ps => cellO_ne ps
  have back : ∀ {F' m' H'}, Ext (showF cs F) m (showH cs H h) F' m' H' → Ext F m H (hideF cs F') m' (hideH cs H') := fun {F' m' H'} x => by
    refine ⟨fun a ha => ?_, x.p⟩
    have n := Z.no (Y.Fs a ha)
    rw [hideF_no n, hideH_no n]
    have := x.f a (by rw [showF_no n]; exact ha)
    rw [showF_no n, showH_no n] at this
    exact this
  cases r with
  | ok w S1 =>
    rw [Res.bind_ok] at q
    by_cases p : w.plain = true
    · rw [if_pos p] at q
      intro F' m' H' x Y' v hv
      obtain ⟨k1, k2⟩ := kept x
      have Z' := Z.hid k1 k2
      exact ⟨k2, q _ _ _ (back x) (Y'.hide Z') v (hv.hide Z' p)⟩
    · rw [if_neg p] at q
      exact q.elim
  | exc e S1 =>
    intro F' m' H' c d x Y' _
    obtain ⟨k1, k2⟩ := kept x
    exact ⟨k2, q _ _ _ c d (back x) (Y'.hide (Z.hid k1 k2)) trivial⟩
  | fail => exact q
/-- an exception's end may be told of the heap without the cells -/
def ShowX (CX : CXT) (P : Program) (w : World) : Prop := ∀ (cs : List Addr) (outer : List Env) (H : Hp) (s : Shared) (E : XK) (e : Value) (s' : Shared), OwnC cs H s.heap → HOk P w H s.heap → (∀ a ∈ cs, a ∉ frs outer) → CX outer (showH cs H s.heap) s (ES cs H s.heap E) e s' → CX outer H s E e s'
theorem cr_show {CX : CXT} {outer : List Env} {s s' : Shared} {Q : VK} {E : XK} {r : Result} (hx : ShowX CX P w) (Z : OwnC cs H s.heap) (hok : HOk P w H s.heap) (hf : ∀ a ∈ cs, a ∉ frs outer) (q : CR CX outer P w (showH cs H s.heap) s (QS cs H s.heap Q) (ES cs H s.heap E) r s') : CR CX outer P w H s Q E r s' := by
  cases r with
  | error e => exact hx cs outer H s E e s' Z hok hf q
  | ok fl =>
    cases fl with
    | ret u =>
      obtain ⟨v, H', os, bare, un, hok', rv, k, q⟩ := q
      have Z' : Hid cs (fun _ => 1) H' := Z.hid (fun _ _ => rfl) k
      refine ⟨v, hideH cs H', os, bare, ⟨fun b o e n nb nx => ?_, fun b o e n nb nx => ?_, fun b o e n nx => ?_, un.there, fun b xs e => ?_, fun b o u e => ?_, fun b ps e => ?_⟩, HOk.hide Z' hok', rv, q⟩
      · by_cases z : b ∈ cs
        · obtain ⟨ob, v, h1, h2, e2⟩ := Z.at_ z
          rw [e] at h1
          cases h1
          exact cellO_at hok' ((k b z).trans e2)
        · exact un.keep b o e (by rw [showH_no z]; exact n) nb nx
      · have z : b ∉ cs := fun z => hf b z nb
        exact un.slot b o e (by rw [showH_no z]; exact n) nb nx
      · by_cases z : b ∈ cs
        · exact hideH_in z
        · rw [hideH_no z]
          exact un.free b o e (by rw [showH_no z]; exact n) nx
      · have z := Z.no (a := b) (by rw [e]; exact fun z => by cases z)
        rw [hideH_no z]
        exact un.tups b xs (by rw [showH_no z]; exact e)
      · have z := Z.no (a := b) (by rw [e]; exact fun z => by cases z)
        rw [hideH_no z]
        exact un.frzs b o u (by rw [showH_no z]; exact e)
      · have z := Z.no (a := b) (by rw [e]; exact fun z => by cases z)
        obtain ⟨more, q⟩ := un.tbls b ps (by rw [showH_no z]; exact e)
        exact ⟨more, by rw [hideH_no z]; exact q⟩
    | _ => exact q
end
section
variable {X : Cx} {CX : CXT} {E : XK} {k : Nat}
/-- what is handed on: a plain value, or a lambda just made, with what it captures -/
def AtCl (X : Cx) (σd : Sg) (F : Addr → Nat) (m : List Addr) (H : Hp) (w : W) (v : V) : Prop := (w.plain = true ∧ AtW X.K X.mg F m H w v) ∨
  ∃ d us js f M, w = .lf d us ∧ v = .ref f ∧ F f = 1 ∧ H f = some (MfO f M) ∧ F M.c = 1 ∧ H M.c = some (LamX.CodeO M.c M.qual) ∧ Gd.ok d M.t ∧ M.cl = cloFrom X.env.cells M.t.scope.names [] ∧
    (∀ y ∈ M.t.scope.names, y.2 = .free → (X.env.scope.names.lookup y.1 = some .cell ∨ X.env.scope.names.lookup y.1 = some .free) ∧ y.1 ∈ d.fr) ∧ (∀ y ∈ d.fr, (y, NameKind.free) ∈ M.t.scope.names) ∧ us.all W.plain = true ∧ us.length = d.fr.length ∧ js.map (fun j => X.N[j]?) = d.fr.map some ∧ slots σd js = some us
def AtCls (X : Cx) (σd : Sg) (F : Addr → Nat) (m : List Addr) (H : Hp) : List W → List V → Prop
  | [], vs => vs = []
  | w :: ws, vs => ∃ v r, vs = v :: r ∧ AtCl X σd F m H w v ∧ AtCls X σd F m H ws r
variable {σd : Sg} {F F' : Addr → Nat} {m m' : List Addr} {H H' : Hp}
theorem AtCl.mono (e : Ext F m H F' m' H') {w : W} {v : V} (h : AtCl X σd F m H w v) : AtCl X σd F' m' H' w v := by
  rcases h with ⟨p, h⟩ | ⟨d, us, js, f, M, e1, e2, h1, h2, h3, h4, h5⟩
  · exact .inl ⟨p, h.mono e⟩
  · exact .inr ⟨d, us, js, f, M, e1, e2, (e.g f h1).1, (e.g f h1).2 _ h2 (fun ps => mfO_ne ps), (e.g M.c h3).1, (e.g M.c h3).2 _ h4 nt_code, h5⟩
theorem AtCls.mono (e : Ext F m H F' m' H') : ∀ {ws : List W} {vs : List V}, AtCls X σd F m H ws vs → AtCls X σd F' m' H' ws vs
  | [], _, h => h
  | w :: ws, _, ⟨v, r, e1, h1, h2⟩ => ⟨v, r, e1, h1.mono e, AtCls.mono e h2⟩
theorem AtCls.len : ∀ {ws : List W} {vs : List V}, AtCls X σd F m H ws vs → vs.length = ws.length
  | [], _, h => by cases (show _ = _ from h); rfl
  | w :: ws, _, ⟨v, r, e1, h1, h2⟩ => by rw [e1, List.length_cons, List.length_cons, AtCls.len h2]
def tAc (X : Cx) (E : XK) (f : Sg → Store → Res (List W)) : TA := fun σ H Q => ∃ F m S σd, Wd (tbX X) X.K F m H S ∧ SgAt X.K X.mg F m H σd σ ∧
  ∃ Φ : (Addr → Nat) → List Addr → Hp → Store → List W → Prop, Rp X E F m H (f σd S) Φ ∧ ∀ F' m' H' S' ws vs, Ext F m H F' m' H' → Wd (tbX X) X.K F' m' H' S' → Φ F' m' H' S' ws → AtCls X σd F' m' H' ws vs → Q vs H'
theorem sc_nil : PA X [] (tAc X E fun _ S => .ok [] S) := ⟨fun pos pins s σ H Q I ⟨F, m, S, σd, Y, G, Φ, h, q⟩ => pa_nil.run pos pins s σ H Q I (q _ _ _ _ [] [] Ext.refl Y (h _ _ _ Ext.refl Y) rfl)⟩
theorem sc_cons {e : Expr} {es : List Expr} {fa : Sg → Store → Res W} {fr : Sg → Store → Res (List W)} (ha : PE X e (tE X E fa)) (hr : PA X es (tAc X E fr)) (hs : starEach (e :: es) X.env = (false, eval e X.env) :: starEach es X.env) :
    PA X (e :: es) (tAc X E fun σ S => (fa σ S).bind fun w S1 => if w.plain = true then (fr σ S1).bind fun ws S2 => .ok (w :: ws) S2 else .fail) := by
  refine ⟨fun pos pins s σ H Q I ⟨F, m, S, σd, Y, G, Φ, h, q⟩ => (pa_cons ha hr hs).run pos pins s σ H Q I ?_⟩
  refine ⟨F, m, S, σd, Y, G, (Rp.bind h).mono fun F1 m1 H1 S1 w x1 Y1 h1 v hv => ?_⟩
  by_cases p : w.plain = true
  · rw [if_pos p] at h1
    refine ⟨F1, m1, S1, σd, Y1, G.mono x1, _, Rp.bind h1, fun F2 m2 H2 S2 ws vs x2 Y2 h2 hvs => ?_⟩
    rw [show Rp X E F2 m2 H2 (.ok (w :: ws) S2) Φ = _ from rfl] at h2
    exact q F2 m2 H2 S2 (w :: ws) (v :: vs) (x1.trans x2) Y2 (h2 _ _ _ Ext.refl Y2) ⟨v, vs, rfl, .inl ⟨p, hv.mono x2⟩, hvs⟩
  · rw [if_neg p] at h1
    exact h1.elim
/-- a lambda, told as it is made -/
theorem se_lamR {params : Arguments} {body : Expr} {scope : Scope} {pos : Pos} (k : ∃ c P, Mk X pos (X.env.qual ++ "<lambda>") c P) (hd : defaultsOf params X.env = ([], [])) (hf : ∀ y ∈ scope.names, y.2 = .free → X.env.scope.names.lookup y.1 = some .cell ∨ X.env.scope.names.lookup y.1 = some .free) :
    PE X (.Lambda params body scope pos) (fun σ H Q => ∃ F m S, Wd (tbX X) X.K F m H S ∧ ∀ (f : Addr) (F1 : Addr → Nat) (H1 : Hp) (M : MF), Ext F m H F1 m H1 → Wd (tbX X) X.K F1 m H1 S → M.t = ⟨"<lambda>", params, .expr body, scope⟩ → M.cl = cloFrom X.env.cells scope.names [] → F1 f = 1 → H1 f = some (MfO f M) → F1 M.c = 1 → H1 M.c = some (LamX.CodeO M.c M.qual) → Q (.ref f) H1) := by
  refine ⟨fun pins s σ H Q I ⟨F, m, S, Y, h⟩ => ?_⟩
  obtain ⟨c, P, k⟩ := k
  have hfr : ∀ y ∈ scope.names, y.2 = .free → ∃ c, X.env.cells.lookup y.1 = some c := fun y hy e => (hf y hy e).elim (fun z => I.ok.has _ (.inl z)) fun z => I.ok.has _ (.inr z)
  refine PySem.W.kla_eval hd (mf_make (T := ⟨"<lambda>", params, .expr body, scope⟩) I Y k hfr fun f F1 H1 s' M I1 x1 Y1 e1 e2 e3 e4 e5 e6 e7 => ?_)
  exact ⟨.ref f, H1, I1, rfl, h f F1 H1 M x1 Y1 e1 e2 e4 e5 e6 (by rw [e3]; exact e7)⟩
theorem sc_lamc {d : Df} {js : List Nat} {params : Arguments} {body : Expr} {scope : Scope} {pos : Pos} {es : List Expr} {fr : Sg → Store → Res (List W)} (k : ∃ c P, Mk X pos (X.env.qual ++ "<lambda>") c P) (hd : defaultsOf params X.env = ([], [])) (g : Gd.ok d ⟨"<lambda>", params, .expr body, scope⟩)
    (hf : ∀ y ∈ scope.names, y.2 = .free → (X.env.scope.names.lookup y.1 = some .cell ∨ X.env.scope.names.lookup y.1 = some .free) ∧ y.1 ∈ d.fr) (hfr : ∀ y ∈ d.fr, (y, NameKind.free) ∈ scope.names) (hjs : js.map (fun j => X.N[j]?) = d.fr.map some) (hr : PA X es (tAc X E fr)) :
    PA X (.Lambda params body scope pos :: es) (tAc X E fun σ S => (capt d js σ S).bind fun w S1 => (fr σ S1).bind fun ws S2 => .ok (w :: ws) S2) := by
  refine ⟨fun pos' pins s σ H Q I ⟨F, m, S, σd, Y, G, Φ, h, q⟩ => (pa_cons (se_lamR k hd fun y hy e => (hf y hy e).1) hr (by rfl)).run pos' pins s σ H Q I ?_⟩
  unfold capt at h
  dsimp only at h
  split at h
  · rename_i us hus
    by_cases c : us.all W.plain = true ∧ us.length = d.fr.length
    · rw [if_pos c, Res.bind_ok] at h
      refine ⟨F, m, S, Y, fun f F1 H1 M x1 Y1 e1 e2 e3 e4 e5 e6 => ⟨F1, m, S, σd, Y1, G.mono x1, _, Rp.shift x1 (Rp.bind h), fun F2 m2 H2 S2 ws vs x2 Y2 h2 hvs => ?_⟩⟩
      rw [show Rp X E F2 m2 H2 (.ok (.lf d us :: ws) S2) Φ = _ from rfl] at h2
      refine q F2 m2 H2 S2 (.lf d us :: ws) (.ref f :: vs) (x1.trans x2) Y2 (h2 _ _ _ Ext.refl Y2) ⟨.ref f, vs, rfl, AtCl.mono x2 (.inr ⟨d, us, js, f, M, rfl, rfl, e3, e4, e5, e6, by rw [e1]; exact g, by rw [e1]; exact e2, by rw [e1]; exact hf, by rw [e1]; exact hfr, c.1, c.2, hjs, hus⟩), hvs⟩
    · rw [if_neg c] at h
      exact h.elim
  · exact h.elim
theorem slots_at {σd : Sg} : ∀ {js : List Nat} {us : List W}, slots σd js = some us → us.length = js.length ∧ ∀ (i : Nat) j, js[i]? = some j → ∃ w, us[i]? = some w ∧ σd[j]? = some (some w)
  | [], us, h => by
    cases h
    exact ⟨rfl, fun i j e => by simp at e⟩
  | j :: js, us, h => by
    unfold slots at h
    split at h
    · rename_i w hw
      obtain ⟨r, e, rfl⟩ := map_some h
      obtain ⟨l, i1⟩ := slots_at e
      refine ⟨by rw [List.length_cons, List.length_cons, l], fun i j' ej => ?_⟩
      cases i with
      | zero =>
        have ej : j = j' := by simpa using ej
        subst ej
        exact ⟨w, rfl, hw⟩
      | succ i => exact i1 i j' (by simpa using ej)
    · cases h
/-- the cells that are captured, and what they hold -/
theorem own_cells {pins : List (Addr × Obj)} {σ : L2.St} {s : Shared} {S : Store} (I : L2.Inv X pins σ H s) (Y : Wd (tbX X) X.K F m H S) (G : SgAt X.K X.mg F m H σd σ) : ∀ {ws : List W} {vs : List V}, AtCls X σd F m H ws vs →
    ∃ cs : List Addr, (∀ a ∈ cs, ∃ y, X.env.cells.lookup y = some a) ∧ ∀ cs' : List Addr, (∀ a ∈ cs, a ∈ cs') → OwnC cs' H s.heap → AtWs X.K X.mg (showF cs' F) m (showH cs' H s.heap) ws vs
  | [], _, h => ⟨[], fun a ha => absurd ha List.not_mem_nil, fun _ _ _ => h⟩
  | w :: ws, _, ⟨v, r, e1, h1, h2⟩ => by
    obtain ⟨cs, c1, c2⟩ := own_cells I Y G h2
    rcases h1 with ⟨p, h1⟩ | ⟨d, us, js, f, M, e3, e4, g1, g2, g3, g4, g5, g6, g7, g8, g9, g10, g11, g12⟩
    · refine ⟨cs, c1, fun cs' hs Z => ⟨v, r, e1, h1.mono (Z.ext Y), c2 cs' hs Z⟩⟩
    · subst e3
      subst e4
      obtain ⟨sl1, sl2⟩ := slots_at g12
      have hfree : ∀ y ∈ M.t.scope.names, y.2 = .free → ∃ c, X.env.cells.lookup y.1 = some c := fun y hy e => ((g7 y hy e).1).elim (fun z => I.ok.has _ (.inl z)) fun z => I.ok.has _ (.inr z)
      refine ⟨d.fr.filterMap (fun y => X.env.cells.lookup y) ++ cs, fun a ha => ?_, fun cs' hs Z => ⟨.ref f, r, e1, ?_, c2 cs' (fun a ha => hs a (List.mem_append_right _ ha)) Z⟩⟩
      · rcases List.mem_append.mp ha with ha | ha
        · obtain ⟨y, _, hy⟩ := List.mem_filterMap.mp ha
          exact ⟨y, hy⟩
        · exact c1 a ha
      · have x := Z.ext Y
        refine ⟨f, M, rfl, (x.g f g1).1, (x.g f g1).2 _ g2 (fun ps => mfO_ne ps), (x.g M.c g3).1, (x.g M.c g3).2 _ g4 nt_code, g5, fun y c e => ?_, fun y z c e e' => ?_, ?_⟩
        · rw [g6] at e
          rcases cloFrom_mem (PySem.mem_of_lookup e) with hm | ⟨hm, _⟩
          · cases hm
          · exact (g7 _ hm rfl).2
        · rw [g6] at e e'
          exact I.ok.inj y z c (NdefX.clo_cm hfree e) (NdefX.clo_cm hfree e')
        · -- what is captured, name by name
          have key : ∀ (fr : List Str) (us : List W) (js : List Nat), (∀ y ∈ fr, y ∈ d.fr) → us.length = fr.length → js.map (fun j => X.N[j]?) = fr.map some → (∀ (i : Nat) j, js[i]? = some j → ∃ w, us[i]? = some w ∧ σd[j]? = some (some w)) → AtCs X.K X.mg (showF cs' F) m (showH cs' H s.heap) M.cl fr us := by
            intro fr
            induction fr with
            | nil =>
              intro us js _ hl _ _
              cases us with
              | nil => rfl
              | cons _ _ => cases hl
            | cons y fr ih =>
              intro us js hy hl hj hs2
              cases us with
              | nil => cases hl
              | cons w us =>
                cases js with
                | nil => cases hj
                | cons j js =>
                  rw [List.map_cons, List.map_cons, List.cons.injEq] at hj
                  obtain ⟨w', ew, hσ⟩ := hs2 0 j rfl
                  have ew : w = w' := by simpa using ew
                  subst ew
                  obtain ⟨v, hv, hw⟩ := G.2 j w hσ
                  have hyf := g8 y (hy y List.mem_cons_self)
                  obtain ⟨c, hc⟩ := hfree _ hyf rfl
                  have hcs : c ∈ cs' := hs c (List.mem_append_left _ (List.mem_filterMap.mpr ⟨y, hy y List.mem_cons_self, hc⟩))
                  obtain ⟨mm, hn, hl2⟩ := I.loc
                  have hk := (g7 _ hyf rfl).1
                  obtain ⟨u, ru, lk⟩ := hl2 j y v hj.1 hv (hk.elim (fun z => .inr (.inl z)) fun z => .inr (.inr z))
                  obtain ⟨o, ho, hd⟩ : ∃ o, s.heap.get? c = some o ∧ o.data = .cell (some u) := by
                    rcases lk with ⟨z, _⟩ | ⟨_, c', ec, o, ho, hd⟩
                    · have z' : X.env.scope.names.lookup y = some .local := z
                      have hk' : X.env.scope.names.lookup y = some .cell ∨ X.env.scope.names.lookup y = some .free := hk
                      rcases hk' with k' | k' <;> rw [k'] at z' <;> cases z'
                    · rw [show X.env.cells.lookup y = some c from hc] at ec
                      cases ec
                      exact ⟨o, ho, hd⟩
                  refine ⟨y, fr, c, o, u, v, rfl, ?_, showF_in hcs, ?_, hd, ru, hw.mono x, ih us js (fun z hz => hy z (List.mem_cons_of_mem _ hz)) (by simpa using hl) hj.2 fun i j' ej => ?_⟩
                  · rw [g6]
                    exact NdefX.clo_has hfree hyf hc
                  · unfold showH
                    rw [if_pos hcs, ho]
                    rfl
                  · obtain ⟨w', e1, e2⟩ := hs2 (i + 1) j' (by simpa using ej)
                    exact ⟨w', by simpa using e1, e2⟩
          exact key d.fr us js (fun y h => h) g10 g11 sl2
/-- f(.., lambda ..: .., ..) -/
theorem se_callc {f : Addr} {fd : FuncData} {ps : List Str} {hs : List Shape} {g : List W → Store → Res W} {x : Str} {e : Expr} {es : List Expr} {p pos : Pos} {fs : Sg → Store → Res (List W)} (Fn : FnG X.prog X.w X.K X.mg X.base CX k f fd ps g) (hr : RoomG k X.A) (D : DefAt X.K X.mg x f fd ps (Shape.all ps.length :: hs)) (hx : Passes CX X E) (hsx : ShowX CX X.prog X.w) (hg : Gl X x) (hdb : (x == ("__debug__" : Str)) = false)
    (hl : ∀ ws S, ws.length ≠ ps.length → g ws S = .fail) (htop : ∀ y, X.fn y = true) (ha : PA X (e :: es) (tAc X E fs)) (hn : (e :: es).all noStar = true) :
    PE X (.Call (.Name x p) (e :: es) [] pos) (tE X E fun σ S => (fs σ S).bind fun ws S1 => (g ws S1).bind fun w S2 => if w.plain = true then .ok w S2 else .fail) := by
  simp only [List.all_cons, Bool.and_eq_true] at hn
  refine ⟨fun pins s σ H Q I ⟨F, m, S, σd, Y, G, q⟩ => wpAny_Call_Name_kw (ld_glob I hg D.mgx ?_ hdb)⟩
  refine PySem.W.callWith_K (h₀ := X.base) I.ok.mod.kin D.kp (thn (ha.run pos pins s σ H (fun vs H1 => ∃ F1 m1 S1 ws, Ext F m H F1 m1 H1 ∧ Wd (tbX X) X.K F1 m1 H1 S1 ∧ AtCls X σd F1 m1 H1 ws vs ∧ Rp X E F1 m1 H1 ((g ws S1).bind fun w S2 => if w.plain = true then .ok w S2 else .fail) (Out X.K X.mg Q)) I ⟨F, m, S, σd, Y, G, _, Rp.bind q, fun F1 m1 H1 S1 ws vs x1 Y1 q1 hvs => ⟨F1, m1, S1, ws, x1, Y1, hvs, q1⟩⟩) fun us s1 ⟨vs, H1, I1, r, F1, m1, S1, ws, x1, Y1, hvs, q1⟩ => ⟨I1.kIn, ?_⟩) (star_cons hn.1) (any_star pos es hn.2)
  obtain ⟨cs, c1, c2⟩ := own_cells I1 Y1 (G.mono x1) hvs
  have Z : OwnC cs H1 s1.heap := by
    refine ⟨fun a ha => ?_, fun a ha => ?_⟩
    · obtain ⟨y, hy⟩ := c1 a ha
      exact I1.freeC y a hy
    · obtain ⟨y, hy⟩ := c1 a ha
      obtain ⟨v, o, ho, hd⟩ := I1.cell y a hy
      exact ⟨o, v, ho, hd⟩
  have hab : ∀ a ∈ cs, X.s_0.heap.objs.size ≤ a := fun a ha => by
    obtain ⟨y, hy⟩ := c1 a ha
    exact I1.ok.cab y a (htop y) hy
  have hnf : ∀ a ∈ cs, a ∉ frs X.stack := fun a ha z => by
    rcases List.mem_cons.mp (I1.stkSub a z) with z | z
    · obtain ⟨y, hy⟩ := c1 a ha
      exact I1.cne y a hy z
    · obtain ⟨_, o, ho, _⟩ := I1.ok.funs.mem z
      exact absurd (Nat.lt_of_lt_of_le (Heap.lt_size ho) (hab a ha)) (Nat.lt_irrefl _)
  have hws := c2 cs (fun a ha => ha) Z
  have wl : ws.length = ps.length := by
    refine Decidable.byContradiction fun c => ?_
    rw [hl ws S1 c] at q1
    exact q1
  have vl : vs.length = ps.length := by rw [hvs.len]; exact wl
  have sp : SpF X.prog X.K X.mg ps.length g vs (showH cs H1 s1.heap) (QS cs H1 s1.heap Q) (ES cs H1 s1.heap E) := ⟨vl, showF cs F1, m1, S1, ws, Y1.show Z, hws, rpK_show Z Y1 q1⟩
  have e0 : Env0 X.prog X.w X.K X.mg X.base X.A X.stack s1 (showH cs H1 s1.heap) := by
    have e0 := I1.env0
    refine ⟨e0.frames, e0.mod, fun b o hb => ⟨(e0.bs b o hb).1, ?_⟩, e0.bsz, e0.funs, fun b hb => ?_, HOk.show e0.hok Z, e0.bare⟩
    · have n : b ∉ cs := fun z => by
        have h1 := (I1.ok.bs b o hb).1
        exact absurd (Nat.lt_of_lt_of_le (Heap.lt_size h1) (hab b z)) (Nat.lt_irrefl _)
      rw [showH_no n]
      exact (e0.bs b o hb).2
    · rw [showH_no fun z => hnf b z hb]
      exact e0.frf b hb
  have b := BindsTo.of_eq (s := s1) (D.bd _ List.mem_cons_self us [] (by rw [← r.length]; exact vl) rfl)
  have eo : (Shape.all ps.length).out .none us [] = us := by
    have := range_out (d := Value.none) us
    rw [← r.length, vl] at this
    exact this
  rw [eo] at b
  have run := Fn.run X.A X.stack s1 (showH cs H1 s1.heap) ⟨us, []⟩ us vs _ _ hr.c e0 b r sp
  refine wpAny_call (codeAny_mono run fun res s' hq => ?_)
  have hq := cr_show hsx Z I1.hok hnf hq
  rcases res with err | fl
  · exact hx pins σ H1 s1 err s' I1 hq
  · cases fl with
    | ret u => exact I1.after hq
    | _ => exact hq.elim
theorem showX0 {P : Program} {w : World} : ShowX CX0 P w := fun _ _ _ _ _ _ _ _ _ _ h => h
end
end Pyi
/-! Pq0: plain parameters. -/
namespace Pyi
open PySem PySem.Spec PyProof.Rows L2
def plainArgs (a : Arguments) (ps : List Str) : Bool := a.posonlyargs.isEmpty && decide (a.args.map (·.arg) = ps) && a.vararg.isNone && a.kwonlyargs.isEmpty && a.kw_defaults.isEmpty && a.kwarg.isNone && a.defaults.isEmpty && a.args.all fun x => x.annotation.isNone
structure PlainA (a : Arguments) (ps : List Str) : Prop where
  p : a.posonlyargs = []
  g : a.args.map (·.arg) = ps
  v : a.vararg = none
  k : a.kwonlyargs = []
  d : a.kw_defaults = []
  w : a.kwarg = none
  e : a.defaults = []
  n : ∀ x ∈ a.args, x.annotation = none
theorem plainA {a : Arguments} {ps : List Str} (h : plainArgs a ps = true) : PlainA a ps := by
  unfold plainArgs at h
  simp only [Bool.and_eq_true, List.isEmpty_iff, decide_eq_true_eq, Option.isNone_iff_eq_none, List.all_eq_true] at h
  obtain ⟨⟨⟨⟨⟨⟨⟨h1, h2⟩, h3⟩, h4⟩, h5⟩, h6⟩, h7⟩, h8⟩ := h
  exact ⟨h1, h2, h3, h4, h5, h6, h7, h8⟩
theorem filterMap_congr2 {α β : Type} {f g : α → Option β} : ∀ {l : List α}, (∀ x ∈ l, f x = g x) → l.filterMap f = l.filterMap g
  | [], _ => rfl
  | a :: l, h => by
    rw [List.filterMap_cons, List.filterMap_cons, h a List.mem_cons_self, filterMap_congr2 fun x hx => h x (List.mem_cons_of_mem _ hx)]
theorem zip_lookups : ∀ {ps : List Str} {us : List Value}, ps.Nodup → us.length = ps.length → ps.filterMap (fun n => ((ps.zip us).lookup n).map fun x => (n, x)) = ps.zip us ∧ ∀ n ∈ ps, ((ps.zip us).lookup n).isNone = false
  | [], _, _, _ => ⟨rfl, fun n h => by cases h⟩
  | p :: ps, [], _, h => by cases h
  | p :: ps, u :: us, nd, h => by
    obtain ⟨i1, i2⟩ := zip_lookups (ps := ps) (us := us) (List.nodup_cons.mp nd).2 (by simpa using h)
    have hp := (List.nodup_cons.mp nd).1
    have e : ∀ n ∈ ps, ((p :: ps).zip (u :: us)).lookup n = (ps.zip us).lookup n := fun n hn => by
      have : (n == p) = false := by
        have q : n ≠ p := fun z => hp (by rw [← z]; exact hn)
        simpa using q
      rw [List.zip_cons_cons, List.lookup_cons, this]
    have e0 : ((p :: ps).zip (u :: us)).lookup p = some u := by
      rw [List.zip_cons_cons, List.lookup_cons]
      simp
    refine ⟨?_, fun n hn => ?_⟩
    · rw [List.filterMap_cons, e0]
      show (p, u) :: ps.filterMap (fun n => (((p :: ps).zip (u :: us)).lookup n).map fun x => (n, x)) = (p, u) :: ps.zip us
      rw [filterMap_congr2 (g := fun n => ((ps.zip us).lookup n).map fun x => (n, x)) fun n hn => by rw [e n hn], i1]
    · rcases List.mem_cons.mp hn with rfl | hn
      · rw [e0]; rfl
      · rw [e n hn]; exact i2 n hn
theorem bind_plain {fd : FuncData} {ps : List Str} {us : List Value} (h : PlainA fd.params ps) (hd : fd.defaults = .none) (nd : ps.Nodup) (hl : us.length = ps.length) : bindArgs fd ⟨us, []⟩ = pure (ps.zip us) := by
  obtain ⟨h1, h2, h3, h4, h5, h6, h7, h8⟩ := h
  obtain ⟨l1, l2⟩ := zip_lookups nd hl
  have l3 : ps.filter (fun n => ((ps.zip us).lookup n).isNone) = [] := List.filter_eq_nil_iff.mpr fun n hn => by rw [l2 n hn]; decide
  unfold bindArgs
  simp only [h1, h2, h3, h4, h6, hd, List.map_nil, List.nil_append, List.append_nil, Option.isNone_none, Bool.and_true]
  have hs : (seqItems? Value.none : Sem (Option (Array Value))) = pure none := rfl
  rw [hs]
  simp only [pure_bind, List.forIn_nil, Option.getD_none, hl, Nat.lt_irrefl, decide_false, Bool.false_eq_true, if_false, gt_iff_lt]
  have e0 : (List.drop ((#[] : Array Value).toList.length - ps.length) (#[] : Array Value).toList) = [] := by simp
  rw [e0]
  simp only [List.length_nil, Nat.sub_zero, List.take_length, l3, List.isEmpty_nil, Bool.not_true, Bool.false_eq_true, if_false, List.drop_length, List.zip_nil_right, List.forIn_nil, pure_bind, l1]
theorem annOf_none {env : Env} : ∀ {l : List Arg}, (∀ x ∈ l, x.annotation = none) → annotationsOf l env = []
  | [], _ => by unfold annotationsOf; rfl
  | ⟨n, a, p⟩ :: l, h => by
    have e : a = none := h _ List.mem_cons_self
    subst e
    unfold annotationsOf
    exact annOf_none fun x hx => h x (List.mem_cons_of_mem _ hx)
theorem annTrees_plain {a : Arguments} {ps : List Str} {env : Env} (h : PlainA a ps) : annTrees a none env = [] := by
  obtain ⟨h1, h2, h3, h4, h5, h6, h7, h8⟩ := h
  obtain ⟨po, as, va, ko, kd, kw, de⟩ := a
  dsimp only at h1 h3 h4 h6 h8
  subst h1; subst h3; subst h4; subst h6
  unfold annTrees
  dsimp only
  have e : as ++ [] ++ (none : Option Arg).toList ++ [] ++ (none : Option Arg).toList = as := by simp
  rw [e, annOf_none h8]
  rfl
def scB (N P : List Str) (sc : Scope) : Bool := (match sc.kind with | .function => true | _ => false) && !sc.isCoroutine && !sc.isGenerator && decide N.Nodup && decide (N.take P.length = P) && P.all (fun x => match sc.names.lookup x with
    | some .local => true
    | some .cell => true
    | _ => false) && sc.names.all (fun y => match y.2 with
    | .free => false
    | _ => true)
theorem scB_ok {N P : List Str} {sc : Scope} (h : scB N P sc = true) : FnScope N P sc := by
  unfold scB at h
  simp only [Bool.and_eq_true, Bool.not_eq_true', List.all_eq_true] at h
  obtain ⟨⟨⟨⟨⟨⟨h1, h2⟩, h3⟩, h4⟩, h5⟩, h6⟩, h7⟩ := h
  refine ⟨?_, h2, h3, of_decide_eq_true h4, of_decide_eq_true h5, fun x hx => ?_, fun y hy => ?_⟩
  · split at h1
    · rename_i z; exact z
    · cases h1
  · have z := h6 x hx
    split at z
    · rename_i q; exact .inl q
    · rename_i q; exact .inr q
    · cases z
  · have z := h7 y hy
    split at z
    · cases z
    · rename_i q
      exact fun e => q e
/-- a function made within: its scope, with cells of its own if it captures none -/
def nsB (N ps fr : List Str) (sc : Scope) : Bool := NdefX.nscB N ps fr sc || (fr.isEmpty && scB N ps sc)
theorem nsB_of {N ps fr : List Str} {sc : Scope} (h : NdefX.nscB N ps fr sc = true) : nsB N ps fr sc = true := by
  unfold nsB
  rw [h]
  rfl
theorem nsB_cases {N ps fr : List Str} {sc : Scope} (h : nsB N ps fr sc = true) : NdefX.NScope N ps fr sc ∨ (fr = [] ∧ FnScope N ps sc) := by
  unfold nsB at h
  rw [Bool.or_eq_true, Bool.and_eq_true, List.isEmpty_iff] at h
  exact h.imp NdefX.nscope_by fun h => ⟨h.1, scB_ok h.2⟩
theorem nsB_free {N ps : List Str} {sc : Scope} (h : nsB N ps [] sc = true) : ∀ y ∈ sc.names, y.2 ≠ .free := fun y hy e => by
  rcases nsB_cases h with S | ⟨_, S⟩
  · exact absurd (S.free y hy e) List.not_mem_nil
  · exact S.nofree y hy e
end Pyi
/-! Pq: the look at a text: does the form stand for the text? -/
namespace Pyi
open PySem PySem.Spec PyProof.Rows L2
variable [Gd]
structure Ck where
  N : List Str
  sc : Scope
  top : Bool
  fns : List (Str × List Str × List Shape)
  gcd : Bool
  isq : Bool
  mkr : Bool
  qual : Str
  nm : Nat → Nat → Str
def Ck.kind (c : Ck) (x : Str) : Option NameKind := c.sc.names.lookup x
def Ck.vis (c : Ck) (x : Str) : Bool := match c.kind x with
  | some .local => true
  | some .cell => true
  | some .free => true
  | _ => false
def Ck.isLoc (c : Ck) (x : Str) : Bool := match c.kind x with
  | some .local => true
  | _ => false
def Ck.own (c : Ck) (x : Str) : Bool := match c.kind x with
  | some .local => true
  | some .cell => c.top
  | _ => false
def Ck.gl (c : Ck) (x : Str) : Bool := match c.kind x with
  | some .globalImplicit => x != "__debug__"
  | _ => false
def Ck.blk (c : Ck) (scope : Scope) : Ck := { c with sc := relS scope c.sc, top := false }
/-- the body of a function made within -/
def Ck.fun (c : Ck) (N : List Str) (scope : Scope) : Ck := { c with N := N, sc := scope, top := false, mkr := false, qual := "" }
/-- a function may be made here, and bears the name x -/
def Ck.made (c : Ck) (pos : Pos) (x : Str) : Bool := c.mkr && (c.nm pos.line pos.col == c.qual ++ x)
def plainN (x : Str) : Bool := x != "__debug__" && x != "__classdict__"
def eqK : NameKind → NameKind → Bool
  | .local, .local => true
  | .cell, .cell => true
  | .free, .free => true
  | .globalImplicit, .globalImplicit => true
  | .globalExplicit, .globalExplicit => true
  | _, _ => false
def ckBlk (c : Ck) (scope : Scope) (own : List Nat) : Bool := (match scope.kind with | .function => true | _ => false) && scope.names.all (fun y => match scope.names.lookup y.1 with | some k => eqK k y.2 | none => false) && own.all (fun i => decide (i < c.N.length)) &&
  scope.names.all (fun y => match y.2 with
    | .free => (match c.kind y.1 with | some .cell => true | some .free => true | _ => false)
    | .local => own.any (fun i => c.N[i]? == some y.1) || !c.N.contains y.1
    | .cell => own.any (fun i => c.N[i]? == some y.1) || !c.N.contains y.1
    | _ => true)
def notSlice : Expr → Bool
  | .Slice _ _ _ _ => false
  | _ => true
def notSet : Expr → Bool
  | .Set _ _ _ => false
  | _ => true
def notComp : Expr → Bool
  | .ListComp _ _ _ _ => false
  | .SetComp _ _ _ _ => false
  | .DictComp _ _ _ _ _ => false
  | _ => true
def notDC : Expr → Bool
  | .DictComp _ _ _ _ _ => false
  | _ => true
def isTup : Expr → Bool
  | .Tuple _ _ _ => true
  | _ => false
def Ex.isYes : Ex → Bool
  | .yes => true
  | _ => false
def Ex.isNil : Ex → Bool
  | .nil => true
  | _ => false
def Tg.js : Tg → List Nat
  | .nil => []
  | .nm i => [i]
  | .cons a r => a.js ++ r.js
  | .tup ts => ts.js
def eqC : D → Const → Bool
  | .non, .none => true
  | .bl a, .bool b => a == b
  | .int a, .int b => a == b
  | .str a, .str b => a == b
  | _, _ => false
def numO : Operator → Nat
  | .Add => 0
  | .Sub => 1
  | .Mult => 2
  | .FloorDiv => 3
  | .Mod => 4
  | .Pow => 5
  | _ => 9
def eqO (a b : Operator) : Bool := numO a == numO b && numO a != 9
def numC : CmpOp → Nat
  | .Eq => 0
  | .NotEq => 1
  | .Lt => 2
  | .LtE => 3
  | .Gt => 4
  | .GtE => 5
  | .In => 6
  | .NotIn => 7
  | .Is => 8
  | .IsNot => 9
def eqCm (a b : CmpOp) : Bool := numC a == numC b
def Ck.bi (c : Ck) : Bi → Bool
  | .gcd => c.gcd
  | .isqrt => c.isq
  | .setlen => false
  | _ => true
mutual
def ckT : Tg → Ck → Expr → Bool
  | .nm i, c, .Name x _ => (c.N[i]? == some x) && c.own x
  | .tup ts, c, .Tuple es _ _ => ckTs ts c es
  | _, _, _ => false
def ckTs : Tg → Ck → List Expr → Bool
  | .nil, _, [] => true
  | .cons t r, c, e :: es => noStar e && ckT t c e && ckTs r c es
  | _, _, _ => false
end
mutual
def ckE : Ex → Ck → Expr → Bool
  | .cst d, _, .Constant k _ _ => eqC d k
  | .var i, c, .Name x _ => (c.N[i]? == some x) && c.vis x && plainN x
  | .glob y, c, .Name x _ => (y == x) && c.gl x
  | .bin o a b, c, .BinOp x q y _ => eqO o q && ckE a c x && ckE b c y
  | .neg a, c, .UnaryOp q x _ => (match q with | .USub => true | _ => false) && ckE a c x
  | .not a, c, .UnaryOp q x _ => (match q with | .Not => true | _ => false) && ckE a c x
  | .cmp o a b, c, .Compare x [q] [y] _ => eqCm o q && !behindInMarks o y && ckE a c x && ckE b c y
  | .chn o p a b d, c, .Compare x [q, r] [y, z] _ => eqCm o q && eqCm p r && !lastMarks [o, p] [y, z] && ckE a c x && ckE b c y && ckE d c z
  | .and a r, c, .BoolOp q (x :: y :: zs) p => (match q with | .And => true | _ => false) && ckE a c x && (match zs with
    | [] => ckE r c y
    | _ :: _ => ckE r c (.BoolOp .And (y :: zs) p))
  | .or a r, c, .BoolOp q (x :: y :: zs) p => (match q with | .Or => true | _ => false) && ckE a c x && (match zs with
    | [] => ckE r c y
    | _ :: _ => ckE r c (.BoolOp .Or (y :: zs) p))
  | .ite t a b, c, .IfExp q x y _ => ckE t c q && ckE a c x && ckE b c y
  | .tup es, c, .Tuple xs _ _ => ckA es c xs
  | .lst es, c, .List xs _ => ckA es c xs
  | .cel es, c, .List xs _ => ckA es c xs
  | .call f es, c, .Call (.Name x _) xs [] _ => (f == x) && c.gl x && (match c.fns.lookup x with | some _ => true | none => false) && xs.all noStar && ckA es c xs
  | .calv i es, c, .Call (.Name x _) (y :: ys) [] _ => (c.N[i]? == some x) && c.vis x && plainN x && (y :: ys).all noStar && ckA es c (y :: ys)
  | .callp f h es ks, c, .Call (.Name x _) xs kws _ => (f == x) && c.gl x && (match c.fns.lookup x with | some (_, hs) => decide (h ∈ hs) | none => false) && decide (kws.filterMap (·.arg) = h.ks) && kws.all (fun q => q.arg.isSome) && xs.all noStar && ckA es c xs && ckK ks c kws
  | .bi b es, c, .Call (.Name x _) (y :: ys) [] _ => (x == b.name) && c.gl x && c.bi b && noStar y && ys.all noStar && ckA es c (y :: ys)
  | .isi e ts, c, .Call (.Name x _) [a, .Name t _] [] _ => (x == "isinstance") && c.gl x && c.gl t && noStar a && (match ts with
    | [tn] => decide (tn ∈ isiTys) && (t == Str.ofString tn)
    | _ => false) && ckE e c a
  | .mt m o es, c, .Call (.Attribute (.Name x p) nm apos) xs [] cpos => m.ok && (nm == m.name) && (apos.endLine == cpos.line) && ckE o c (.Name x p) && (match xs with
    | [] => es.isNil
    | [y] => noStar y && ckA es c [y]
    | _ => false)
  | .ix o i, c, .Subscript a b _ => notSlice b && ckE o c a && ckE i c b
  | .sl o l h, c, .Subscript a (.Slice lo hi none _) _ => ckE o c a && ckP l c lo && ckP h c hi
  | .lc cel own t i q e, c, .ListComp elt [⟨tg, iter, ifs, ia⟩] scope _ => (ia == 0) && ckBlk c scope own && ckI i c tg iter && ckT t (c.blk scope) tg && t.js.all (fun j => own.contains j) && notSet iter && (match ifs with
    | [] => q.isYes
    | [f] => ckE q (c.blk scope) f
    | _ => false) && ckE e (c.blk scope) elt
  | .lc2 cel own own2 t i t2 i2 q e, c, x => match x with
    | .ListComp elt [⟨tg, iter, ifs, ia⟩, ⟨tg1, iter1, ifs1, ia1⟩] scope _ => ((ia == 0) && (ia1 == 0) && ifs.isEmpty && ckBlk c scope own && ckI i c tg iter && ckT t (c.blk scope) tg && t.js.all (fun j => own.contains j) && notSet iter && own2.all (fun j => own.contains j) && ckI i2 (c.blk scope) tg1 iter1 && ckT t2 (c.blk scope) tg1 && t2.js.all (fun j => own2.contains j) && notSet iter1 && (match ifs1 with
      | [] => q.isYes
      | [f] => ckE q (c.blk scope) f
      | _ => false)) && ckE e (c.blk scope) elt
    | _ => false
  | .dcl, _, .Dict [] [] _ => true
  | .dclT, _, .Dict [] [] _ => true
  | .sdt e, c, .Call (.Name x _) [y] [] _ => (x == "sorted") && c.gl x && noStar y && ckE e c y
  | .lcr own t x q e, c, .ListComp elt [⟨tg, iter, ifs, ia⟩] scope _ => (ia == 0) && ckBlk c scope own && ckE x c iter && ckT t (c.blk scope) tg && t.js.all (fun j => own.contains j) && notSet iter && (match ifs with
    | [] => q.isYes
    | [f] => ckE q (c.blk scope) f
    | _ => false) && ckE e (c.blk scope) elt
  | .dc own t i q k e, c, .DictComp kx elt [⟨tg, iter, ifs, ia⟩] scope _ => ((ia == 0) && ckBlk c scope own && ckI i c tg iter && ckT t (c.blk scope) tg && t.js.all (fun j => own.contains j) && notSet iter && (match ifs with
    | [] => q.isYes
    | [f] => ckE q (c.blk scope) f
    | _ => false) && ckE e (c.blk scope) elt) && ckE k (c.blk scope) kx
  | .lam N ps fr js b, c, .Lambda a body sc pos => js.isEmpty && fr.isEmpty && c.made pos "<lambda>" && NdefX.nscB N ps [] sc && plainArgs a ps && ckE b (c.fun N sc) body
  | .cl i, c, .Call (.Name x _) [z] [] _ => (x == "list") && c.gl x && noStar z && ckE i c z
  | .sset i, c, .Call (.Name x _) [z] [] _ => (x == "sorted") && c.gl x && match z with
    | .Call (.Name y _) [a] [] _ => (y == "set") && c.gl y && noStar a && ckE i c a
    | _ => false
  | .rp es, c, .Call (.Name x _) [.List (y :: ys) _] [] _ => (x == "repr") && c.gl x && noStar y && ys.all noStar && ckA es c (y :: ys)
  | .jn a e, c, .Call (.Attribute o nm apos) [z] [] cpos => (nm == "join") && (apos.endLine == cpos.line) && jnObj o && noStar z && ckE a c o && ckE e c z
  | .di i, c, .Call (.Name x _) [z] [] _ => (x == "dict") && c.gl x && noStar z && ckE i c z
  | .sortk i f, c, .Call (.Name x _) [y] [⟨some kw, ke, _⟩] _ => (x == "sorted") && c.gl x && noStar y && (kw == "key") && ckE i c y && ckE f c ke
  | .callc f es, c, .Call (.Name x _) (y :: ys) [] _ => (f == x) && c.gl x && c.top && (match c.fns.lookup x with | some _ => true | none => false) && (y :: ys).all noStar && ckC es c (y :: ys)
  | _, _, _ => false
def ckC : Ex → Ck → List Expr → Bool
  | .nil, _, [] => true
  | .cons (.lamc N ps fr js b) r, c, .Lambda a body sc pos :: es => c.made pos "<lambda>" && NdefX.nscB N ps fr sc && plainArgs a ps && NdefX.ndefB c.sc sc fr && decide (js.map (fun j => c.N[j]?) = fr.map some) && ckE b (c.fun N sc) body && ckC r c es
  | .cons e r, c, x :: es => noStar x && ckE e c x && ckC r c es
  | _, _, _ => false
def ckA : Ex → Ck → List Expr → Bool
  | .nil, _, [] => true
  | .cons (.st a) r, c, .Starred e _ :: es => ckE a c e && ckA r c es
  | .cons a r, c, e :: es => noStar e && ckE a c e && ckA r c es
  | _, _, _ => false
def ckK : Ex → Ck → List Keyword → Bool
  | .nil, _, [] => true
  | .cons a r, c, ⟨_, e, _⟩ :: es => ckE a c e && ckK r c es
  | _, _, _ => false
def ckP : Ex → Ck → Option Expr → Bool
  | .no, _, none => true
  | .pt a, c, some e => ckE a c e
  | _, _, _ => false
def ckI : Ex → Ck → Expr → Expr → Bool
  | .it k es, c, tg, iter => match k with
    | .seq => noStar iter && ckA es c [iter]
    | .rng => match iter with
      | .Call (.Name x _) [a] [] _ => (x == "range") && c.gl x && noStar a && ckA es c [a]
      | .Call (.Name x _) [a, b] [] _ => (x == "range") && c.gl x && noStar a && noStar b && ckA es c [a, b]
      | .Call (.Name x _) [a, b, d] [] _ => (x == "range") && c.gl x && noStar a && noStar b && noStar d && ckA es c [a, b, d]
      | _ => false
    | .zip => isTup tg && match iter with
      | .Call (.Name x _) [a, b] [] _ => (x == "zip") && c.gl x && noStar a && noStar b && ckA es c [a, b]
      | .Call (.Name x _) [a, b, d] [] _ => (x == "zip") && c.gl x && noStar a && noStar b && noStar d && ckA es c [a, b, d]
      | _ => false
    | .enum => isTup tg && match iter with
      | .Call (.Name x _) [a] [] _ => (x == "enumerate") && c.gl x && noStar a && ckA es c [a]
      | _ => false
    | .items => false
  | _, _, _, _ => false
end
/-- the equations are made here, with this text's limit -/
theorem ckE_nil (c : Ck) (x : Expr) : ckE .nil c x = false := by simp only [ckE]
/-! statements -/
mutual
def ckX : Tx → Ck → Expr → Bool
  | .nm i, c, .Name x _ => (c.N[i]? == some x) && c.own x
  | .sub o i, c, .Subscript a b _ => notSlice b && ckE o c a && ckE i c b
  | .subK o x y, c, .Subscript a (.BinOp l .Add r _) _ => ckE o c a && ckE x c l && ckE y c r
  | .tup ts, c, .Tuple es _ _ => ckXs ts c es
  | _, _, _ => false
def ckXs : Tx → Ck → List Expr → Bool
  | .nil, _, [] => true
  | .cons t r, c, e :: es => noStar e && ckX t c e && ckXs r c es
  | _, _, _ => false
end
/-- which stores are swapped -/
def swst (c : Ck) (tg v : Expr) : Option (Option (List Str)) := match tg, v with
  | .Tuple ts _ _, .Tuple vs _ _ => if !(ts.length == 2 || ts.length == 3) || vs.length != ts.length then some none else
    if vs.any (fun e => !noStar e) then some none else
    let line := (ts.head?.map (·.pos.line)).getD 0
    let names := ts.filterMap fun
      | .Name id pos => if c.kind id == some .local && pos.line == line then some id else none
      | _ => none
    if names.length != ts.length || names.eraseDups.length != names.length then some none else
    if vs.all (foldedForSure 8) then some none else
    if vs.all (constantsAlone 8) then none else some (some names)
  | .List _ _, _ => none
  | _, _ => some none
/-- is name = [..] run in one? -/
def notLcr : Ex → Bool
  | .lcr _ _ _ _ _ => false
  | _ => true
def swB (c : Ck) (tg v : Expr) : Bool := match v, tg with
  | .ListComp _ _ s vp, .Name t pos => c.isLoc t && pos.line == vp.line && !(s.names.any fun (n, k) => n == t && (k == .local || k == .cell))
  | _, _ => false
def isNon : Option (Option (List Str)) → Bool
  | some none => true
  | _ => false
def ckNs (c : Ck) : List Nat → List Expr → Bool
  | [], [] => true
  | i :: is, .Name x _ :: es => (c.N[i]? == some x) && c.own x && ckNs c is es
  | _, _ => false
mutual
def ckS : Stm → Ck → Stmt → Bool
  | .asg t e, c, .Assign [tg] v _ => ckX t c tg && ckE e c v && isNon (swst c tg v) && (notDC v && notLcr e)
  | .par is es, c, .Assign [.Tuple ts _ _] v _ => match ts, v, is with
    | [.Name x px, .Name y py], .Tuple [a, b] k p2, [i, j] => (c.N[i]? == some x) && (c.N[j]? == some y) && decide (i ≠ j) && c.isLoc x && c.isLoc y && ckA es c [a, b] && decide (swst c (.Tuple ts 0 px) v = some (some [x, y]))
    | [.Name x px, .Name y py, .Name z pz], .Tuple [a, b, d] k p2, [i, j, l] => (c.N[i]? == some x) && (c.N[j]? == some y) && (c.N[l]? == some z) && decide (i ≠ j) && decide (i ≠ l) && decide (j ≠ l) && c.isLoc x && c.isLoc y && c.isLoc z && ckA es c [a, b, d] && decide (swst c (.Tuple ts 0 px) v = some (some [x, y, z]))
    | _, _, _ => false
  | .parT is es, c, .Assign [.Tuple ts kt pt] (.Tuple vs k2 p2) _ => ckNs c is ts && decide (is.length ≤ 9) && ckA es c vs && isNon (swst c (.Tuple ts kt pt) (.Tuple vs k2 p2))
  | .aug i e, c, .AugAssign (.Name x _) q v _ => (match q with | .Add => true | _ => false) && (c.N[i]? == some x) && c.own x && ckE e c v
  | .exp e, c, .Expr v _ => notComp v && ckE e c v
  | .ife t a b, c, .If q xs ys _ => ckE t c q && ckSs a c xs && ckSs b c ys
  | .whl _ t b, c, .While q xs [] _ => ckE t c q && ckSs b c xs
  | .loop t i b, c, .For tg it xs [] _ => ckI i c tg it && ckT t c tg && notSet it && ckSs b c xs
  | .ret e, c, .Return (some v) _ => ckE e c v
  | .retN, _, .Return none _ => true
  | .pass, _, .Pass _ => true
  | .brk, _, .Break _ => true
  | .cnt, _, .Continue _ => true
  | .never, _, _ => true
  | .ndef i N ps fr js b, c, .FunctionDef name a body [] none [] sc none x pos => (name == x) && js.isEmpty && fr.isEmpty && c.made pos name && (c.N[i]? == some name) && c.own name && nsB N ps [] sc && plainArgs a ps && ckSs b (c.fun N sc) body
  | _, _, _ => false
def ckSs : Stm → Ck → List Stmt → Bool
  | .nil, _, [] => true
  | .seq s r, c, x :: xs => ckS s c x && ckSs r c xs
  | _, _, _ => false
end
/-- a form and the text of a function -/
def lfCk (c : Ck) (d : Df) (T : FTxt) : Bool := nsB d.names d.ps d.fr T.scope && plainArgs T.params d.ps && match T.body with
  | .stmts b => ckSs d.body (c.fun d.names T.scope) b
  | .expr e => NdefX.nscB d.names d.ps d.fr T.scope && match d.body with
    | .ret be => ckE be (c.fun d.names T.scope) e
    | _ => false
end Pyi
/-! Pr: what is looked at holds: expressions. -/
namespace Pyi
open PySem PySem.Spec PyProof.Rows L2
variable [Gd]
structure CkOk (c : Ck) (X : Cx) (E : XK) (cal : Cal) (k : Nat) (CX : CXT) : Prop where
  hN : X.N = c.N
  nd : X.N.Nodup
  sc : X.env.scope = c.sc
  kd : c.sc.kind = .function
  fn : c.top = true → ∀ x, X.fn x = true
  calm : X.calm = true
  room : RoomG k X.A
  pass : Passes CX X E
  passB : ∀ X' : Cx, Passes CX X' E0'
  blt : ∀ x ∈ bis, X.mg x = none
  gcd : c.gcd = true → X.mg "gcd" = some (.builtin "math.gcd")
  isq : c.isq = true → X.mg "isqrt" = some (.builtin "math.isqrt")
  gl : ∀ x w, cal.gl x = some w → GlobAt X x w
  gf : ∀ x y, cal.gl x = some (.fn y) → ∃ ps hs, c.fns.lookup x = some (ps, hs)
  fns : ∀ x ps hs, c.fns.lookup x = some (ps, hs) → ∃ f fd, DefAt X.K X.mg x f fd ps (Shape.all ps.length :: hs) ∧ FnG X.prog X.w X.K X.mg X.base CX k f fd ps (cal.fn x) ∧ ∀ ws S, ws.length ≠ ps.length → cal.fn x ws S = .fail
  lfs : NnG X.prog X.w X.K X.mg X.base CX k cal.lf
  gd : ∀ d T, lfCk c d T = true → Gd.ok d T
  sx : ShowX CX X.prog X.w
  mkr : c.mkr = true → X.env.qual = c.qual ∧ c.nm = (tbX X).nm ∧ ∃ cd P, LamX.TabB X.base X.mg cd P ∧ X.env.code = .ref cd ∧ P ∈ (tbX X).ads
section
variable {c : Ck} {X : Cx} {E : XK} {cal : Cal} {k : Nat} {CX : CXT} {e : Expr} {x : Str} {i : Nat}
theorem CkOk.blk {scope : Scope} (h : CkOk c X E cal k CX) (hk : scope.kind = .function) (s : Shared) (H : Hp) (C : Addr) (cl : List (Str × Addr)) (fp : List Addr) : CkOk (c.blk scope) (X.blk s H scope (blkE scope cl C X) fp) E0' cal k CX :=
  ⟨h.hN, h.nd, by show relS scope X.env.scope = relS scope c.sc; rw [h.sc], hk, fun z => Bool.noConfusion (show false = true from z), h.calm, h.room, h.passB _, h.passB, h.blt, h.gcd, h.isq, h.gl, h.gf, h.fns, h.lfs, h.gd, h.sx, h.mkr⟩
theorem CkOk.visOk (h : CkOk c X E cal k CX) (hx : c.vis x = true) : Vis X.env.scope x := by
  unfold Vis
  rw [h.sc]
  unfold Ck.vis Ck.kind at hx
  split at hx
  · rename_i q; exact .inl q
  · rename_i q; exact .inr (.inl q)
  · rename_i q; exact .inr (.inr q)
  · cases hx
theorem CkOk.locOk (h : CkOk c X E cal k CX) (hx : c.isLoc x = true) : X.env.scope.names.lookup x = some .local := by
  rw [h.sc]
  unfold Ck.isLoc Ck.kind at hx
  split at hx
  · rename_i q; exact q
  · cases hx
theorem CkOk.ownOk (h : CkOk c X E cal k CX) (hx : c.own x = true) : L2.Loc X.env.scope x ∧ (X.fn x = true ∨ X.env.scope.names.lookup x = some .local) := by
  unfold L2.Loc
  rw [h.sc]
  unfold Ck.own Ck.kind at hx
  split at hx
  · rename_i q; exact ⟨.inl q, .inr q⟩
  · rename_i q; exact ⟨.inr q, .inl (h.fn hx x)⟩
  · cases hx
theorem CkOk.glOk (h : CkOk c X E cal k CX) (hx : c.gl x = true) : Gl X x ∧ (x == ("__debug__" : Str)) = false := by
  unfold Ck.gl Ck.kind at hx
  split at hx
  · rename_i q
    refine ⟨?_, by simpa [bne] using hx⟩
    show X.env.scope.names.lookup x = _
    rw [h.sc]
    exact q
  · cases hx
theorem CkOk.made {pos : Pos} (h : CkOk c X E cal k CX) (hx : c.made pos x = true) : (∃ cd P, Mk X pos (X.env.qual ++ x) cd P) ∧ True := by
  unfold Ck.made at hx
  rw [Bool.and_eq_true] at hx
  obtain ⟨h1, h2⟩ := hx
  obtain ⟨e1, e2, cd, P, e3, e4, e5⟩ := h.mkr h1
  refine ⟨⟨cd, P, e3, e4, e5, ?_⟩, trivial⟩
  rw [← e2, e1]
  exact beq_iff_eq.mp h2
theorem CkOk.at (h : CkOk c X E cal k CX) (hx : (c.N[i]? == some x) = true) : X.N[i]? = some x := by
  rw [h.hN]
  exact beq_iff_eq.mp hx
theorem CkOk.u (h : CkOk c X E cal k CX) : X.A.units + 100 < cLine := h.room.u
theorem eqO_eq {a b : Operator} (h : eqO a b = true) : a = b := by
  cases a <;> cases b <;> first
    | rfl
    | exact absurd h (by decide)
theorem eqCm_eq {a b : CmpOp} (h : eqCm a b = true) : a = b := by
  cases a <;> cases b <;> first
    | rfl
    | exact absurd h (by decide)
theorem eqK_eq {a b : NameKind} (h : eqK a b = true) : a = b := by
  cases a <;> cases b <;> first
    | rfl
    | exact absurd h (by decide)
/-- what is shown of a form and its text -/
structure Shown (X : Cx) (E : XK) (e : Expr) (f : Sg → Store → Res W) : Prop where
  pe : PE X e (tE X E f)
  pt : PT X e (tT X E (tr f))
  pw : ∀ op xs p, e = .BoolOp op xs p → PW X e (tT X E (tr f))
theorem shown {f : Sg → Store → Res W} (ha : PE X e (tE X E f)) (he : ∀ whole, isTrue e X.env whole = (do let v ← whole; standAt e.pos; holding [v] (truthy v))) (hb : ∀ op xs p, e ≠ .BoolOp op xs p) : Shown X E e f :=
  ⟨ha, st_plain ha he, fun op xs p q => absurd q (hb op xs p)⟩
theorem shown2 {f : Sg → Store → Res W} (ha : PE X e (tE X E f)) (ht : PT X e (tT X E (tr f))) (hb : ∀ op xs p, e ≠ .BoolOp op xs p) : Shown X E e f := ⟨ha, ht, fun op xs p q => absurd q (hb op xs p)⟩
abbrev OkE (cal : Cal) (ir : Ex) : Prop := ∀ {c : Ck} {X : Cx} {E : XK} {k : Nat} {CX : CXT} (e : Expr), CkOk c X E cal k CX → ckE ir c e = true → Shown X E e (evalE cal ir)
abbrev OkA (cal : Cal) (ir : Ex) : Prop := ∀ {c : Ck} {X : Cx} {E : XK} {k : Nat} {CX : CXT} (es : List Expr), CkOk c X E cal k CX → ckA ir c es = true → PA X es (tAw X E (evalA cal ir)) ∧ PA X es (tAd X E (evalD cal ir))
abbrev OkC (cal : Cal) (ir : Ex) : Prop := ∀ {c : Ck} {X : Cx} {E : XK} {k : Nat} {CX : CXT} (es : List Expr), CkOk c X E cal k CX → c.top = true → ckC ir c es = true → PA X es (tAc X E (evalC cal ir))
abbrev OkK (cal : Cal) (ir : Ex) : Prop := ∀ {c : Ck} {X : Cx} {E : XK} {k : Nat} {CX : CXT} (es : List Keyword), CkOk c X E cal k CX → ckK ir c es = true → PK X es (tAw X E (evalA cal ir))
abbrev OkP (cal : Cal) (ir : Ex) : Prop := ∀ {c : Ck} {X : Cx} {E : XK} {k : Nat} {CX : CXT} (o : Option Expr), CkOk c X E cal k CX → ckP ir c o = true → PO X o (tPt X E (evalP cal ir))
abbrev OkI (cal : Cal) (ir : Ex) : Prop := ∀ {c : Ck} {X : Cx} {E : XK} {k : Nat} {CX : CXT} (tg e : Expr), CkOk c X E cal k CX → ckI ir c tg e = true → PI X tg e (tIt X E (evalI cal ir))
/-! targets -/
theorem assignEach_one {env : Env} {es : List Expr} (h : noStar e = true) : assignEach (e :: es) env = (false, assign e env) :: assignEach es env := by
  cases e <;> first
    | rfl
    | cases h
theorem ckTs_noStar : ∀ {ts : Tg} {es : List Expr}, ckTs ts c es = true → (∀ e ∈ es, noStar e = true) ∧ ∀ ds σ σ', ts.binds ds σ = some σ' → ds.length = es.length
  | .nil, [], _ => by
    refine ⟨fun e h => (by cases h), fun ds σ σ' h => ?_⟩
    cases ds with
    | nil => rfl
    | cons d ds => cases h
  | .nil, _ :: _, h => by cases h
  | .cons t r, [], h => by cases h
  | .nm _, _, h => by cases h
  | .tup _, _, h => by cases h
  | .cons t r, e :: es, h => by
    simp only [ckTs, Bool.and_eq_true] at h
    obtain ⟨i1, i2⟩ := ckTs_noStar h.2
    refine ⟨fun e' he => ?_, fun ds σ σ' hb => ?_⟩
    · rcases List.mem_cons.mp he with rfl | he
      · exact h.1.1
      · exact i1 e' he
    · cases ds with
      | nil => cases hb
      | cons d ds =>
        simp only [Tg.binds] at hb
        split at hb
        · rw [List.length_cons, List.length_cons, i2 _ _ _ hb]
        · cases hb
theorem assignEach_len {env : Env} : ∀ es : List Expr, (∀ e ∈ es, noStar e = true) → (assignEach es env).length = es.length ∧ (assignEach es env).findIdx? (·.1) = none
  | [], _ => ⟨rfl, rfl⟩
  | e :: es, h => by
    obtain ⟨i1, i2⟩ := assignEach_len (env := env) es fun e' he => h e' (List.mem_cons_of_mem _ he)
    rw [assignEach_one (h e List.mem_cons_self)]
    refine ⟨by rw [List.length_cons, List.length_cons, i1], ?_⟩
    rw [List.findIdx?_cons, i2]
    rfl
mutual
theorem sT : ∀ {t : Tg} {e : Expr}, CkOk c X E cal k CX → ckT t c e = true → PG X e (gTg X t.js t.bind)
  | .nm i, e, h, q => by
    cases e with
    | Name x p =>
      simp only [ckT, Bool.and_eq_true] at q
      obtain ⟨o1, o2⟩ := h.ownOk q.2
      exact sg_nm h.nd (h.at q.1) o1 o2
    | _ => cases q
  | .tup ts, e, h, q => by
    cases e with
    | Tuple es kk p =>
      have q : ckTs ts c es = true := q
      obtain ⟨n1, n2⟩ := ckTs_noStar q
      obtain ⟨l1, l2⟩ := assignEach_len (env := X.env) es n1
      refine PG.imp (sg_tup h.calm (sTs h q) l1 l2 n2) fun v σ H Q hh => ?_
      obtain ⟨F, m, S, σd, d, σd', Y, G, hd, e, qq⟩ := hh
      refine ⟨F, m, S, σd, d, σd', Y, G, hd, ?_, qq⟩
      cases d with
      | tup ds => exact e
      | _ => cases e
    | _ => cases q
  | .nil, _, _, q => by cases q
  | .cons _ _, _, _, q => by cases q
theorem sTs : ∀ {t : Tg} {es : List Expr}, CkOk c X E cal k CX → ckTs t c es = true → PGs X es (gTgs X t.js t.binds)
  | .nil, es, h, q => by
    cases es with
    | nil =>
      refine PGs.imp sg_nil fun v σ H Q hh => ?_
      obtain ⟨F, m, S, σd, ds, σd', Y, G, hd, e, qq⟩ := hh
      refine ⟨F, m, S, σd, ds, σd', Y, G, hd, ?_, qq⟩
      cases ds with
      | nil => exact e
      | cons d ds => cases e
    | cons _ _ => cases q
  | .cons t r, es, h, q => by
    cases es with
    | nil => cases q
    | cons e es =>
      simp only [ckTs, Bool.and_eq_true] at q
      refine PGs.imp (sg_cons (sT h q.1.2) (sTs h q.2) (by rw [assignEach_one q.1.1]; rfl)) fun v σ H Q hh => ?_
      obtain ⟨F, m, S, σd, ds, σd', Y, G, hd, e, qq⟩ := hh
      refine ⟨F, m, S, σd, ds, σd', Y, G, hd, ?_, qq⟩
      cases ds with
      | nil => cases e
      | cons d ds => exact e
  | .nm _, _, _, q => by cases q
  | .tup _, _, _, q => by cases q
end
theorem ckBlk_ok {scope : Scope} {own : List Nat} (h : CkOk c X E cal k CX) (q : ckBlk c scope own = true) : scope.kind = .function ∧ BlkOk X.N X.env.scope scope (own.map fun i => (c.N.getD i "", i)) := by
  unfold ckBlk at q
  simp only [Bool.and_eq_true, List.all_eq_true] at q
  obtain ⟨⟨⟨q1, q2⟩, q3⟩, q4⟩ := q
  have hk : scope.kind = .function := by
    split at q1
    · rename_i z; exact z
    · cases q1
  have get : ∀ i < c.N.length, c.N[i]? = some (c.N.getD i "") := fun i hi => by
    rw [List.getD_eq_getElem?_getD, List.getElem?_eq_getElem hi]
    rfl
  have own' : ∀ y : Str × NameKind, (own.any (fun i => c.N[i]? == some y.1) || !c.N.contains y.1) = true → y.1 ∈ (own.map fun i => (c.N.getD i "", i)).map (·.1) ∨ y.1 ∉ X.N := fun y z => by
    rw [Bool.or_eq_true] at z
    rcases z with z | z
    · obtain ⟨i, hi, e⟩ := List.any_eq_true.mp z
      have e := beq_iff_eq.mp e
      refine .inl (List.mem_map.mpr ⟨_, List.mem_map.mpr ⟨i, hi, rfl⟩, ?_⟩)
      have := get i (of_decide_eq_true (q3 i hi))
      rw [e] at this
      exact (Option.some.inj this).symm
    · refine .inr ?_
      rw [h.hN]
      intro hm
      rw [Bool.not_eq_true'] at z
      rw [List.contains_iff_mem.mpr hm] at z
      cases z
  refine ⟨hk, ⟨hk, fun y hy => ?_, fun p hp => ?_, fun y hy e => ?_, fun y hy e => ?_⟩⟩
  · have z := q2 y hy
    split at z
    · rename_i kk ek
      rw [ek, eqK_eq z]
    · cases z
  · obtain ⟨i, hi, rfl⟩ := List.mem_map.mp hp
    rw [h.hN]
    exact get i (of_decide_eq_true (q3 i hi))
  · have z := q4 y hy
    rw [e] at z
    dsimp only at z
    rw [h.sc]
    unfold Ck.kind at z
    split at z
    · rename_i q; exact .inl q
    · rename_i q; exact .inr q
    · cases z
  · have z := q4 y hy
    rcases e with e | e
    · rw [e] at z; exact own' y z
    · rw [e] at z; exact own' y z
theorem own_snd (own : List Nat) (f : Nat → Str) : (own.map fun i => (f i, i)).map (·.2) = own := by
  induction own with
  | nil => rfl
  | cons i own ih => rw [List.map_cons, List.map_cons, ih]
theorem notSet_ok {iter : Expr} {env : Env} (h : notSet iter = true) : ∀ x, foldedSetIterable iter env x = pure x := by
  intro x
  cases iter <;> first
    | rfl
    | cases h
theorem notSlice_ok {b : Expr} (h : notSlice b = true) : PlainIx b := by
  intro o i
  cases b <;> first
    | rfl
    | cases h
end
end Pyi
/-! Ps: what is looked at holds: expressions. -/
namespace Pyi
open PySem PySem.Spec PyProof.Rows L2
variable [Gd]
section
variable {c : Ck} {X : Cx} {E : XK} {cal : Cal} {k : Nat} {CX : CXT}
theorem biAt_ok {b : Bi} (h : CkOk c X E cal k CX) (hb : c.bi b = true) : BiAt X b ∧ b ≠ .setlen := by
  cases b with
  | gcd => exact ⟨h.gcd hb, by decide⟩
  | isqrt => exact ⟨h.isq hb, by decide⟩
  | setlen => cases hb
  | _ => exact ⟨h.blt _ (by decide +kernel), by decide⟩
theorem blt_of {x : Str} (h : CkOk c X E cal k CX) (hx : x ∈ bis) : X.mg x = none := h.blt x hx
theorem isi_ty {t : String} (h : t ∈ isiTys) : bootBuiltins (Str.ofString t) = some (.type t) ∧ Str.ofString t ≠ "__name__" ∧ Str.ofString t ∈ bis := by
  simp only [isiTys, List.mem_cons, List.not_mem_nil, or_false] at h
  rcases h with rfl | rfl | rfl | rfl | rfl <;> exact ⟨by decide +kernel, by decide +kernel, by decide +kernel⟩
/-- the parts of a comprehension -/
structure LcParts (X : Cx) (E : XK) (elt tg iter : Expr) (ifs : List Expr) (scope : Scope) (own : List (Str × Nat)) (js : List Nat) (fi : Sg → Store → Res (List D)) (ft : D → Sg → Option Sg) (fq fe : Sg → Store → Res W) : Prop where
  hi : PI X tg iter (tIt X E fi)
  ok : BlkOk X.N X.env.scope scope own
  hg : ∀ (s : Shared) (H : Hp) (C : Addr) (cl : List (Str × Addr)) (fp : List Addr), PG (X.blk s H scope (blkE scope cl C X) fp) tg (gTg X js ft)
  ht : ∀ (s : Shared) (H : Hp) (C : Addr) (cl : List (Str × Addr)) (fp : List Addr), PTs (X.blk s H scope (blkE scope cl C X) fp) ifs (tT X E0' (tr fq))
  he : ∀ (s : Shared) (H : Hp) (C : Addr) (cl : List (Str × Addr)) (fp : List Addr), PE (X.blk s H scope (blkE scope cl C X) fp) elt (tE X E0' fe)
  hs : ∀ x, foldedSetIterable iter X.env x = pure x
  hj : ∀ j ∈ js, j ∈ own.map (·.2)
theorem lcParts {own : List Nat} {t : Tg} {i q e : Ex} {elt tg iter : Expr} {ifs : List Expr} {ia : Int} {scope : Scope} {pos : Pos} {cel : Bool} (h : CkOk c X E cal k CX) (hi : OkI cal i) (hq : OkE cal q) (he : OkE cal e)
    (z : ((ia == 0) && ckBlk c scope own && ckI i c tg iter && ckT t (c.blk scope) tg && t.js.all (fun j => own.contains j) && notSet iter && (match ifs with
    | [] => q.isYes
    | [f] => ckE q (c.blk scope) f
    | _ => false) && ckE e (c.blk scope) elt) = true) : ia = 0 ∧ LcParts X E elt tg iter ifs scope (own.map fun i => (c.N.getD i "", i)) t.js (evalI cal i) t.bind (evalE cal q) (evalE cal e) := by
  simp only [Bool.and_eq_true] at z
  obtain ⟨⟨⟨⟨⟨⟨⟨z1, z2⟩, z3⟩, z4⟩, z5⟩, z6⟩, z7⟩, z8⟩ := z
  obtain ⟨hk, ok⟩ := ckBlk_ok h z2
  refine ⟨beq_iff_eq.mp z1, ⟨hi tg iter h z3, ok, fun s H C cl fp => sT (h.blk hk s H C cl fp) z4, fun s H C cl fp => ?_, fun s H C cl fp => (he elt (h.blk hk s H C cl fp) z8).pe, notSet_ok z6, fun j hj => ?_⟩⟩
  · split at z7
    · cases q with
      | yes => exact pts_yes
      | _ => cases z7
    · exact pts_1 (hq _ (h.blk hk s H C cl fp) z7).pt
    · cases z7
  · rw [own_snd]
    exact List.contains_iff_mem.mp (List.all_eq_true.mp z5 j hj)
theorem yields_of {X X' : Cx} {F : Addr → Nat} {H : Hp} {ds : List D} {J : It} (y : Yields X' F H ds J) (hK : X'.K = X.K) (hP : X'.prog = X.prog) : Yields X F H ds J := by
  have e : tbX X' = tbX X := by unfold tbX; rw [hK, hP]
  refine ⟨fun i F' m m' H' S x Y hi => y.go i F' m m' H' S x (by rw [e, hK]; exact Y) hi, fun i d F' m m' H' S v H2 x Y hd hy => ?_, fun i F' m m' H' S x Y hi => y.stop i F' m m' H' S x (by rw [e, hK]; exact Y) hi⟩
  obtain ⟨F2, z1, z2, z3⟩ := y.yld i d F' m m' H' S v H2 x (by rw [e, hK]; exact Y) hd hy
  rw [e, hK] at z2
  rw [hK] at z3
  exact ⟨F2, z1, z2, z3⟩
theorem pi_blk {tg iter : Expr} {scope : Scope} {f : Sg → Store → Res (List D)} {s : Shared} {H : Hp} {C : Addr} {cl : List (Str × Addr)} {fp : List Addr} (h : PI (X.blk s H scope (blkE scope cl C X) fp) tg iter (tIt (X.blk s H scope (blkE scope cl C X) fp) E0' f)) : PI (X.blk s H scope (blkE scope cl C X) fp) tg iter (tIt X E0' f) :=
  PI.imp h fun σ H R ⟨F, m, S, σd, Y, G, h⟩ => ⟨F, m, S, σd, Y, G, Rp.mono (X := X) h fun F' m' H' S' ds x Y' h J y => h J (yields_of (X := X) y rfl rfl)⟩
theorem lc2Parts {own own2 : List Nat} {t t2 : Tg} {i i2 q e : Ex} {elt tg iter tg1 iter1 : Expr} {ifs ifs1 : List Expr} {ia ia1 : Int} {scope : Scope} (h : CkOk c X E cal k CX) (hi : OkI cal i) (hi2 : OkI cal i2) (hq : OkE cal q) (he : OkE cal e)
    (z : (((ia == 0) && (ia1 == 0) && ifs.isEmpty && ckBlk c scope own && ckI i c tg iter && ckT t (c.blk scope) tg && t.js.all (fun j => own.contains j) && notSet iter && own2.all (fun j => own.contains j) && ckI i2 (c.blk scope) tg1 iter1 && ckT t2 (c.blk scope) tg1 && t2.js.all (fun j => own2.contains j) && notSet iter1 && (match ifs1 with
      | [] => q.isYes
      | [f] => ckE q (c.blk scope) f
      | _ => false)) && ckE e (c.blk scope) elt) = true) : ia = 0 ∧ ia1 = 0 ∧ ifs = [] ∧ Lc2Parts X E elt tg iter tg1 iter1 ifs1 scope (own.map fun i => (c.N.getD i "", i)) own2 t.js t2.js (evalI cal i) t.bind (evalI cal i2) t2.bind (evalE cal q) (evalE cal e) := by
  simp only [Bool.and_eq_true] at z
  obtain ⟨⟨⟨⟨⟨⟨⟨⟨⟨⟨⟨⟨⟨⟨z1, z1'⟩, z0⟩, z2⟩, z3⟩, z4⟩, z5⟩, z6⟩, w1⟩, w2⟩, w3⟩, w4⟩, w5⟩, z7⟩, z8⟩ := z
  obtain ⟨hk, ok⟩ := ckBlk_ok h z2
  refine ⟨beq_iff_eq.mp z1, beq_iff_eq.mp z1', List.isEmpty_iff.mp z0, ⟨hi tg iter h z3, ok, fun j hj => ?_, fun s H C cl fp => sT (h.blk hk s H C cl fp) z4, fun s H C cl fp => pi_blk (hi2 tg1 iter1 (h.blk hk s H C cl fp) w2), fun s H C cl fp => sT (h.blk hk s H C cl fp) w3, fun s H C cl fp => ?_, fun s H C cl fp => (he elt (h.blk hk s H C cl fp) z8).pe, notSet_ok z6, fun env => notSet_ok w5, fun j hj => ?_, fun j hj => List.contains_iff_mem.mp (List.all_eq_true.mp w4 j hj)⟩⟩
  · rw [own_snd]
    exact List.contains_iff_mem.mp (List.all_eq_true.mp w1 j hj)
  · split at z7
    · cases q with
      | yes => exact pts_yes
      | _ => cases z7
    · exact pts_1 (hq _ (h.blk hk s H C cl fp) z7).pt
    · cases z7
  · rw [own_snd]
    exact List.contains_iff_mem.mp (List.all_eq_true.mp z5 j hj)
/-- the parts of a comprehension over a list of the store -/
structure LcrParts (X : Cx) (E : XK) (elt tg iter : Expr) (ifs : List Expr) (scope : Scope) (own : List (Str × Nat)) (js : List Nat) (fx : Sg → Store → Res W) (ft : D → Sg → Option Sg) (fq fe : Sg → Store → Res W) : Prop where
  hi : PE X iter (tE X E fx)
  ok : BlkOk X.N X.env.scope scope own
  hg : ∀ (s : Shared) (H : Hp) (C : Addr) (cl : List (Str × Addr)) (fp : List Addr), PG (X.blk s H scope (blkE scope cl C X) fp) tg (gTg X js ft)
  ht : ∀ (s : Shared) (H : Hp) (C : Addr) (cl : List (Str × Addr)) (fp : List Addr), PTs (X.blk s H scope (blkE scope cl C X) fp) ifs (tT X E0' (tr fq))
  he : ∀ (s : Shared) (H : Hp) (C : Addr) (cl : List (Str × Addr)) (fp : List Addr), PE (X.blk s H scope (blkE scope cl C X) fp) elt (tE X E0' fe)
  hs : ∀ x, foldedSetIterable iter X.env x = pure x
  hj : ∀ j ∈ js, j ∈ own.map (·.2)
theorem lcrParts {own : List Nat} {t : Tg} {x q e : Ex} {elt tg iter : Expr} {ifs : List Expr} {ia : Int} {scope : Scope} (h : CkOk c X E cal k CX) (hx : OkE cal x) (hq : OkE cal q) (he : OkE cal e)
    (z : ((ia == 0) && ckBlk c scope own && ckE x c iter && ckT t (c.blk scope) tg && t.js.all (fun j => own.contains j) && notSet iter && (match ifs with
    | [] => q.isYes
    | [f] => ckE q (c.blk scope) f
    | _ => false) && ckE e (c.blk scope) elt) = true) : ia = 0 ∧ LcrParts X E elt tg iter ifs scope (own.map fun i => (c.N.getD i "", i)) t.js (evalE cal x) t.bind (evalE cal q) (evalE cal e) := by
  simp only [Bool.and_eq_true] at z
  obtain ⟨⟨⟨⟨⟨⟨⟨z1, z2⟩, z3⟩, z4⟩, z5⟩, z6⟩, z7⟩, z8⟩ := z
  obtain ⟨hk, ok⟩ := ckBlk_ok h z2
  refine ⟨beq_iff_eq.mp z1, ⟨(hx iter h z3).pe, ok, fun s H C cl fp => sT (h.blk hk s H C cl fp) z4, fun s H C cl fp => ?_, fun s H C cl fp => (he elt (h.blk hk s H C cl fp) z8).pe, notSet_ok z6, fun j hj => ?_⟩⟩
  · split at z7
    · cases q with
      | yes => exact pts_yes
      | _ => cases z7
    · exact pts_1 (hq _ (h.blk hk s H C cl fp) z7).pt
    · cases z7
  · rw [own_snd]
    exact List.contains_iff_mem.mp (List.all_eq_true.mp z5 j hj)
theorem LcrParts.pe {own : List (Str × Nat)} {elt tg iter : Expr} {ifs : List Expr} {scope : Scope} {js : List Nat} {fx : Sg → Store → Res W} {ft : D → Sg → Option Sg} {fq fe : Sg → Store → Res W} {pos : Pos} (h : CkOk c X E cal k CX) (P : LcrParts X E elt tg iter ifs scope own js fx ft fq fe) :
    PE X (.ListComp elt [⟨tg, iter, ifs, 0⟩] scope pos) (tE X E (fLcr fx ft fq fe (own.map (·.2)))) := se_lcr h.calm h.nd P.hi P.ok P.hg P.ht P.he P.hs P.hj
theorem LcParts.pe {own : List (Str × Nat)} {elt tg iter : Expr} {ifs : List Expr} {scope : Scope} {js : List Nat} {fi : Sg → Store → Res (List D)} {ft : D → Sg → Option Sg} {fq fe : Sg → Store → Res W} {pos : Pos} (cel : Bool) (h : CkOk c X E cal k CX) (P : LcParts X E elt tg iter ifs scope own js fi ft fq fe) :
    PE X (.ListComp elt [⟨tg, iter, ifs, 0⟩] scope pos) (tE X E (fLc cel fi ft fq fe (own.map (·.2)))) := se_lc cel h.calm h.nd P.hi P.ok P.hg P.ht P.he P.hs P.hj
theorem andTail {f : Sg → Store → Res W} {r : Ex} {y : Expr} {zs : List Expr} {p : Pos} (s : ∀ e, ckE r c e = true → Shown X E e f) (q : (match zs with
    | [] => ckE r c y
    | _ :: _ => ckE r c (.BoolOp .And (y :: zs) p)) = true) : PE X (.BoolOp .And (y :: zs) p) (tE X E f) ∧ PW X (.BoolOp .And (y :: zs) p) (tT X E (tr f)) := by
  cases zs with
  | nil => exact ⟨pe_one (s y q).pe, pw_and1 (s y q).pt⟩
  | cons z zs => exact ⟨(s _ q).pe, (s _ q).pw _ _ _ rfl⟩
theorem orTail {f : Sg → Store → Res W} {r : Ex} {y : Expr} {zs : List Expr} {p : Pos} (s : ∀ e, ckE r c e = true → Shown X E e f) (q : (match zs with
    | [] => ckE r c y
    | _ :: _ => ckE r c (.BoolOp .Or (y :: zs) p)) = true) : PE X (.BoolOp .Or (y :: zs) p) (tE X E f) ∧ PW X (.BoolOp .Or (y :: zs) p) (tT X E (tr f)) := by
  cases zs with
  | nil => exact ⟨pe_one (s y q).pe, pw_or1 (s y q).pt⟩
  | cons z zs => exact ⟨(s _ q).pe, (s _ q).pw _ _ _ rfl⟩
theorem evalI2 (k0 : ItK) (a b : Ex) : evalI cal (.it k0 (.cons a (.cons b .nil))) = fun σ S => ((evalE cal a σ S).bind fun w S1 => (evalE cal b σ S1).bind fun w2 S2 => .ok [w, w2] S2).bind fun ws S1 => Res.of S1 (itW k0 S1 ws) := by
  funext σ S
  simp only [evalI, evalA, Res.bind_assoc, Res.bind_ok]
theorem evalI3 (k0 : ItK) (a b d : Ex) : evalI cal (.it k0 (.cons a (.cons b (.cons d .nil)))) = fun σ S => ((evalE cal a σ S).bind fun w S1 => (evalE cal b σ S1).bind fun w2 S2 => (evalE cal d σ S2).bind fun w3 S3 => .ok [w, w2, w3] S3).bind fun ws S1 => Res.of S1 (itW k0 S1 ws) := by
  funext σ S
  simp only [evalI, evalA, Res.bind_assoc, Res.bind_ok]
end
theorem sa_one {y : Expr} {X : Cx} {E : XK} {fa : Sg → Store → Res W} (hn : noStar y = true) (ha : PE X y (tE X E fa)) : PA X [y] (tAw X E fun σ S => (fa σ S).bind fun w S1 => .ok [w] S1) := by
  have := sa_cons ha sa_nil (star_cons hn)
  exact this
theorem ckA_cons {a r : Ex} {e : Expr} {es : List Expr} {c : Ck} (h : ckA (.cons a r) c (e :: es) = true) (n : noStar e = true) : (noStar e = true ∧ ckE a c e = true) ∧ ckA r c es = true := by
  cases a with
  | st a' =>
    cases e with
    | Starred _ _ => cases n
    | _ =>
      simp only [ckA, Bool.and_eq_true] at h
      exact h
  | _ =>
    simp only [ckA, Bool.and_eq_true] at h
    exact h
mutual
theorem sE (cal : Cal) : (ir : Ex) → OkE cal ir
  | .cst d => by
    intro e h q
    cases e with
    | Constant v j p =>
      cases d <;> cases v <;> first
        | (cases (show _ = false from rfl).symm.trans q; done)
        | (have q := beq_iff_eq.mp q; subst q; exact shown (by first | exact se_int | exact se_bl | exact se_str) (fun _ => rfl) (fun _ _ _ z => nomatch z))
        | exact shown se_non (fun _ => rfl) (fun _ _ _ z => nomatch z)
        | cases q
    | _ => cases q
  | .var i => by
    intro e h q
    cases e with
    | Name x p =>
      simp only [ckE, Bool.and_eq_true, plainN] at q
      exact shown (se_var (h.at q.1.1) (h.visOk q.1.2) (by simpa [bne] using q.2.1) (by simpa [bne] using q.2.2)) (fun _ => rfl) (fun _ _ _ z => nomatch z)
    | _ => cases q
  | .glob y => by
    intro e h q
    cases e with
    | Name x p =>
      simp only [ckE, Bool.and_eq_true] at q
      obtain ⟨g1, g2⟩ := h.glOk q.2
      have e := beq_iff_eq.mp q.1
      subst e
      exact shown (se_glob g1 g2 fun w hw => h.gl y w hw) (fun _ => rfl) (fun _ _ _ z => nomatch z)
    | _ => cases q
  | .bin o a b => by
    intro e h q
    cases e with
    | BinOp x o' y p =>
      simp only [ckE, Bool.and_eq_true] at q
      cases eqO_eq q.1.1
      exact shown (se_bin (sE cal a x h q.1.2).pe (sE cal b y h q.2).pe) (fun _ => rfl) (fun _ _ _ z => nomatch z)
    | _ => cases q
  | .neg a => by
    intro e h q
    cases e with
    | UnaryOp o x p =>
      simp only [ckE, Bool.and_eq_true] at q
      cases o with
      | USub => exact shown (se_neg (sE cal a x h q.2).pe) (fun _ => rfl) (fun _ _ _ z => nomatch z)
      | _ => cases q.1
    | _ => cases q
  | .not a => by
    intro e h q
    cases e with
    | UnaryOp o x p =>
      simp only [ckE, Bool.and_eq_true] at q
      cases o with
      | Not => exact shown2 (se_not (sE cal a x h q.2).pe) (st_not (sE cal a x h q.2).pt) (fun _ _ _ z => nomatch z)
      | _ => cases q.1
    | _ => cases q
  | .cmp o a b => by
    intro e h q
    cases e with
    | Compare x qs ys p =>
      rcases qs with _ | ⟨o', _ | ⟨p', qs⟩⟩
      · cases q
      · rcases ys with _ | ⟨y, _ | ⟨z, ys⟩⟩
        · cases q
        · simp only [ckE, Bool.and_eq_true, Bool.not_eq_true'] at q
          obtain ⟨⟨⟨q1, q2⟩, q3⟩, q4⟩ := q
          cases eqCm_eq q1
          exact shown2 (se_cmp h.u q2 (sE cal a x h q3).pe (sE cal b y h q4).pe) (st_cmp h.u q2 (sE cal a x h q3).pe (sE cal b y h q4).pe) (fun _ _ _ z => nomatch z)
        · cases q
      · cases q
    | _ => cases q
  | .chn o p a b d => by
    intro e h q
    cases e with
    | Compare x qs ys pp =>
      rcases qs with _ | ⟨o', _ | ⟨p', _ | ⟨p2, qs⟩⟩⟩
      · cases q
      · cases q
      · rcases ys with _ | ⟨y, _ | ⟨z, _ | ⟨z2, ys⟩⟩⟩
        · cases q
        · cases q
        · simp only [ckE, Bool.and_eq_true, Bool.not_eq_true'] at q
          obtain ⟨⟨⟨⟨⟨q1, q2⟩, q3⟩, q4⟩, q5⟩, q6⟩ := q
          cases eqCm_eq q1
          cases eqCm_eq q2
          exact shown2 (se_chn h.u q3 (sE cal a x h q4).pe (sE cal b y h q5).pe (sE cal d z h q6).pe) (st_chn h.u q3 (sE cal a x h q4).pe (sE cal b y h q5).pe (sE cal d z h q6).pe) (fun _ _ _ z => nomatch z)
        · cases q
      · cases q
    | _ => cases q
  | .and a r => by
    intro e h q
    cases e with
    | BoolOp o xs p =>
      rcases xs with _ | ⟨x, _ | ⟨y, zs⟩⟩
      · cases q
      · cases q
      · simp only [ckE, Bool.and_eq_true] at q
        obtain ⟨⟨q1, q2⟩, q3⟩ := q
        cases o with
        | And =>
          have A := sE cal a x h q2
          have B := andTail (fun e z => sE cal r e h z) q3
          have W := st_and A.pt B.2
          exact ⟨se_and A.pe B.1, W.pt, fun _ _ _ _ => W⟩
        | _ => cases q1
    | _ => cases q
  | .or a r => by
    intro e h q
    cases e with
    | BoolOp o xs p =>
      rcases xs with _ | ⟨x, _ | ⟨y, zs⟩⟩
      · cases q
      · cases q
      · simp only [ckE, Bool.and_eq_true] at q
        obtain ⟨⟨q1, q2⟩, q3⟩ := q
        cases o with
        | Or =>
          have A := sE cal a x h q2
          have B := orTail (fun e z => sE cal r e h z) q3
          have W := st_or A.pt B.2
          exact ⟨se_or A.pe B.1, W.pt, fun _ _ _ _ => W⟩
        | _ => cases q1
    | _ => cases q
  | .ite t a b => by
    intro e h q
    cases e with
    | IfExp t' x y p =>
      simp only [ckE, Bool.and_eq_true] at q
      have A := sE cal a x h q.1.2
      have B := sE cal b y h q.2
      have T := sE cal t t' h q.1.1
      exact shown2 (se_ite T.pt A.pe B.pe) (st_ite T.pt A.pt B.pt) (fun _ _ _ z => nomatch z)
    | _ => cases q
  | .tup es => by
    intro e h q
    cases e with
    | Tuple xs kk p => exact shown (se_tup (sA cal es xs h q).2) (fun _ => rfl) (fun _ _ _ z => nomatch z)
    | _ => cases q
  | .lst es => by
    intro e h q
    cases e with
    | List xs p => exact shown (se_lst (sA cal es xs h q).2) (fun _ => rfl) (fun _ _ _ z => nomatch z)
    | _ => cases q
  | .cel es => by
    intro e h q
    cases e with
    | List xs p => exact shown (se_cel (sA cal es xs h q).2) (fun _ => rfl) (fun _ _ _ z => nomatch z)
    | _ => cases q
  | .call f es => by
    intro e h q
    cases e with
    | Call g xs kws p =>
      cases g with
      | Name x px =>
        cases kws with
        | nil =>
          simp only [ckE, Bool.and_eq_true] at q
          obtain ⟨⟨⟨⟨q1, q2⟩, q3⟩, q4⟩, q5⟩ := q
          have e := beq_iff_eq.mp q1
          subst e
          obtain ⟨g1, g2⟩ := h.glOk q2
          split at q3
          · rename_i pr el
            obtain ⟨ps, hs⟩ := pr
            obtain ⟨fa, fd, D, G, hl⟩ := h.fns _ _ _ el
            refine shown ?_ (fun _ => rfl) (fun _ _ _ z => nomatch z)
            cases xs with
            | nil =>
              cases es with
              | nil =>
                have w := se_call0 (p := px) (pos := p) G h.room D List.mem_cons_self h.pass g1 g2 rfl
                rw [tE_eq (fun σ S => fCall_all hl σ S _)] at w
                exact w
              | _ => first | (cases q5; done) | (simp [ckA] at q5)
            | cons y ys =>
              have w := se_call (p := px) (pos := p) G h.room D List.mem_cons_self h.pass g1 g2 rfl (sA cal es _ h q5).1 q4
              rw [tE_eq (fun σ S => fCall_all hl σ S _)] at w
              exact w
          · cases q3
        | cons _ _ => cases q
      | _ => cases q
    | _ => cases q
  | .callp f hh es ks => by
    intro e h q
    cases e with
    | Call g xs kws p =>
      cases g with
      | Name x px =>
        simp only [ckE, Bool.and_eq_true] at q
        obtain ⟨⟨⟨⟨⟨⟨⟨q1, q2⟩, q3⟩, q4⟩, q5⟩, q6⟩, q7⟩, q8⟩ := q
        have e := beq_iff_eq.mp q1
        subst e
        obtain ⟨g1, g2⟩ := h.glOk q2
        have q4 := of_decide_eq_true q4
        split at q3
        · rename_i ps hs el
          obtain ⟨fa, fd, D, G, hl⟩ := h.fns _ _ _ el
          have hm : hh ∈ Shape.all ps.length :: hs := List.mem_cons_of_mem _ (of_decide_eq_true q3)
          refine shown ?_ (fun _ => rfl) (fun _ _ _ z => nomatch z)
          cases xs with
          | nil =>
            cases es with
            | nil => exact se_callK0 G h.room D hm h.pass g1 g2 q4 q5 (sK cal ks _ h q8)
            | _ => first | (cases q7; done) | (simp [ckA] at q7)
          | cons y ys => exact se_callK G h.room D hm h.pass g1 g2 q4 q5 (sA cal es _ h q7).1 (sK cal ks _ h q8) q6
        · cases q3
      | _ => cases q
    | _ => cases q
  | .bi b es => by
    intro e h q
    cases e with
    | Call g xs kws p =>
      cases g with
      | Name x px =>
        cases xs with
        | nil => cases q
        | cons y ys =>
          cases kws with
          | nil =>
            simp only [ckE, Bool.and_eq_true] at q
            obtain ⟨⟨⟨⟨⟨q1, q2⟩, q3⟩, q4⟩, q5⟩, q6⟩ := q
            have e := beq_iff_eq.mp q1
            subst e
            obtain ⟨g1, g2⟩ := h.glOk q2
            obtain ⟨b1, b2⟩ := biAt_ok h q3
            exact shown (se_bi b h.calm h.room.room.hd h.room.gd h.u g1 b2 b1 (sA cal es _ h q6).1 q4 q5) (fun _ => rfl) (fun _ _ _ z => nomatch z)
          | cons _ _ => cases q
      | _ => cases q
    | _ => cases q
  | .isi a ts => by
    intro e h q
    cases e with
    | Call g xs kws p =>
      cases g with
      | Name x px =>
        rcases xs with _ | ⟨y, _ | ⟨t, _ | ⟨z, xs⟩⟩⟩
        · cases q
        · cases q
        · cases kws with
          | nil =>
            cases t with
            | Name tn tp =>
              simp only [ckE, Bool.and_eq_true] at q
              obtain ⟨⟨⟨⟨⟨q1, q2⟩, q3⟩, q4⟩, q5⟩, q6⟩ := q
              have e := beq_iff_eq.mp q1
              subst e
              obtain ⟨g1, g2⟩ := h.glOk q2
              obtain ⟨g3, g4⟩ := h.glOk q3
              split at q5
              · rename_i t0
                simp only [Bool.and_eq_true] at q5
                have e := beq_iff_eq.mp q5.2
                subst e
                have ht := of_decide_eq_true q5.1
                obtain ⟨t1, t2, t3⟩ := isi_ty ht
                exact shown (se_isi ht g1 (h.blt _ (by decide +kernel)) g3 (h.blt _ t3) t1 t2 g4 (sE cal a y h q6).pe q4) (fun _ => rfl) (fun _ _ _ z => nomatch z)
              · cases q5
            | _ => cases q
          | cons _ _ => simp [ckE] at q
        · simp [ckE] at q
      | _ => cases q
    | _ => cases q
  | .mt m o es => by
    intro e h q
    cases e with
    | Call g xs kws p =>
      cases g with
      | Attribute g nm apos =>
        cases g with
        | Name x px =>
          cases kws with
          | nil =>
            simp only [ckE, Bool.and_eq_true] at q
            obtain ⟨⟨⟨⟨q1, q2⟩, q3⟩, q4⟩, q5⟩ := q
            have e := beq_iff_eq.mp q2
            subst e
            refine shown ?_ (fun _ => rfl) (fun _ _ _ z => nomatch z)
            rcases xs with _ | ⟨y, _ | ⟨z, xs⟩⟩
            · cases es with
              | nil => exact se_mt0 q1 (sE cal o _ h q4).pe q3
              | _ => cases q5
            · simp only [Bool.and_eq_true] at q5
              exact se_mt1 q1 (sE cal o _ h q4).pe (sA cal es _ h q5.2).1 q5.1 q3
            · cases q5
          | cons _ _ => cases q
        | _ => cases q
      | _ => cases q
    | _ => cases q
  | .ix o i => by
    intro e h q
    cases e with
    | Subscript a b p =>
      simp only [ckE, Bool.and_eq_true] at q
      exact shown (se_ix (Nat.lt_of_le_of_lt (Nat.add_le_add_left (by decide) _) h.u) (sE cal o a h q.1.2).pe (sE cal i b h q.2).pe (notSlice_ok q.1.1)) (fun _ => rfl) (fun _ _ _ z => nomatch z)
    | _ => cases q
  | .sl o l u => by
    intro e h q
    cases e with
    | Subscript a b p =>
      cases b with
      | Slice lo hi st p2 =>
        cases st with
        | none =>
          simp only [ckE, Bool.and_eq_true] at q
          exact shown (se_sl (sE cal o a h q.1.1).pe (sP cal l lo h q.1.2) (sP cal u hi h q.2)) (fun _ => rfl) (fun _ _ _ z => nomatch z)
        | some _ => cases q
      | _ => cases q
    | _ => cases q
  | .lc cel own t i q0 e0 => by
    intro e h q
    cases e with
    | ListComp elt gens scope p =>
      rcases gens with _ | ⟨⟨tg, iter, ifs, ia⟩, _ | ⟨g2, gs⟩⟩
      · cases q
      · obtain ⟨rfl, P⟩ := lcParts h (sI cal i) (sE cal q0) (sE cal e0) q (pos := p) (cel := cel)
        have w := P.pe (pos := p) cel h
        rw [own_snd] at w
        exact shown w (fun _ => rfl) (fun _ _ _ z => nomatch z)
      · cases q
    | _ => cases q
  | .nil => fun e h q => by cases q
  | .cons _ _ => fun e h q => by cases q
  | .dcl => by
    intro e h q
    cases e with
    | Dict ks vs p =>
      cases ks with
      | cons _ _ => cases q
      | nil =>
        cases vs with
        | cons _ _ => cases q
        | nil => exact shown se_dcl (fun _ => rfl) (fun _ _ _ z => nomatch z)
    | _ => cases q
  | .dclT => by
    intro e h q
    cases e with
    | Dict ks vs p =>
      cases ks with
      | cons _ _ => cases q
      | nil =>
        cases vs with
        | cons _ _ => cases q
        | nil => exact shown se_dclT (fun _ => rfl) (fun _ _ _ z => nomatch z)
    | _ => cases q
  | .lcr own t x0 q0 e0 => by
    intro e h q
    cases e with
    | ListComp elt gens scope p =>
      rcases gens with _ | ⟨⟨tg, iter, ifs, ia⟩, _ | ⟨g2, gs⟩⟩
      · cases q
      · obtain ⟨rfl, P⟩ := lcrParts h (sE cal x0) (sE cal q0) (sE cal e0) q
        have w := P.pe (pos := p) h
        rw [own_snd] at w
        exact shown w (fun _ => rfl) (fun _ _ _ z => nomatch z)
      · cases q
    | _ => cases q
  | .sdt a => by
    intro e h q
    cases e with
    | Call g xs kws p =>
      cases g with
      | Name x px =>
        rcases xs with _ | ⟨z, _ | ⟨y2, ys⟩⟩
        · cases q
        · cases kws with
          | cons _ _ => cases q
          | nil =>
            simp only [ckE, Bool.and_eq_true] at q
            obtain ⟨⟨⟨q1, q2⟩, q3⟩, q4⟩ := q
            obtain rfl : x = "sorted" := beq_iff_eq.mp q1
            exact shown (se_sdt h.calm (h.glOk q2).1 (blt_of h (by decide +kernel)) (sE cal a z h q4).pe q3) (fun _ => rfl) (fun _ _ _ z => nomatch z)
        · cases q
      | _ => cases q
    | _ => cases q
  | .dc own t i q0 k0 e0 => by
    intro e h q
    cases e with
    | DictComp kx elt gens scope pos =>
      rcases gens with _ | ⟨⟨tg, iter, ifs, ia⟩, _ | ⟨g2, gs⟩⟩
      · cases q
      · simp only [ckE] at q
        rw [Bool.and_eq_true] at q
        obtain ⟨rfl, P⟩ := lcParts h (sI cal i) (sE cal q0) (sE cal e0) q.1 (pos := pos) (cel := false)
        have hk := (ckBlk_ok h (by have z := q.1; simp only [Bool.and_eq_true] at z; exact z.1.1.1.1.1.1.2)).1
        have w := se_dc (pos := pos) h.calm h.nd P.hi P.ok P.hg P.ht (fun s H C cl fp => (sE cal k0 kx (h.blk hk s H C cl fp) q.2).pe) P.he P.hs P.hj
        rw [own_snd] at w
        exact shown w (fun _ => rfl) (fun _ _ _ z => nomatch z)
      · cases q
    | _ => cases q
  | .calv i es => by
    intro e h q
    cases e with
    | Call g xs kws p =>
      cases g with
      | Name x px =>
        cases xs with
        | nil => cases q
        | cons y ys =>
          cases kws with
          | nil =>
            simp only [ckE, Bool.and_eq_true, plainN] at q
            obtain ⟨⟨⟨⟨q1, q2⟩, q3⟩, q4⟩, q5⟩ := q
            refine shown (se_calv (gl := cal.gl) (lf := cal.lf) h.room h.pass (h.at q1) (h.visOk q2) (by simpa [bne] using q3.1) (by simpa [bne] using q3.2) (fun f z hz => ?_) h.lfs (sA cal es _ h q5).1 (by simpa using q4)) (fun _ => rfl) (fun _ _ _ z => nomatch z)
            obtain ⟨ps, hs, el⟩ := h.gf f z hz
            obtain ⟨fa, fd, D, G, hl⟩ := h.fns _ _ _ el
            exact ⟨fa, fd, ps, hs, D, G, hl⟩
          | cons _ _ => cases q
      | _ => cases q
    | _ => cases q
  | .no => fun e h q => by cases q
  | .pt _ => fun e h q => by cases q
  | .it _ _ => fun e h q => by cases q
  | .yes => fun e h q => by cases q
  | .lc2 cel own own2 t i t2 i2 q0 e0 => by
    intro e h q
    simp only [ckE] at q
    split at q
    · rename_i elt tg iter ifs ia tg1 iter1 ifs1 ia1 scope p
      obtain ⟨rfl, rfl, rfl, P⟩ := lc2Parts h (sI cal i) (sI cal i2) (sE cal q0) (sE cal e0) q
      have w := se_lc2 (pos := p) cel h.calm h.nd P
      rw [own_snd] at w
      exact shown w (fun _ => rfl) (fun _ _ _ z => nomatch z)
    · cases q
  | .sortk i f => by
    intro e h q
    cases e with
    | Call g xs kws p =>
      cases g with
      | Name x px =>
        rcases xs with _ | ⟨y, _ | ⟨y2, ys⟩⟩
        · cases q
        · rcases kws with _ | ⟨⟨_ | kw, ke, kp⟩, _ | ⟨k2, ks⟩⟩
          · cases q
          · cases q
          · cases q
          · simp only [ckE, Bool.and_eq_true] at q
            obtain ⟨⟨⟨⟨⟨q1, q2⟩, q3⟩, q4⟩, q5⟩, q6⟩ := q
            obtain rfl : x = "sorted" := beq_iff_eq.mp q1
            obtain rfl : kw = "key" := beq_iff_eq.mp q4
            have hx := sa_one q3 (sE cal i y h q5).pe
            exact shown (se_sortk (gl := cal.lf) h.lfs h.room h.passB (h.glOk q2).1 (blt_of h (by decide +kernel)) hx (sE cal f ke h q6).pe q3) (fun _ => rfl) (fun _ _ _ z => nomatch z)
          · cases q
        · cases q
      | _ => cases q
    | _ => cases q
  | .lamc _ _ _ _ _ => fun e h q => by cases e <;> cases q
  | .callc f es => by
    intro e h q
    cases e with
    | Call g xs kws p =>
      cases g with
      | Name x px =>
        cases xs with
        | nil => cases q
        | cons y ys =>
          cases kws with
          | nil =>
            simp only [ckE, Bool.and_eq_true] at q
            obtain ⟨⟨⟨⟨⟨q1, q2⟩, q3⟩, q4⟩, q5⟩, q6⟩ := q
            obtain rfl : f = x := beq_iff_eq.mp q1
            split at q4
            · rename_i pr hp
              obtain ⟨ps, hs⟩ := pr
              obtain ⟨fa, fd, D, G, hl⟩ := h.fns _ _ _ hp
              exact shown (se_callc G h.room D h.pass h.sx (h.glOk q2).1 (h.glOk q2).2 hl (h.fn q3) (sC cal es _ h q3 q6) q5) (fun _ => rfl) (fun _ _ _ z => nomatch z)
            · cases q4
          | cons _ _ => cases q
      | _ => cases q
    | _ => cases q
  | .lam N ps fr js b => by
    intro e h q
    cases e with
    | Lambda a body sc pos =>
      simp only [ckE, Bool.and_eq_true, List.isEmpty_iff] at q
      obtain ⟨⟨⟨⟨⟨q1, q2⟩, q3⟩, q4⟩, q5⟩, q6⟩ := q
      subst q1
      subst q2
      obtain ⟨k, _⟩ := h.made q3
      have S := NdefX.nscope_by q4
      have A := plainA q5
      refine shown (se_lam (d := ⟨N, ps, false, .ret b, []⟩) (params := a) (body := body) (scope := sc) (pos := pos) k (by rw [defaultsOf_eq, A.e, A.d]; rfl) (fun y hy e => absurd (S.free y hy e) List.not_mem_nil) (h.gd _ _ (by unfold lfCk; simp only [Bool.and_eq_true]; exact ⟨⟨nsB_of q4, q5⟩, q4, q6⟩)) rfl) (fun _ => rfl) (fun _ _ _ z => nomatch z)
    | _ => cases q
  | .frz _ => fun e h q => by cases q
  | .st _ => fun e h q => by cases e <;> cases q
  | .cl i => by
    intro e h q
    cases e with
    | Call g xs kws p =>
      cases g with
      | Name x px =>
        rcases xs with _ | ⟨z, _ | ⟨y2, ys⟩⟩
        · cases q
        · cases kws with
          | cons _ _ => cases q
          | nil =>
            simp only [ckE, Bool.and_eq_true] at q
            obtain ⟨⟨⟨q1, q2⟩, q3⟩, q4⟩ := q
            obtain rfl : x = "list" := beq_iff_eq.mp q1
            exact shown (se_cl h.room.room.hd (h.glOk q2).1 (blt_of h (by decide +kernel)) (sE cal i z h q4).pe q3) (fun _ => rfl) (fun _ _ _ z => nomatch z)
        · cases q
      | _ => cases q
    | _ => cases q
  | .di i => by
    intro e h q
    cases e with
    | Call g xs kws p =>
      cases g with
      | Name x px =>
        rcases xs with _ | ⟨z, _ | ⟨y2, ys⟩⟩
        · cases q
        · cases kws with
          | cons _ _ => cases q
          | nil =>
            simp only [ckE, Bool.and_eq_true] at q
            obtain ⟨⟨⟨q1, q2⟩, q3⟩, q4⟩ := q
            obtain rfl : x = "dict" := beq_iff_eq.mp q1
            exact shown (se_di h.calm (h.glOk q2).1 (blt_of h (by decide +kernel)) (sE cal i z h q4).pe q3) (fun _ => rfl) (fun _ _ _ z => nomatch z)
        · cases q
      | _ => cases q
    | _ => cases q
  | .rp es => by
    intro e h q
    cases e with
    | Call g xs kws p =>
      cases g with
      | Name x px =>
        rcases xs with _ | ⟨z, _ | ⟨y2, ys2⟩⟩
        · cases q
        · cases z with
          | List zs zp =>
            cases zs with
            | nil => cases kws <;> cases q
            | cons y ys =>
              cases kws with
              | cons _ _ => cases q
              | nil =>
                simp only [ckE, Bool.and_eq_true] at q
                obtain ⟨⟨⟨⟨q1, q2⟩, q4⟩, q5⟩, q6⟩ := q
                obtain rfl : x = "repr" := beq_iff_eq.mp q1
                exact shown (se_rp h.room.gd h.u (h.glOk q2).1 (blt_of h (by decide +kernel)) (sA cal es _ h q6).1) (fun _ => rfl) (fun _ _ _ z => nomatch z)
          | _ => cases kws <;> cases q
        · cases z <;> first
            | (cases kws <;> cases q; done)
            | (rename_i zs zp; cases zs <;> cases kws <;> cases q)
      | _ => cases q
    | _ => cases q
  | .jn a i => by
    intro e h q
    cases e with
    | Call g xs kws p =>
      cases g with
      | Attribute o nm apos =>
        rcases xs with _ | ⟨z, _ | ⟨y2, ys⟩⟩
        · cases q
        · cases kws with
          | cons _ _ => cases q
          | nil =>
            simp only [ckE, Bool.and_eq_true] at q
            obtain ⟨⟨⟨⟨⟨q1, q2⟩, q3⟩, q4⟩, q5⟩, q6⟩ := q
            obtain rfl : nm = "join" := beq_iff_eq.mp q1
            exact shown (se_jn (sE cal a o h q5).pe (sE cal i z h q6).pe q4 q3 q2) (fun _ => rfl) (fun _ _ _ z => nomatch z)
        · cases q
      | _ => cases q
    | _ => cases q
  | .sset i => by
    intro e h q
    cases e with
    | Call g xs kws p =>
      cases g with
      | Name x px =>
        rcases xs with _ | ⟨z, _ | ⟨y2, ys⟩⟩
        · cases q
        · cases kws with
          | cons _ _ => cases q
          | nil =>
            simp only [ckE, Bool.and_eq_true] at q
            obtain ⟨⟨q1, q2⟩, q3⟩ := q
            obtain rfl : x = "sorted" := beq_iff_eq.mp q1
            split at q3
            · rename_i yx yp a yp2
              simp only [Bool.and_eq_true] at q3
              obtain ⟨⟨⟨r1, r2⟩, r3⟩, r4⟩ := q3
              obtain rfl : yx = "set" := beq_iff_eq.mp r1
              exact shown (se_sset h.calm h.u (h.glOk q2).1 (blt_of h (by decide +kernel)) (h.glOk r2).1 (blt_of h (by decide +kernel)) (sE cal i a h r4).pe r3) (fun _ => rfl) (fun _ _ _ z => nomatch z)
            · cases q3
        · cases q
      | _ => cases q
    | _ => cases q
theorem sA (cal : Cal) : (ir : Ex) → OkA cal ir
  | .nil => by
    intro es h q
    cases es with
    | nil => exact ⟨sa_nil, sd_nil⟩
    | cons _ _ => cases q
  | .cons a r => by
    intro es h q
    have hA := fun e => sE cal a e h
    have hR := fun es => sA cal r es h
    cases es with
    | nil => cases a <;> cases q
    | cons e es =>
      cases a with
      | st a' =>
        cases e with
        | Starred e p =>
          simp only [ckA, Bool.and_eq_true] at q
          have A := (sE cal a' e h q.1).pe
          have R := hR es q.2
          exact ⟨pa_no (α := Nat) fun σ S => rfl, sd_star A R.2⟩
        | _ =>
          simp only [ckA, Bool.and_eq_true] at q
          exact Bool.noConfusion (show false = true from q.1.2)
      | _ =>
        simp only [ckA, Bool.and_eq_true] at q
        have A := (hA e q.1.2).pe
        have R := hR es q.2
        exact ⟨sa_cons A R.1 (star_cons q.1.1), sd_cons A R.2 (star_cons q.1.1)⟩
  | .cst _ => fun es h q => by cases es <;> cases q
  | .var _ => fun es h q => by cases es <;> cases q
  | .glob _ => fun es h q => by cases es <;> cases q
  | .bin _ _ _ => fun es h q => by cases es <;> cases q
  | .neg _ => fun es h q => by cases es <;> cases q
  | .cmp _ _ _ => fun es h q => by cases es <;> cases q
  | .chn _ _ _ _ _ => fun es h q => by cases es <;> cases q
  | .and _ _ => fun es h q => by cases es <;> cases q
  | .or _ _ => fun es h q => by cases es <;> cases q
  | .not _ => fun es h q => by cases es <;> cases q
  | .ite _ _ _ => fun es h q => by cases es <;> cases q
  | .tup _ => fun es h q => by cases es <;> cases q
  | .lst _ => fun es h q => by cases es <;> cases q
  | .cel _ => fun es h q => by cases es <;> cases q
  | .dcl => fun es h q => by cases es <;> cases q
  | .call _ _ => fun es h q => by cases es <;> cases q
  | .callp _ _ _ _ => fun es h q => by cases es <;> cases q
  | .calv _ _ => fun es h q => by cases es <;> cases q
  | .bi _ _ => fun es h q => by cases es <;> cases q
  | .isi _ _ => fun es h q => by cases es <;> cases q
  | .mt _ _ _ => fun es h q => by cases es <;> cases q
  | .ix _ _ => fun es h q => by cases es <;> cases q
  | .sl _ _ _ => fun es h q => by cases es <;> cases q
  | .no => fun es h q => by cases es <;> cases q
  | .pt _ => fun es h q => by cases es <;> cases q
  | .it _ _ => fun es h q => by cases es <;> cases q
  | .lc _ _ _ _ _ _ => fun es h q => by cases es <;> cases q
  | .yes => fun es h q => by cases es <;> cases q
  | .lc2 _ _ _ _ _ _ _ _ _ => fun es h q => by cases es <;> cases q
  | .sortk _ _ => fun es h q => by cases es <;> cases q
  | .lam _ _ _ _ _ => fun es h q => by cases es <;> cases q
  | .lamc _ _ _ _ _ => fun es h q => by cases es <;> cases q
  | .callc _ _ => fun es h q => by cases es <;> cases q
  | .frz _ => fun es h q => by cases es <;> cases q
  | .st _ => fun es h q => by cases es <;> cases q
  | .sset _ => fun es h q => by cases es <;> cases q
  | .jn _ _ => fun es h q => by cases es <;> cases q
  | .di _ => fun es h q => by cases es <;> cases q
  | .dclT => fun es h q => by cases es <;> cases q
  | .sdt _ => fun es h q => by cases es <;> cases q
  | .lcr _ _ _ _ _ => fun es h q => by cases es <;> cases q
  | .rp _ => fun es h q => by cases es <;> cases q
  | .cl _ => fun es h q => by cases es <;> cases q
  | .dc _ _ _ _ _ _ => fun es h q => by cases es <;> cases q
theorem sC (cal : Cal) : (ir : Ex) → OkC cal ir
  | .nil => by
    intro es h ht q
    cases es with
    | nil => exact sc_nil
    | cons _ _ => cases q
  | .cons e r => by
    intro es h ht q
    have hE := fun x => sE cal e x h
    have hR := fun xs => sC cal r xs h ht
    cases es with
    | nil => cases e <;> cases q
    | cons x xs =>
      cases e with
      | lamc N ps fr js b =>
        cases x with
        | Lambda a body sc pos =>
          simp only [ckC, Bool.and_eq_true] at q
          obtain ⟨⟨⟨⟨⟨⟨q1, q2⟩, q3⟩, q4⟩, q5⟩, q6⟩, q7⟩ := q
          obtain ⟨k, _⟩ := h.made q1
          have S := NdefX.nscope_by q2
          have A := plainA q3
          have fo := NdefX.ndef_free q4
          have fr' := NdefX.ndef_fr q4
          refine sc_lamc (d := ⟨N, ps, false, .ret b, fr⟩) k (by rw [defaultsOf_eq, A.e, A.d]; rfl) (h.gd _ _ (by unfold lfCk; simp only [Bool.and_eq_true]; exact ⟨⟨nsB_of q2, q3⟩, q2, q6⟩)) (fun y hy e => ⟨?_, S.free y hy e⟩) fr' ?_ (hR xs q7)
          · rw [h.sc]
            exact fo y hy e
          · rw [h.hN]
            exact of_decide_eq_true q5
        | _ => cases q
      | _ =>
        simp only [ckC, Bool.and_eq_true] at q
        exact sc_cons (hE x q.1.2).pe (hR xs q.2) (star_cons q.1.1)
  | .cst _ => fun es h ht q => by cases es <;> cases q
  | .var _ => fun es h ht q => by cases es <;> cases q
  | .glob _ => fun es h ht q => by cases es <;> cases q
  | .bin _ _ _ => fun es h ht q => by cases es <;> cases q
  | .neg _ => fun es h ht q => by cases es <;> cases q
  | .cmp _ _ _ => fun es h ht q => by cases es <;> cases q
  | .chn _ _ _ _ _ => fun es h ht q => by cases es <;> cases q
  | .and _ _ => fun es h ht q => by cases es <;> cases q
  | .or _ _ => fun es h ht q => by cases es <;> cases q
  | .not _ => fun es h ht q => by cases es <;> cases q
  | .ite _ _ _ => fun es h ht q => by cases es <;> cases q
  | .tup _ => fun es h ht q => by cases es <;> cases q
  | .lst _ => fun es h ht q => by cases es <;> cases q
  | .cel _ => fun es h ht q => by cases es <;> cases q
  | .dcl => fun es h ht q => by cases es <;> cases q
  | .call _ _ => fun es h ht q => by cases es <;> cases q
  | .callp _ _ _ _ => fun es h ht q => by cases es <;> cases q
  | .calv _ _ => fun es h ht q => by cases es <;> cases q
  | .bi _ _ => fun es h ht q => by cases es <;> cases q
  | .isi _ _ => fun es h ht q => by cases es <;> cases q
  | .mt _ _ _ => fun es h ht q => by cases es <;> cases q
  | .ix _ _ => fun es h ht q => by cases es <;> cases q
  | .sl _ _ _ => fun es h ht q => by cases es <;> cases q
  | .no => fun es h ht q => by cases es <;> cases q
  | .pt _ => fun es h ht q => by cases es <;> cases q
  | .it _ _ => fun es h ht q => by cases es <;> cases q
  | .lc _ _ _ _ _ _ => fun es h ht q => by cases es <;> cases q
  | .yes => fun es h ht q => by cases es <;> cases q
  | .lc2 _ _ _ _ _ _ _ _ _ => fun es h ht q => by cases es <;> cases q
  | .sortk _ _ => fun es h ht q => by cases es <;> cases q
  | .lam _ _ _ _ _ => fun es h ht q => by cases es <;> cases q
  | .lamc _ _ _ _ _ => fun es h ht q => by cases es <;> cases q
  | .callc _ _ => fun es h ht q => by cases es <;> cases q
  | .frz _ => fun es h ht q => by cases es <;> cases q
  | .st _ => fun es h ht q => by cases es <;> cases q
  | .sset _ => fun es h ht q => by cases es <;> cases q
  | .jn _ _ => fun es h ht q => by cases es <;> cases q
  | .di _ => fun es h ht q => by cases es <;> cases q
  | .dclT => fun es h ht q => by cases es <;> cases q
  | .sdt _ => fun es h ht q => by cases es <;> cases q
  | .lcr _ _ _ _ _ => fun es h ht q => by cases es <;> cases q
  | .rp _ => fun es h ht q => by cases es <;> cases q
  | .cl _ => fun es h ht q => by cases es <;> cases q
  | .dc _ _ _ _ _ _ => fun es h ht q => by cases es <;> cases q
theorem sK (cal : Cal) : (ir : Ex) → OkK cal ir
  | .nil => by
    intro es h q
    cases es with
    | nil => exact sk_nil
    | cons _ _ => cases q
  | .cons a r => by
    intro es h q
    cases es with
    | nil => cases q
    | cons e es =>
      obtain ⟨nm, e, kp⟩ := e
      simp only [ckK, Bool.and_eq_true] at q
      exact sk_cons (sE cal a e h q.1).pe (sK cal r es h q.2)
  | .cst _ => fun es h q => by cases es <;> cases q
  | .var _ => fun es h q => by cases es <;> cases q
  | .glob _ => fun es h q => by cases es <;> cases q
  | .bin _ _ _ => fun es h q => by cases es <;> cases q
  | .neg _ => fun es h q => by cases es <;> cases q
  | .cmp _ _ _ => fun es h q => by cases es <;> cases q
  | .chn _ _ _ _ _ => fun es h q => by cases es <;> cases q
  | .and _ _ => fun es h q => by cases es <;> cases q
  | .or _ _ => fun es h q => by cases es <;> cases q
  | .not _ => fun es h q => by cases es <;> cases q
  | .ite _ _ _ => fun es h q => by cases es <;> cases q
  | .tup _ => fun es h q => by cases es <;> cases q
  | .lst _ => fun es h q => by cases es <;> cases q
  | .cel _ => fun es h q => by cases es <;> cases q
  | .dcl => fun es h q => by cases es <;> cases q
  | .call _ _ => fun es h q => by cases es <;> cases q
  | .callp _ _ _ _ => fun es h q => by cases es <;> cases q
  | .calv _ _ => fun es h q => by cases es <;> cases q
  | .bi _ _ => fun es h q => by cases es <;> cases q
  | .isi _ _ => fun es h q => by cases es <;> cases q
  | .mt _ _ _ => fun es h q => by cases es <;> cases q
  | .ix _ _ => fun es h q => by cases es <;> cases q
  | .sl _ _ _ => fun es h q => by cases es <;> cases q
  | .no => fun es h q => by cases es <;> cases q
  | .pt _ => fun es h q => by cases es <;> cases q
  | .it _ _ => fun es h q => by cases es <;> cases q
  | .lc _ _ _ _ _ _ => fun es h q => by cases es <;> cases q
  | .yes => fun es h q => by cases es <;> cases q
  | .lc2 _ _ _ _ _ _ _ _ _ => fun es h q => by cases es <;> cases q
  | .sortk _ _ => fun es h q => by cases es <;> cases q
  | .lam _ _ _ _ _ => fun es h q => by cases es <;> cases q
  | .lamc _ _ _ _ _ => fun es h q => by cases es <;> cases q
  | .callc _ _ => fun es h q => by cases es <;> cases q
  | .frz _ => fun es h q => by cases es <;> cases q
  | .st _ => fun es h q => by cases es <;> cases q
  | .sset _ => fun es h q => by cases es <;> cases q
  | .jn _ _ => fun es h q => by cases es <;> cases q
  | .di _ => fun es h q => by cases es <;> cases q
  | .dclT => fun es h q => by cases es <;> cases q
  | .sdt _ => fun es h q => by cases es <;> cases q
  | .lcr _ _ _ _ _ => fun es h q => by cases es <;> cases q
  | .rp _ => fun es h q => by cases es <;> cases q
  | .cl _ => fun es h q => by cases es <;> cases q
  | .dc _ _ _ _ _ _ => fun es h q => by cases es <;> cases q
theorem sP (cal : Cal) : (ir : Ex) → OkP cal ir
  | .no => by
    intro o h q
    cases o with
    | none => exact so_none
    | some _ => cases q
  | .pt a => by
    intro o h q
    cases o with
    | none => cases q
    | some e => exact so_some (sE cal a e h q).pe
  | .nil => fun es h q => by cases es <;> cases q
  | .cons _ _ => fun es h q => by cases es <;> cases q
  | .cst _ => fun es h q => by cases es <;> cases q
  | .var _ => fun es h q => by cases es <;> cases q
  | .glob _ => fun es h q => by cases es <;> cases q
  | .bin _ _ _ => fun es h q => by cases es <;> cases q
  | .neg _ => fun es h q => by cases es <;> cases q
  | .cmp _ _ _ => fun es h q => by cases es <;> cases q
  | .chn _ _ _ _ _ => fun es h q => by cases es <;> cases q
  | .and _ _ => fun es h q => by cases es <;> cases q
  | .or _ _ => fun es h q => by cases es <;> cases q
  | .not _ => fun es h q => by cases es <;> cases q
  | .ite _ _ _ => fun es h q => by cases es <;> cases q
  | .tup _ => fun es h q => by cases es <;> cases q
  | .lst _ => fun es h q => by cases es <;> cases q
  | .cel _ => fun es h q => by cases es <;> cases q
  | .dcl => fun es h q => by cases es <;> cases q
  | .call _ _ => fun es h q => by cases es <;> cases q
  | .callp _ _ _ _ => fun es h q => by cases es <;> cases q
  | .calv _ _ => fun es h q => by cases es <;> cases q
  | .bi _ _ => fun es h q => by cases es <;> cases q
  | .isi _ _ => fun es h q => by cases es <;> cases q
  | .mt _ _ _ => fun es h q => by cases es <;> cases q
  | .ix _ _ => fun es h q => by cases es <;> cases q
  | .sl _ _ _ => fun es h q => by cases es <;> cases q
  | .it _ _ => fun es h q => by cases es <;> cases q
  | .lc _ _ _ _ _ _ => fun es h q => by cases es <;> cases q
  | .yes => fun es h q => by cases es <;> cases q
  | .lc2 _ _ _ _ _ _ _ _ _ => fun es h q => by cases es <;> cases q
  | .sortk _ _ => fun es h q => by cases es <;> cases q
  | .lam _ _ _ _ _ => fun es h q => by cases es <;> cases q
  | .lamc _ _ _ _ _ => fun es h q => by cases es <;> cases q
  | .callc _ _ => fun es h q => by cases es <;> cases q
  | .frz _ => fun es h q => by cases es <;> cases q
  | .st _ => fun es h q => by cases es <;> cases q
  | .sset _ => fun es h q => by cases es <;> cases q
  | .jn _ _ => fun es h q => by cases es <;> cases q
  | .di _ => fun es h q => by cases es <;> cases q
  | .dclT => fun es h q => by cases es <;> cases q
  | .sdt _ => fun es h q => by cases es <;> cases q
  | .lcr _ _ _ _ _ => fun es h q => by cases es <;> cases q
  | .rp _ => fun es h q => by cases es <;> cases q
  | .cl _ => fun es h q => by cases es <;> cases q
  | .dc _ _ _ _ _ _ => fun es h q => by cases es <;> cases q
theorem sI (cal : Cal) : (ir : Ex) → OkI cal ir
  | .it k0 es => by
    intro tg e h q
    cases k0 with
    | seq =>
      change (noStar e && ckA es _ [e]) = true at q
      rw [Bool.and_eq_true] at q
      obtain ⟨q0, q⟩ := q
      cases es with
      | cons a r =>
        have q := ckA_cons q q0
        cases r with
        | nil => exact si_seq (sE cal a e h q.1.2).pe
        | _ => first | (cases q.2; done) | (have z := q.2; simp [ckA] at z)
      | _ => cases q
    | rng =>
      simp only [ckI] at q
      split at q
      · rename_i x px a p
        simp only [Bool.and_eq_true] at q
        obtain ⟨⟨⟨q1, q2⟩, q3⟩, q4⟩ := q
        have e := beq_iff_eq.mp q1
        subst e
        obtain ⟨g1, g2⟩ := h.glOk q2
        cases es with
        | cons a' r =>
          cases r with
          | nil =>
            have q4 := ckA_cons q4 q3
            exact si_rng1 g1 (h.blt _ (by decide +kernel)) (sE cal a' a h q4.1.2).pe q3
          | _ => first | (cases (ckA_cons q4 q3).2; done) | (have z := (ckA_cons q4 q3).2; simp [ckA] at z)
        | _ => cases q4
      · rename_i x px a b p
        simp only [Bool.and_eq_true] at q
        obtain ⟨⟨⟨⟨q1, q2⟩, q3⟩, q4⟩, q5⟩ := q
        have e := beq_iff_eq.mp q1
        subst e
        obtain ⟨g1, g2⟩ := h.glOk q2
        cases es with
        | cons a' r =>
          cases r with
          | cons b' r =>
            cases r with
            | nil =>
              have q5 := ckA_cons q5 q3
              have q52 := ckA_cons q5.2 q4
              rw [evalI2]
              exact si_rng2 g1 (h.blt _ (by decide +kernel)) (sE cal a' a h q5.1.2).pe (sE cal b' b h q52.1.2).pe q3 q4
            | _ => first | (cases (ckA_cons (ckA_cons q5 q3).2 q4).2; done) | (have z := (ckA_cons (ckA_cons q5 q3).2 q4).2; simp [ckA] at z)
          | _ => first | (cases (ckA_cons q5 q3).2; done) | (have z := (ckA_cons q5 q3).2; simp [ckA] at z)
        | _ => cases q5
      · rename_i x px a b d p
        simp only [Bool.and_eq_true] at q
        obtain ⟨⟨⟨⟨⟨q1, q2⟩, q3⟩, q4⟩, q6⟩, q5⟩ := q
        have e := beq_iff_eq.mp q1
        subst e
        obtain ⟨g1, g2⟩ := h.glOk q2
        cases es with
        | cons a' r =>
          cases r with
          | cons b' r =>
            cases r with
            | cons d' r =>
              cases r with
              | nil =>
                have q5 := ckA_cons q5 q3
                have q52 := ckA_cons q5.2 q4
                have q53 := ckA_cons q52.2 q6
                rw [evalI3]
                exact si_rng3 g1 (h.blt _ (by decide +kernel)) (sE cal a' a h q5.1.2).pe (sE cal b' b h q52.1.2).pe (sE cal d' d h q53.1.2).pe q3 q4 q6
              | _ => first | (cases (ckA_cons (ckA_cons (ckA_cons q5 q3).2 q4).2 q6).2; done) | (have z := (ckA_cons (ckA_cons (ckA_cons q5 q3).2 q4).2 q6).2; simp [ckA] at z)
            | _ => first | (cases (ckA_cons (ckA_cons q5 q3).2 q4).2; done) | (have z := (ckA_cons (ckA_cons q5 q3).2 q4).2; simp [ckA] at z)
          | _ => first | (cases (ckA_cons q5 q3).2; done) | (have z := (ckA_cons q5 q3).2; simp [ckA] at z)
        | _ => cases q5
      · cases q
    | zip =>
      simp only [ckI, Bool.and_eq_true] at q
      obtain ⟨qt, q⟩ := q
      cases tg with
      | Tuple elts kk tp =>
        split at q
        · rename_i x px a b p
          simp only [Bool.and_eq_true] at q
          obtain ⟨⟨⟨⟨q1, q2⟩, q3⟩, q4⟩, q5⟩ := q
          have e := beq_iff_eq.mp q1
          subst e
          obtain ⟨g1, g2⟩ := h.glOk q2
          cases es with
          | cons a' r =>
            cases r with
            | cons b' r =>
              cases r with
              | nil =>
                have q5 := ckA_cons q5 q3
                have q52 := ckA_cons q5.2 q4
                rw [evalI2]
                exact si_zip g1 (h.blt _ (by decide +kernel)) (sE cal a' a h q5.1.2).pe (sE cal b' b h q52.1.2).pe q3 q4
              | _ => first | (cases (ckA_cons (ckA_cons q5 q3).2 q4).2; done) | (have z := (ckA_cons (ckA_cons q5 q3).2 q4).2; simp [ckA] at z)
            | _ => first | (cases (ckA_cons q5 q3).2; done) | (have z := (ckA_cons q5 q3).2; simp [ckA] at z)
          | _ => cases q5
        · rename_i x px a b d p
          simp only [Bool.and_eq_true] at q
          obtain ⟨⟨⟨⟨⟨q1, q2⟩, q3⟩, q4⟩, q6⟩, q5⟩ := q
          have e := beq_iff_eq.mp q1
          subst e
          obtain ⟨g1, g2⟩ := h.glOk q2
          cases es with
          | cons a' r =>
            cases r with
            | cons b' r =>
              cases r with
              | cons d' r =>
                cases r with
                | nil =>
                  have q5 := ckA_cons q5 q3
                  have q52 := ckA_cons q5.2 q4
                  have q53 := ckA_cons q52.2 q6
                  rw [evalI3]
                  exact si_zip3 g1 (h.blt _ (by decide +kernel)) (sE cal a' a h q5.1.2).pe (sE cal b' b h q52.1.2).pe (sE cal d' d h q53.1.2).pe q3 q4 q6
                | _ => first | (cases (ckA_cons (ckA_cons (ckA_cons q5 q3).2 q4).2 q6).2; done) | (have z := (ckA_cons (ckA_cons (ckA_cons q5 q3).2 q4).2 q6).2; simp [ckA] at z)
              | _ => first | (cases (ckA_cons (ckA_cons q5 q3).2 q4).2; done) | (have z := (ckA_cons (ckA_cons q5 q3).2 q4).2; simp [ckA] at z)
            | _ => first | (cases (ckA_cons q5 q3).2; done) | (have z := (ckA_cons q5 q3).2; simp [ckA] at z)
          | _ => cases q5
        · cases q
      | _ => cases qt
    | enum =>
      simp only [ckI, Bool.and_eq_true] at q
      obtain ⟨qt, q⟩ := q
      cases tg with
      | Tuple elts kk tp =>
        split at q
        · rename_i x px a p
          simp only [Bool.and_eq_true] at q
          obtain ⟨⟨⟨q1, q2⟩, q3⟩, q4⟩ := q
          have e := beq_iff_eq.mp q1
          subst e
          obtain ⟨g1, g2⟩ := h.glOk q2
          cases es with
          | cons a' r =>
            cases r with
            | nil =>
              have q4 := ckA_cons q4 q3
              exact si_enum g1 (h.blt _ (by decide +kernel)) (sE cal a' a h q4.1.2).pe q3
            | _ => first | (cases (ckA_cons q4 q3).2; done) | (have z := (ckA_cons q4 q3).2; simp [ckA] at z)
          | _ => cases q4
        · cases q
      | _ => cases qt
    | items => cases q
  | .nil => fun tg es h q => by cases q
  | .cons _ _ => fun tg es h q => by cases q
  | .cst _ => fun tg es h q => by cases q
  | .var _ => fun tg es h q => by cases q
  | .glob _ => fun tg es h q => by cases q
  | .bin _ _ _ => fun tg es h q => by cases q
  | .neg _ => fun tg es h q => by cases q
  | .cmp _ _ _ => fun tg es h q => by cases q
  | .chn _ _ _ _ _ => fun tg es h q => by cases q
  | .and _ _ => fun tg es h q => by cases q
  | .or _ _ => fun tg es h q => by cases q
  | .not _ => fun tg es h q => by cases q
  | .ite _ _ _ => fun tg es h q => by cases q
  | .tup _ => fun tg es h q => by cases q
  | .lst _ => fun tg es h q => by cases q
  | .cel _ => fun tg es h q => by cases q
  | .dcl => fun tg es h q => by cases q
  | .call _ _ => fun tg es h q => by cases q
  | .callp _ _ _ _ => fun tg es h q => by cases q
  | .calv _ _ => fun tg es h q => by cases q
  | .bi _ _ => fun tg es h q => by cases q
  | .isi _ _ => fun tg es h q => by cases q
  | .mt _ _ _ => fun tg es h q => by cases q
  | .ix _ _ => fun tg es h q => by cases q
  | .sl _ _ _ => fun tg es h q => by cases q
  | .no => fun tg es h q => by cases q
  | .pt _ => fun tg es h q => by cases q
  | .lc _ _ _ _ _ _ => fun tg es h q => by cases q
  | .yes => fun tg es h q => by cases q
  | .lc2 _ _ _ _ _ _ _ _ _ => fun tg es h q => by cases q
  | .sortk _ _ => fun tg es h q => by cases q
  | .lam _ _ _ _ _ => fun tg es h q => by cases q
  | .lamc _ _ _ _ _ => fun tg es h q => by cases q
  | .callc _ _ => fun tg es h q => by cases q
  | .frz _ => fun tg es h q => by cases q
  | .st _ => fun tg es h q => by cases q
  | .sset _ => fun tg es h q => by cases q
  | .jn _ _ => fun tg es h q => by cases q
  | .di _ => fun tg es h q => by cases q
  | .dclT => fun tg es h q => by cases q
  | .sdt _ => fun tg es h q => by cases q
  | .lcr _ _ _ _ _ => fun tg es h q => by cases q
  | .rp _ => fun tg es h q => by cases q
  | .cl _ => fun tg es h q => by cases q
  | .dc _ _ _ _ _ _ => fun tg es h q => by cases q
end
end Pyi
/-! Pt: what is looked at holds: statements. -/
namespace Pyi
open PySem PySem.Spec PyProof.Rows L2
variable [Gd]
section
variable {c : Ck} {X : Cx} {E : XK} {cal : Cal} {k : Nat} {CX : CXT} {e : Expr}
theorem ckXs_noStar : ∀ {ts : Tx} {es : List Expr}, ckXs ts c es = true → (∀ e ∈ es, noStar e = true) ∧ es.length = ts.len
  | .nil, [], _ => ⟨fun e h => (by cases h), rfl⟩
  | .nil, _ :: _, h => by cases h
  | .cons t r, [], h => by cases h
  | .nm _, _, h => by cases h
  | .sub _ _, _, h => by cases h
  | .subK _ _ _, _, h => by cases h
  | .tup _, _, h => by cases h
  | .cons t r, e :: es, h => by
    simp only [ckXs, Bool.and_eq_true] at h
    obtain ⟨i1, i2⟩ := ckXs_noStar h.2
    refine ⟨fun e' he => ?_, by rw [List.length_cons, i2]; rfl⟩
    rcases List.mem_cons.mp he with rfl | he
    · exact h.1.1
    · exact i1 e' he
theorem notSlice_set {a b : Expr} {p : Pos} {env : Env} (h : notSlice b = true) : ∀ v, assign (.Subscript a b p) env v = (do
      let ov ← holding [v] (eval a env)
      let iv ← holding [v, ov] (eval b env)
      standAt p
      holding [v, ov, iv] (setItem ov iv v)
      release [v, ov, iv] []) := by
  intro v
  cases b <;> first
    | rfl
    | cases h
mutual
theorem sX : ∀ {t : Tx} {e : Expr}, CkOk c X E cal k CX → ckX t c e = true → PG X e (gTx X E (storeT cal t))
  | .nm i, e, h, q => by
    cases e with
    | Name x p =>
      simp only [ckX, Bool.and_eq_true] at q
      obtain ⟨o1, o2⟩ := h.ownOk q.2
      refine PG.imp (sx_nm (E := E) h.nd (h.at q.1) o1 o2) fun v σ H Q hh => ?_
      obtain ⟨F, m, S, σd, w, Y, G, hd, hr⟩ := hh
      refine ⟨F, m, S, σd, w, Y, G, hd, ?_⟩
      rw [storeT] at hr
      exact hr
    | _ => cases q
  | .sub o i, e, h, q => by
    cases e with
    | Subscript a b p =>
      simp only [ckX, Bool.and_eq_true] at q
      refine PG.imp (sx_sub (Nat.lt_of_le_of_lt (Nat.add_le_add_left (by decide) _) h.u) (sE cal o a h q.1.2).pe (sE cal i b h q.2).pe (notSlice_set q.1.1)) fun v σ H Q hh => ?_
      obtain ⟨F, m, S, σd, w, Y, G, hd, hr⟩ := hh
      refine ⟨F, m, S, σd, w, Y, G, hd, ?_⟩
      rw [storeT] at hr
      exact hr
    | _ => cases q
  | .subK o x y, e, h, q => by
    cases e with
    | Subscript a b p =>
      cases b with
      | BinOp l op r p2 =>
        cases op <;> first
          | (cases q; done)
          | (simp only [ckX, Bool.and_eq_true] at q
             refine PG.imp (sx_subK (Nat.lt_of_le_of_lt (Nat.add_le_add_left (by decide) _) h.u) (sE cal o a h q.1.1).pe (sE cal x l h q.1.2).pe (sE cal y r h q.2).pe (notSlice_set rfl)) fun v σ H Q hh => ?_
             obtain ⟨F, m, S, σd, w, Y, G, hd, hr⟩ := hh
             refine ⟨F, m, S, σd, w, Y, G, hd, ?_⟩
             rw [storeT] at hr
             exact hr)
      | _ => cases q
    | _ => cases q
  | .tup ts, e, h, q => by
    cases e with
    | Tuple es kk p =>
      have q : ckXs ts c es = true := q
      obtain ⟨n1, n2⟩ := ckXs_noStar q
      obtain ⟨l1, l2⟩ := assignEach_len (env := X.env) es n1
      refine PG.imp (sx_tup h.calm (sXs h q) (l1.trans n2) l2) fun v σ H Q hh => ?_
      obtain ⟨F, m, S, σd, w, Y, G, hd, hr⟩ := hh
      refine ⟨F, m, S, σd, w, Y, G, hd, ?_⟩
      cases w with
      | d d =>
        cases d with
        | tup ds => rw [storeT] at hr; exact hr
        | lst ds => rw [storeT] at hr; exact hr
        | _ => exact (show False from hr).elim
      | _ => exact (show False from hr).elim
    | _ => cases q
  | .nil, _, _, q => by cases q
  | .cons _ _, _, _, q => by cases q
theorem sXs : ∀ {t : Tx} {es : List Expr}, CkOk c X E cal k CX → ckXs t c es = true → PGs X es (gTxs X E (storeTs cal t))
  | .nil, es, h, q => by
    cases es with
    | nil =>
      refine PGs.imp (sx_nil (E := E)) fun v σ H Q hh => ?_
      obtain ⟨F, m, S, σd, ds, Y, G, hd, hr⟩ := hh
      refine ⟨F, m, S, σd, ds, Y, G, hd, ?_⟩
      cases ds with
      | nil => exact hr
      | cons d ds => exact (show False from hr).elim
    | cons _ _ => cases q
  | .cons t r, es, h, q => by
    cases es with
    | nil => cases q
    | cons e es =>
      simp only [ckXs, Bool.and_eq_true] at q
      refine PGs.imp (sx_cons (sX h q.1.2) (sXs h q.2) (by rw [assignEach_one q.1.1]; rfl)) fun v σ H Q hh => ?_
      obtain ⟨F, m, S, σd, ds, Y, G, hd, hr⟩ := hh
      refine ⟨F, m, S, σd, ds, Y, G, hd, ?_⟩
      cases ds with
      | nil => exact (show False from hr).elim
      | cons d ds => exact hr
  | .nm _, _, _, q => by cases q
  | .sub _ _, _, _, q => by cases q
  | .subK _ _ _, _, _, q => by cases q
  | .tup _, _, _, q => by cases q
end
theorem CkOk.bk (h : CkOk c X E cal k CX) : X.env.blockKind = .function := by
  unfold Env.blockKind
  rw [h.sc, h.kd]
  rfl
theorem CkOk.kindOf (h : CkOk c X E cal k CX) (x : Str) : X.env.kindOf x = c.kind x := by
  unfold Env.kindOf Ck.kind
  rw [h.sc]
theorem swst_ok {tg v : Expr} {r : Option (List Str)} (h : CkOk c X E cal k CX) (q : swst c tg v = some r) : swappedStores [tg] v X.env = pure r := by
  have plain : ∀ (tg v : Expr), (match [tg], v with
    | [.Tuple ts _ _], .Tuple vs _ _ | [.List ts _], .Tuple vs _ _ => some (ts, vs)
    | _, _ => (none : Option (List Expr × List Expr))) = none → swappedStores [tg] v X.env = pure none := fun tg v e => by
    unfold swappedStores
    split
    · rename_i ts vs e2
      have e3 : (none : Option (List Expr × List Expr)) = some (ts, vs) := e.symm.trans e2
      cases e3
    · rfl
  unfold swst at q
  split at q
  · rename_i ts k1 p1 vs k2 p2
    unfold swappedStores
    simp only [h.bk, h.kindOf]
    have e0 : (vs.any fun e : Expr => match e with | .Starred .. => true | _ => false) = vs.any fun e => !noStar e := congrArg (List.any vs) (funext fun e => by cases e <;> rfl)
    have b0 : (!(ts.length == 2 || ts.length == 3) || vs.length != ts.length || ScopeKind.function != ScopeKind.function) = (!(ts.length == 2 || ts.length == 3) || vs.length != ts.length) := by
      rw [show (ScopeKind.function != ScopeKind.function) = false from by decide, Bool.or_false]
    dsimp only at q
    split at q
    · rename_i z
      cases q
      split
      · rfl
      · rename_i w
        exact absurd (b0.trans z) w
    · rename_i z
      split
      · rename_i w
        exact absurd (b0.symm.trans w) z
      · split at q
        · rename_i z
          cases q
          split
          · rfl
          · rename_i w
            exact absurd (e0.trans z) w
        · rename_i z
          split
          · rename_i w
            exact absurd (e0.symm.trans w) z
          · split at q
            · rename_i z
              cases q
              split
              · rfl
              · rename_i w
                exact absurd z w
            · rename_i z
              split
              · rename_i w
                exact absurd w z
              · split at q
                · rename_i z
                  cases q
                  split
                  · rfl
                  · rename_i w
                    exact absurd z w
                · rename_i z
                  split
                  · rename_i w
                    exact absurd w z
                  · split at q
                    · cases q
                    · rename_i z
                      cases q
                      split
                      · rename_i w
                        exact absurd w z
                      · rfl
  · cases q
  · rename_i n1 n2
    cases q
    refine plain tg v ?_
    split
    · rename_i ts kk pp vs k2 p2 e1
      simp only [List.cons.injEq, and_true] at e1
      subst e1
      exact (n2 _ _ _ _ _ _ rfl rfl).elim
    · rename_i ts pp vs k2 p2 e1
      simp only [List.cons.injEq, and_true] at e1
      subst e1
      exact (n1 _ _ rfl).elim
    · rfl
end
end Pyi
/-! Pu: what is looked at holds: statements. -/
namespace Pyi
open PySem PySem.Spec PyProof.Rows L2
variable [Gd]
section
variable {c : Ck} {X : Cx} {E : XK} {cal : Cal} {k : Nat} {CX : CXT} {e : Expr}
theorem notComp_no {v : Expr} {tg : Option Expr} {n : Nat} {env : Env} (h : notComp v = true) : swapsWith v tg n env = pure false := by
  cases v <;> first
    | rfl
    | cases h
theorem swB_ok {tg v : Expr} {n : Nat} (h : CkOk c X E cal k CX) (hv : ∀ a b s p, v ≠ .SetComp a b s p) (hv2 : ∀ a b d s p, v ≠ .DictComp a b d s p) : swapsWithSole [tg] v n X.env = pure (swB c tg v) := by
  show swapsWith v (some tg) n X.env = _
  by_cases hc : notComp v = true
  · rw [notComp_no hc]
    cases v <;> first
      | rfl
      | cases hc
  · cases v with
    | ListComp elt gens s vp =>
      cases tg with
      | Name t pos =>
        show (do return X.env.blockKind == .function && X.env.kindOf t == some .local && pos.line == vp.line && !(s.names.any fun (n, k) => n == t && (k == .local || k == .cell)) : Sem Bool) = _
        rw [h.bk, h.kindOf]
        unfold swB Ck.isLoc
        dsimp only
        congr 1
        have e : (ScopeKind.function == ScopeKind.function && c.kind t == some NameKind.local) = (match c.kind t with | some .local => true | _ => false) := by
          cases c.kind t with
          | none => rfl
          | some q => cases q <;> rfl
        rw [e]
        all_goals rfl
      | _ => rfl
    | SetComp a b s p => exact absurd rfl (hv a b s p)
    | DictComp a b d s p => exact absurd rfl (hv2 a b d s p)
    | _ => exact absurd rfl hc
theorem ckE_noSet {ir : Ex} {v : Expr} (q : ckE ir c v = true) (q4 : notDC v = true) : (∀ a b s p, v ≠ .SetComp a b s p) ∧ ∀ a b d s p, v ≠ .DictComp a b d s p := by
  refine ⟨fun a b s p e => ?_, fun a b d s p e => ?_⟩
  · subst e
    cases ir <;> cases q
  · subst e
    cases q4
theorem isNon_eq {o : Option (Option (List Str))} (h : isNon o = true) : o = some none := by
  rcases o with _ | _ | o
  · cases h
  · rfl
  · cases h
theorem ckNs_noStar : ∀ {is : List Nat} {es : List Expr}, ckNs c is es = true → (∀ e ∈ es, noStar e = true) ∧ es.length = is.length
  | [], [], _ => ⟨fun e h => (by cases h), rfl⟩
  | [], _ :: _, h => by cases h
  | i :: is, [], h => by cases h
  | i :: is, e :: es, h => by
    cases e with
    | Name x p =>
      simp only [ckNs, Bool.and_eq_true] at h
      obtain ⟨i1, i2⟩ := ckNs_noStar h.2
      refine ⟨fun e' he => ?_, by rw [List.length_cons, i2]; rfl⟩
      rcases List.mem_cons.mp he with rfl | he
      · rfl
      · exact i1 e' he
    | _ => cases h
theorem sNs : ∀ {is : List Nat} {es : List Expr}, CkOk c X E cal k CX → ckNs c is es = true → PGs X es (gWs is)
  | [], [], _, _ => gws_nil
  | [], _ :: _, _, h => by cases h
  | i :: is, [], _, h => by cases h
  | i :: is, e :: es, h, q => by
    cases e with
    | Name x p =>
      simp only [ckNs, Bool.and_eq_true] at q
      obtain ⟨o1, o2⟩ := h.ownOk q.1.2
      exact gws_cons h.nd (h.at q.1.1) o1 o2 (sNs h q.2) (by rw [assignEach_one rfl]; rfl)
    | _ => cases q
theorem sAsg {t : Tx} {ir : Ex} {tg v : Expr} {pos : Pos} (h : CkOk c X E cal k CX) (q1 : ckX t c tg = true) (q2 : ckE ir c v = true) (q3 : isNon (swst c tg v) = true) (q4 : notDC v = true) (q5 : notLcr ir = true) : PS X (.Assign [tg] v pos) (tS X E (execS cal (.asg t ir))) := by
  obtain ⟨n1, n2⟩ := ckE_noSet q2 q4
  have hb := swB_ok (tg := tg) (v := v) (n := pos.line) h n1 n2
  cases hs : swB c tg v with
  | false =>
    rw [hs] at hb
    exact st_asg (sE cal ir v h q2).pe (sX h q1) hb (swst_ok h (isNon_eq q3)) (by
      cases tg <;> first
        | rfl
        | (cases t <;> cases q1))
  | true =>
    rw [hs] at hb
    unfold swB at hs
    split at hs
    · rename_i elt gens scope vp t' tp
      simp only [Bool.and_eq_true] at hs
      cases ir with
      | lc cel own tt i q0 e0 =>
        rcases gens with _ | ⟨⟨tg2, iter, ifs, ia⟩, _ | ⟨g2, gs⟩⟩
        · cases q2
        · obtain ⟨rfl, P⟩ := lcParts h (sI cal i) (sE cal q0) (sE cal e0) q2 (pos := vp) (cel := cel)
          cases t with
          | nm j =>
            simp only [ckX, Bool.and_eq_true] at q1
            have w := ss_lc (py := tp) (spos := pos) (pos := vp) cel h.calm h.nd (h.at q1.1) (h.locOk hs.1.1) hb P.hi P.ok P.hg P.ht P.he P.hs P.hj
            rw [own_snd] at w
            have e : execS cal (.asg (.nm j) (.lc cel own tt i q0 e0)) = fun σ S => (fLc cel (evalI cal i) tt.bind (evalE cal q0) (evalE cal e0) own σ S).fl fun w S1 => (if j < σ.length then Res.ok (σ.set j (some w)) S1 else Res.fail).fl fun σ1 S2 => .nx σ1 S2 := by
              funext σ S
              simp only [execS, storeT]
              rfl
            rw [e]
            exact w
          | _ => cases q1
        · cases q2
      | lc2 cel own own2 tt i t2 i2 q0 e0 =>
        simp only [ckE] at q2
        split at q2
        · rename_i heq
          cases heq
          obtain ⟨rfl, rfl, rfl, P⟩ := lc2Parts h (sI cal i) (sI cal i2) (sE cal q0) (sE cal e0) q2
          cases t with
          | nm j =>
            simp only [ckX, Bool.and_eq_true] at q1
            have w := ss_lc2 (py := tp) (spos := pos) (pos := vp) cel h.calm h.nd (h.at q1.1) (h.locOk hs.1.1) hb P
            rw [own_snd] at w
            have e : execS cal (.asg (.nm j) (.lc2 cel own own2 tt i t2 i2 q0 e0)) = fun σ S => (fLc2 cel (evalI cal i) tt.bind (evalI cal i2) t2.bind (evalE cal q0) (evalE cal e0) own own2 σ S).fl fun w S1 => (if j < σ.length then Res.ok (σ.set j (some w)) S1 else Res.fail).fl fun σ1 S2 => .nx σ1 S2 := by
              funext σ S
              simp only [execS, storeT]
              rfl
            rw [e]
            exact w
          | _ => cases q1
        · cases q2
      | lcr _ _ _ _ _ => cases q5
      | _ => cases q2
    · cases hs
end
mutual
theorem sS (cal : Cal) : (s : Stm) → ∀ {c : Ck} {X : Cx} {E : XK} {k : Nat} {CX : CXT} (st : Stmt), CkOk c X E cal k CX → PassesOwn (model X.prog X.w) X.A X.env X.xe → ckS s c st = true → PS X st (tS X E (execS cal s))
  | .asg t ir => by
    intro st h hp q
    cases st with
    | Assign tgs v pos =>
      rcases tgs with _ | ⟨tg, _ | ⟨t2, ts⟩⟩
      · cases q
      · simp only [ckS, Bool.and_eq_true] at q
        exact sAsg h q.1.1.1 q.1.1.2 q.1.2 q.2.1 q.2.2
      · cases q
    | _ => cases q
  | .par is es => by
    intro st h hp q
    cases st with
    | Assign tgs v pos =>
      rcases tgs with _ | ⟨tg, _ | ⟨t2, ts⟩⟩
      · cases q
      · cases tg with
        | Tuple ts kt pt =>
          simp only [ckS] at q
          split at q
          · rename_i x px y py a b k2 p2 i j
            simp only [Bool.and_eq_true] at q
            obtain ⟨⟨⟨⟨⟨⟨q1, q2⟩, q3⟩, q4⟩, q5⟩, q6⟩, q7⟩ := q
            exact st_par2 h.calm h.nd (h.at q1) (h.at q2) (of_decide_eq_true q3) (h.locOk q4) (h.locOk q5) (sA cal es _ h q6).1 (swst_ok (tg := .Tuple _ kt pt) h (of_decide_eq_true q7)) rfl
          · rename_i x px y py z pz a b d k2 p2 i j l
            simp only [Bool.and_eq_true] at q
            obtain ⟨⟨⟨⟨⟨⟨⟨⟨⟨⟨q1, q2⟩, q3⟩, q4⟩, q5⟩, q6⟩, q7⟩, q8⟩, q9⟩, q10⟩, q11⟩ := q
            exact st_par3 h.calm h.nd (h.at q1) (h.at q2) (h.at q3) (of_decide_eq_true q4) (of_decide_eq_true q5) (of_decide_eq_true q6) (h.locOk q7) (h.locOk q8) (h.locOk q9) (sA cal es _ h q10).1 (swst_ok (tg := .Tuple _ kt pt) h (of_decide_eq_true q11)) rfl
          · cases q
        | _ => cases q
      · rcases tg with _ | _ | _ | _ | _ | _ | _ | _ | _ | _ | _ | _ | _ | _ | _ | _ | _ | _ | _ | _ | _ | _ | _ | _ | _ | _ | _ <;> cases q
    | _ => cases q
  | .parT is es => by
    intro st h hp q
    cases st with
    | Assign tgs v pos =>
      rcases tgs with _ | ⟨tg, _ | ⟨t2, ts⟩⟩
      · cases q
      · cases tg with
        | Tuple ts kt pt =>
          cases v with
          | Tuple vs k2 p2 =>
            simp only [ckS, Bool.and_eq_true] at q
            obtain ⟨⟨⟨q1, q2⟩, q3⟩, q4⟩ := q
            obtain ⟨n1, n2⟩ := ckNs_noStar q1
            exact st_parT h.calm (sA cal es _ h q3).1 (sNs h q1) (of_decide_eq_true q2) ((assignEach_len ts n1).1.trans n2) (assignEach_len ts n1).2 (swB_ok (tg := .Tuple ts kt pt) (v := .Tuple vs k2 p2) h (fun _ _ _ _ z => nomatch z) (fun _ _ _ _ _ z => nomatch z)) (swst_ok h (isNon_eq q4)) rfl
          | _ => cases q
        | _ => cases q
      · rcases tg with _ | _ | _ | _ | _ | _ | _ | _ | _ | _ | _ | _ | _ | _ | _ | _ | _ | _ | _ | _ | _ | _ | _ | _ | _ | _ | _ <;> cases q
    | _ => cases q
  | .aug i ir => by
    intro st h hp q
    cases st with
    | AugAssign tg o v pos =>
      cases tg with
      | Name x px =>
        simp only [ckS, Bool.and_eq_true] at q
        obtain ⟨⟨⟨q1, q2⟩, q3⟩, q4⟩ := q
        obtain ⟨o1, o2⟩ := h.ownOk q3
        cases o with
        | Add => exact st_aug h.nd (h.at q2) o1 o2 (sE cal ir v h q4).pe
        | _ => cases q1
      | _ => cases q
    | _ => cases q
  | .exp ir => by
    intro st h hp q
    cases st with
    | Expr v pos =>
      simp only [ckS, Bool.and_eq_true] at q
      exact st_exp (sE cal ir v h q.2).pe (notComp_no q.1)
    | _ => cases q
  | .ife t a b => by
    intro st h hp q
    cases st with
    | If t' xs ys pos =>
      simp only [ckS, Bool.and_eq_true] at q
      exact st_if (sE cal t t' h q.1.1).pt (sSs cal a xs h hp q.1.2) (sSs cal b ys h hp q.2)
    | _ => cases q
  | .whl n t b => by
    intro st h hp q
    cases st with
    | While t' xs ys pos =>
      cases ys with
      | nil =>
        simp only [ckS, Bool.and_eq_true] at q
        exact st_whl hp (sE cal t t' h q.1).pt (sSs cal b xs h hp q.2)
      | cons _ _ => cases q
    | _ => cases q
  | .loop t i b => by
    intro st h hp q
    cases st with
    | For tg it xs ys pos =>
      cases ys with
      | nil =>
        simp only [ckS, Bool.and_eq_true] at q
        exact st_for hp h.calm (sI cal i tg it h q.1.1.1) (sT h q.1.1.2) (sSs cal b xs h hp q.2) (notSet_ok q.1.2)
      | cons _ _ => cases q
    | _ => cases q
  | .ret ir => by
    intro st h hp q
    cases st with
    | Return v pos =>
      cases v with
      | none => cases q
      | some v => exact st_ret (sE cal ir v h q).pe
    | _ => cases q
  | .retN => by
    intro st h hp q
    cases st with
    | Return v pos =>
      cases v with
      | none => exact st_retN
      | some v => cases q
    | _ => cases q
  | .pass => by
    intro st h hp q
    cases st with
    | Pass pos => exact st_pass
    | _ => cases q
  | .brk => by
    intro st h hp q
    cases st with
    | Break pos => exact st_break
    | _ => cases q
  | .cnt => by
    intro st h hp q
    cases st with
    | Continue pos => exact st_cont
    | _ => cases q
  | .never => fun st h hp q => st_never
  | .ndef i N ps fr js b => by
    intro st h hp q
    rename_i c0 X0 E0 k0 CX0
    cases st with
    | FunctionDef name a body decs rets tps sc tsc x pos =>
      cases decs with
      | cons _ _ => cases q
      | nil =>
        cases rets with
        | some _ => cases q
        | none =>
          cases tps with
          | cons _ _ => cases q
          | nil =>
            cases tsc with
            | some _ => cases q
            | none =>
              simp only [ckS, Bool.and_eq_true, List.isEmpty_iff] at q
              obtain ⟨⟨⟨⟨⟨⟨⟨⟨q1, q2⟩, q3⟩, q4⟩, q5⟩, q6⟩, q7⟩, q8⟩, q9⟩ := q
              obtain rfl : name = x := beq_iff_eq.mp q1
              subst q2
              subst q3
              obtain ⟨k, _⟩ := h.made q4
              have A := plainA q8
              have hi := h.at q5
              refine (ss_ndef (E := E0) (d := ⟨N, ps, false, b, []⟩) (i := i) (pos := pos) k A.e A.d (annTrees_plain A) (fun y hy e => absurd e (nsB_free q7 y hy)) (h.gd _ ⟨name, a, .stmts body, sc⟩ (by unfold lfCk; simp only [Bool.and_eq_true]; exact ⟨⟨q7, q8⟩, q9⟩)) rfl h.nd hi (h.ownOk q6).1 (h.ownOk q6).2).imp fun D σ H ⟨F, m, S0, σd, Y, G, hh⟩ => ⟨F, m, S0, σd, Y, G, ?_⟩
              by_cases c : i < σd.length
              · have e : execS cal (.ndef i N ps [] [] b) σd S0 = .nx (σd.set i (some (.lf ⟨N, ps, false, b, []⟩ []))) S0 := by
                  unfold execS
                  rw [if_pos (by simpa using c)]
                rw [e] at hh
                exact hh
              · have e : execS cal (.ndef i N ps [] [] b) σd S0 = .fail := by
                  unfold execS
                  rw [if_neg (by simpa using c)]
                rw [e] at hh
                exact hh.elim
    | _ => cases q
  | .nil => fun st h hp q => by cases q
  | .seq _ _ => fun st h hp q => by cases q
theorem sSs (cal : Cal) : (s : Stm) → ∀ {c : Ck} {X : Cx} {E : XK} {k : Nat} {CX : CXT} (sts : List Stmt), CkOk c X E cal k CX → PassesOwn (model X.prog X.w) X.A X.env X.xe → ckSs s c sts = true → PSs X sts (tS X E (execS cal s))
  | .nil => by
    intro st h hp q
    cases st with
    | nil => exact ss_nil
    | cons _ _ => cases q
  | .seq s r => by
    intro st h hp q
    cases st with
    | nil => cases q
    | cons x xs =>
      simp only [ckSs, Bool.and_eq_true] at q
      exact ss_cons (sS cal s x h hp q.1) (sSs cal r xs h hp q.2)
  | .asg _ _ => fun st h hp q => by cases st <;> cases q
  | .par _ _ => fun st h hp q => by cases st <;> cases q
  | .parT _ _ => fun st h hp q => by cases st <;> cases q
  | .aug _ _ => fun st h hp q => by cases st <;> cases q
  | .exp _ => fun st h hp q => by cases st <;> cases q
  | .ife _ _ _ => fun st h hp q => by cases st <;> cases q
  | .whl _ _ _ => fun st h hp q => by cases st <;> cases q
  | .loop _ _ _ => fun st h hp q => by cases st <;> cases q
  | .ret _ => fun st h hp q => by cases st <;> cases q
  | .retN => fun st h hp q => by cases st <;> cases q
  | .pass => fun st h hp q => by cases st <;> cases q
  | .brk => fun st h hp q => by cases st <;> cases q
  | .cnt => fun st h hp q => by cases st <;> cases q
  | .never => fun st h hp q => by cases st <;> cases q
  | .ndef _ _ _ _ _ _ => fun st h hp q => by cases st <;> cases q
end
end Pyi
/-! Pv: a whole module; the end. -/
namespace Pyi
open PySem PySem.Spec PyProof.Rows L2
variable [Gd]
def DefT.all (e : DefT) : List Shape := Shape.all e.df.ps.length :: e.hs
def Mo.fns (M : Mo) : List (Str × List Str × List Shape) := M.T.map fun e => (e.x, e.df.ps, e.hs)
def findD : List DefT → Str → Option DefT
  | [], _ => none
  | e :: es, x => if e.x = x then some e else findD es x
def Mo.pg (M : Mo) : Pg := ⟨fun x => (findD M.T x).map (·.df), fun x => match M.G.lookup x with
  | some d => some (.d d)
  | none => (findD M.T x).map fun _ => .fn x⟩
def Mo.ck (M : Mo) (nm : Nat → Nat → Str) (e : DefT) : Ck := ⟨e.df.names, defScope e.st, true, M.fns, M.gcd, M.isq, true, e.x ++ (".<locals>." : Str), nm⟩
/-- the look at a function made within -/
def Mo.ck0 (M : Mo) (nm : Nat → Nat → Str) : Ck := ⟨[], defScope (.Pass ⟨0, 0, 0, 0⟩), false, M.fns, M.gcd, M.isq, false, "", nm⟩
def shB (e : DefT) : Bool := e.all.all fun h => decide (h.pi.length = e.df.ps.length) && h.pi.all fun i => decide (i < h.n + h.ks.length)
def Mo.okD (M : Mo) (nm : Nat → Nat → Str) (e : DefT) : Bool := scB e.df.names e.df.ps (defScope e.st) && shB e && ckSs e.df.body (M.ck nm e) (defBody e.st)
def Mo.ok (M : Mo) (P : Program) : Bool := M.T.all fun e => M.okD (nmOf P) e && decide (e.x ∈ topNames P)
def BindsE (e : DefT) (h : Shape) : Prop := ∀ (kV doc pm : Value) (an : Option Addr) (cdv ct : Value) (us ws : List Value), us.length = h.n → ws.length = h.ks.length →
  bindArgs (PySem.W.fnOf e.x e.x (defArgs e.st) (defBody e.st) (defScope e.st) .none kV doc pm an cdv ct) ⟨us, h.ks.zip ws⟩ = pure (e.df.ps.zip (h.out .none us ws))
theorem findD_mem {x : Str} : ∀ {T : List DefT} {e : DefT}, findD T x = some e → e ∈ T ∧ e.x = x
  | [], _, h => by cases h
  | a :: T, e, h => by
    unfold findD at h
    by_cases c : a.x = x
    · rw [if_pos c] at h
      cases h
      exact ⟨List.mem_cons_self, c⟩
    · rw [if_neg c] at h
      obtain ⟨i1, i2⟩ := findD_mem h
      exact ⟨List.mem_cons_of_mem _ i1, i2⟩
theorem fns_lookup {x : Str} {ps : List Str} {hs : List Shape} : ∀ {T : List DefT}, (T.map fun e => (e.x, e.df.ps, e.hs)).lookup x = some (ps, hs) → ∃ e, findD T x = some e ∧ e.df.ps = ps ∧ e.hs = hs
  | [], h => by cases h
  | a :: T, h => by
    rw [List.map_cons, List.lookup_cons] at h
    by_cases c : a.x = x
    · subst c
      simp at h
      exact ⟨a, by unfold findD; rw [if_pos rfl], h.1, h.2⟩
    · have c' : (x == a.x) = false := by simpa using fun z => c z.symm
      rw [c'] at h
      obtain ⟨e, i1, i2⟩ := fns_lookup (T := T) h
      exact ⟨e, by unfold findD; rw [if_neg c]; exact i1, i2⟩
theorem fns_found {x : Str} {e : DefT} : ∀ {T : List DefT}, findD T x = some e → (T.map fun e => (e.x, e.df.ps, e.hs)).lookup x = some (e.df.ps, e.hs)
  | [], h => by cases h
  | a :: T, h => by
    rw [List.map_cons, List.lookup_cons]
    unfold findD at h
    by_cases c : a.x = x
    · rw [if_pos c] at h
      cases h
      subst c
      simp
    · rw [if_neg c] at h
      have c' : (x == a.x) = false := by simpa using fun z => c z.symm
      rw [c']
      exact fns_found h
section
variable {P : Program} {w : World} {K : PySem.W.Frag} {mg : Str → Option Value} {base : Heap} {M : Mo}
/-- what the head has said -/
structure Says (M : Mo) (K : PySem.W.Frag) (mg : Str → Option Value) : Prop where
  fn : ∀ e ∈ M.T, ∃ fd, FunD K e.x e.x (defArgs e.st) (defBody e.st) (defScope e.st) [] [] (He.ga K e.x) fd
  at_ : ∀ e ∈ M.T, mg e.x = some (.ref (He.ga K e.x))
  blt : ∀ x ∈ bis, mg x = none
  gcd : M.gcd = true → mg "gcd" = some (.builtin "math.gcd")
  isq : M.isq = true → mg "isqrt" = some (.builtin "math.isqrt")
  gl : ∀ x d, M.G.lookup x = some d → ∃ u v, mg x = some u ∧ RelV v u ∧ ∀ F m H, AtW K mg F m H (.d d) v
theorem defAt {nm : Nat → Nat → Str} {e : DefT} (h : Says M K mg) (he : e ∈ M.T) (hc : M.okD nm e = true) (hb : ∀ h ∈ e.all, BindsE e h) : ∃ fd, FunD K e.x e.x (defArgs e.st) (defBody e.st) (defScope e.st) [] [] (He.ga K e.x) fd ∧ DefAt K mg e.x (He.ga K e.x) fd e.df.ps e.all := by
  obtain ⟨fd, F⟩ := h.fn e he
  refine ⟨fd, F, h.at_ e he, F.kp, fun s hs => ?_, fun s hs => ?_⟩
  · unfold Mo.okD shB at hc
    simp only [Bool.and_eq_true, List.all_eq_true] at hc
    have := hc.1.2 s hs
    exact ⟨of_decide_eq_true this.1, fun i hi => of_decide_eq_true (this.2 i hi)⟩
  · obtain ⟨oc, od, dV, kV, doc, pm, an, cdv, ct, osl, rfl, lk, hcd, dv, kv⟩ := F.ex
    rcases dv with ⟨_, rfl⟩ | ⟨z, _⟩
    · exact fun us ws h1 h2 => hb s hs kV doc pm an cdv ct us ws h1 h2
    · exact absurd rfl z
end
theorem codB_ok2 {K : PySem.W.Frag} {h : Heap} {x : Str} (KX : K.In h) (c : codB K x = true) : ∃ cd oc od fd sl, K.lookup (gaK K x) = some ⟨oc, od, .func fd, sl⟩ ∧ fd.code = .ref cd ∧ PySem.W.CodeHd h cd (tabAd K x) := by
  unfold codB at c
  split at c
  · rename_i oc od fd sl q1
    split at c
    · rename_i cd q2
      split at c
      · rename_i t od vs sl q3
        simp only [Bool.and_eq_true, decide_eq_true_eq] at c
        obtain ⟨rfl, c2, c3, c4, c5, c6, c7⟩ := c
        refine ⟨cd, _, _, _, _, q1, q2, ?_⟩
        have g2 : vs.getD 11 .none = .ref (tabAd K x) := by
          rw [Array.getD_eq_getD_getElem?, c2]
          rfl
        split at c3
        · rename_i s1 s2 g3
          split at c4
          · rename_i i1 i2 g4
            split at c5
            · rename_i b1 g5
              split at c6
              · rename_i j1 j2 g6
                exact ⟨_, vs, _, _, _, _, _, _, _, KX _ _ q3, rfl, rfl, c2, g2, g3, g4, g5, g6, c7⟩
              · cases c6
            · cases c5
          · cases c4
        · cases c3
      · cases c
    · cases c
  · cases c
theorem codB_ok {K : PySem.W.Frag} {h : Heap} {x : Str} (KX : K.In h) (c : codB K x = true) : ∃ cd, PySem.W.CodeHd h cd (tabAd K x) := by
  obtain ⟨cd, _, _, _, _, _, _, q⟩ := codB_ok2 KX c
  exact ⟨cd, q⟩
/-- what the base has -/
structure BaseOk (P : Program) (K : PySem.W.Frag) (mg : Str → Option Value) (base : Heap) : Prop where
  kin : K.In base
  cod : ∀ x ∈ topNames P, codB K x = true
  bm : ∀ x ∈ topNames P, base.BuiltinsAt mg (tabAd K x)
  ne : ∀ x ∈ topNames P, mainGlobals ≠ tabAd K x
section
variable {P : Program} {w : World} {K : PySem.W.Frag} {mg : Str → Option Value} {base : Heap} {M : Mo}
/-- the part of a look's promises that is the same in every frame -/
theorem ckOk_of {X : Cx} {E : XK} {k : Nat} {c : Ck} (h : Says M K mg) (hc : M.ok P = true) (hb : ∀ e ∈ M.T, ∀ h ∈ e.all, BindsE e h) (eP : X.prog = P) (ew : X.w = w) (eK : X.K = K) (em : X.mg = mg) (eb : X.base = base)
    (iF : ∀ (e : DefT), findD M.T e.x = some e → ∀ fd, FunD K e.x e.x (defArgs e.st) (defBody e.st) (defScope e.st) [] [] (He.ga K e.x) fd → FnG P w K mg base CX0 k (He.ga K e.x) fd e.df.ps (call M.pg k e.x)) (iN : NnG P w K mg base CX0 k (calAt M.pg k).lf)
    (hG : ∀ d T, Gd.ok d T ↔ lfCk (M.ck0 (nmOf P)) d T = true) (hN : X.N = c.N) (nd : X.N.Nodup) (sc : X.env.scope = c.sc) (kd : c.sc.kind = .function) (fn : c.top = true → ∀ x, X.fn x = true) (calm : X.calm = true) (room : RoomG k X.A)
    (ef : c.fns = M.fns) (eg : c.gcd = M.gcd) (ei : c.isq = M.isq) (en : c.nm = nmOf P) (pass : Passes CX0 X E) (mkr : c.mkr = true → X.env.qual = c.qual ∧ c.nm = (tbX X).nm ∧ ∃ cd P, LamX.TabB X.base X.mg cd P ∧ X.env.code = .ref cd ∧ P ∈ (tbX X).ads) : CkOk c X E (calAt M.pg k) k CX0 := by
  subst eP
  subst ew
  subst eK
  subst em
  subst eb
  refine ⟨hN, nd, sc, kd, fn, calm, room, pass, fun _ => pass0, h.blt, fun z => h.gcd (by rw [← eg]; exact z), fun z => h.isq (by rw [← ei]; exact z), fun x w' z => ?_, fun x y z => ?_, fun x ps hs z => ?_, iN, fun d T z => (hG d T).mpr ?_, showX0, mkr⟩
  · have z : (match M.G.lookup x with
      | some d => some (W.d d)
      | none => (findD M.T x).map fun _ => W.fn x) = some w' := by rw [calAt_gl] at z; exact z
    split at z
    · rename_i d ed
      cases z
      exact h.gl x d ed
    · obtain ⟨e2, f2, rfl⟩ := map_some z
      obtain ⟨m2, rfl⟩ := findD_mem f2
      exact ⟨_, .ref (He.ga X.K e2.x), h.at_ e2 m2, rfl, fun F m H => ⟨_, h.at_ e2 m2, rfl⟩⟩
  · have z : (match M.G.lookup x with
      | some d => some (W.d d)
      | none => (findD M.T x).map fun _ => W.fn x) = some (.fn y) := by rw [calAt_gl] at z; exact z
    split at z
    · cases z
    · obtain ⟨e2, f2, _⟩ := map_some z
      rw [ef]
      exact ⟨_, _, fns_found f2⟩
  · rw [ef] at z
    obtain ⟨e2, f2, rfl, rfl⟩ := fns_lookup z
    obtain ⟨m2, rfl⟩ := findD_mem f2
    have hce := List.all_eq_true.mp hc e2 m2
    rw [Bool.and_eq_true] at hce
    obtain ⟨fd2, F2, D2⟩ := defAt h m2 hce.1 (hb e2 m2)
    refine ⟨_, fd2, D2, iF e2 f2 fd2 F2, fun ws S hl => ?_⟩
    show call M.pg k e2.x ws S = .fail
    cases k with
    | zero => rfl
    | succ k =>
      rw [call_succ (d := e2.df) (by show (findD M.T e2.x).map (·.df) = _; rw [f2]; rfl)]
      exact runDf_len hl
  · have e : c.fun d.names T.scope = (M.ck0 (nmOf X.prog)).fun d.names T.scope := by
      unfold Ck.fun Mo.ck0
      rw [ef, eg, ei, en]
    unfold lfCk at z ⊢
    rw [e] at z
    exact z
theorem hideX0 : HideX CX0 P w := fun cs F outer H s E e s' _ _ _ h => h
/-- every def keeps its promise at every level -/
theorem allK (h : Says M K mg) (hc : M.ok P = true) (hb : ∀ e ∈ M.T, ∀ h ∈ e.all, BindsE e h) (B : BaseOk P K mg base) (hG : ∀ d T, Gd.ok d T ↔ lfCk (M.ck0 (nmOf P)) d T = true) : ∀ (k : Nat),
    (∀ (e : DefT), findD M.T e.x = some e → ∀ fd, FunD K e.x e.x (defArgs e.st) (defBody e.st) (defScope e.st) [] [] (He.ga K e.x) fd → FnG P w K mg base CX0 k (He.ga K e.x) fd e.df.ps (call M.pg k e.x)) ∧ NnG P w K mg base CX0 k (calAt M.pg k).lf
  | 0 => ⟨fun e _ fd _ => ⟨fun A outer s H args us vs Q E hr e0 hb r q => by
    obtain ⟨_, F, m, S, ws, _, _, z⟩ := q
    exact z.elim⟩, ⟨fun d A outer s H f us vs Q E hr e0 r q => by
    obtain ⟨_, F, m, S, us, ws, _, _, _, z⟩ := q
    exact z.elim, fun _ _ _ _ _ => rfl⟩⟩
  | k + 1 => by
    obtain ⟨iF, iN⟩ := allK h hc hb B hG k
    refine ⟨fun e hf fd F => ?_, ?_⟩
    · have he := (findD_mem hf).1
      have hce := List.all_eq_true.mp hc e he
      rw [Bool.and_eq_true] at hce
      obtain ⟨hce, htop⟩ := hce
      have htop : e.x ∈ topNames P := by simpa using htop
      have hcb := hce
      unfold Mo.okD at hcb
      simp only [Bool.and_eq_true] at hcb
      have S := scB_ok hcb.1.1
      obtain ⟨oc, od, dV, kV, doc, pm, an, cdv, ct, osl, rfl, lk, hcd, _, _⟩ := F.ex
      have R := fnG_of (CX := CX0) (P := P) (w := w) (mg := mg) (base := base) (k := k) (d := e.df) (c := calAt M.pg k) lk hcd S fun A outer s H E hr => by
        refine (sSs (calAt M.pg k) e.df.body (defBody e.st) (X := (cxOf CX0 P w K mg base e.df.names e.x (defScope e.st) (He.ga K e.x) cdv A outer s H E).nox) (k := k) (CX := CX0) (c := M.ck (nmOf P) e) ?_ PassesOwn.never hcb.2).nox
        refine ckOk_of (P := P) (w := w) (K := K) (mg := mg) (base := base) h hc hb rfl rfl rfl rfl rfl iF iN hG rfl S.nd rfl S.kind (fun _ _ => rfl) rfl hr rfl rfl rfl rfl pass0 fun _ => ⟨rfl, rfl, ?_⟩
        obtain ⟨cd, oc2, od2, fd2, sl2, q1, q2, q3⟩ := codB_ok2 B.kin (B.cod _ htop)
        have q1' : K.lookup (He.ga K e.x) = some ⟨oc2, od2, .func fd2, sl2⟩ := q1
        rw [lk] at q1'
        cases q1'
        exact ⟨cd, tabAd K e.x, ⟨q3, B.bm _ htop, B.ne _ htop⟩, q2, List.mem_map.mpr ⟨e.x, htop, rfl⟩⟩
      have ec : call M.pg (k + 1) e.x = runDf (calAt M.pg k) e.df := by
        funext ws S
        exact call_succ (by show (findD M.T e.x).map (·.df) = _; rw [hf]; rfl)
      rw [ec]
      exact R
    · refine nnG_of (c := calAt M.pg k) hideX0 fun d T g => ?_
      have q := (hG d T).mp g
      unfold lfCk at q
      simp only [Bool.and_eq_true] at q
      obtain ⟨⟨q1, q2⟩, q3⟩ := q
      have A := plainA q2
      have key : NdefX.NScope d.names d.ps d.fr T.scope ∨ (d.fr = [] ∧ FnScope d.names d.ps T.scope ∧ ∃ b, T.body = .stmts b) := by
        cases hT : T.body with
        | stmts b => exact (nsB_cases q1).imp id fun ⟨a, b'⟩ => ⟨a, b', b, rfl⟩
        | expr b =>
          rw [hT] at q3
          have q3 : (_ && _) = true := q3
          rw [Bool.and_eq_true] at q3
          exact .inl (NdefX.nscope_by q3.1)
      rcases key with S | ⟨hfr, S, b, hT⟩
      rotate_left
      · have ndp : d.ps.Nodup := by
          have q := S.nd.sublist (List.take_sublist d.ps.length d.names)
          rw [S.pre] at q
          exact q
        have bd : ∀ (F : MF) (doc pm ctv : Value) (us : List Value), F.t = T → us.length = d.ps.length → bindArgs (F.fd doc pm ctv) ⟨us, []⟩ = pure (d.ps.zip us) := fun F doc pm ctv us et hl => bind_plain (by show PlainA F.t.params d.ps; rw [et]; exact A) rfl ndp hl
        rw [hT] at q3
        refine .inr ⟨hfr, S, bd, b, hT, fun F f A outer s H E et hr => ?_⟩
        refine (sSs (calAt M.pg k) d.body b (X := (cxOf CX0 P w K mg base d.names F.qual T.scope f (.ref F.c) A outer s H E).nox) (k := k) (CX := CX0) (c := (M.ck0 (nmOf P)).fun d.names T.scope) ?_ PassesOwn.never q3).nox
        exact ckOk_of (P := P) (w := w) (K := K) (mg := mg) (base := base) h hc hb rfl rfl rfl rfl rfl iF iN hG rfl S.nd rfl S.kind (fun z => Bool.noConfusion (show false = true from z)) rfl hr rfl rfl rfl rfl pass0 fun z => Bool.noConfusion (show false = true from z)
      have ndp : d.ps.Nodup := by
        have q := S.nd.sublist (List.take_sublist (d.ps.length + d.fr.length) d.names)
        rw [S.pre] at q
        exact (List.nodup_append.mp q).1
      have ck : ∀ (F : MF) (f : Addr) (A : Around) (outer : List Env) (s : Shared) (H : Hp) (E : XK), F.t = T → RoomG k (A.deeper (NdefX.envF F.nf f s.heap.objs.size)) → CkOk ((M.ck0 (nmOf P)).fun d.names T.scope) (nfX CX0 P w K mg base d.names F f A outer s H E).nox E (calAt M.pg k) k CX0 := fun F f A outer s H E et hr =>
        ckOk_of (P := P) (w := w) (K := K) (mg := mg) (base := base) h hc hb rfl rfl rfl rfl rfl iF iN hG rfl S.nd (by show F.t.scope = T.scope; rw [et]) S.kind (fun z => Bool.noConfusion (show false = true from z)) rfl hr rfl rfl rfl rfl pass0 fun z => Bool.noConfusion (show false = true from z)
      refine .inl ⟨S, fun F doc pm ctv us et hl => bind_plain (by show PlainA F.t.params d.ps; rw [et]; exact A) rfl ndp hl, fun F f A outer s H E et hr => ?_⟩
      cases hT : T.body with
      | stmts b =>
        rw [hT] at q3
        exact (sSs (calAt M.pg k) d.body b (ck F f A outer s H E et hr) PassesOwn.never q3).nox
      | expr b =>
        rw [hT] at q3
        rw [Bool.and_eq_true] at q3
        have q3 := q3.2
        cases hd : d.body with
        | ret be =>
          rw [hd] at q3
          exact ⟨be, rfl, (sE (calAt M.pg k) be b (ck F f A outer s H E et hr) q3).pe.nox⟩
        | _ => rw [hd] at q3; cases q3
end
end Pyi
/-! Pw: the law's call. -/
namespace Pyi
open PySem PySem.Spec PyProof.Rows L2
variable [Gd]
/-- what is tracked at the law's call: the script, the tables -/
structure First (t : Tbs) (h : Heap) (H : Hp) (a : Addr) : Prop where
  hA : ∀ b, H b ≠ none → b = a ∨ b ∈ t.ads
  hO : ∀ b, H b = none ∨ b ∈ t.ads ∨ ∃ o xs, H b = some (.frz o (.lst xs))
  hT : ∀ b ∈ t.ads, H b = some (.tbl #[]) ∧ h.get? b = some { cls := .none, data := .fields #[] }
theorem First.no {t : Tbs} {h : Heap} {H : Hp} {a : Addr} (S : First t h H a) {vs : Array Value} (ha : h.get? a = some { cls := .type "list", data := .seq vs }) {b : Addr} {o : Obj} (e : h.get? b = some o) (h1 : ∀ vs n, o.data ≠ .seq vs n) (h2 : o.data ≠ .fields #[]) : H b = none := by
  refine Decidable.byContradiction fun z => ?_
  rcases S.hA b z with q | q
  · subst q
    rw [ha] at e
    cases e
    exact h1 _ _ rfl
  · rw [(S.hT b q).2] at e
    cases e
    exact h2 rfl
theorem hid_base {t : Tbs} {h : Heap} {H : Hp} {a : Addr} (S : First t h H a) {vs : Array Value} (ha : h.get? a = some { cls := .type "list", data := .seq vs }) {b : Addr} {m : Str → Option Value} (n : h.Ns b m) : (hidT h H).Ns b m := by
  obtain ⟨o, es, ep, e, d, r⟩ := n
  refine ⟨o, es, ep, hidT_get e (S.no ha e (fun vs n z => ?_) fun z => ?_), d, r⟩
  · rw [d] at z; cases z
  · rw [d] at z; cases z
section
variable {P : Program} {w : World} {K : PySem.W.Frag} {mg mb : Str → Option Value} {k : Nat} {fa a : Addr} {fd : FuncData} {ps : List Str} {g : List W → Store → Res W} {s₁ : Shared} {vs : List Value} {ns : List Int}
/-- the law's def is called with the script -/
theorem lawG (KX : K.In s₁.heap) (hns : s₁.heap.Ns mainGlobals mg) (hbn : s₁.heap.Ns builtinsNs mb) (hbb : ∀ x : Str, x ≠ "__name__" → mb x = bootBuiltins x) (hlim : s₁.heap.NoLimit) (hg : s₁.gens = #[])
    (hT : ∀ b ∈ (tbOf P K).ads, s₁.heap.get? b = some { cls := .none, data := .fields #[] } ∧ K.lookup b = none) (hC : ∀ b ∈ (tbOf P K).ads, ∃ c, PySem.W.CodeHd s₁.heap c b)
    (ha : s₁.heap.get? a = some { cls := .type "list", data := .seq vs.toArray }) (hi : IntsAre vs ns) (hl : ns.length ≤ sizeLine) (hr : RoomC k callerA) (hcod : ∀ x ∈ topNames P, codB K x = true) (hbm : ∃ bm ob, mg "__builtins__" = some (.ref bm) ∧ bm ≠ builtinsNs ∧ s₁.heap.get? bm = some ob ∧ ob.cls = .type "module" ∧ ob.dict = some builtinsNs ∧ ob.data = .plain) (Fn : ∀ base : Heap, BaseOk P K mg base → FnG P w K mg base CX0 k fa fd ps g)
    (hbind : ∀ (s : Shared) (u : Value), BindsTo s fd ⟨[u], []⟩ (ps.zip [u])) (hp : ps.length = 1) (run : ∃ S, g [.d (.lst (ns.map .int))] [] = .ok (.d (.bl true)) S) :
    codeAny (model P w) callerA (.call (.ref fa) ⟨[.ref a], []⟩) (fun r s' => r = .ok (.ret (.bool true)) ∧ OldK s₁.heap s'.heap ∧ s'.os = s₁.os ∧ AllBare s'.gens) s₁ := by
  obtain ⟨S, run⟩ := run
  have rv : Vals (ns.map V.int) vs := vals_ints hi
  have lenV := hi.length
  have aT : a ∉ (tbOf P K).ads := fun z => by
    have q := (hT a z).1
    rw [ha] at q
    have z' : Data.seq vs.toArray _ = Data.fields #[] := congrArg Obj.data (Option.some.inj q)
    cases z'
  have key : ∀ (H : Hp) (F : Addr → Nat), First (tbOf P K) s₁.heap H a → LstF K F H a (ns.map V.int) → (∀ b, F b ≠ 0 → H b ≠ none) → (∀ b ∈ (tbOf P K).ads, F b = 3) → HOk P w H s₁.heap → (H a ≠ none → K.lookup a = none) →
      codeAny (model P w) callerA (.call (.ref fa) ⟨[.ref a], []⟩) (fun r s' => r = .ok (.ret (.bool true)) ∧ OldK s₁.heap s'.heap ∧ s'.os = s₁.os ∧ AllBare s'.gens) s₁ := fun H F W0 hS hF hF3 hok hK => by
    have KB : K.In (hidT s₁.heap H) := fun b o e => hidT_get (KX b o e) (by
      refine Decidable.byContradiction fun z => ?_
      rcases W0.hA b z with q | q
      · subst q
        rw [hK z] at e
        cases e
      · rw [(hT b q).2] at e
        cases e)
    have MB : Mod K mg (hidT s₁.heap H) := by
      obtain ⟨mc, l1, l2⟩ := hlim
      exact ⟨KB, hid_base W0 ha hns, ⟨mb, hid_base W0 ha hbn, hbb⟩, ⟨mc, hid_base W0 ha l1, l2⟩⟩
    have e0 : Env0 P w K mg (hidT s₁.heap H) callerA [] s₁ H := ⟨rfl, MB, fun b o e => of_hidT e, Nat.le_of_eq (hidT_size _ _), trivial, fun b z => (by cases z), hok, .of_eq hg⟩
    have BO : BaseOk P K mg (hidT s₁.heap H) := by
      have ne : ∀ x ∈ topNames P, mainGlobals ≠ tabAd K x := fun x hx z => by
        obtain ⟨o, es, ep, e, d, r⟩ := hns
        have q := (hT _ (List.mem_map.mpr ⟨x, hx, rfl⟩)).1
        rw [← z, e] at q
        cases q
        cases d
      refine ⟨KB, hcod, fun x hx => ?_, ne⟩
      obtain ⟨bm, ob, b1, b2, b3, b4, b5, b6⟩ := hbm
      refine ⟨bm, ob, b1, b2, fun z => ?_, fun z => ?_, hidT_get b3 (W0.no ha b3 (fun vs n z => ?_) fun z => ?_), b4, b5, b6⟩
      · obtain ⟨o, es, ep, e, d, r⟩ := hns
        rw [z, e] at b3
        cases b3
        rw [d] at b6
        cases b6
      · have q := (hT _ (List.mem_map.mpr ⟨x, hx, rfl⟩)).1
        rw [← z, b3] at q
        cases q
        cases b6
      · rw [b6] at z; cases z
      · rw [b6] at z; cases z
    have atD : ∀ ns : List Int, AtDs K F H (ns.map D.int) (ns.map V.int) := fun ns => by
      induction ns with
      | nil => rfl
      | cons n ns ih => exact ⟨.int n, _, rfl, rfl, ih⟩
    have nil3 : ∀ (pos : Pos) (cv : Value), codeAmong pos ([] : List Value) = some cv → False := fun pos cv z => by simp [codeAmong] at z
    have Y : Wd (tbOf P K) K F [] H [] := ⟨rfl, List.nodup_nil, fun b z => (by cases z), hF, fun i b c h1 h2 => (by simp at h1), fun b hb => ⟨hF3 b hb, #[], (W0.hT b hb).1, True.intro, fun pos cv z => (nil3 pos cv z).elim⟩, fun b vs h => by
      rcases W0.hO b with h0 | h0 | ⟨o, xs, h0⟩
      · rw [h0] at h; cases h
      · rw [(W0.hT b h0).1] at h; cases h
      · rw [h0] at h; cases h⟩
    have sp : SpF P K mg ps.length g [.ref a] H (fun v _ => v = .bl true) (fun _ _ _ => False) := by
      refine ⟨hp.symm, F, [], [], [.d (.lst (ns.map .int))], Y, ⟨_, _, rfl, ⟨a, _, rfl, hS, atD ns⟩, rfl⟩, ?_⟩
      rw [run]
      exact fun F' m' H' x Y' v hv => hv
    refine codeAny_mono ((Fn _ BO).run callerA [] s₁ H ⟨[.ref a], []⟩ [.ref a] [.ref a] _ _ hr e0 (hbind s₁ (.ref a)) (.cons rfl .nil) sp) fun r s' h => ?_
    rcases r with e | fl
    · exact (show False from h).elim
    · cases fl with
      | ret u =>
        obtain ⟨v, H', os, bare, un, hok', r', q⟩ := h
        have q' : v = .bl true := q
        subst q'
        obtain rfl : u = Value.bool true := r'
        have old : ∀ b o, b ∉ (tbOf P K).ads → s₁.heap.get? b = some o → s'.heap.get? b = some o := fun b o nb e => by
          rcases W0.hO b with z | z | ⟨ob, xs, z⟩
          · exact un.keep b o e z (fun t => (by cases t)) (fun t => (by cases t))
          · exact absurd z nb
          · have z2 := un.frzs b ob _ z
            obtain ⟨e1, _⟩ := hok b _ z
            obtain ⟨e2, _⟩ := hok' b _ z2
            rw [e] at e1
            cases e1
            exact e2
        have grown : ∀ b ∈ (tbOf P K).ads, ∃ more : Array Value, s'.heap.get? b = some { cls := .none, data := .fields more } := fun b hb => by
          obtain ⟨more, z⟩ := un.tbls b #[] (W0.hT b hb).1
          exact ⟨_, hok' b _ z⟩
        refine ⟨rfl, ⟨fun b o e => ?_, fun b o e => ?_⟩, os, bare⟩
        · by_cases hb : b ∈ (tbOf P K).ads
          · obtain ⟨more, hm⟩ := grown b hb
            obtain ⟨c, hc⟩ := hC b hb
            rw [(hT b hb).1] at e
            cases e
            exact .inr (.inl ⟨(hc.tab (hT b hb).1).isCodeTable, rfl, #[], more, rfl, by rw [Array.empty_append]; exact hm⟩)
          · exact .inl (old b o hb e)
        · by_cases hb : b ∈ (tbOf P K).ads
          · exact ⟨_, (grown b hb).choose_spec⟩
          · exact ⟨o, old b o hb e⟩
      | _ => exact (show False from h).elim
  cases hk : K.lookup a with
  | some o =>
    have e := KX a o hk
    rw [ha] at e
    cases e
    have hw : SqL K H0 a (ns.map V.int) := .inr ⟨_, vs.toArray, _, hk, rfl, rfl, rfl, by rw [List.size_toArray, lenV]; exact hl, by simpa using rv⟩
    have no : ∀ b, b ∉ (tbOf P K).ads → (if b ∈ (tbOf P K).ads then some (HO.tbl #[]) else none) = none := fun b hb => if_neg hb
    refine key (fun b => if b ∈ (tbOf P K).ads then some (.tbl #[]) else none) (fun b => if b ∈ (tbOf P K).ads then 3 else 0) ⟨fun b z => ?_, fun b => ?_, fun b hb => ⟨if_pos hb, (hT b hb).1⟩⟩ ⟨sqL_wr hw, .inr hw⟩ (fun b z => ?_) (fun b hb => if_pos hb) (fun b u z => ?_) fun z => absurd (no a aT) z
    · exact .inr (Decidable.byContradiction fun hb => z (no b hb))
    · by_cases hb : b ∈ (tbOf P K).ads
      · exact .inr (.inl hb)
      · exact .inl (no b hb)
    · by_cases hb : b ∈ (tbOf P K).ads
      · rw [if_pos hb]; exact fun t => by cases t
      · exact absurd (if_neg hb) z
    · by_cases hb : b ∈ (tbOf P K).ads
      · have z' := (if_pos hb).symm.trans z
        cases z'
        exact (hT b hb).1
      · have z' := (no b hb).symm.trans z
        cases z'
  | none =>
    have hs : (if a = a then some (HO.frz { cls := .type "list", data := .seq vs.toArray } (.lst (ns.map V.int))) else if a ∈ (tbOf P K).ads then some (.tbl #[]) else none) = some (HO.frz { cls := .type "list", data := .seq vs.toArray } (.lst (ns.map V.int))) := if_pos rfl
    have na : ∀ b ∈ (tbOf P K).ads, b ≠ a := fun b hb e => aT (e ▸ hb)
    refine key (fun b => if b = a then some (.frz { cls := .type "list", data := .seq vs.toArray } (.lst (ns.map V.int))) else if b ∈ (tbOf P K).ads then some (.tbl #[]) else none) (fun b => if b = a then 1 else if b ∈ (tbOf P K).ads then 3 else 0) ⟨fun b z => ?_, fun b => ?_, fun b hb => ⟨(if_neg (na b hb)).trans (if_pos hb), (hT b hb).1⟩⟩ ⟨.inl (.inr ⟨_, hs⟩), .inl (if_pos rfl)⟩ (fun b z => ?_) (fun b hb => (if_neg (na b hb)).trans (if_pos hb)) (fun b u z => ?_) fun _ => hk
    · by_cases c : b = a
      · exact .inl c
      · exact .inr (Decidable.byContradiction fun hb => z ((if_neg c).trans (if_neg hb)))
    · by_cases c : b = a
      · exact .inr (.inr ⟨_, _, if_pos c⟩)
      · by_cases hb : b ∈ (tbOf P K).ads
        · exact .inr (.inl hb)
        · exact .inl ((if_neg c).trans (if_neg hb))
    · by_cases c : b = a
      · rw [if_pos c]; exact fun t => by cases t
      · by_cases hb : b ∈ (tbOf P K).ads
        · rw [if_neg c, if_pos hb]; exact fun t => by cases t
        · exact absurd ((if_neg c).trans (if_neg hb)) z
    · by_cases c : b = a
      · have z' := (if_pos c).symm.trans z
        cases z'
        subst c
        exact ⟨ha, by rw [List.length_map]; exact hl, vs, _, rv, ha⟩
      · by_cases hb : b ∈ (tbOf P K).ads
        · have z' := ((if_neg c).trans (if_pos hb)).symm.trans z
          cases z'
          exact (hT b hb).1
        · have z' := ((if_neg c).trans (if_neg hb)).symm.trans z
          cases z'
end
mutual
theorem atB_ok {K : PySem.W.Frag} : ∀ {d : D} {v : Value}, atB K d v = true → ∃ u, RelV u v ∧ ∀ F H, AtD K F H d u
  | .non, v, h => by
    cases v with
    | none => exact ⟨.non, rfl, fun _ _ => rfl⟩
    | _ => cases h
  | .bl b, v, h => by
    cases v with
    | bool c =>
      have e := beq_iff_eq.mp h
      subst e
      exact ⟨.bl b, rfl, fun _ _ => rfl⟩
    | _ => cases h
  | .int i, v, h => by
    cases v with
    | int j t =>
      have e := of_decide_eq_true h
      subst e
      exact ⟨.int i, ⟨t, rfl⟩, fun _ _ => rfl⟩
    | _ => cases h
  | .str x, v, h => by
    cases v with
    | str y t =>
      have e := of_decide_eq_true h
      subst e
      exact ⟨.str x, ⟨t, rfl⟩, fun _ _ => rfl⟩
    | _ => cases h
  | .tup ds, v, h => by
    cases v with
    | ref a =>
      unfold atB at h
      split at h
      · rename_i c od its n sl q
        simp only [Bool.and_eq_true, decide_eq_true_eq] at h
        obtain ⟨rfl, h2, h3⟩ := h
        obtain ⟨us, r, g⟩ := atsB_ok h3
        have sq : ∀ H, SqT K H a us := fun H => .inr ⟨_, its, n, q, rfl, rfl, h2, r⟩
        exact ⟨.ref a, rfl, fun F H => ⟨a, us, rfl, ⟨sq H, .inr (sq H0)⟩, g F H⟩⟩
      · cases h
    | _ => cases h
  | .lst ds, v, h => by cases v <;> cases h
theorem atsB_ok {K : PySem.W.Frag} : ∀ {ds : List D} {vs : List Value}, atsB K ds vs = true → ∃ us, Vals us vs ∧ ∀ F H, AtDs K F H ds us
  | [], vs, h => by
    cases vs with
    | nil => exact ⟨[], .nil, fun _ _ => rfl⟩
    | cons _ _ => cases h
  | d :: ds, vs, h => by
    cases vs with
    | nil => cases h
    | cons v vs =>
      unfold atsB at h
      simp only [Bool.and_eq_true] at h
      obtain ⟨u, r, g⟩ := atB_ok h.1
      obtain ⟨us, rs, gs⟩ := atsB_ok h.2
      exact ⟨u :: us, .cons r rs, fun F H => ⟨u, us, rfl, g F H, gs F H⟩⟩
end
theorem impB_ok {K : PySem.W.Frag} {h : Heap} {mg : Str → Option Value} {b : Bool} {x : Str} {id : String} (KX : K.In h) (N : h.Ns mainGlobals mg) (c : impB K b x id = true) (hb : b = true) : mg x = some (.builtin id) := by
  unfold impB at c
  rw [hb] at c
  exact PySem.W.mg_of KX N (He.eqO_ok c)
theorem says_of {M : Mo} {K : PySem.W.Frag} {h : Heap} {mg : Str → Option Value} (KX : K.In h) (N : h.Ns mainGlobals mg) (c : He.SaysD M.fa M.fn K) (x : M.ex K = true) : Says M K mg := by
  unfold Mo.ex at x
  simp only [Bool.and_eq_true] at x
  obtain ⟨x1, x2, x3⟩ := x
  refine ⟨fun e he => ?_, fun e he => ?_, fun x hx => ?_, impB_ok KX N x2, impB_ok KX N x3, fun x d hd => ?_⟩
  · exact c.defs (d := e.datum) (List.mem_map.mpr ⟨e, he, rfl⟩)
  · exact He.glo_ok KX N (c.facts (List.mem_append_left _ (List.mem_map.mpr ⟨e, he, rfl⟩)))
  · exact He.free_ok KX N (c.facts (List.mem_append_right _ (List.mem_map.mpr ⟨x, hx, rfl⟩)))
  · have hm : (x, d) ∈ M.G := PySem.mem_of_lookup hd
    have hg := List.all_eq_true.mp x1 _ hm
    unfold gB at hg
    split at hg
    · rename_i v q
      obtain ⟨u, r, g⟩ := atB_ok hg
      exact ⟨v, u, PySem.W.mg_of KX N q, r, fun F m H => g F H⟩
    · cases hg
/-! ### what the head is asked: He's facts, whatever else K shows, the tables -/
theorem tabB_ok {K : PySem.W.Frag} {h : Heap} {b : Addr} (c : tabB K h.get? b = true) : h.get? b = some { cls := .none, data := .fields #[] } ∧ K.lookup b = none := by
  unfold tabB at c
  rw [Bool.and_eq_true] at c
  refine ⟨?_, Option.isNone_iff_eq_none.mp c.2⟩
  have c1 := c.1
  split at c1
  · rename_i vs sl q
    rw [Bool.and_eq_true, Array.isEmpty_iff, Array.isEmpty_iff] at c1
    rw [q, c1.1, c1.2]
  · cases c1
/-- what the head tells -/
structure SaysX (P : Program) (M : Mo) (K : PySem.W.Frag) (h : Heap) : Prop where
  fr : K.In h
  d : He.SaysD M.fa M.fn K
  ex : M.ex K = true
  hT : ∀ b ∈ (tbOf P K).ads, h.get? b = some { cls := .none, data := .fields #[] } ∧ K.lookup b = none
  cod : ∀ x ∈ topNames P, codB K x = true
def hookX (P : Program) (M : Mo) (n : Nat) : PySem.W.Hook where
  α := AlX
  obs := fun s => obsX P M n s.heap.get?
  val := fun _ => (He.valD M.fn, true)
  says := fun _ h => ∃ K : PySem.W.Frag, SaysX P M K h
  of := fun _ s e => by
    have e1 := (Prod.mk.inj e).1
    have e2 := (Prod.mk.inj e).2
    simp only [Bool.and_eq_true, List.all_eq_true] at e2
    have KX : (KM s.heap.get? n).In s.heap := He.frG_in
    refine ⟨_, KX, e1, e2.1, fun b hb => ?_, fun x hx => (e2.2 x hx).2⟩
    obtain ⟨x, hx, rfl⟩ := List.mem_map.mp hb
    exact tabB_ok (e2.2 x hx).1
  keeps := fun _ _ _ ⟨K, S⟩ k => ⟨K, PySem.W.Frag.In.keeps S.fr k, S.d, S.ex, fun b hb => ⟨k _ _ (S.hT b hb).1, (S.hT b hb).2⟩, S.cod⟩
theorem obsX_eq {P : Program} {M : Mo} {n : Nat} {g : Addr → Option Obj} {s : Shared} (h : ∀ a, g a = s.heap.get? a) : obsX P M n g = (hookX P M n).obs s := by
  rw [show g = s.heap.get? from funext h]
  rfl
/-- THE END: what the head leaves to show -/
theorem walkG {l : PySem.W.OpenLaw} {n k : Nat} {q : Program} {loose : List Str} {XP : (Str → Option Value) → Heap → Prop} {d : DefRec} {M : Mo} {e : DefT} (hn : l.most = some n) (hn2 : n ≤ sizeLine) (hdf : d.params.defaults = []) (hr : RoomC k callerA) (hd : d.name = "law")
    (he : findD M.T "law" = some e) (hp : e.df.ps.length = 1) (hc : M.ok l.prog = true) (hG : ∀ d T, Gd.ok d T ↔ lfCk (M.ck0 (nmOf l.prog)) d T = true) (hb : ∀ e ∈ M.T, ∀ h ∈ e.all, BindsE e h) (run : ∀ ns : List Int, ns.length ≤ n → ∃ S, call M.pg k "law" [.d (.lst (ns.map .int))] [] = .ok (.d (.bl true)) S) :
    PySem.W.WalkO q loose XP (fun _ h => ∃ K : PySem.W.Frag, SaysX l.prog M K h) l.row.toRowW d [] (fun f vs => PySem.call f vs) := by
  refine Att.attach_call hn hdf fun w s₀ s₁ mg mb fa o pm cd doc a vs ns G Y ho hdd hcd hmg hobj hints hlen hg => ?_
  obtain ⟨K, ⟨KX, c, cx, hT, hcod⟩⟩ := Y
  have S := says_of KX G.T.g c cx
  obtain ⟨he1, hx⟩ := findD_mem he
  have ha := S.at_ e he1
  rw [hd] at hmg
  rw [hx] at ha
  have e2 := hmg.symm.trans ha
  cases e2
  have hce := List.all_eq_true.mp hc e he1
  rw [Bool.and_eq_true] at hce
  obtain ⟨fd, F, DA⟩ := defAt S he1 hce.1 (hb e he1)
  have he' : findD M.T e.x = some e := by rw [hx]; exact he
  have Fn : ∀ base : Heap, BaseOk l.prog K mg base → FnG l.prog w K mg base CX0 k (He.ga K e.x) fd e.df.ps (call M.pg k e.x) := fun base B => (allK S hc hb B hG k).1 e he' fd F
  rw [← hx]
  refine lawG (fd := fd) (ps := e.df.ps) KX G.T.g G.T.b G.T.builtins G.T.nolimit hg hT (fun b hb => by
    obtain ⟨x, hx, rfl⟩ := List.mem_map.mp hb
    exact codB_ok KX (hcod x hx)) hobj hints (Nat.le_trans hlen hn2) hr hcod G.T.bmain Fn (fun s u => ?_) hp (by rw [hx]; exact run ns hlen)
  have b := DA.bd _ List.mem_cons_self [u] [] (by show 1 = _; exact hp.symm) rfl
  refine .of_eq (b.trans ?_)
  congr 1
  unfold Shape.out Shape.all
  rw [hp]
  rfl
end Pyi
/-! Pw0: the head of a text that imports: the opening run in the kernel, off the tree, then the top. -/
noncomputable section
namespace HeadI
open PySem PySem.W PySem.Calls PyProof.Rows HandSHeadRun
theorem impF_ok {tb : String → Option Builtin} {p : Program} {w : World} : ∀ {m : Nat} {s s' : SharedT} {t : Thread}, impF (stepT (denote tb) p w) m s t = some s' → importEnds tb p w m s.abs t = some s'.abs
  | 0, _, _, _, h => by cases h
  | m + 1, s, s', t, h => by
    unfold impF at h
    unfold importEnds
    cases ht : t.atExitBegin with
    | some l =>
      rw [ht] at h
      cases l with
      | nil => cases h; rfl
      | cons x l => cases h
    | none =>
      rw [ht] at h
      dsimp only at h ⊢
      cases hs : stepT (denote tb) p w s t with
      | none => rw [hs] at h; cases h
      | some r =>
        obtain ⟨s2, t2⟩ := r
        rw [hs] at h
        have h3 : (frS s2 fun s' => impF (stepT (denote tb) p w) m s' t2) = some s' := h
        rw [frS_eq] at h3
        rw [stepT_spec hs]
        exact impF_ok h3
theorem startS_abs (p : Program) : (startS p).abs = (start p).1 := rfl
theorem fenceT_ok {m : Str} {s s' : SharedT} (h : fenceT m s = some s') : fenceModule? m s.abs = some s'.abs := by
  unfold fenceT at h
  unfold fenceModule?
  split at h
  · rename_i a row e1 e2
    rw [e1, e2]
    dsimp only
    split at h
    · rename_i o e3
      rw [getT_eq] at e3
      rw [e3]
      dsimp only
      split at h
      · rename_i D e4
        rw [e4]
        dsimp only
        split at h
        · rename_i od ob e5 e6
          rw [getT_eq] at e5
          rw [e5]
          dsimp only
          split at h
          · rename_i od' e7
            rw [e7]
            cases h
            show some _ = some _
            congr 1
            show (⟨(absHeap s.tree s.n s.life).update D (fun _ => od'), s.gens, s.drawn, s.toks, s.os⟩ : Shared) = ⟨absHeap (s.tree.set D fun _ => od') s.n s.life, s.gens, s.drawn, s.toks, s.os⟩
            rw [absHeap_set e6]
          · cases h
        · cases h
      · cases h
    · cases h
  · cases h
theorem fenceTs_ok : ∀ {ms : List Str} {s s' : SharedT}, fenceTs ms s = some s' → fenceAll? ms s.abs = some s'.abs
  | [], s, s', h => by cases h; rfl
  | m :: r, s, s', h => by
    unfold fenceTs at h
    unfold fenceAll?
    cases e : fenceT m s with
    | none => rw [e] at h; cases h
    | some s1 =>
      rw [e] at h
      rw [fenceT_ok e]
      exact fenceTs_ok h
theorem left_imp {p q : Program} {loose : List Str} {Xt : Shared → Bool} {α : Type} {Yf : Shared → α} {Ya : World → α} {N M : Nat} (np : p.main.body.any namesNumpy = false)
    (run : ∀ w : World, (endI (stepT (denote treeTable) (opening p) w) (stepT (denote treeTable) p w) N M p).map (fun r => (looksI p r.1.abs r.2.abs, openSeen q loose (importedModules p.main.body) Xt true r.2.abs, Yf r.2.abs)) = some (true, openGood q loose, Ya w)) :
    LeftO p q loose Xt Yf Ya (N + M) true := fun w => by
  obtain ⟨⟨s0, s⟩, hs, hv⟩ := Option.map_eq_some_iff.mp (run w)
  obtain ⟨l1, l2, l3⟩ : _ ∧ _ ∧ _ := by simpa only [Prod.mk.injEq] using hv
  unfold endI at hs
  cases e1 : impF (stepT (denote treeTable) (opening p) w) N (startS (opening p)) (start (opening p)).2 with
  | none => rw [e1] at hs; cases hs
  | some s1 =>
    rw [e1] at hs
    dsimp only at hs
    cases e2 : fenceTs (importedModules p.main.body) s1 with
    | none => rw [e2] at hs; cases hs
    | some s0' =>
      rw [e2] at hs
      dsimp only at hs
      rw [frS_eq] at hs
      cases e3 : goF (stepT (denote treeTable) p w) s0'.n (s0'.abs.heap.nsMap mainGlobals "__annotations__") M s0' (topStub p) with
      | none => rw [e3] at hs; cases hs
      | some s' =>
        rw [e3] at hs
        cases hs
        have a1 := importEnds_mono M _ _ _ _ (impF_ok e1)
        rw [startS_abs] at a1
        have a2 := fenceTs_ok e2
        have a3 := topRun_mono N _ _ _ _ (goF_ok e3)
        rw [Nat.add_comm M N] at a3
        have f : fencedOpening treeTable p w (N + M) = some s0.abs := by
          unfold fencedOpening
          rw [a1]
          show fenceModules? p s1.abs = _
          unfold fenceModules?
          rw [a2, Option.bind_some, np]
          rfl
        have l1' : looksI p s0.abs s.abs = true := l1
        unfold looksI at l1'
        rw [Bool.and_eq_true] at l1'
        obtain ⟨k1, k2⟩ := l1'
        have t : topFrom treeTable p w (N + M) s0.abs = some s.abs := by
          unfold topFrom
          rw [k1]
          show (topRun treeTable p w s0.abs.heap.objs.size (s0.abs.heap.nsMap mainGlobals "__annotations__") (N + M) s0.abs (topStub p)).bind _ = _
          rw [show s0.abs.heap.objs.size = s0.n from absHeap_size _ _ _, a3]
          show (match staticsOk (importedModules p.main.body) s0.abs.heap s.abs.heap && namesBound p s.abs.heap && gensDone s.abs && laidKept s0.abs.heap s.abs.heap with | true => some s.abs | false => none) = _
          rw [k2]
        unfold openEnds
        rw [f]
        show (topFrom treeTable p w (N + M) s0.abs).map _ = _
        rw [t]
        exact congrArg some (Prod.ext l2 l3)
def RunI (r : OpenRow) (q : Program) (H : Hook) (ob : SharedT → H.α) (N M : Nat) (loose : List PySem.Str) (w : World) : Prop :=
  (endI (stepQ (denQ tabQ) (opening r.prog) w) (stepQ (denQ tabQ) r.prog w) N M r.prog).map (fun s => (looksI r.prog s.1.abs s.2.abs, seenQ q loose (importedModules r.prog.main.body) (fun s => xlAt q [] s && recOk r.toRowW.records s) s.2.abs, ob s.2)) = some (true, openGood q loose, H.val w)
theorem head_imp {r : OpenRow} {q : Program} {H : Hook} {ob : SharedT → H.α} {N M : Nat} {loose : List PySem.Str} {d : DefRec} {kwd : List (PySem.Str × PySem.Expr)} (ho : ∀ s : SharedT, ob s = H.obs s.abs)
    (np : r.prog.main.body.any namesNumpy = false) (run : ∀ w, RunI r q H ob N M loose w)
    (hdef : defOf q r.name = some (d, kwd)) (hp : r.prog.theDef r.name = some (d.params, d.body, d.scope)) (hk : kwWritten? d.params.kwonlyargs d.params.kw_defaults = some kwd)
    (hwr : (!r.writes || r.records.isEmpty) = true) (k1 : r.wellSaid = true) (ok : (chainsOk q && opensWell r.prog && (frees r.toRowW && r.within.isEmpty)) = true) (hb : r.prog.bare) (hw : r.toRowW.promised)
    (call : WalkO q loose (XL q []) H.says r.toRowW d kwd fun f vs => PySem.call f vs) : r.Holds := by
  have left : LeftO r.prog q loose (fun s => xlAt q [] s && recOk r.toRowW.records s) H.obs H.val (N + M) true := left_imp np fun w => by
    have z := run w
    have eo : ob = fun s => H.obs s.abs := funext ho
    unfold RunI at z
    rw [eo] at z
    rw [stepQ_eq, denQ_eq, tabQ_eq]
    simp only [seenQ_eq]
    exact z
  exact holds_open (r := r) (q := q) (loose := loose) (XP := XL q []) (YP := H.says) (d := d) (kwd := kwd) left H.of H.keeps (fun s z => xl_of s (Bool.and_eq_true_iff.mp z).1) XL.keeps hdef hp hk (fun s z => recFacts_of (Bool.and_eq_true_iff.mp z).2) hwr k1 ok hb hw call
/-- two looks at one end -/
theorem two {α β γ : Type} {o : Option α} {f : α → β} {g : α → γ} {a : β} {b : γ} (h1 : o.map f = some a) (h2 : o.map g = some b) : o.map (fun s => (f s, g s)) = some (a, b) := by
  cases o with
  | none => cases h1
  | some s =>
    rw [Option.map_some] at *
    rw [Option.some.inj h1, Option.some.inj h2]
theorem two_l {α β γ : Type} {o : Option α} {f : α → β} {g : α → γ} {a : β} {b : γ} (h : o.map (fun s => (f s, g s)) = some (a, b)) : o.map f = some a := by
  cases o with
  | none => cases h
  | some s =>
    rw [Option.map_some] at *
    rw [(Prod.mk.inj (Option.some.inj h)).1]
theorem two_r {α β γ : Type} {o : Option α} {f : α → β} {g : α → γ} {a : β} {b : γ} (h : o.map (fun s => (f s, g s)) = some (a, b)) : o.map g = some b := by
  cases o with
  | none => cases h
  | some s =>
    rw [Option.map_some] at *
    rw [(Prod.mk.inj (Option.some.inj h)).2]
theorem andB {α : Type} {o : Option α} {f g : α → Bool} (h1 : o.map f = some true) (h2 : o.map g = some true) : o.map (fun s => f s && g s) = some true := by
  cases o with
  | none => cases h1
  | some s =>
    rw [Option.map_some] at *
    rw [Option.some.inj h1, Option.some.inj h2]
    rfl
open Pyi in
theorem tabs_cut {α : Type} {o : Option α} {K : α → PySem.W.Frag} {g : α → Addr → Option Obj} {l : List Str} (c : Nat) (h1 : o.map (fun s => tabsB (l.take c) (K s) (g s)) = some true) (h2 : o.map (fun s => tabsB (l.drop c) (K s) (g s)) = some true) : o.map (fun s => tabsB l (K s) (g s)) = some true := by
  have h := andB h1 h2
  have e : (fun s => tabsB (l.take c) (K s) (g s) && tabsB (l.drop c) (K s) (g s)) = fun s => tabsB l (K s) (g s) := by
    funext s
    unfold tabsB
    rw [← List.all_append, List.take_append_drop]
  rw [e] at h
  exact h
open Pyi in
/-- the run's equation, by its parts -/
theorem run_parts [Gd] {r : OpenRow} {q : Program} {P : Program} {Mo : Mo} {n N M : Nat} {loose : List Str} {w : World}
    (h0 : (endI (stepQ (denQ tabQ) (opening r.prog) w) (stepQ (denQ tabQ) r.prog w) N M r.prog).map (fun s => looksI r.prog s.1.abs s.2.abs) = some true)
    (h1 : (endI (stepQ (denQ tabQ) (opening r.prog) w) (stepQ (denQ tabQ) r.prog w) N M r.prog).map (fun s => seenQ q loose (importedModules r.prog.main.body) (fun s => xlAt q [] s && recOk r.toRowW.records s) s.2.abs) = some (openGood q loose))
    (h2 : (endI (stepQ (denQ tabQ) (opening r.prog) w) (stepQ (denQ tabQ) r.prog w) N M r.prog).map (fun s => (Mo.fa.all fun f => f.ok (KM (getT s.2) n)) && Mo.fn.all fun d => d.ok (KM (getT s.2) n)) = some true)
    (h2' : (endI (stepQ (denQ tabQ) (opening r.prog) w) (stepQ (denQ tabQ) r.prog w) N M r.prog).map (fun s => Mo.fn.map fun d => He.fnW (KM (getT s.2) n) d.at_) = some (Mo.fn.map He.DefD.val))
    (h3 : (endI (stepQ (denQ tabQ) (opening r.prog) w) (stepQ (denQ tabQ) r.prog w) N M r.prog).map (fun s => Mo.ex (KM (getT s.2) n)) = some true)
    (h4 : (endI (stepQ (denQ tabQ) (opening r.prog) w) (stepQ (denQ tabQ) r.prog w) N M r.prog).map (fun s => tabsB (topNames P) (KM (getT s.2) n) (getT s.2)) = some true) :
    RunI r q (hookX P Mo n) (fun s => obsX P Mo n (getT s)) N M loose w := by
  unfold RunI
  have a := two h0 (two h1 (two (two h2 h2') (andB h3 h4)))
  exact a
end HeadI
end
/-! Px: tools for the runs of forms. -/
namespace Pyi
open PySem PySem.Spec PyProof.Rows L2
@[simp] theorem calAt_fn (P : Pg) (k : Nat) : (calAt P k).fn = call P k := rfl
@[simp] theorem bind_nm (i : Nat) (d : D) (σ : Sg) : (Tg.nm i).bind d σ = if i < σ.length then some (σ.set i (some (.d d))) else none := by rw [Tg.bind]
@[simp] theorem bind_tup (ts : Tg) (ds : List D) (σ : Sg) : (Tg.tup ts).bind (.tup ds) σ = ts.binds ds σ := by rw [Tg.bind]
@[simp] theorem calAt_lf (P : Pg) (k : Nat) : (calAt P k).lf = callf P k := rfl
section
variable {c : Cal} {σ : Sg} {S : Store} {i : Nat} {w : W} {ts r t : Tx} {ds : List D} {d : D} {o k : Ex}
@[simp] theorem storeT_nm : storeT c (.nm i) w σ S = if i < σ.length then .ok (σ.set i (some w)) S else .fail := by rw [storeT]
@[simp] theorem storeT_sub : storeT c (.sub o k) w σ S = (evalE c o σ S).bind fun a S1 => (evalE c k σ S1).bind fun k S2 => match setC S2 a k w with
    | some S3 => .ok σ S3
    | none => .fail := by
  rw [storeT]
  all_goals rfl
@[simp] theorem storeT_tup : storeT c (.tup ts) (.d (.tup ds)) σ S = if ds.length = ts.len then storeTs c ts ds σ S else .fail := by rw [storeT]
@[simp] theorem storeT_lst : storeT c (.tup ts) (.d (.lst ds)) σ S = if ds.length = ts.len then storeTs c ts ds σ S else .fail := by rw [storeT]
@[simp] theorem storeTs_nil : storeTs c .nil [] σ S = .ok σ S := by rw [storeTs]
@[simp] theorem storeTs_cons : storeTs c (.cons t r) (d :: ds) σ S = (storeT c t (.d d) σ S).bind fun σ1 S1 => storeTs c r ds σ1 S1 := by rw [storeTs]
@[simp] theorem next_bk (k : Sg → Store → Fl) : (Fl.bk σ S).next k = .bk σ S := rfl
@[simp] theorem next_ct (k : Sg → Store → Fl) : (Fl.ct σ S).next k = .ct σ S := rfl
@[simp] theorem next_exc (e : Exc) (k : Sg → Store → Fl) : (Fl.exc e S).next k = .exc e S := rfl
/-- a cell is written, appended to, extended -/
@[simp] theorem setC_lst {p : Nat} {n d : D} : setC S (.ref p) (.d n) (.d d) = match S[p]? with
    | some (.lst ds) => match n with
      | .int k => (ixN ds.length k).map fun j => S.set p (.lst (ds.set j d))
      | _ => none
    | some (.dct kvs) => match keyD n with
      | some k => if kvs.length < 16777216 then some (S.set p (.dct (putD kvs k d))) else none
      | none => none
    | some (.tks _) => none
    | none => none := rfl
@[simp] theorem mtW_append {p : Nat} : mtW .append S (.ref p) [.d d] = match S[p]? with
    | some (.lst ds) => if ds.length < 16777216 then .ok (.d .non) (S.set p (.lst (ds ++ [d]))) else .fail
    | _ => .fail := rfl
@[simp] theorem mtW_extend {p : Nat} {es : List D} : mtW .extend S (.ref p) [.d (.lst es)] = match S[p]? with
    | some (.lst ds) => if fit (ds.length + es.length) then .ok (.d .non) (S.set p (.lst (ds ++ es))) else .fail
    | _ => .fail := rfl
end
@[simp] theorem Res.tru_ok (w : W) (S : Store) : Res.tru (.ok w S) = Res.of S (truW S w) := rfl
@[simp] theorem Res.quiet_ok {α : Type} (w : α) (S : Store) : Res.quiet (.ok w S) = .ok w S := rfl
@[simp] theorem Res.fl_exc {α : Type} (e : Exc) (S : Store) (k : α → Store → Fl) : (Res.exc e S : Res α).fl k = .exc e S := rfl
theorem mulOk_of {i j : Int} (h : i.natAbs < 2 ^ 64) : mulOk i j = true := by unfold mulOk; simp [h]
theorem mulOk_of2 {i j : Int} (h : j.natAbs < 2 ^ 64) : mulOk i j = true := by unfold mulOk; simp [h]
/-- divisors that are small enough -/
theorem divOk_of {j : Int} (h : j ≠ 0) (h2 : j.natAbs < 2 ^ 64) : divOk j = true := by
  unfold divOk
  have h3 : j.natAbs.log2 < 9000 := by
    have h0 : j.natAbs ≠ 0 := by omega
    have := (Nat.log2_lt h0).mpr h2
    omega
  simp [h, h3]
@[simp] theorem forTurn_eq (ft : D → Sg → Option Sg) (f : Sg → Store → Fl) (d : D) (σ : Sg) (S : Store) : forTurn ft f d σ S = match ft d σ with
      | some σ1 => f σ1 S
      | none => .fail := rfl
@[simp] theorem lcTurn_eq (ft : D → Sg → Option Sg) (fq fe : Sg → Store → Res W) (own : List Nat) (σ : Sg) (d : D) (S : Store) : lcTurn ft fq fe own σ d S = match ft d (wipeW σ own) with
        | some σ1 => (fq σ1 S).bind fun b S1 => match truW S1 b with
          | some true => (fe σ1 S1).bind fun w S2 => match w with
            | .d x => .ok (some x) S2
            | _ => .fail
          | some false => .ok none S1
          | none => .fail
        | none => .fail := rfl
/-! what is walked -/
@[simp] theorem itW_tup (S : Store) (ds : List D) : itW .seq S [.d (.tup ds)] = some ds := rfl
@[simp] theorem itW_lst (S : Store) (ds : List D) : itW .seq S [.d (.lst ds)] = some ds := rfl
@[simp] theorem itW_enum (S : Store) (ds : List D) : itW .enum S [.d (.lst ds)] = some (ds.zipIdx.map fun p => .tup [.int p.2, p.1]) := rfl
@[simp] theorem itW_enumT (S : Store) (ds : List D) : itW .enum S [.d (.tup ds)] = some (ds.zipIdx.map fun p => .tup [.int p.2, p.1]) := rfl
@[simp] theorem itW_zipL (S : Store) (a b : List D) : itW .zip S [.d (.lst a), .d (.lst b)] = some ((a.zip b).map fun p => .tup [p.1, p.2]) := rfl
@[simp] theorem itW_zipT (S : Store) (a b : List D) : itW .zip S [.d (.tup a), .d (.tup b)] = some ((a.zip b).map fun p => .tup [p.1, p.2]) := rfl
@[simp] theorem itW_zip3 (S : Store) (a b c : List D) : itW .zip S [.d (.tup a), .d (.tup b), .d (.tup c)] = some ((a.zip (b.zip c)).map fun p => .tup [p.1, p.2.1, p.2.2]) := rfl
def range0 (n : Nat) : List Int := (List.range n).map fun (i : Nat) => (i : Int)
def rangeI (a b : Int) : List Int := (List.range (b - a).toNat).map fun (i : Nat) => (a + i : Int)
theorem rng1 (S : Store) {n : Int} (h : n.natAbs < 2000000000000000000) : itW .rng S [.d (.int n)] = some ((range0 n.toNat).map D.int) := by
  show guard' (rngOk n) ((List.range n.toNat).map fun (i : Nat) => D.int (0 + i)) = _
  rw [rngOk_of h]
  simp [range0, Function.comp_def]
theorem rng2 (S : Store) {a b : Int} (h : a.natAbs < 2000000000000000000) (h2 : b.natAbs < 2000000000000000000) : itW .rng S [.d (.int a), .d (.int b)] = some ((rangeI a b).map D.int) := by
  show guard' (rngOk a && rngOk b) ((List.range (b - a).toNat).map fun (i : Nat) => D.int (a + i)) = _
  rw [rngOk_of h, rngOk_of h2]
  simp [rangeI, Function.comp_def]
theorem mem_range0 {n : Nat} {x : Int} : x ∈ range0 n ↔ 0 ≤ x ∧ x < n := by
  unfold range0
  rw [List.mem_map]
  refine ⟨fun ⟨i, hi, e⟩ => ?_, fun h => ⟨x.toNat, List.mem_range.mpr (by omega), by omega⟩⟩
  have := List.mem_range.mp hi
  omega
theorem mem_rangeI {a b x : Int} : x ∈ rangeI a b ↔ a ≤ x ∧ x < b := by
  unfold rangeI
  rw [List.mem_map]
  refine ⟨fun ⟨i, hi, e⟩ => ?_, fun h => ⟨(x - a).toNat, List.mem_range.mpr (by omega), by omega⟩⟩
  have := List.mem_range.mp hi
  omega
theorem len_range0 (n : Nat) : (range0 n).length = n := by simp [range0]
theorem len_rangeI (a b : Int) : (rangeI a b).length = (b - a).toNat := by simp [rangeI]
/-! comparisons that no order of constructors settles -/
@[simp] theorem eqD_int (i j : Int) : eqD (.int i) (.int j) = some (i == j) := rfl
@[simp] theorem eqD_str (i j : Str) : eqD (.str i) (.str j) = some (decide (i = j)) := rfl
@[simp] theorem eqD_bl (i j : Bool) : eqD (.bl i) (.bl j) = some (i == j) := rfl
/-- a comprehension whose turns change nothing -/
theorem mergeSort2 {α : Type} (le : α → α → Bool) (x y : α) : [x, y].mergeSort le = if le x y then [x, y] else [y, x] := by
  rw [List.mergeSort]
  simp [List.MergeSort.Internal.splitInTwo, List.merge]
theorem sortBy2 (x y kx ky : D) : sortBy [x, y] [kx, ky] = if leS kx ky then [x, y] else [y, x] := by
  unfold sortBy
  simp [mergeSort2]
  split <;> rfl
theorem lcLoop_pure {f : D → Store → Res (Option D)} {g : D → Option D} {S : Store} : ∀ {ds : List D}, (∀ d ∈ ds, f d S = .ok (g d) S) → lcLoop f ds S = .ok (ds.filterMap g) S
  | [], _ => rfl
  | d :: ds, h => by
    have i := lcLoop_pure (ds := ds) fun d hd => h d (List.mem_cons_of_mem _ hd)
    show ((f d S).quiet.bind fun o S1 => (lcLoop f ds S1).bind fun r S2 => .ok (match o with
    | some x => x :: r
    | none => r) S2) = _
    rw [h d List.mem_cons_self]
    show ((lcLoop f ds S).bind fun r S2 => .ok (match g d with
    | some x => x :: r
    | none => r) S2) = _
    rw [i, List.filterMap_cons]
    cases g d <;> rfl
/-- .. as an expression -/
theorem lc_run {c : Cal} {own : List Nat} {t : Tg} {i q e : Ex} {σ : Sg} {S : Store} {items : List D} (g : D → Option D) (hi : evalI c i σ S = .ok items S) (hf : items.length ≤ 16777216) (h : ∀ d ∈ items, lcTurn t.bind (evalE c q) (evalE c e) own σ d S = .ok (g d) S) : evalE c (.lc false own t i q e) σ S = .ok (.d (.lst (items.filterMap g))) S := by
  show ((evalI c i σ S).bind fun items S1 => _) = _
  rw [hi, Res.bind_ok, if_pos (by unfold fit; exact decide_eq_true hf), lcLoop_pure (g := g) h]
  rfl
@[simp] theorem abs_ite (x : Int) : (if x < 0 then -x else x) = (x.natAbs : Int) := by split <;> omega
theorem minL_of {xs : List Int} {m : Int} (h : m ∈ xs) (h2 : ∀ y ∈ xs, m ≤ y) : minL xs = some m := by
  have key : ∀ (l : List Int) (m0 : Int), l.foldl min m0 ≤ m0 ∧ (∀ y ∈ l, l.foldl min m0 ≤ y) ∧ (l.foldl min m0 = m0 ∨ l.foldl min m0 ∈ l) := by
    intro l
    induction l with
    | nil => exact fun m0 => ⟨Int.le_refl _, fun y hy => (by cases hy), .inl rfl⟩
    | cons x l ih =>
      intro m0
      obtain ⟨h1, h2, h3⟩ := ih (min m0 x)
      refine ⟨Int.le_trans h1 (Int.min_le_left _ _), fun y hy => ?_, ?_⟩
      · rcases List.mem_cons.mp hy with rfl | hy
        · exact Int.le_trans h1 (Int.min_le_right _ _)
        · exact h2 y hy
      · rcases h3 with h3 | h3
        · show List.foldl min (min m0 x) l = m0 ∨ List.foldl min (min m0 x) l ∈ x :: l
          rw [h3]
          by_cases c : m0 ≤ x
          · exact .inl (by omega)
          · exact .inr (by rw [show min m0 x = x by omega]; exact List.mem_cons_self)
        · exact .inr (List.mem_cons_of_mem _ h3)
  cases xs with
  | nil => cases h
  | cons x xs =>
    obtain ⟨k1, k2, k3⟩ := key xs x
    show some (xs.foldl min x) = some m
    congr 1
    have a1 : xs.foldl min x ≤ m := by
      rcases List.mem_cons.mp h with rfl | h
      · exact k1
      · exact k2 m h
    have a2 : m ≤ xs.foldl min x := by
      rcases k3 with k3 | k3
      · rw [k3]; exact h2 x List.mem_cons_self
      · exact h2 _ (List.mem_cons_of_mem _ k3)
    omega
/-- a for loop by an invariant of what is left -/
theorem forLoop_inv {f : D → Sg → Store → Fl} (I : List D → Sg → Store → Prop) (step : ∀ d ds σ S, I (d :: ds) σ S → ∃ σ' S', f d σ S = .nx σ' S' ∧ I ds σ' S') : ∀ (ds : List D) (σ : Sg) (S : Store), I ds σ S → ∃ σ' S', forLoop f ds σ S = .nx σ' S' ∧ I [] σ' S'
  | [], σ, S, h => ⟨σ, S, rfl, h⟩
  | d :: ds, σ, S, h => by
    obtain ⟨σ1, S1, e, h1⟩ := step d ds σ S h
    obtain ⟨σ2, S2, e2, h2⟩ := forLoop_inv I step ds σ1 S1 h1
    exact ⟨σ2, S2, by unfold forLoop; rw [e]; exact e2, h2⟩
/-- a while loop by a measure -/
theorem whlLoop_inv {t : Sg → Store → Res Bool} {f : Sg → Store → Fl} (I : Nat → Sg → Store → Prop) (R : Sg → Store → Prop)
    (step : ∀ m σ S, I m σ S → (t σ S = .ok false S ∧ R σ S) ∨ (t σ S = .ok true S ∧ ∃ m' σ' S', m' < m ∧ f σ S = .nx σ' S' ∧ I m' σ' S')) : ∀ (n m : Nat) (σ : Sg) (S : Store), m < n → I m σ S → ∃ σ' S', whlLoop t f n σ S = .nx σ' S' ∧ R σ' S'
  | 0, m, σ, S, hm, _ => absurd hm (Nat.not_lt_zero _)
  | n + 1, m, σ, S, hm, h => by
    rcases step m σ S h with ⟨e, r⟩ | ⟨e, m', σ', S', h1, h2, h3⟩
    · refine ⟨σ, S, ?_, r⟩
      unfold whlLoop
      rw [e]
      rfl
    · obtain ⟨σ2, S2, e2, r⟩ := whlLoop_inv I R step n m' σ' S' (by omega) h3
      refine ⟨σ2, S2, ?_, r⟩
      unfold whlLoop
      rw [e]
      show (match f σ S with
        | .nx σ1 S2 => whlLoop t f n σ1 S2
        | .ct σ1 S2 => whlLoop t f n σ1 S2
        | .bk σ1 S2 => .nx σ1 S2
        | r => r) = _
      rw [h2]
      exact e2
/-! ### what repr, sorted want -/
mutual
def D.fine : D → Bool
  | .int i => decide (i.natAbs < 1000000000000)
  | .str x => x.cps.toList.all fun c => decide (c < 4294967296)
  | .tup ds => fines ds
  | .lst ds => fines ds
  | _ => true
def fines : List D → Bool
  | [] => true
  | d :: ds => d.fine && fines ds
end
mutual
theorem fine_show : ∀ d : D, d.fine = true → d.toP.leavesShort 13 = true ∧ d.toP.showable = true
  | .non, _ => ⟨rfl, rfl⟩
  | .bl _, _ => ⟨rfl, rfl⟩
  | .int i, h => by
    have h : i.natAbs < 1000000000000 := of_decide_eq_true h
    refine ⟨?_, ?_⟩
    · rw [D.toP, PyData.leavesShort]
      exact decide_eq_true (PyData.shown_int_le (by omega))
    · rw [D.toP, PyData.showable]
      refine decide_eq_true ?_
      by_cases h0 : i.natAbs = 0
      · rw [h0]; decide
      · have := (Nat.log2_lt h0 (k := 40)).mpr (by omega)
        omega
  | .str x, h => ⟨by rw [D.toP, PyData.leavesShort]; exact h, by rw [D.toP]; rfl⟩
  | .tup ds, h => by
    rw [D.toP, PyData.leavesShort, PyData.showable]
    exact fines_show ds h
  | .lst ds, h => by
    rw [D.toP, PyData.leavesShort, PyData.showable]
    exact fines_show ds h
theorem fines_show : ∀ ds : List D, fines ds = true → PyData.leavesShortAll 13 (toPs ds) = true ∧ PyData.showableAll (toPs ds) = true
  | [], _ => ⟨rfl, rfl⟩
  | d :: ds, h => by
    unfold fines at h
    simp only [Bool.and_eq_true] at h
    obtain ⟨a1, a2⟩ := fine_show d h.1
    obtain ⟨b1, b2⟩ := fines_show ds h.2
    rw [toPs, PyData.leavesShortAll, PyData.showableAll, a1, a2, b1, b2]
    exact ⟨rfl, rfl⟩
end
theorem fines_all {ds : List D} (h : ∀ d ∈ ds, d.fine = true) : fines ds = true := by
  induction ds with
  | nil => rfl
  | cons d ds ih =>
    unfold fines
    rw [h d List.mem_cons_self, ih fun d hd => h d (List.mem_cons_of_mem _ hd)]
    rfl
def D.bulk (d : D) : Nat := d.toP.bulk
def bulks (ds : List D) : Nat := PyData.bulkAll (toPs ds)
@[simp] theorem bulk_int (i : Int) : (D.int i).bulk = 0 := rfl
@[simp] theorem bulk_bl (i : Bool) : (D.bl i).bulk = 0 := rfl
@[simp] theorem bulk_non : D.non.bulk = 0 := rfl
@[simp] theorem bulk_str (x : Str) : (D.str x).bulk = x.cps.size := rfl
@[simp] theorem bulk_tup (ds : List D) : (D.tup ds).bulk = bulks ds := by unfold D.bulk bulks; rw [D.toP, PyData.bulk]
@[simp] theorem bulk_lst (ds : List D) : (D.lst ds).bulk = bulks ds := by unfold D.bulk bulks; rw [D.toP, PyData.bulk]
@[simp] theorem bulks_nil : bulks [] = 0 := rfl
@[simp] theorem bulks_cons (d : D) (ds : List D) : bulks (d :: ds) = d.bulk + 1 + bulks ds := by unfold D.bulk bulks; rw [toPs, PyData.bulkAll]
theorem bulks_le {c : Nat} {ds : List D} (h : ∀ d ∈ ds, d.bulk ≤ c) : bulks ds ≤ ds.length * (c + 1) := by
  induction ds with
  | nil => exact Nat.zero_le _
  | cons d ds ih =>
    have h1 := h d List.mem_cons_self
    have h2 := ih fun d hd => h d (List.mem_cons_of_mem _ hd)
    rw [bulks_cons, List.length_cons, Nat.succ_mul]
    omega
@[simp] theorem depth_int (i : Int) : (D.int i).depth = 0 := rfl
@[simp] theorem depth_bl (i : Bool) : (D.bl i).depth = 0 := rfl
@[simp] theorem depth_non : D.non.depth = 0 := rfl
@[simp] theorem depth_str (x : Str) : (D.str x).depth = 0 := rfl
@[simp] theorem depth_tup (ds : List D) : (D.tup ds).depth = depths ds + 1 := by unfold D.depth depths; rw [D.toP, PyData.depth]
@[simp] theorem depth_lst (ds : List D) : (D.lst ds).depth = depths ds + 1 := by unfold D.depth depths; rw [D.toP, PyData.depth]
@[simp] theorem depths_nil : depths [] = 0 := rfl
@[simp] theorem depths_cons (d : D) (ds : List D) : depths (d :: ds) = max d.depth (depths ds) := by unfold D.depth depths; rw [toPs, PyData.depthAll]
theorem depths_le {c : Nat} {ds : List D} (h : ∀ d ∈ ds, d.depth ≤ c) : depths ds ≤ c := by
  induction ds with
  | nil => exact Nat.zero_le _
  | cons d ds ih =>
    rw [depths_cons]
    exact Nat.max_le.mpr ⟨h d List.mem_cons_self, ih fun d hd => h d (List.mem_cons_of_mem _ hd)⟩
theorem reprOk_of {d : D} (h : d.fine = true) (hb : d.bulk ≤ 1000000) (hd : d.depth ≤ 64) : reprOk d = true := by
  obtain ⟨h1, h2⟩ := fine_show d h
  have h3 := PyData.shown_le_bulk 13 (by decide) d.toP h1
  unfold reprOk D.showable fit
  rw [h2]
  have h4 : d.shown.length ≤ 16777216 := by
    unfold D.bulk at hb
    show d.toP.shown.length ≤ _
    have : (13 + 2) * d.toP.bulk ≤ 15 * 1000000 := Nat.mul_le_mul (Nat.le_refl _) hb
    omega
  simp [hd, h4]
/-! equality, order of data -/
def eqvL (xs ys : List D) : Bool := PyData.eqvAll (toPs xs) (toPs ys)
def ltL (xs ys : List D) : Bool := PyProof.Rows.lexLt PyProof.Rows.itemOrd (PySem.W.keyToksAll (toPs xs)) (PySem.W.keyToksAll (toPs ys))
def alikeL (xs ys : List D) : Bool := PySem.W.alikeAll (toPs xs) (toPs ys)
@[simp] theorem eqv_int (x y : Int) : (D.int x).eqv (.int y) = (x == y) := by
  show (x == y) = (x == y)
  rfl
@[simp] theorem eqv_bl (x y : Bool) : (D.bl x).eqv (.bl y) = (x == y) := rfl
@[simp] theorem eqv_tup (xs ys : List D) : (D.tup xs).eqv (.tup ys) = eqvL xs ys := by unfold D.eqv eqvL; rw [D.toP, D.toP, PyData.eqv]
@[simp] theorem eqv_lst (xs ys : List D) : (D.lst xs).eqv (.lst ys) = eqvL xs ys := by unfold D.eqv eqvL; rw [D.toP, D.toP, PyData.eqv]
@[simp] theorem eqvL_nil : eqvL [] [] = true := rfl
@[simp] theorem eqvL_cons (x y : D) (xs ys : List D) : eqvL (x :: xs) (y :: ys) = (x.eqv y && eqvL xs ys) := by unfold D.eqv eqvL; rw [toPs, toPs, PyData.eqvAll]
@[simp] theorem alike_int (x y : Int) : (D.int x).alike (.int y) = true := rfl
@[simp] theorem alike_str (x y : Str) : (D.str x).alike (.str y) = true := rfl
@[simp] theorem alike_bl (x y : Bool) : (D.bl x).alike (.bl y) = true := rfl
@[simp] theorem alike_tup (xs ys : List D) : (D.tup xs).alike (.tup ys) = alikeL xs ys := by unfold D.alike alikeL; rw [D.toP, D.toP, PySem.W.alike]
@[simp] theorem alike_lst (xs ys : List D) : (D.lst xs).alike (.lst ys) = alikeL xs ys := by unfold D.alike alikeL; rw [D.toP, D.toP, PySem.W.alike]
@[simp] theorem alikeL_nil (ys : List D) : alikeL [] ys = true := by
  unfold alikeL
  rw [toPs]
  cases toPs ys <;> rfl
@[simp] theorem alikeL_cons (x y : D) (xs ys : List D) : alikeL (x :: xs) (y :: ys) = (x.alike y && alikeL xs ys) := by unfold D.alike alikeL; rw [toPs, toPs, PySem.W.alikeAll]
@[simp] theorem lt_int (x y : Int) : (D.int x).lt (.int y) = decide (x < y) := PySem.W.dataLt_int x y
@[simp] theorem lt_str (x y : Str) : (D.str x).lt (.str y) = decide (x.cps.toList < y.cps.toList) := PySem.W.dataLt_str x y
@[simp] theorem lt_tup (xs ys : List D) : (D.tup xs).lt (.tup ys) = ltL xs ys := by unfold D.lt ltL; rw [D.toP, D.toP]; exact PySem.W.dataLt_tuple _ _
@[simp] theorem lt_lst (xs ys : List D) : (D.lst xs).lt (.lst ys) = ltL xs ys := by unfold D.lt ltL; rw [D.toP, D.toP]; exact PySem.W.dataLt_list _ _
@[simp] theorem ltL_nil : ltL [] [] = false := by rfl
theorem ltL_cons {x y : D} (xs ys : List D) (h : x.alike y = true) : ltL (x :: xs) (y :: ys) = if x.eqv y = true then ltL xs ys else x.lt y := by
  unfold D.alike at h
  unfold ltL D.eqv D.lt
  rw [toPs, toPs]
  by_cases c : PyData.eqv x.toP y.toP = true
  · rw [if_pos c]
    exact PySem.W.dataLt_all_yes h c
  · rw [if_neg c]
    exact PySem.W.dataLt_all_no h (by simpa using c)
/-- lists of a store's end -/
@[simp] theorem set_end (S : Store) (c d : Cell) : (S ++ [c]).set S.length d = S ++ [d] := by
  rw [List.set_append_right _ _ (Nat.le_refl _), Nat.sub_self]
  rfl
@[simp] theorem take_end (S : Store) (c : Cell) : (S ++ [c]).take S.length = S := by
  rw [List.take_append_of_le_length (Nat.le_refl _), List.take_length]
theorem filterMap_ints {p : Int → Bool} {g : D → Option D} (h : ∀ i, g (.int i) = if p i then some (.int i) else none) : ∀ xs : List Int, (xs.map D.int).filterMap g = (xs.filter p).map D.int
  | [] => rfl
  | x :: xs => by
    rw [List.map_cons, List.filterMap_cons, h, List.filter_cons]
    cases p x with
    | true => simp [filterMap_ints h xs]
    | false => simp [filterMap_ints h xs]
theorem filterMap_some {α : Type} {f : α → D} {g : D → Option D} {r : α → D} (h : ∀ a, g (f a) = some (r a)) : ∀ xs : List α, (xs.map f).filterMap g = xs.map r
  | [] => rfl
  | x :: xs => by rw [List.map_cons, List.filterMap_cons, h, List.map_cons, filterMap_some h xs]
theorem intsOf_map : ∀ xs : List Int, intsOf (xs.map D.int) = some xs
  | [] => rfl
  | x :: xs => by
    rw [List.map_cons]
    show (intsOf (xs.map D.int)).map (x :: ·) = _
    rw [intsOf_map xs]
    rfl
theorem boolsOf_map : ∀ xs : List Bool, boolsOf (xs.map D.bl) = some xs
  | [] => rfl
  | x :: xs => by
    rw [List.map_cons]
    show (boolsOf (xs.map D.bl)).map (x :: ·) = _
    rw [boolsOf_map xs]
    rfl
theorem sortOk_mk {ds : List D} (h1 : ds.length ≤ 16777216) (h2 : ∀ a ∈ ds, ∀ b ∈ ds, a.alike b = true) (h3 : ∀ a ∈ ds, a.depth ≤ 64 ∧ (match a with | .non => false | .lst _ => false | .tup [] => false | _ => true) = true) : sortOk ds = true := by
  unfold sortOk fit allAlike
  rw [decide_eq_true h1, Bool.true_and, Bool.and_eq_true, List.all_eq_true, List.all_eq_true]
  refine ⟨fun a ha => List.all_eq_true.mpr fun b hb => h2 a ha b hb, fun a ha => ?_⟩
  rw [Bool.and_eq_true]
  exact ⟨decide_eq_true (h3 a ha).1, (h3 a ha).2⟩
end Pyi
/-! Py: names, boats: tools for the laws that draw them. -/
namespace Pyi
open PySem PySem.Spec PyProof.Rows L2
theorem str_eq {a b : Str} (h : a.cps.toList = b.cps.toList) : a = b := by
  cases a with
  | mk x => cases b with
    | mk y =>
      have : x = y := Array.toList_inj.mp h
      rw [this]
theorem cps_app (a b : Str) : (a ++ b).cps.toList = a.cps.toList ++ b.cps.toList := by
  show (a.cps ++ b.cps).toList = _
  simp
theorem str_len (a : Str) : a.length = a.cps.toList.length := by
  show a.cps.size = _
  simp
theorem len_app (a b : Str) : (a ++ b).length = a.length + b.length := by
  rw [str_len, str_len, str_len, cps_app, List.length_append]
theorem sIx_of {n d : Nat} {i : Int} (h0 : 0 ≤ i) (h1 : i ≤ (n : Int)) : HT.sIx n d (some i) = i.toNat := by
  show (if i < 0 then (i + (n : Int)).toNat else min i.toNat n) = _
  rw [if_neg (by omega), Nat.min_eq_left (by omega)]
theorem cut_to {x : Str} {i : Int} (h0 : 0 ≤ i) (h1 : i ≤ (x.length : Int)) : (cutS x none (some i)).cps.toList = x.cps.toList.take i.toNat := by
  unfold cutS
  rw [HT.sIx_none, sIx_of h0 h1]
  simp
theorem cut_from {x : Str} {i : Int} (h0 : 0 ≤ i) (h1 : i ≤ (x.length : Int)) : (cutS x (some i) none).cps.toList = x.cps.toList.drop i.toNat := by
  unfold cutS
  rw [HT.sIx_none, sIx_of h0 h1, str_len]
  show List.take _ _ = _
  rw [← List.length_drop]
  exact List.take_length
/-! ### small letters -/
def Low (s : Str) : Prop := ∀ c ∈ s.cps.toList, 97 ≤ c ∧ c ≤ 122
abbrev abc : Str := "abcdefghijklmnopqrstuvwxyz"
theorem abc_at : abc.cps.toList = (List.range 26).map (97 + ·) := by decide +kernel
theorem abc_len : abc.length = 26 := by decide +kernel
theorem in_abc {c : Nat} (h1 : 97 ≤ c) (h2 : c ≤ 122) : inD (.str ⟨#[c]⟩) (.str abc) = some true := by
  have key : ∀ k : Fin 26, (!(Builtin.Str.occurrences abc ⟨#[97 + k.val]⟩ 0 abc.length 1).isEmpty) = true := by decide +kernel
  have := key ⟨c - 97, by omega⟩
  show some _ = some true
  rw [show c = 97 + (c - 97) by omega]
  exact congrArg some this
theorem sign_abc {i : Int} (h0 : 0 ≤ i) (h1 : i < 26) : signAt abc i = some (.str ⟨#[97 + i.toNat]⟩) := by
  unfold signAt atI ixN
  rw [if_pos h0, ← str_len, abc_len, if_pos (by omega), Option.bind_some, abc_at, List.getElem?_map, List.getElem?_range (by omega)]
  rfl
theorem low_sign {c : Nat} (h1 : 97 ≤ c) (h2 : c ≤ 122) : Low ⟨#[c]⟩ := fun d hd => by
  have : d = c := by simpa using hd
  subst this
  exact ⟨h1, h2⟩
theorem low_app {a b : Str} (ha : Low a) (hb : Low b) : Low (a ++ b) := fun c hc => by
  rw [cps_app] at hc
  rcases List.mem_append.mp hc with h | h
  · exact ha c h
  · exact hb c h
theorem low_nil : Low ("" : Str) := fun c hc => by
  have : ("" : Str).cps.toList = [] := by decide +kernel
  rw [this] at hc
  cases hc
/-! ### names -/
/-- words that are no names -/
def wordsS : List Str := ["wind", "wall", "to", "swap", "row", "rope", "room", "reach", "place", "none", "move", "long",
  "let", "harbour", "from", "field", "each", "clear", "buoy", "boat", "away", "at", "apart", "alike"]
structure NmOk (s : Str) : Prop where
  low : Low s
  l1 : 1 ≤ s.length
  l8 : s.length ≤ 8
  nw : s ∉ wordsS
/-- a single sign, or one with a q, is no such word -/
theorem nw_of_q {s : Str} (h : s.length = 1 ∨ 113 ∈ s.cps.toList) : s ∉ wordsS := fun hm => by
  have key : ∀ w ∈ wordsS, w.length ≠ 1 ∧ 113 ∉ w.cps.toList := by decide +kernel
  exact h.elim (key s hm).1 (key s hm).2
@[simp] theorem eqv_str (x y : Str) : (D.str x).eqv (.str y) = decide (x = y) := by
  show PyData.eqv (D.toP _) (D.toP _) = _
  rw [D.toP, D.toP, PyData.eqv]
  rfl
theorem NmOk.notIn {s : Str} (h : NmOk s) {ds : List D} (hw : ∀ d ∈ ds, ∃ w ∈ wordsS, d = .str w) : inD (.str s) (.tup ds) = some false := by
  show inDs _ _ = _
  unfold inDs
  have e : (ds.any fun d => d.eqv (.str s)) = false := by
    rw [List.any_eq_false]
    intro d hd
    obtain ⟨w, hm, rfl⟩ := hw d hd
    rw [eqv_str]
    simpa using fun z : w = s => h.nw (z ▸ hm)
  rw [e]
  have : decide (min (depths ds) (D.str s).depth ≤ 64) = true := by
    rw [depth_str]
    simp
  rw [this]
  rfl
def wordsB (ds : List D) : Bool := ds.all fun d => match d with
  | .str w => decide (w ∈ wordsS)
  | _ => false
theorem wordsB_ok {ds : List D} (h : wordsB ds = true) : ∀ d ∈ ds, ∃ w ∈ wordsS, d = .str w := fun d hd => by
  have := List.all_eq_true.mp h d hd
  cases d with
  | str w => exact ⟨w, of_decide_eq_true this, rfl⟩
  | _ => cases this
/-- order of names -/
def ltN (x y : Str) : Prop := x.cps.toList < y.cps.toList
instance (x y : Str) : Decidable (ltN x y) := inferInstanceAs (Decidable (_ < _))
theorem ltN_irrefl (x : Str) : ¬ ltN x x := List.lt_irrefl _
theorem ltN_trans {x y z : Str} (h : ltN x y) (k : ltN y z) : ltN x z := List.lt_trans h k
theorem ltN_total {x y : Str} (h : x ≠ y) : ltN x y ∨ ltN y x := by
  by_cases c : ltN x y
  · exact .inl c
  · by_cases d : ltN y x
    · exact .inr d
    · exact absurd (str_eq (List.le_antisymm (List.not_lt.mp d) (List.not_lt.mp c))) h
theorem lt_strN (x y : Str) : (D.str x).lt (.str y) = decide (ltN x y) := lt_str x y
def leN (x y : Str) : Bool := !decide (ltN y x)
theorem leN_total (x y : Str) : (leN x y || leN y x) = true := by
  unfold leN
  by_cases c : ltN y x
  · by_cases d : ltN x y
    · exact absurd (ltN_trans c d) (ltN_irrefl _)
    · simp [d]
  · simp [c]
theorem leN_trans (x y z : Str) (h : leN x y = true) (k : leN y z = true) : leN x z = true := by
  unfold leN at *
  simp only [Bool.not_eq_true', decide_eq_false_iff_not] at *
  intro c
  by_cases e : x = y
  · subst e
    exact k c
  · rcases ltN_total e with e | e
    · exact k (ltN_trans c e)
    · exact h e
/-- names, sorted -/
theorem sort_names (xs : List Str) (h : xs.Nodup) : ∃ ss : List Str, (xs.map D.str).mergeSort leS = ss.map D.str ∧ ss.Perm xs ∧ ss.Pairwise ltN := by
  have hp : (xs.mergeSort leN).Perm xs := List.mergeSort_perm xs leN
  refine ⟨xs.mergeSort leN, ?_, hp, ?_⟩
  · refine (List.map_mergeSort fun a _ b _ => ?_).symm
    unfold leS leN
    rw [lt_strN]
  · have h1 : (xs.mergeSort leN).Pairwise fun a b => leN a b = true := List.pairwise_mergeSort leN_trans leN_total xs
    have h2 : (xs.mergeSort leN).Nodup := hp.nodup_iff.mpr h
    refine (h1.and h2).imp fun {a b} ⟨h3, h4⟩ => ?_
    unfold leN at h3
    simp only [Bool.not_eq_true', decide_eq_false_iff_not] at h3
    exact (ltN_total h4).resolve_right h3
theorem sortOk_names {xs : List Str} (h : xs.length ≤ 1000) : sortOk (xs.map D.str) = true := by
  refine sortOk_mk (by rw [List.length_map]; omega) (fun a ha b hb => ?_) fun a ha => ?_
  · obtain ⟨x, _, rfl⟩ := List.mem_map.mp ha
    obtain ⟨y, _, rfl⟩ := List.mem_map.mp hb
    exact alike_str x y
  · obtain ⟨x, _, rfl⟩ := List.mem_map.mp ha
    simp
theorem ltD_str (x y : Str) : ltD (.str x) (.str y) = some (decide (ltN x y)) := by
  show guard' (okl _ _) _ = _
  rw [lt_strN]
  unfold okl
  simp
theorem eqvL_cons_nil (x : D) (xs : List D) : eqvL (x :: xs) [] = false := by
  unfold eqvL
  rw [toPs, toPs]
  rfl
theorem eqvL_nil_cons (x : D) (xs : List D) : eqvL [] (x :: xs) = false := by
  unfold eqvL
  rw [toPs, toPs]
  rfl
theorem eqD_tnil (ds : List D) : eqD (.tup ds) (.tup []) = some ds.isEmpty := by
  show guard' (okq _ _) _ = _
  rw [eqv_tup]
  unfold okq
  rw [depth_tup []]
  have : decide (min (D.tup ds).depth (depths [] + 1) ≤ 64) = true := by
    rw [depths_nil]
    exact decide_eq_true (by omega)
  rw [this]
  cases ds with
  | nil => rfl
  | cons d ds => rw [eqvL_cons_nil]; rfl
theorem eqD_lnil (ds : List D) : eqD (.lst ds) (.lst []) = some ds.isEmpty := by
  show guard' (okq _ _) _ = _
  rw [eqv_lst]
  unfold okq
  rw [depth_lst []]
  have : decide (min (D.lst ds).depth (depths [] + 1) ≤ 64) = true := by
    rw [depths_nil]
    exact decide_eq_true (by omega)
  rw [this]
  cases ds with
  | nil => rfl
  | cons d ds => rw [eqvL_cons_nil]; rfl
theorem atI_end (xs : List D) (x : D) : atI (xs ++ [x]) (-1) = some x := by
  unfold atI ixN
  rw [if_neg (by decide), List.length_append, List.length_singleton, if_pos (by omega)]
  rw [Option.bind_some]
  rw [show (-1 + (((xs.length + 1 : Nat)) : Int)).toNat = xs.length by omega]
  simp
theorem cutL_to {α : Type} (xs : List α) {i : Int} (h0 : 0 ≤ i) (h1 : i ≤ (xs.length : Int)) : cutL xs none (some i) = xs.take i.toNat := by
  unfold cutL
  rw [HT.sIx_none, sIx_of h0 h1]
  simp
theorem cutL_from {α : Type} (xs : List α) {i : Int} (h0 : 0 ≤ i) (h1 : i ≤ (xs.length : Int)) : cutL xs (some i) none = xs.drop i.toNat := by
  unfold cutL
  rw [HT.sIx_none, sIx_of h0 h1, ← List.length_drop]
  exact List.take_length
theorem atI_nat {α : Type} (xs : List α) {i : Nat} (h : i < xs.length) : atI xs (i : Int) = some xs[i] := by
  unfold atI ixN
  rw [if_pos (by omega), if_pos (by omega), Option.bind_some, Int.toNat_natCast]
  exact List.getElem?_eq_getElem h
theorem itW_str (S : Store) {s : Str} (h : s.length ≤ 16777216) : itW .seq S [.d (.str s)] = some (s.cps.toList.map fun c => D.str ⟨#[c]⟩) := by
  show guard' (fit s.length) _ = _
  rw [show fit s.length = true from decide_eq_true h]
  rfl
/-! ### boats -/
structure Bt where
  nm : Str
  rope : Int
  long : Int
  deriving DecidableEq
abbrev Bt.d (b : Bt) : D := .tup [.str b.nm, .int b.rope, .int b.long]
structure Bt.Ok (b : Bt) : Prop where
  nm : NmOk b.nm
  r0 : 0 ≤ b.rope
  r9 : b.rope ≤ 99
  l1 : 1 ≤ b.long
  l9 : b.long ≤ 99
structure Boats (bs : List Bt) : Prop where
  ne : bs ≠ []
  l7 : bs.length ≤ 7
  ok : ∀ b ∈ bs, b.Ok
  asc : bs.Pairwise fun a b => ltN a.nm b.nm
theorem in_tup {s : Str} {nms : List Str} (h : s ∈ nms) : inD (.str s) (.tup (nms.map .str)) = some true := by
  show inDs _ _ = _
  unfold inDs
  have : decide (min (depths (nms.map D.str)) (D.str s).depth ≤ 64) = true := by
    rw [depth_str]
    simp
  rw [this]
  show some _ = some _
  congr 1
  rw [List.any_map, List.any_eq_true]
  exact ⟨s, h, by simp⟩
theorem filter_nm : ∀ {bs : List Bt} {b : Bt}, bs.Pairwise (fun a b => ltN a.nm b.nm) → b ∈ bs → bs.filter (fun c => decide (c.nm = b.nm)) = [b]
  | c :: bs, b, h, hb => by
    obtain ⟨h1, h2⟩ := List.pairwise_cons.mp h
    rcases List.mem_cons.mp hb with rfl | hb
    · rw [List.filter_cons, if_pos (by simp)]
      congr 1
      rw [List.filter_eq_nil_iff]
      intro d hd
      have := h1 d hd
      simpa using fun z : d.nm = b.nm => ltN_irrefl _ (z ▸ this)
    · have := h1 b hb
      rw [List.filter_cons, if_neg (by simpa using fun z : c.nm = b.nm => ltN_irrefl _ (z ▸ this))]
      exact filter_nm h2 hb
theorem boats_d {bs : List Bt} {d : D} (h : d ∈ bs.map Bt.d) : ∃ b ∈ bs, d = b.d := by
  obtain ⟨b, hb, e⟩ := List.mem_map.mp h
  exact ⟨b, hb, e.symm⟩
/-- a loop that ends where h holds first -/
theorem forLoop_find {α : Type} (enc : α → D) {f : D → Sg → Store → Fl} (h : α → Bool) (R : α → W) (I : Sg → Prop) {S : Store} : ∀ (xs : List α), (∀ a ∈ xs, ∀ σ, I σ → (h a = true → f (enc a) σ S = .rt (R a) S) ∧ (h a = false → ∃ σ', f (enc a) σ S = .nx σ' S ∧ I σ')) → ∀ σ, I σ →
    (∀ a, xs.find? h = some a → forLoop f (xs.map enc) σ S = .rt (R a) S) ∧ (xs.find? h = none → ∃ σ', forLoop f (xs.map enc) σ S = .nx σ' S ∧ I σ')
  | [], _, σ, i => ⟨fun _ e => (by cases e), fun _ => ⟨σ, rfl, i⟩⟩
  | x :: xs, st, σ, i => by
    obtain ⟨s1, s2⟩ := st x List.mem_cons_self σ i
    rw [List.find?_cons, List.map_cons]
    unfold forLoop
    cases e : h x with
    | true =>
      rw [s1 e]
      exact ⟨fun a z => (by cases z; rfl), fun z => (by cases z)⟩
    | false =>
      obtain ⟨σ', e1, i'⟩ := s2 e
      rw [e1]
      exact forLoop_find enc h R I xs (fun a ha => st a (List.mem_cons_of_mem _ ha)) σ' i'
theorem anyBools {α : Type} (xs : List α) (p : α → Bool) : boolsOf (xs.map fun a => D.bl (p a)) = some (xs.map p) := by
  have := boolsOf_map (xs.map p)
  rw [List.map_map] at this
  exact this
end Pyi
namespace K07
open PySem PySem.Spec PyProof.Rows L2 Pyi
theorem run_is_whole (k : Nat) (ws : List W) (S : Store) : call mo.pg (k + 1) "is_whole" ws S = runDf (calAt mo.pg k) d_is_whole ws S := call_succ (by rfl)
theorem run_is_number (k : Nat) (ws : List W) (S : Store) : call mo.pg (k + 1) "is_number" ws S = runDf (calAt mo.pg k) d_is_number ws S := call_succ (by rfl)
theorem run_check_number (k : Nat) (ws : List W) (S : Store) : call mo.pg (k + 1) "check_number" ws S = runDf (calAt mo.pg k) d_check_number ws S := call_succ (by rfl)
theorem run_lowest (k : Nat) (ws : List W) (S : Store) : call mo.pg (k + 1) "lowest" ws S = runDf (calAt mo.pg k) d_lowest ws S := call_succ (by rfl)
theorem run_is_tuple_of (k : Nat) (ws : List W) (S : Store) : call mo.pg (k + 1) "is_tuple_of" ws S = runDf (calAt mo.pg k) d_is_tuple_of ws S := call_succ (by rfl)
theorem run_wrong_at (k : Nat) (ws : List W) (S : Store) : call mo.pg (k + 1) "wrong_at" ws S = runDf (calAt mo.pg k) d_wrong_at ws S := call_succ (by rfl)
theorem run_wrong_from_one (k : Nat) (ws : List W) (S : Store) : call mo.pg (k + 1) "wrong_from_one" ws S = runDf (calAt mo.pg k) d_wrong_from_one ws S := call_succ (by rfl)
theorem run_is_letters (k : Nat) (ws : List W) (S : Store) : call mo.pg (k + 1) "is_letters" ws S = runDf (calAt mo.pg k) d_is_letters ws S := call_succ (by rfl)
theorem run_is_name (k : Nat) (ws : List W) (S : Store) : call mo.pg (k + 1) "is_name" ws S = runDf (calAt mo.pg k) d_is_name ws S := call_succ (by rfl)
theorem run_is_one_of (k : Nat) (ws : List W) (S : Store) : call mo.pg (k + 1) "is_one_of" ws S = runDf (calAt mo.pg k) d_is_one_of ws S := call_succ (by rfl)
theorem run_is_boat_form (k : Nat) (ws : List W) (S : Store) : call mo.pg (k + 1) "is_boat_form" ws S = runDf (calAt mo.pg k) d_is_boat_form ws S := call_succ (by rfl)
theorem run_wrong_boats (k : Nat) (ws : List W) (S : Store) : call mo.pg (k + 1) "wrong_boats" ws S = runDf (calAt mo.pg k) d_wrong_boats ws S := call_succ (by rfl)
theorem run_boat_names (k : Nat) (ws : List W) (S : Store) : call mo.pg (k + 1) "boat_names" ws S = runDf (calAt mo.pg k) d_boat_names ws S := call_succ (by rfl)
theorem run_boat_of (k : Nat) (ws : List W) (S : Store) : call mo.pg (k + 1) "boat_of" ws S = runDf (calAt mo.pg k) d_boat_of ws S := call_succ (by rfl)
theorem run_reach_of (k : Nat) (ws : List W) (S : Store) : call mo.pg (k + 1) "reach_of" ws S = runDf (calAt mo.pg k) d_reach_of ws S := call_succ (by rfl)
theorem run_with_boat (k : Nat) (ws : List W) (S : Store) : call mo.pg (k + 1) "with_boat" ws S = runDf (calAt mo.pg k) d_with_boat ws S := call_succ (by rfl)
theorem run_dot (k : Nat) (ws : List W) (S : Store) : call mo.pg (k + 1) "dot" ws S = runDf (calAt mo.pg k) d_dot ws S := call_succ (by rfl)
theorem run_square_of (k : Nat) (ws : List W) (S : Store) : call mo.pg (k + 1) "square_of" ws S = runDf (calAt mo.pg k) d_square_of ws S := call_succ (by rfl)
theorem run_is_place_form (k : Nat) (ws : List W) (S : Store) : call mo.pg (k + 1) "is_place_form" ws S = runDf (calAt mo.pg k) d_is_place_form ws S := call_succ (by rfl)
theorem run_is_buoy_form (k : Nat) (ws : List W) (S : Store) : call mo.pg (k + 1) "is_buoy_form" ws S = runDf (calAt mo.pg k) d_is_buoy_form ws S := call_succ (by rfl)
theorem run_are_buoys_form (k : Nat) (ws : List W) (S : Store) : call mo.pg (k + 1) "are_buoys_form" ws S = runDf (calAt mo.pg k) d_are_buoys_form ws S := call_succ (by rfl)
theorem run_is_wall_form (k : Nat) (ws : List W) (S : Store) : call mo.pg (k + 1) "is_wall_form" ws S = runDf (calAt mo.pg k) d_is_wall_form ws S := call_succ (by rfl)
theorem run_are_walls_form (k : Nat) (ws : List W) (S : Store) : call mo.pg (k + 1) "are_walls_form" ws S = runDf (calAt mo.pg k) d_are_walls_form ws S := call_succ (by rfl)
theorem run_is_next_wall (k : Nat) (ws : List W) (S : Store) : call mo.pg (k + 1) "is_next_wall" ws S = runDf (calAt mo.pg k) d_is_next_wall ws S := call_succ (by rfl)
theorem run_is_harbour_form (k : Nat) (ws : List W) (S : Store) : call mo.pg (k + 1) "is_harbour_form" ws S = runDf (calAt mo.pg k) d_is_harbour_form ws S := call_succ (by rfl)
theorem run_buoy_names (k : Nat) (ws : List W) (S : Store) : call mo.pg (k + 1) "buoy_names" ws S = runDf (calAt mo.pg k) d_buoy_names ws S := call_succ (by rfl)
theorem run_spots_by (k : Nat) (ws : List W) (S : Store) : call mo.pg (k + 1) "spots_by" ws S = runDf (calAt mo.pg k) d_spots_by ws S := call_succ (by rfl)
theorem run_spot_of (k : Nat) (ws : List W) (S : Store) : call mo.pg (k + 1) "spot_of" ws S = runDf (calAt mo.pg k) d_spot_of ws S := call_succ (by rfl)
theorem run_point_at (k : Nat) (ws : List W) (S : Store) : call mo.pg (k + 1) "point_at" ws S = runDf (calAt mo.pg k) d_point_at ws S := call_succ (by rfl)
theorem run_is_wind_form (k : Nat) (ws : List W) (S : Store) : call mo.pg (k + 1) "is_wind_form" ws S = runDf (calAt mo.pg k) d_is_wind_form ws S := call_succ (by rfl)
theorem run_opposite (k : Nat) (ws : List W) (S : Store) : call mo.pg (k + 1) "opposite" ws S = runDf (calAt mo.pg k) d_opposite ws S := call_succ (by rfl)
theorem run_check_harbour (k : Nat) (ws : List W) (S : Store) : call mo.pg (k + 1) "check_harbour" ws S = runDf (calAt mo.pg k) d_check_harbour ws S := call_succ (by rfl)
theorem run_check_boats (k : Nat) (ws : List W) (S : Store) : call mo.pg (k + 1) "check_boats" ws S = runDf (calAt mo.pg k) d_check_boats ws S := call_succ (by rfl)
theorem run_check_both (k : Nat) (ws : List W) (S : Store) : call mo.pg (k + 1) "check_both" ws S = runDf (calAt mo.pg k) d_check_both ws S := call_succ (by rfl)
theorem run_check_boat (k : Nat) (ws : List W) (S : Store) : call mo.pg (k + 1) "check_boat" ws S = runDf (calAt mo.pg k) d_check_boat ws S := call_succ (by rfl)
theorem run_check_buoy (k : Nat) (ws : List W) (S : Store) : call mo.pg (k + 1) "check_buoy" ws S = runDf (calAt mo.pg k) d_check_buoy ws S := call_succ (by rfl)
theorem run_check_lying (k : Nat) (ws : List W) (S : Store) : call mo.pg (k + 1) "check_lying" ws S = runDf (calAt mo.pg k) d_check_lying ws S := call_succ (by rfl)
theorem run_check_wind (k : Nat) (ws : List W) (S : Store) : call mo.pg (k + 1) "check_wind" ws S = runDf (calAt mo.pg k) d_check_wind ws S := call_succ (by rfl)
theorem run_point_of (k : Nat) (ws : List W) (S : Store) : call mo.pg (k + 1) "point_of" ws S = runDf (calAt mo.pg k) d_point_of ws S := call_succ (by rfl)
theorem run_check_lies (k : Nat) (ws : List W) (S : Store) : call mo.pg (k + 1) "check_lies" ws S = runDf (calAt mo.pg k) d_check_lies ws S := call_succ (by rfl)
theorem run_bow (k : Nat) (ws : List W) (S : Store) : call mo.pg (k + 1) "bow" ws S = runDf (calAt mo.pg k) d_bow ws S := call_succ (by rfl)
theorem run_stern (k : Nat) (ws : List W) (S : Store) : call mo.pg (k + 1) "stern" ws S = runDf (calAt mo.pg k) d_stern ws S := call_succ (by rfl)
theorem run_check_one (k : Nat) (ws : List W) (S : Store) : call mo.pg (k + 1) "check_one" ws S = runDf (calAt mo.pg k) d_check_one ws S := call_succ (by rfl)
theorem run_reach (k : Nat) (ws : List W) (S : Store) : call mo.pg (k + 1) "reach" ws S = runDf (calAt mo.pg k) d_reach ws S := call_succ (by rfl)
theorem run_with_rope (k : Nat) (ws : List W) (S : Store) : call mo.pg (k + 1) "with_rope" ws S = runDf (calAt mo.pg k) d_with_rope ws S := call_succ (by rfl)
theorem run_back (k : Nat) (ws : List W) (S : Store) : call mo.pg (k + 1) "back" ws S = runDf (calAt mo.pg k) d_back ws S := call_succ (by rfl)
theorem run__law_well (k : Nat) (ws : List W) (S : Store) : call mo.pg (k + 1) "_law_well" ws S = runDf (calAt mo.pg k) d__law_well ws S := call_succ (by rfl)
theorem run__law_draw (k : Nat) (ws : List W) (S : Store) : call mo.pg (k + 1) "_law_draw" ws S = runDf (calAt mo.pg k) d__law_draw ws S := call_succ (by rfl)
theorem run__law_of (k : Nat) (ws : List W) (S : Store) : call mo.pg (k + 1) "_law_of" ws S = runDf (calAt mo.pg k) d__law_of ws S := call_succ (by rfl)
theorem run__law_unlike (k : Nat) (ws : List W) (S : Store) : call mo.pg (k + 1) "_law_unlike" ws S = runDf (calAt mo.pg k) d__law_unlike ws S := call_succ (by rfl)
theorem run__law_is (k : Nat) (ws : List W) (S : Store) : call mo.pg (k + 1) "_law_is" ws S = runDf (calAt mo.pg k) d__law_is ws S := call_succ (by rfl)
theorem run__law_words (k : Nat) (ws : List W) (S : Store) : call mo.pg (k + 1) "_law_words" ws S = runDf (calAt mo.pg k) d__law_words ws S := call_succ (by rfl)
theorem run__law_names (k : Nat) (ws : List W) (S : Store) : call mo.pg (k + 1) "_law_names" ws S = runDf (calAt mo.pg k) d__law_names ws S := call_succ (by rfl)
theorem run__law_place (k : Nat) (ws : List W) (S : Store) : call mo.pg (k + 1) "_law_place" ws S = runDf (calAt mo.pg k) d__law_place ws S := call_succ (by rfl)
theorem run__law_harbour (k : Nat) (ws : List W) (S : Store) : call mo.pg (k + 1) "_law_harbour" ws S = runDf (calAt mo.pg k) d__law_harbour ws S := call_succ (by rfl)
theorem run__law_boats (k : Nat) (ws : List W) (S : Store) : call mo.pg (k + 1) "_law_boats" ws S = runDf (calAt mo.pg k) d__law_boats ws S := call_succ (by rfl)
theorem run__law_spot (k : Nat) (ws : List W) (S : Store) : call mo.pg (k + 1) "_law_spot" ws S = runDf (calAt mo.pg k) d__law_spot ws S := call_succ (by rfl)
theorem run__law_boat (k : Nat) (ws : List W) (S : Store) : call mo.pg (k + 1) "_law_boat" ws S = runDf (calAt mo.pg k) d__law_boat ws S := call_succ (by rfl)
theorem run__law_divisor (k : Nat) (ws : List W) (S : Store) : call mo.pg (k + 1) "_law_divisor" ws S = runDf (calAt mo.pg k) d__law_divisor ws S := call_succ (by rfl)
theorem run__law_part (k : Nat) (ws : List W) (S : Store) : call mo.pg (k + 1) "_law_part" ws S = runDf (calAt mo.pg k) d__law_part ws S := call_succ (by rfl)
theorem run__law_lowest (k : Nat) (ws : List W) (S : Store) : call mo.pg (k + 1) "_law_lowest" ws S = runDf (calAt mo.pg k) d__law_lowest ws S := call_succ (by rfl)
theorem run__law_wind (k : Nat) (ws : List W) (S : Store) : call mo.pg (k + 1) "_law_wind" ws S = runDf (calAt mo.pg k) d__law_wind ws S := call_succ (by rfl)
theorem run__law_at (k : Nat) (ws : List W) (S : Store) : call mo.pg (k + 1) "_law_at" ws S = runDf (calAt mo.pg k) d__law_at ws S := call_succ (by rfl)
theorem run__law_right (k : Nat) (ws : List W) (S : Store) : call mo.pg (k + 1) "_law_right" ws S = runDf (calAt mo.pg k) d__law_right ws S := call_succ (by rfl)
theorem run_law (k : Nat) (ws : List W) (S : Store) : call mo.pg (k + 1) "law" ws S = runDf (calAt mo.pg k) d_law ws S := call_succ (by rfl)
theorem mo_ok : mo.ok prg = true := by decide +kernel
instance : Gd := ⟨fun d T => lfCk (mo.ck0 (nmOf prg)) d T = true⟩
theorem b_is_whole : ∀ h ∈ e_is_whole.all, BindsE e_is_whole h := List.forall_mem_cons.mpr ⟨fun _ _ _ _ _ _ us ws h1 h2 => match us, ws, h1, h2 with | [_], [], _, _ => rfl, fun _ h => nomatch h⟩
theorem b_is_number : ∀ h ∈ e_is_number.all, BindsE e_is_number h := List.forall_mem_cons.mpr ⟨fun _ _ _ _ _ _ us ws h1 h2 => match us, ws, h1, h2 with | [_, _, _], [], _, _ => rfl, fun _ h => nomatch h⟩
theorem b_check_number : ∀ h ∈ e_check_number.all, BindsE e_check_number h := List.forall_mem_cons.mpr ⟨fun _ _ _ _ _ _ us ws h1 h2 => match us, ws, h1, h2 with | [_, _, _], [], _, _ => rfl, fun _ h => nomatch h⟩
theorem b_lowest : ∀ h ∈ e_lowest.all, BindsE e_lowest h := List.forall_mem_cons.mpr ⟨fun _ _ _ _ _ _ us ws h1 h2 => match us, ws, h1, h2 with | [_, _], [], _, _ => rfl, fun _ h => nomatch h⟩
theorem b_is_tuple_of : ∀ h ∈ e_is_tuple_of.all, BindsE e_is_tuple_of h := List.forall_mem_cons.mpr ⟨fun _ _ _ _ _ _ us ws h1 h2 => match us, ws, h1, h2 with | [_, _], [], _, _ => rfl, fun _ h => nomatch h⟩
theorem b_wrong_at : ∀ h ∈ e_wrong_at.all, BindsE e_wrong_at h := List.forall_mem_cons.mpr ⟨fun _ _ _ _ _ _ us ws h1 h2 => match us, ws, h1, h2 with | [_, _, _], [], _, _ => rfl, fun _ h => nomatch h⟩
theorem b_wrong_from_one : ∀ h ∈ e_wrong_from_one.all, BindsE e_wrong_from_one h := List.forall_mem_cons.mpr ⟨fun _ _ _ _ _ _ us ws h1 h2 => match us, ws, h1, h2 with | [_, _, _], [], _, _ => rfl, fun _ h => nomatch h⟩
theorem b_is_letters : ∀ h ∈ e_is_letters.all, BindsE e_is_letters h := List.forall_mem_cons.mpr ⟨fun _ _ _ _ _ _ us ws h1 h2 => match us, ws, h1, h2 with | [_, _, _], [], _, _ => rfl, fun _ h => nomatch h⟩
theorem b_is_name : ∀ h ∈ e_is_name.all, BindsE e_is_name h := List.forall_mem_cons.mpr ⟨fun _ _ _ _ _ _ us ws h1 h2 => match us, ws, h1, h2 with | [_], [], _, _ => rfl, fun _ h => nomatch h⟩
theorem b_is_one_of : ∀ h ∈ e_is_one_of.all, BindsE e_is_one_of h := List.forall_mem_cons.mpr ⟨fun _ _ _ _ _ _ us ws h1 h2 => match us, ws, h1, h2 with | [_, _], [], _, _ => rfl, fun _ h => nomatch h⟩
theorem b_is_boat_form : ∀ h ∈ e_is_boat_form.all, BindsE e_is_boat_form h := List.forall_mem_cons.mpr ⟨fun _ _ _ _ _ _ us ws h1 h2 => match us, ws, h1, h2 with | [_], [], _, _ => rfl, fun _ h => nomatch h⟩
theorem b_wrong_boats : ∀ h ∈ e_wrong_boats.all, BindsE e_wrong_boats h := List.forall_mem_cons.mpr ⟨fun _ _ _ _ _ _ us ws h1 h2 => match us, ws, h1, h2 with | [_], [], _, _ => rfl, fun _ h => nomatch h⟩
theorem b_boat_names : ∀ h ∈ e_boat_names.all, BindsE e_boat_names h := List.forall_mem_cons.mpr ⟨fun _ _ _ _ _ _ us ws h1 h2 => match us, ws, h1, h2 with | [_], [], _, _ => rfl, fun _ h => nomatch h⟩
theorem b_boat_of : ∀ h ∈ e_boat_of.all, BindsE e_boat_of h := List.forall_mem_cons.mpr ⟨fun _ _ _ _ _ _ us ws h1 h2 => match us, ws, h1, h2 with | [_, _], [], _, _ => rfl, fun _ h => nomatch h⟩
theorem b_reach_of : ∀ h ∈ e_reach_of.all, BindsE e_reach_of h := List.forall_mem_cons.mpr ⟨fun _ _ _ _ _ _ us ws h1 h2 => match us, ws, h1, h2 with | [_], [], _, _ => rfl, fun _ h => nomatch h⟩
theorem b_with_boat : ∀ h ∈ e_with_boat.all, BindsE e_with_boat h := List.forall_mem_cons.mpr ⟨fun _ _ _ _ _ _ us ws h1 h2 => match us, ws, h1, h2 with | [_, _], [], _, _ => rfl, fun _ h => nomatch h⟩
theorem b_dot : ∀ h ∈ e_dot.all, BindsE e_dot h := List.forall_mem_cons.mpr ⟨fun _ _ _ _ _ _ us ws h1 h2 => match us, ws, h1, h2 with | [_, _], [], _, _ => rfl, fun _ h => nomatch h⟩
theorem b_square_of : ∀ h ∈ e_square_of.all, BindsE e_square_of h := List.forall_mem_cons.mpr ⟨fun _ _ _ _ _ _ us ws h1 h2 => match us, ws, h1, h2 with | [_], [], _, _ => rfl, fun _ h => nomatch h⟩
theorem b_is_place_form : ∀ h ∈ e_is_place_form.all, BindsE e_is_place_form h := List.forall_mem_cons.mpr ⟨fun _ _ _ _ _ _ us ws h1 h2 => match us, ws, h1, h2 with | [_, _], [], _, _ => rfl, fun _ h => nomatch h⟩
theorem b_is_buoy_form : ∀ h ∈ e_is_buoy_form.all, BindsE e_is_buoy_form h := List.forall_mem_cons.mpr ⟨fun _ _ _ _ _ _ us ws h1 h2 => match us, ws, h1, h2 with | [_], [], _, _ => rfl, fun _ h => nomatch h⟩
theorem b_are_buoys_form : ∀ h ∈ e_are_buoys_form.all, BindsE e_are_buoys_form h := List.forall_mem_cons.mpr ⟨fun _ _ _ _ _ _ us ws h1 h2 => match us, ws, h1, h2 with | [_], [], _, _ => rfl, fun _ h => nomatch h⟩
theorem b_is_wall_form : ∀ h ∈ e_is_wall_form.all, BindsE e_is_wall_form h := List.forall_mem_cons.mpr ⟨fun _ _ _ _ _ _ us ws h1 h2 => match us, ws, h1, h2 with | [_], [], _, _ => rfl, fun _ h => nomatch h⟩
theorem b_are_walls_form : ∀ h ∈ e_are_walls_form.all, BindsE e_are_walls_form h := List.forall_mem_cons.mpr ⟨fun _ _ _ _ _ _ us ws h1 h2 => match us, ws, h1, h2 with | [_], [], _, _ => rfl, fun _ h => nomatch h⟩
theorem b_is_next_wall : ∀ h ∈ e_is_next_wall.all, BindsE e_is_next_wall h := List.forall_mem_cons.mpr ⟨fun _ _ _ _ _ _ us ws h1 h2 => match us, ws, h1, h2 with | [_, _], [], _, _ => rfl, fun _ h => nomatch h⟩
theorem b_is_harbour_form : ∀ h ∈ e_is_harbour_form.all, BindsE e_is_harbour_form h := List.forall_mem_cons.mpr ⟨fun _ _ _ _ _ _ us ws h1 h2 => match us, ws, h1, h2 with | [_], [], _, _ => rfl, fun _ h => nomatch h⟩
theorem b_buoy_names : ∀ h ∈ e_buoy_names.all, BindsE e_buoy_names h := List.forall_mem_cons.mpr ⟨fun _ _ _ _ _ _ us ws h1 h2 => match us, ws, h1, h2 with | [_], [], _, _ => rfl, fun _ h => nomatch h⟩
theorem b_spots_by : ∀ h ∈ e_spots_by.all, BindsE e_spots_by h := List.forall_mem_cons.mpr ⟨fun _ _ _ _ _ _ us ws h1 h2 => match us, ws, h1, h2 with | [_], [], _, _ => rfl, fun _ h => nomatch h⟩
theorem b_spot_of : ∀ h ∈ e_spot_of.all, BindsE e_spot_of h := List.forall_mem_cons.mpr ⟨fun _ _ _ _ _ _ us ws h1 h2 => match us, ws, h1, h2 with | [_, _], [], _, _ => rfl, fun _ h => nomatch h⟩
theorem b_point_at : ∀ h ∈ e_point_at.all, BindsE e_point_at h := List.forall_mem_cons.mpr ⟨fun _ _ _ _ _ _ us ws h1 h2 => match us, ws, h1, h2 with | [_, _, _, _], [], _, _ => rfl, fun _ h => nomatch h⟩
theorem b_is_wind_form : ∀ h ∈ e_is_wind_form.all, BindsE e_is_wind_form h := List.forall_mem_cons.mpr ⟨fun _ _ _ _ _ _ us ws h1 h2 => match us, ws, h1, h2 with | [_], [], _, _ => rfl, fun _ h => nomatch h⟩
theorem b_opposite : ∀ h ∈ e_opposite.all, BindsE e_opposite h := List.forall_mem_cons.mpr ⟨fun _ _ _ _ _ _ us ws h1 h2 => match us, ws, h1, h2 with | [_], [], _, _ => rfl, fun _ h => nomatch h⟩
theorem b_check_harbour : ∀ h ∈ e_check_harbour.all, BindsE e_check_harbour h := List.forall_mem_cons.mpr ⟨fun _ _ _ _ _ _ us ws h1 h2 => match us, ws, h1, h2 with | [_], [], _, _ => rfl, fun _ h => nomatch h⟩
theorem b_check_boats : ∀ h ∈ e_check_boats.all, BindsE e_check_boats h := List.forall_mem_cons.mpr ⟨fun _ _ _ _ _ _ us ws h1 h2 => match us, ws, h1, h2 with | [_], [], _, _ => rfl, fun _ h => nomatch h⟩
theorem b_check_both : ∀ h ∈ e_check_both.all, BindsE e_check_both h := List.forall_mem_cons.mpr ⟨fun _ _ _ _ _ _ us ws h1 h2 => match us, ws, h1, h2 with | [_, _], [], _, _ => rfl, fun _ h => nomatch h⟩
theorem b_check_boat : ∀ h ∈ e_check_boat.all, BindsE e_check_boat h := List.forall_mem_cons.mpr ⟨fun _ _ _ _ _ _ us ws h1 h2 => match us, ws, h1, h2 with | [_, _], [], _, _ => rfl, fun _ h => nomatch h⟩
theorem b_check_buoy : ∀ h ∈ e_check_buoy.all, BindsE e_check_buoy h := List.forall_mem_cons.mpr ⟨fun _ _ _ _ _ _ us ws h1 h2 => match us, ws, h1, h2 with | [_, _], [], _, _ => rfl, fun _ h => nomatch h⟩
theorem b_check_lying : ∀ h ∈ e_check_lying.all, BindsE e_check_lying h := List.forall_mem_cons.mpr ⟨fun _ _ _ _ _ _ us ws h1 h2 => match us, ws, h1, h2 with | [_, _, _, _], [], _, _ => rfl, fun _ h => nomatch h⟩
theorem b_check_wind : ∀ h ∈ e_check_wind.all, BindsE e_check_wind h := List.forall_mem_cons.mpr ⟨fun _ _ _ _ _ _ us ws h1 h2 => match us, ws, h1, h2 with | [_], [], _, _ => rfl, fun _ h => nomatch h⟩
theorem b_point_of : ∀ h ∈ e_point_of.all, BindsE e_point_of h := List.forall_mem_cons.mpr ⟨fun _ _ _ _ _ _ us ws h1 h2 => match us, ws, h1, h2 with | [_, _, _, _], [], _, _ => rfl, fun _ h => nomatch h⟩
theorem b_check_lies : ∀ h ∈ e_check_lies.all, BindsE e_check_lies h := List.forall_mem_cons.mpr ⟨fun _ _ _ _ _ _ us ws h1 h2 => match us, ws, h1, h2 with | [_, _, _, _, _], [], _, _ => rfl, fun _ h => nomatch h⟩
theorem b_bow : ∀ h ∈ e_bow.all, BindsE e_bow h := List.forall_mem_cons.mpr ⟨fun _ _ _ _ _ _ us ws h1 h2 => match us, ws, h1, h2 with | [_, _, _, _, _], [], _, _ => rfl, List.forall_mem_cons.mpr ⟨fun _ _ _ _ _ _ us ws h1 h2 => match us, ws, h1, h2 with | [], [_, _, _, _, _], _, _ => rfl, fun _ h => nomatch h⟩⟩
theorem b_stern : ∀ h ∈ e_stern.all, BindsE e_stern h := List.forall_mem_cons.mpr ⟨fun _ _ _ _ _ _ us ws h1 h2 => match us, ws, h1, h2 with | [_, _, _, _, _], [], _, _ => rfl, List.forall_mem_cons.mpr ⟨fun _ _ _ _ _ _ us ws h1 h2 => match us, ws, h1, h2 with | [], [_, _, _, _, _], _, _ => rfl, fun _ h => nomatch h⟩⟩
theorem b_check_one : ∀ h ∈ e_check_one.all, BindsE e_check_one h := List.forall_mem_cons.mpr ⟨fun _ _ _ _ _ _ us ws h1 h2 => match us, ws, h1, h2 with | [_, _], [], _, _ => rfl, fun _ h => nomatch h⟩
theorem b_reach : ∀ h ∈ e_reach.all, BindsE e_reach h := List.forall_mem_cons.mpr ⟨fun _ _ _ _ _ _ us ws h1 h2 => match us, ws, h1, h2 with | [_, _], [], _, _ => rfl, fun _ h => nomatch h⟩
theorem b_with_rope : ∀ h ∈ e_with_rope.all, BindsE e_with_rope h := List.forall_mem_cons.mpr ⟨fun _ _ _ _ _ _ us ws h1 h2 => match us, ws, h1, h2 with | [_, _, _], [], _, _ => rfl, fun _ h => nomatch h⟩
theorem b_back : ∀ h ∈ e_back.all, BindsE e_back h := List.forall_mem_cons.mpr ⟨fun _ _ _ _ _ _ us ws h1 h2 => match us, ws, h1, h2 with | [_], [], _, _ => rfl, fun _ h => nomatch h⟩
theorem b__law_well : ∀ h ∈ e__law_well.all, BindsE e__law_well h := List.forall_mem_cons.mpr ⟨fun _ _ _ _ _ _ us ws h1 h2 => match us, ws, h1, h2 with | [_, _], [], _, _ => rfl, fun _ h => nomatch h⟩
theorem b__law_draw : ∀ h ∈ e__law_draw.all, BindsE e__law_draw h := List.forall_mem_cons.mpr ⟨fun _ _ _ _ _ _ us ws h1 h2 => match us, ws, h1, h2 with | [_, _], [], _, _ => rfl, fun _ h => nomatch h⟩
theorem b__law_of : ∀ h ∈ e__law_of.all, BindsE e__law_of h := List.forall_mem_cons.mpr ⟨fun _ _ _ _ _ _ us ws h1 h2 => match us, ws, h1, h2 with | [_, _], [], _, _ => rfl, fun _ h => nomatch h⟩
theorem b__law_unlike : ∀ h ∈ e__law_unlike.all, BindsE e__law_unlike h := List.forall_mem_cons.mpr ⟨fun _ _ _ _ _ _ us ws h1 h2 => match us, ws, h1, h2 with | [_, _, _], [], _, _ => rfl, fun _ h => nomatch h⟩
theorem b__law_is : ∀ h ∈ e__law_is.all, BindsE e__law_is h := List.forall_mem_cons.mpr ⟨fun _ _ _ _ _ _ us ws h1 h2 => match us, ws, h1, h2 with | [_, _], [], _, _ => rfl, fun _ h => nomatch h⟩
theorem b__law_words : ∀ h ∈ e__law_words.all, BindsE e__law_words h := List.forall_mem_cons.mpr ⟨fun _ _ _ _ _ _ us ws h1 h2 => match us, ws, h1, h2 with | [], [], _, _ => rfl, fun _ h => nomatch h⟩
theorem b__law_names : ∀ h ∈ e__law_names.all, BindsE e__law_names h := List.forall_mem_cons.mpr ⟨fun _ _ _ _ _ _ us ws h1 h2 => match us, ws, h1, h2 with | [_, _], [], _, _ => rfl, fun _ h => nomatch h⟩
theorem b__law_place : ∀ h ∈ e__law_place.all, BindsE e__law_place h := List.forall_mem_cons.mpr ⟨fun _ _ _ _ _ _ us ws h1 h2 => match us, ws, h1, h2 with | [_, _], [], _, _ => rfl, fun _ h => nomatch h⟩
theorem b__law_harbour : ∀ h ∈ e__law_harbour.all, BindsE e__law_harbour h := List.forall_mem_cons.mpr ⟨fun _ _ _ _ _ _ us ws h1 h2 => match us, ws, h1, h2 with | [_, _, _, _], [], _, _ => rfl, fun _ h => nomatch h⟩
theorem b__law_boats : ∀ h ∈ e__law_boats.all, BindsE e__law_boats h := List.forall_mem_cons.mpr ⟨fun _ _ _ _ _ _ us ws h1 h2 => match us, ws, h1, h2 with | [_, _, _, _], [], _, _ => rfl, fun _ h => nomatch h⟩
theorem b__law_spot : ∀ h ∈ e__law_spot.all, BindsE e__law_spot h := List.forall_mem_cons.mpr ⟨fun _ _ _ _ _ _ us ws h1 h2 => match us, ws, h1, h2 with | [_, _], [], _, _ => rfl, fun _ h => nomatch h⟩
theorem b__law_boat : ∀ h ∈ e__law_boat.all, BindsE e__law_boat h := List.forall_mem_cons.mpr ⟨fun _ _ _ _ _ _ us ws h1 h2 => match us, ws, h1, h2 with | [_, _], [], _, _ => rfl, fun _ h => nomatch h⟩
theorem b__law_divisor : ∀ h ∈ e__law_divisor.all, BindsE e__law_divisor h := List.forall_mem_cons.mpr ⟨fun _ _ _ _ _ _ us ws h1 h2 => match us, ws, h1, h2 with | [_, _], [], _, _ => rfl, fun _ h => nomatch h⟩
theorem b__law_part : ∀ h ∈ e__law_part.all, BindsE e__law_part h := List.forall_mem_cons.mpr ⟨fun _ _ _ _ _ _ us ws h1 h2 => match us, ws, h1, h2 with | [_, _], [], _, _ => rfl, fun _ h => nomatch h⟩
theorem b__law_lowest : ∀ h ∈ e__law_lowest.all, BindsE e__law_lowest h := List.forall_mem_cons.mpr ⟨fun _ _ _ _ _ _ us ws h1 h2 => match us, ws, h1, h2 with | [_, _, _], [], _, _ => rfl, fun _ h => nomatch h⟩
theorem b__law_wind : ∀ h ∈ e__law_wind.all, BindsE e__law_wind h := List.forall_mem_cons.mpr ⟨fun _ _ _ _ _ _ us ws h1 h2 => match us, ws, h1, h2 with | [_, _], [], _, _ => rfl, fun _ h => nomatch h⟩
theorem b__law_at : ∀ h ∈ e__law_at.all, BindsE e__law_at h := List.forall_mem_cons.mpr ⟨fun _ _ _ _ _ _ us ws h1 h2 => match us, ws, h1, h2 with | [_, _, _, _], [], _, _ => rfl, fun _ h => nomatch h⟩
theorem b__law_right : ∀ h ∈ e__law_right.all, BindsE e__law_right h := List.forall_mem_cons.mpr ⟨fun _ _ _ _ _ _ us ws h1 h2 => match us, ws, h1, h2 with | [_], [], _, _ => rfl, fun _ h => nomatch h⟩
theorem b_law : ∀ h ∈ e_law.all, BindsE e_law h := List.forall_mem_cons.mpr ⟨fun _ _ _ _ _ _ us ws h1 h2 => match us, ws, h1, h2 with | [_], [], _, _ => rfl, fun _ h => nomatch h⟩
theorem mo_binds : ∀ e ∈ mo.T, ∀ h ∈ e.all, BindsE e h := List.forall_mem_cons.mpr ⟨b_is_whole, List.forall_mem_cons.mpr ⟨b_is_number, List.forall_mem_cons.mpr ⟨b_check_number, List.forall_mem_cons.mpr ⟨b_lowest, List.forall_mem_cons.mpr ⟨b_is_tuple_of, List.forall_mem_cons.mpr ⟨b_wrong_at, List.forall_mem_cons.mpr ⟨b_wrong_from_one, List.forall_mem_cons.mpr ⟨b_is_letters, List.forall_mem_cons.mpr ⟨b_is_name, List.forall_mem_cons.mpr ⟨b_is_one_of, List.forall_mem_cons.mpr ⟨b_is_boat_form, List.forall_mem_cons.mpr ⟨b_wrong_boats, List.forall_mem_cons.mpr ⟨b_boat_names, List.forall_mem_cons.mpr ⟨b_boat_of, List.forall_mem_cons.mpr ⟨b_reach_of, List.forall_mem_cons.mpr ⟨b_with_boat, List.forall_mem_cons.mpr ⟨b_dot, List.forall_mem_cons.mpr ⟨b_square_of, List.forall_mem_cons.mpr ⟨b_is_place_form, List.forall_mem_cons.mpr ⟨b_is_buoy_form, List.forall_mem_cons.mpr ⟨b_are_buoys_form, List.forall_mem_cons.mpr ⟨b_is_wall_form, List.forall_mem_cons.mpr ⟨b_are_walls_form, List.forall_mem_cons.mpr ⟨b_is_next_wall, List.forall_mem_cons.mpr ⟨b_is_harbour_form, List.forall_mem_cons.mpr ⟨b_buoy_names, List.forall_mem_cons.mpr ⟨b_spots_by, List.forall_mem_cons.mpr ⟨b_spot_of, List.forall_mem_cons.mpr ⟨b_point_at, List.forall_mem_cons.mpr ⟨b_is_wind_form, List.forall_mem_cons.mpr ⟨b_opposite, List.forall_mem_cons.mpr ⟨b_check_harbour, List.forall_mem_cons.mpr ⟨b_check_boats, List.forall_mem_cons.mpr ⟨b_check_both, List.forall_mem_cons.mpr ⟨b_check_boat, List.forall_mem_cons.mpr ⟨b_check_buoy, List.forall_mem_cons.mpr ⟨b_check_lying, List.forall_mem_cons.mpr ⟨b_check_wind, List.forall_mem_cons.mpr ⟨b_point_of, List.forall_mem_cons.mpr ⟨b_check_lies, List.forall_mem_cons.mpr ⟨b_bow, List.forall_mem_cons.mpr ⟨b_stern, List.forall_mem_cons.mpr ⟨b_check_one, List.forall_mem_cons.mpr ⟨b_reach, List.forall_mem_cons.mpr ⟨b_with_rope, List.forall_mem_cons.mpr ⟨b_back, List.forall_mem_cons.mpr ⟨b__law_well, List.forall_mem_cons.mpr ⟨b__law_draw, List.forall_mem_cons.mpr ⟨b__law_of, List.forall_mem_cons.mpr ⟨b__law_unlike, List.forall_mem_cons.mpr ⟨b__law_is, List.forall_mem_cons.mpr ⟨b__law_words, List.forall_mem_cons.mpr ⟨b__law_names, List.forall_mem_cons.mpr ⟨b__law_place, List.forall_mem_cons.mpr ⟨b__law_harbour, List.forall_mem_cons.mpr ⟨b__law_boats, List.forall_mem_cons.mpr ⟨b__law_spot, List.forall_mem_cons.mpr ⟨b__law_boat, List.forall_mem_cons.mpr ⟨b__law_divisor, List.forall_mem_cons.mpr ⟨b__law_part, List.forall_mem_cons.mpr ⟨b__law_lowest, List.forall_mem_cons.mpr ⟨b__law_wind, List.forall_mem_cons.mpr ⟨b__law_at, List.forall_mem_cons.mpr ⟨b__law_right, List.forall_mem_cons.mpr ⟨b_law, fun _ h => nomatch h⟩⟩⟩⟩⟩⟩⟩⟩⟩⟩⟩⟩⟩⟩⟩⟩⟩⟩⟩⟩⟩⟩⟩⟩⟩⟩⟩⟩⟩⟩⟩⟩⟩⟩⟩⟩⟩⟩⟩⟩⟩⟩⟩⟩⟩⟩⟩⟩⟩⟩⟩⟩⟩⟩⟩⟩⟩⟩⟩⟩⟩⟩⟩⟩⟩
end K07
namespace K07
open PySem PySem.Spec PyProof.Rows L2 Pyi
abbrev P := mo.pg
theorem is_whole_int (k : Nat) (S : Store) (x : Int) : call P (k + 1) "is_whole" [.d (.int x)] S = .ok (.d (.bl true)) S := by
  rw [run_is_whole]
  simp [runDf, d_is_whole, isiD]
theorem is_number_int (k : Nat) (S : Store) (v lo hi : Int) (h1 : lo ≤ v) (h2 : v ≤ hi) : call P (k + 2) "is_number" [.d (.int v), .d (.int lo), .d (.int hi)] S = .ok (.d (.bl true)) S := by
  rw [run_is_number]
  have h3 : ¬ v < lo := by omega
  simp [runDf, d_is_number, is_whole_int, h2, h3]
theorem check_number_int (k : Nat) (S : Store) (v lo hi : Int) (h1 : lo ≤ v) (h2 : v ≤ hi) : call P (k + 3) "check_number" [.d (.int v), .d (.int lo), .d (.int hi)] S = .ok (.d .non) S := by
  rw [run_check_number]
  simp [runDf, d_check_number, is_number_int, h1, h2]
theorem is_tuple_of_3 (k : Nat) (S : Store) (a b c : D) : call P (k + 1) "is_tuple_of" [.d (.tup [a, b, c]), .d (.int 3)] S = .ok (.d (.bl true)) S := by
  rw [run_is_tuple_of]
  simp [runDf, d_is_tuple_of, isiD]
theorem gl_small : P.gl "SMALL_LETTERS" = some (.d (.str abc)) := by rfl
theorem gl_name : P.gl "MOST_IN_NAME" = some (.d (.int 8)) := by rfl
theorem gl_rope : P.gl "MOST_ROPE" = some (.d (.int 99)) := by rfl
theorem gl_long : P.gl "MOST_LONG" = some (.d (.int 99)) := by rfl
theorem gl_boats : P.gl "MOST_BOATS" = some (.d (.int 7)) := by rfl
def wds : List D := match P.gl "WORDS" with
  | some (.d (.tup ds)) => ds
  | _ => []
theorem gl_words : P.gl "WORDS" = some (.d (.tup wds)) := by rfl
theorem wds_ok : ∀ d ∈ wds, ∃ w ∈ wordsS, d = .str w := wordsB_ok (by decide +kernel)
theorem letters_lc (cc : Cal) (S : Store) {s : Str} (h : NmOk s) (hg : cc.gl = P.gl) (x1 x2 : Option W) : evalE cc c0_is_letters [some (.d (.str s)), x1, x2, none] S = .ok (.d (.lst (s.cps.toList.map fun _ => D.bl true))) S := by
  have e := lc_run (c := cc) (own := [3]) (t := .nm 3) (i := .it .seq (.cons (.var 0) .nil)) (q := .yes) (e := .cmp .In (.var 3) (.glob "SMALL_LETTERS")) (σ := [some (.d (.str s)), x1, x2, none]) (S := S) (fun _ => some (.bl true))
    (items := s.cps.toList.map fun c => D.str ⟨#[c]⟩) (by simp [itW_str S (s := s) (by have := h.l8; omega)]) (by rw [List.length_map, ← str_len]; have := h.l8; omega) fun d hd => by
      obtain ⟨c, hc, rfl⟩ := List.mem_map.mp hd
      have := h.low c hc
      simp [hg, gl_small, in_abc this.1 this.2]
  rw [List.filterMap_map] at e
  rw [show c0_is_letters = .lc false [3] (.nm 3) (.it .seq (.cons (.var 0) .nil)) .yes (.cmp .In (.var 3) (.glob "SMALL_LETTERS")) from rfl, e]
  rw [show ((fun (_ : D) => some (D.bl true)) ∘ fun (c : Nat) => D.str ⟨#[c]⟩) = fun (_ : Nat) => some (D.bl true) from rfl, show (s.cps.toList.filterMap fun (_ : Nat) => some (D.bl true)) = s.cps.toList.map fun _ => D.bl true from congrFun List.filterMap_eq_map _]
theorem is_letters_ok (k : Nat) (S : Store) {s : Str} (h : NmOk s) : call P (k + 1) "is_letters" [.d (.str s), .d (.int 1), .d (.int 8)] S = .ok (.d (.bl true)) S := by
  have h1 := h.l1
  have h8 := h.l8
  have e := letters_lc (calAt P k) S h (by simp) (some (.d (.int 1))) (some (.d (.int 8)))
  have eb : boolsOf (s.cps.toList.map fun _ => D.bl true) = some (s.cps.toList.map fun _ => true) := by
    have := boolsOf_map (s.cps.toList.map fun _ => true)
    rw [List.map_map] at this
    exact this
  have f : fit s.length = true := decide_eq_true (by omega)
  rw [run_is_letters]
  simp [runDf, d_is_letters, isiD, f, e, eb, show (1 : Int) ≤ (s.length : Int) by omega, show (s.length : Int) ≤ 8 by omega]
theorem is_name_ok (k : Nat) (S : Store) {s : Str} (h : NmOk s) : call P (k + 2) "is_name" [.d (.str s)] S = .ok (.d (.bl true)) S := by
  rw [run_is_name]
  simp [runDf, d_is_name, gl_name, gl_words, is_letters_ok k S h, h.notIn wds_ok]
theorem is_boat_form_ok (k : Nat) (S : Store) {b : Bt} (h : b.Ok) : call P (k + 3) "is_boat_form" [.d b.d] S = .ok (.d (.bl true)) S := by
  rw [run_is_boat_form]
  simp [runDf, d_is_boat_form, gl_rope, gl_long, is_tuple_of_3, is_name_ok k S h.nm, is_number_int, h.r0, h.r9, h.l1, h.l9, atI, ixN]
abbrev rightF : Df := ⟨["each", "before"], ["each", "before"], false, n0_wrong_boats, []⟩
theorem right_run (k : Nat) (S : Store) {b : Bt} (h : b.Ok) (l : List Bt) (hl : ∀ c l', l = l' ++ [c] → ltN c.nm b.nm) : callf P (k + 4) rightF [] [.d b.d, .d (.tup (l.map Bt.d))] S = .ok (.d (.bl true)) S := by
  rw [callf_succ]
  rcases List.eq_nil_or_concat l with rfl | ⟨l', c, rfl⟩
  · simp [runLf, lfOk, W.plain, n0_wrong_boats, is_boat_form_ok k S h, eqD_tnil, fit]
  · have hc := hl c l' (by simp)
    have e : (l'.concat c).map Bt.d = l'.map Bt.d ++ [c.d] := by simp
    rw [e]
    have e2 : (l'.map Bt.d ++ [c.d]).isEmpty = false := by simp
    have b3 : ∀ z : Bt, atI [D.str z.nm, .int z.rope, .int z.long] 0 = some (.str z.nm) := fun z => rfl
    simp [runLf, lfOk, W.plain, n0_wrong_boats, is_boat_form_ok k S h, eqD_tnil, e2, atI_end, fit, b3, ltD_str, hc, -ltD]
theorem wrong_loop (k : Nat) (S : Store) {bs : List Bt} (hB : Boats bs) : ∀ (post pre : List Bt) (x3 x4 : Option W), bs = pre ++ post → ∃ y3 y4, forLoop (forTurn (Tg.tup (.cons (.nm 3) (.cons (.nm 4) .nil))).bind (execS (calAt P (k + 4)) b0_wrong_at)) (((post.map Bt.d).zipIdx pre.length).map fun p => D.tup [.int p.2, p.1])
    [some (.d (.tup (bs.map Bt.d))), some (.d (.int 7)), some (.lf rightF []), x3, x4] S = .nx [some (.d (.tup (bs.map Bt.d))), some (.d (.int 7)), some (.lf rightF []), y3, y4] S
  | [], pre, x3, x4, e => ⟨x3, x4, rfl⟩
  | b :: post, pre, x3, x4, e => by
    obtain ⟨y3, y4, e2⟩ := wrong_loop k S hB post (pre ++ [b]) (some (.d (.int pre.length))) (some (.d b.d)) (by rw [e]; simp)
    refine ⟨y3, y4, ?_⟩
    have hb : b.Ok := hB.ok b (by rw [e]; simp)
    have h7 := hB.l7
    rw [e, List.length_append, List.length_cons] at h7
    have ec : cutL (bs.map Bt.d) none (some (pre.length : Int)) = pre.map Bt.d := by
      rw [cutL_to _ (by omega) (by rw [List.length_map, e, List.length_append]; omega), e]
      simp
    have er := right_run k S hb pre fun c l' z => by
      have := hB.asc
      rw [e, z] at this
      have := (List.pairwise_append.mp this).2.2 c (by simp) b (by simp)
      exact this
    have e7 : ((pre.length : Int) == 7) = false := by simpa using (show ¬ (pre.length : Int) = 7 by omega)
    rw [List.map_cons, List.zipIdx_cons, List.map_cons]
    unfold forLoop
    rw [show forTurn (Tg.tup (.cons (.nm 3) (.cons (.nm 4) .nil))).bind (execS (calAt P (k + 4)) b0_wrong_at) (D.tup [.int (((b.d, pre.length) : D × Nat).2 : Nat), ((b.d, pre.length) : D × Nat).1]) [some (.d (.tup (bs.map Bt.d))), some (.d (.int 7)), some (.lf rightF []), x3, x4] S = .nx [some (.d (.tup (bs.map Bt.d))), some (.d (.int 7)), some (.lf rightF []), some (.d (.int pre.length)), some (.d b.d)] S by
      simp [b0_wrong_at, e7, slD, ec, er]]
    rw [List.length_append] at e2
    exact e2
theorem wrong_at_ok (k : Nat) (S : Store) {bs : List Bt} (hB : Boats bs) : call P (k + 5) "wrong_at" [.d (.tup (bs.map Bt.d)), .d (.int 7), .lf rightF []] S = .ok (.d (.lst [])) S := by
  obtain ⟨y3, y4, e⟩ := wrong_loop k S hB bs [] none none rfl
  rw [List.length_nil] at e
  rw [run_wrong_at]
  simp [-forTurn_eq, runDf, d_wrong_at, isiD, e, fit]
theorem wrong_from_one_ok (k : Nat) (S : Store) {bs : List Bt} (hB : Boats bs) : call P (k + 6) "wrong_from_one" [.d (.tup (bs.map Bt.d)), .d (.int 7), .lf rightF []] S = .ok (.d (.lst [])) S := by
  have hn : (bs.map Bt.d).isEmpty = false := by
    have := hB.ne
    cases bs with
    | nil => exact absurd rfl this
    | cons b bs => rfl
  rw [run_wrong_from_one]
  simp [runDf, d_wrong_from_one, isiD, fit, eqD_tnil, hn, wrong_at_ok k S hB]
theorem wrong_boats_ok (k : Nat) (S : Store) {bs : List Bt} (hB : Boats bs) : call P (k + 7) "wrong_boats" [.d (.tup (bs.map Bt.d))] S = .ok (.d (.lst [])) S := by
  rw [run_wrong_boats]
  simp [runDf, d_wrong_boats, gl_boats, wrong_from_one_ok k S hB]
theorem check_boats_ok (k : Nat) (S : Store) {bs : List Bt} (hB : Boats bs) : call P (k + 8) "check_boats" [.d (.tup (bs.map Bt.d))] S = .ok (.d .non) S := by
  rw [run_check_boats]
  simp [runDf, d_check_boats, wrong_boats_ok k S hB, eqD_lnil, fit]
end K07
namespace K07
open PySem PySem.Spec PyProof.Rows L2 Pyi
/-! ### the well -/
def Well (S : Store) (i : Nat) : Prop := ∃ a b c : Int, S[i]? = some (.lst [.int a, .int b, .int c])
theorem Well.lt {S : Store} {i : Nat} (h : Well S i) : i < S.length := by
  obtain ⟨a, b, c, h⟩ := h
  exact (List.getElem?_eq_some_iff.mp h).1
/-- S' is S but for the well at i -/
structure Drw (S S' : Store) (i : Nat) : Prop where
  u : Well S' i
  l : S'.length = S.length
  o : ∀ j, j ≠ i → S'[j]? = S[j]?
theorem Drw.trans {S S' S2 : Store} {i : Nat} (h : Drw S S' i) (h' : Drw S' S2 i) : Drw S S2 i := ⟨h'.u, by rw [h'.l, h.l], fun j hj => (h'.o j hj).trans (h.o j hj)⟩
theorem Drw.refl {S : Store} {i : Nat} (h : Well S i) : Drw S S i := ⟨h, rfl, fun _ _ => rfl⟩
theorem draw_run (k : Nat) (S : Store) (i : Nat) (m : Int) (h : Well S i) (h0 : 0 < m) (h1 : m < 1073741824) :
    ∃ r S', call P (k + 1) "_law_draw" [.ref i, .d (.int m)] S = .ok (.d (.int r)) S' ∧ 0 ≤ r ∧ r < m ∧ Drw S S' i := by
  have hl := h.lt
  obtain ⟨a, b, c, h⟩ := h
  have hs : ∀ c : Cell, (S.set i c)[i]? = some c := fun c => List.getElem?_set_self hl
  have ht : ∀ c : Cell, (S.set i c).take S.length = S.set i c := fun c => List.take_of_length_le (by simp)
  rw [run__law_draw]
  by_cases ha : 0 < a
  · refine ⟨a % m, S.set i (.lst [.int (a / m), .int b, .int c]), ?_, Int.emod_nonneg _ (by omega), Int.emod_lt_of_pos _ h0, ⟨_, _, _, hs _⟩, by simp, fun j hj => List.getElem?_set_ne (Ne.symm hj)⟩
    simp [runDf, d__law_draw, s0__law_draw, h, atI, ixN, ha, h0, h1, hs, ht]
  · have q0 : (1031 : Int) ≠ 0 := by decide
    have q1 : divOk 1031 = true := divOk_of (by decide) (by decide)
    have q3 : m ≠ 0 := by omega
    have q4 : ∀ x : Int, mulOk x 40009 = true := fun x => mulOk_of2 (by decide)
    have q5 : ∀ x : Int, mulOk 15013 x = true := fun x => mulOk_of (by decide)
    have q7 : ∀ x y : Int, mulOk x (y.fmod 5003 + 20011) = true := fun x y => mulOk_of2 (by
      rw [Int.fmod_eq_emod_of_nonneg _ (by decide)]
      have := Int.emod_nonneg y (b := 5003) (by decide)
      have := Int.emod_lt_of_pos y (b := 5003) (by decide)
      omega)
    refine ⟨_, _, by
      simp [runDf, d__law_draw, s0__law_draw, h, atI, ixN, ha, q0, q1, q3, q4, q5, q7, hs, ht]
      exact ⟨rfl, rfl⟩, ?_, ?_, ⟨_, _, _, hs _⟩, by simp, fun j hj => List.getElem?_set_ne (Ne.symm hj)⟩
    · rw [Int.fmod_eq_emod_of_nonneg _ (by omega)]
      exact Int.emod_nonneg _ (by omega)
    · rw [Int.fmod_eq_emod_of_nonneg _ (by omega)]
      exact Int.emod_lt_of_pos _ h0
theorem of_tup (k : Nat) (S : Store) (i : Nat) (ds : List D) (h : Well S i) (h0 : ds ≠ []) (h1 : ds.length < 1073741824) :
    ∃ d S', call P (k + 2) "_law_of" [.ref i, .d (.tup ds)] S = .ok (.d d) S' ∧ d ∈ ds ∧ Drw S S' i := by
  have hp : 0 < ds.length := List.length_pos_iff.mpr h0
  obtain ⟨r, S', e, r0, r1, hu⟩ := draw_run k S i (ds.length : Int) h (by omega) (by omega)
  have hr : r.toNat < ds.length := by omega
  refine ⟨ds[r.toNat], S', ?_, List.getElem_mem hr, hu⟩
  rw [run__law_of]
  have e2 : atI ds r = some ds[r.toNat] := by
    unfold atI ixN
    rw [if_pos r0, if_pos (by omega)]
    exact List.getElem?_eq_getElem hr
  simp [runDf, d__law_of, e, e2]
  rw [← hu.l, List.take_length]
end K07
namespace K07
open PySem PySem.Spec PyProof.Rows L2 Pyi
theorem mtW_pop {S : Store} {p : Nat} {ds : List D} {k : Int} (h : S[p]? = some (.lst ds)) (h0 : 0 ≤ k) (h1 : k < ds.length) (h2 : ds.length < 1000000) : ∃ d, mtW .pop S (.ref p) [.d (.int k)] = .ok (.d d) (S.set p (.lst (ds.eraseIdx k.toNat))) := by
  have hi : k.toNat < ds.length := by omega
  refine ⟨ds[k.toNat], ?_⟩
  have e1 : ixN ds.length k = some k.toNat := by
    unfold ixN
    rw [if_pos h0, if_pos h1]
  show (match S[p]? with
    | some (.lst ds) => if -(2 ^ 63) ≤ k ∧ k < 2 ^ 63 then match ixN ds.length k with
      | some j => match ds[j]? with
        | some d => Res.ok (W.d d) (S.set p (.lst (ds.eraseIdx j)))
        | none => .fail
      | none => .fail
      else .fail
    | _ => .fail) = _
  rw [h]
  dsimp only
  rw [if_pos ⟨by omega, by omega⟩, e1]
  dsimp only
  rw [List.getElem?_eq_getElem hi]
theorem unlike_loop (k : Nat) (i n : Nat) (hin : i ≠ n) (x1 x2 : Option W) : ∀ (ts es : List D) (S : Store) (x4 : Option W), Well S i → S[n]? = some (.lst es) → ts.length ≤ es.length → es.length < 1000 → ∃ fs y4 S',
    forLoop (forTurn (Tg.nm 4).bind (execS (calAt P (k + 1)) b0__law_unlike)) ts [some (.ref i), x1, x2, some (.ref n), x4] S = .nx [some (.ref i), x1, x2, some (.ref n), y4] S' ∧ fs.Sublist es ∧ fs.length + ts.length = es.length ∧ Well S' i ∧ S'[n]? = some (.lst fs) ∧ S'.length = S.length ∧ ∀ j, j ≠ i → j ≠ n → S'[j]? = S[j]?
  | [], es, S, x4, hu, hS, _, _ => ⟨es, x4, S, rfl, List.Sublist.refl _, rfl, hu, hS, rfl, fun _ _ _ => rfl⟩
  | t :: ts, es, S, x4, hu, hS, hl, h9 => by
    rw [List.length_cons] at hl
    obtain ⟨r, S1, e1, r0, r1, u1⟩ := draw_run k S i (es.length : Int) hu (by omega) (by omega)
    have hS1 : S1[n]? = some (.lst es) := (u1.o n (Ne.symm hin)).trans hS
    have hn : n < S1.length := (List.getElem?_eq_some_iff.mp hS1).1
    obtain ⟨d, ep⟩ := mtW_pop hS1 r0 r1 (by omega)
    have hi : r.toNat < es.length := by omega
    have hlen : (es.eraseIdx r.toNat).length = es.length - 1 := List.length_eraseIdx_of_lt hi
    have hu2 : Well (S1.set n (.lst (es.eraseIdx r.toNat))) i := by
      obtain ⟨a, b, c, h⟩ := u1.u
      exact ⟨a, b, c, (List.getElem?_set_ne (Ne.symm hin)).trans h⟩
    obtain ⟨fs, y4, S', e2, h1, h2, h3, h4, h5, h6⟩ := unlike_loop k i n hin x1 x2 ts (es.eraseIdx r.toNat) (S1.set n (.lst (es.eraseIdx r.toNat))) (some (.d t)) hu2 (List.getElem?_set_self hn) (by omega) (by omega)
    refine ⟨fs, y4, S', ?_, h1.trans (List.eraseIdx_sublist _ _), by rw [List.length_cons]; omega, h3, h4, by rw [h5, List.length_set, u1.l], fun j a b => by rw [h6 j a b, List.getElem?_set_ne (Ne.symm b), u1.o j a]⟩
    unfold forLoop
    rw [show forTurn (Tg.nm 4).bind (execS (calAt P (k + 1)) b0__law_unlike) t [some (.ref i), x1, x2, some (.ref n), x4] S = .nx [some (.ref i), x1, x2, some (.ref n), some (.d t)] (S1.set n (.lst (es.eraseIdx r.toNat))) by
      simp [b0__law_unlike, hS, hS1, e1, ep]]
    exact e2
theorem unlike_run (k : Nat) (S : Store) (i : Nat) (hu : Well S i) (w : W) (ds : List D) (m : Nat) (hw' : itemsOf S w = some ds) (hlen : ∀ S, bi1 .len S w = some (.d (.int (ds.length : Int)))) (hm : m ≤ ds.length) (h9 : ds.length < 1000) :
    ∃ es S', call P (k + 2) "_law_unlike" [.ref i, w, .d (.int (m : Int))] S = .ok (.d (.lst es)) S' ∧ es.Sublist ds ∧ es.length = m ∧ Drw S S' i := by
  have hi := hu.lt
  have hu1 : Well (S ++ [.lst ds]) i := by
    obtain ⟨a, b, c, h⟩ := hu
    exact ⟨a, b, c, by rw [List.getElem?_append_left hi]; exact h⟩
  have er := rng1 (S ++ [.lst ds]) (n := (ds.length : Int) - (m : Int)) (by omega)
  obtain ⟨fs, y4, S', e, h1, h2, h3, h4, h5, h6⟩ := unlike_loop k i S.length (by omega) (some w) (some (.d (.int (m : Int)))) ((range0 ((ds.length : Int) - (m : Int)).toNat).map D.int) ds (S ++ [.lst ds]) none hu1 (by simp) (by rw [List.length_map, len_range0]; omega) h9
  rw [List.length_map, len_range0] at h2
  rw [show ((ds.length : Int) - (m : Int)).toNat = ds.length - m by omega] at e er
  refine ⟨fs, S'.take S.length, ?_, h1, by omega, ?_, ?_, fun j hj => ?_⟩
  · rw [run__law_unlike]
    simp [-forTurn_eq, runDf, d__law_unlike, hw', hlen, er, e, h4, -bi1]
  · obtain ⟨a, b, c, hh⟩ := h3
    exact ⟨a, b, c, by rw [List.getElem?_take_of_lt hi]; exact hh⟩
  · rw [List.length_take, h5, List.length_append]
    simp
  · by_cases hj2 : j < S.length
    · rw [List.getElem?_take_of_lt hj2, h6 j hj (by omega), List.getElem?_append_left hj2]
    · rw [List.getElem?_eq_none (by rw [List.length_take]; omega), List.getElem?_eq_none (by omega)]
end K07
namespace K07
open PySem PySem.Spec PyProof.Rows L2 Pyi
/-- the words of the law, in its order: those of the program -/
def lawW : List Str := wordsS.reverse
theorem words_run (k : Nat) (S : Store) : ∃ ws : List Str, call P (k + 1) "_law_words" [] S = .ok (.d (.lst (ws.map .str))) S ∧ ∀ s, s ∈ ws ↔ s ∈ wordsS := by
  refine ⟨lawW, ?_, fun s => by unfold lawW; exact List.mem_reverse⟩
  rw [run__law_words]
  simp [runDf, d__law_words, fit, lawW, wordsS]
theorem name_loop (k : Nat) (i : Nat) (x1 x2 x4 : Option W) : ∀ (ds : List D) (S : Store) (s : Str) (x6 : Option W), Well S i → Low s → s.length + ds.length ≤ 1000 → ∃ (t : Str) (y6 : Option W) (S' : Store),
    forLoop (forTurn (Tg.nm 6).bind (execS (calAt P (k + 1)) b0__law_names)) ds [some (.ref i), x1, x2, some (.d (.str abc)), x4, some (.d (.str s)), x6] S = .nx [some (.ref i), x1, x2, some (.d (.str abc)), x4, some (.d (.str (s ++ t))), y6] S' ∧ Low t ∧ t.length = ds.length ∧ Drw S S' i
  | [], S, s, x6, hu, _, _ => ⟨"", x6, S, by
      have : s ++ ("" : Str) = s := str_eq (by rw [cps_app, show ("" : Str).cps.toList = [] by decide +kernel, List.append_nil])
      rw [this]
      rfl, low_nil, rfl, Drw.refl hu⟩
  | d :: ds, S, s, x6, hu, hs, hl => by
    rw [List.length_cons] at hl
    obtain ⟨r, S1, e1, r0, r1, u1⟩ := draw_run k S i 26 hu (by decide) (by decide)
    have hc : 97 ≤ 97 + r.toNat ∧ 97 + r.toNat ≤ 122 := by omega
    have l1 : (⟨#[97 + r.toNat]⟩ : Str).length = 1 := rfl
    obtain ⟨t, y6, S2, e2, hs2, hl2, u2⟩ := name_loop k i x1 x2 x4 ds S1 (s ++ ⟨#[97 + r.toNat]⟩) (some (.d d)) u1.u (low_app hs (low_sign hc.1 hc.2)) (by rw [len_app, l1]; omega)
    refine ⟨⟨#[97 + r.toNat]⟩ ++ t, y6, S2, ?_, low_app (low_sign hc.1 hc.2) hs2, by rw [len_app, l1, hl2, List.length_cons]; omega, u1.trans u2⟩
    have f : fit (s.length + (⟨#[97 + r.toNat]⟩ : Str).length) = true := decide_eq_true (by rw [l1]; omega)
    have sg := sign_abc r0 r1
    have fa : fit abc.length = true := by decide +kernel
    have as : s ++ (⟨#[97 + r.toNat]⟩ ++ t) = s ++ ⟨#[97 + r.toNat]⟩ ++ t := str_eq (by rw [cps_app, cps_app, cps_app, cps_app, List.append_assoc])
    rw [as]
    unfold forLoop
    rw [show forTurn (Tg.nm 6).bind (execS (calAt P (k + 1)) b0__law_names) d [some (.ref i), x1, x2, some (.d (.str abc)), x4, some (.d (.str s)), x6] S = .nx [some (.ref i), x1, x2, some (.d (.str abc)), x4, some (.d (.str (s ++ ⟨#[97 + r.toNat]⟩))), some (.d d)] S1 by
      simp [b0__law_names, e1, sg, fa, f]]
    exact e2
end K07
namespace K07
open PySem PySem.Spec PyProof.Rows L2 Pyi
theorem cut_all {x : Str} {i : Int} (h0 : 0 ≤ i) (h : (x.length : Int) ≤ i) : cutS x none (some i) = x := by
  refine str_eq ?_
  unfold cutS
  rw [HT.sIx_none]
  have e : HT.sIx x.length x.length (some i) = x.length := by
    show (if i < 0 then (i + (x.length : Int)).toNat else min i.toNat x.length) = _
    rw [if_neg (by omega)]
    omega
  rw [e, str_len]
  show List.take _ _ = _
  exact List.take_length
theorem words7 : ∀ w ∈ wordsS, w.length ≤ 7 := by decide +kernel
theorem in_lst (s : Str) (nms : List Str) : inD (.str s) (.lst (nms.map .str)) = some (decide (s ∈ nms)) := by
  show inDs _ _ = _
  unfold inDs
  have : decide (min (depths (nms.map D.str)) (D.str s).depth ≤ 64) = true := by
    rw [depth_str]
    simp
  rw [this]
  show some _ = some _
  congr 1
  rw [List.any_map]
  by_cases h : s ∈ nms
  · rw [decide_eq_true h, List.any_eq_true]
    exact ⟨s, h, by simp⟩
  · rw [decide_eq_false h, List.any_eq_false]
    intro x hx
    have : x ≠ s := fun z => h (z ▸ hx)
    simpa using this
theorem names_turn (k : Nat) (i n : Nat) (hin : i ≠ n) {c : Nat} (c0 : 97 ≤ c) (c1 : c ≤ 122) (x1 x5 x6 : Option W) (S : Store) {nms : List Str} (hu : Well S i) (hS : S[n]? = some (.lst (nms.map .str))) (hl : nms.length ≤ 1000) :
    ∃ y5 y6 s' S', execS (calAt P (k + 2)) b1__law_names [some (.ref i), x1, some (.ref n), some (.d (.str abc)), some (.d (.str ⟨#[c]⟩)), x5, x6] S = .nx [some (.ref i), x1, some (.ref n), some (.d (.str abc)), some (.d (.str ⟨#[c]⟩)), y5, y6] S' ∧
      NmOk s' ∧ s'.cps.toList.head? = some c ∧ Well S' i ∧ S'[n]? = some (.lst ((nms ++ [s']).map .str)) ∧ S'.length = S.length ∧ ∀ j, j ≠ i → j ≠ n → S'[j]? = S[j]? := by
  obtain ⟨z, S1, e1, hz, u1⟩ := of_tup k S i [.int 0, .int 0, .int 1, .int 2, .int 4, .int 7] hu (by simp) (by simp)
  obtain ⟨size, rfl, z0, z7⟩ : ∃ size : Int, z = .int size ∧ 0 ≤ size ∧ size ≤ 7 := by
    simp at hz
    rcases hz with rfl | rfl | rfl | rfl | rfl
    · exact ⟨0, rfl, by decide, by decide⟩
    · exact ⟨1, rfl, by decide, by decide⟩
    · exact ⟨2, rfl, by decide, by decide⟩
    · exact ⟨4, rfl, by decide, by decide⟩
    · exact ⟨7, rfl, by decide, by decide⟩
  have er := rng1 S1 (n := size) (by omega)
  have l1 : (⟨#[c]⟩ : Str).length = 1 := rfl
  obtain ⟨t, y6, S2, e2, ht, hlt, u2⟩ := name_loop (k + 1) i x1 (some (.ref n)) (some (.d (.str ⟨#[c]⟩))) ((range0 size.toNat).map D.int) S1 ⟨#[c]⟩ x6 u1.u (low_sign c0 c1) (by rw [List.length_map, len_range0, l1]; omega)
  rw [List.length_map, len_range0] at hlt
  obtain ⟨ws, e3, hws⟩ := words_run (k + 1) S2
  have u := u1.trans u2
  have hS2 : S2[n]? = some (.lst (nms.map .str)) := (u.o n (Ne.symm hin)).trans hS
  have hn2 : n < S2.length := (List.getElem?_eq_some_iff.mp hS2).1
  have hnl : nms.length < 16777216 := by omega
  have inn := in_lst (⟨#[c]⟩ ++ t) ws
  have nl : (⟨#[c]⟩ ++ t : Str).length = 1 + size.toNat := by rw [len_app, l1, hlt]
  have nlow : Low (⟨#[c]⟩ ++ t) := low_app (low_sign c0 c1) ht
  have hd : (⟨#[c]⟩ ++ t : Str).cps.toList.head? = some c := by rw [cps_app]; rfl
  have fin : ∀ s' : Str, S2.set n (.lst (nms.map .str ++ [.str s'])) = S2.set n (.lst ((nms ++ [s']).map .str)) := fun s' => by rw [List.map_append]; rfl
  have fu : ∀ c : Cell, Well (S2.set n c) i ∧ (S2.set n c)[n]? = some c ∧ (S2.set n c).length = S.length ∧ ∀ j, j ≠ i → j ≠ n → (S2.set n c)[j]? = S[j]? := fun c => by
    refine ⟨?_, List.getElem?_set_self hn2, by rw [List.length_set, u.l], fun j a b => by rw [List.getElem?_set_ne (Ne.symm b)]; exact u.o j a⟩
    obtain ⟨a, b, d, h⟩ := u.u
    exact ⟨a, b, d, (List.getElem?_set_ne (Ne.symm hin)).trans h⟩
  by_cases hm : (⟨#[c]⟩ ++ t : Str) ∈ ws
  · have h7 := words7 _ ((hws _).mp hm)
    have ca := cut_all (x := ⟨#[c]⟩ ++ t) (i := 7) (by decide) (by omega)
    have lq : ("q" : Str).length = 1 := by decide
    have fq : fit ((⟨#[c]⟩ ++ t : Str).length + ("q" : Str).length) = true := decide_eq_true (by rw [lq]; omega)
    have fl : fit (⟨#[c]⟩ ++ t : Str).length = true := decide_eq_true (by omega)
    have cq : ("q" : Str).cps.toList = [113] := by decide +kernel
    obtain ⟨f1, f2, f3, f4⟩ := fu (.lst ((nms ++ [⟨#[c]⟩ ++ t ++ "q"]).map .str))
    refine ⟨some (.d (.str (⟨#[c]⟩ ++ t))), y6, ⟨#[c]⟩ ++ t ++ "q", _, ?_, ⟨low_app nlow fun x hx => ?_, by rw [len_app]; omega, by rw [len_app, lq]; omega, nw_of_q (.inr (by rw [cps_app, cq]; simp))⟩, ?_, f1, f2, f3, f4⟩
    · rw [decide_eq_true hm] at inn
      rw [← fin]
      simp [-forTurn_eq, b1__law_names, e1, er, e2, e3, inn, slD, fl, ca, fq, hS2, hnl, show fit 6 = true from rfl]
    · rw [cq] at hx
      have : x = 113 := by simpa using hx
      omega
    · rw [cps_app, cps_app]; rfl
  · obtain ⟨f1, f2, f3, f4⟩ := fu (.lst ((nms ++ [⟨#[c]⟩ ++ t]).map .str))
    refine ⟨some (.d (.str (⟨#[c]⟩ ++ t))), y6, ⟨#[c]⟩ ++ t, _, ?_, ⟨nlow, by omega, by omega, fun z => hm ((hws _).mpr z)⟩, hd, f1, f2, f3, f4⟩
    rw [decide_eq_false hm] at inn
    rw [← fin]
    simp [-forTurn_eq, b1__law_names, e1, er, e2, e3, inn, hS2, hnl, show fit 6 = true from rfl]
end K07
namespace K07
open PySem PySem.Spec PyProof.Rows L2 Pyi
theorem names_loop (k : Nat) (i n : Nat) (hin : i ≠ n) (x1 : Option W) : ∀ (ls : List Nat) (nms : List Str) (S : Store) (x4 x5 x6 : Option W), Well S i → S[n]? = some (.lst (nms.map .str)) → (∀ c ∈ ls, 97 ≤ c ∧ c ≤ 122) → nms.length + ls.length ≤ 1000 → ∃ new y4 y5 y6 S',
    forLoop (forTurn (Tg.nm 4).bind (execS (calAt P (k + 2)) b1__law_names)) (ls.map fun c => D.str ⟨#[c]⟩) [some (.ref i), x1, some (.ref n), some (.d (.str abc)), x4, x5, x6] S = .nx [some (.ref i), x1, some (.ref n), some (.d (.str abc)), y4, y5, y6] S' ∧
      Well S' i ∧ S'[n]? = some (.lst ((nms ++ new).map .str)) ∧ (∀ s ∈ new, NmOk s) ∧ new.map (fun s => s.cps.toList.head?) = ls.map some ∧ S'.length = S.length ∧ ∀ j, j ≠ i → j ≠ n → S'[j]? = S[j]?
  | [], nms, S, x4, x5, x6, hu, hS, _, _ => ⟨[], x4, x5, x6, S, rfl, hu, by rw [List.append_nil]; exact hS, fun _ h => (by cases h), rfl, rfl, fun _ _ _ => rfl⟩
  | c :: ls, nms, S, x4, x5, x6, hu, hS, hc, hl => by
    rw [List.length_cons] at hl
    have h0 := hc c List.mem_cons_self
    obtain ⟨y5, y6, s', S1, e1, ok, hd, u1, g1, l1, o1⟩ := names_turn k i n hin h0.1 h0.2 x1 x5 x6 S hu hS (by omega)
    obtain ⟨new, z4, z5, z6, S2, e2, u2, g2, ok2, hd2, l2, o2⟩ := names_loop k i n hin x1 ls (nms ++ [s']) S1 (some (.d (.str ⟨#[c]⟩))) y5 y6 u1 g1 (fun c hc' => hc c (List.mem_cons_of_mem _ hc')) (by rw [List.length_append, List.length_singleton]; omega)
    rw [List.append_assoc] at g2
    refine ⟨s' :: new, z4, z5, z6, S2, ?_, u2, g2, fun s hs => ?_, by rw [List.map_cons, List.map_cons, hd, hd2], by omega, fun j a b => (o2 j a b).trans (o1 j a b)⟩
    · rw [List.map_cons]
      unfold forLoop
      rw [show forTurn (Tg.nm 4).bind (execS (calAt P (k + 2)) b1__law_names) (D.str ⟨#[c]⟩) [some (.ref i), x1, some (.ref n), some (.d (.str abc)), x4, x5, x6] S = execS (calAt P (k + 2)) b1__law_names [some (.ref i), x1, some (.ref n), some (.d (.str abc)), some (.d (.str ⟨#[c]⟩)), x5, x6] S from rfl, e1]
      exact e2
    · rcases List.mem_cons.mp hs with rfl | hs
      · exact ok
      · exact ok2 s hs
/-- names by ascending first signs are ascending -/
theorem asc_heads : ∀ {ns : List Str} {ls : List Nat}, ns.map (fun s => s.cps.toList.head?) = ls.map some → ls.Pairwise (· < ·) → ns.Pairwise ltN
  | [], _, _, _ => .nil
  | s :: ns, [], h, _ => by cases h
  | s :: ns, c :: ls, h, hp => by
    rw [List.map_cons, List.map_cons] at h
    injection h with h1 h2
    obtain ⟨p1, p2⟩ := List.pairwise_cons.mp hp
    refine List.pairwise_cons.mpr ⟨fun t ht => ?_, asc_heads h2 p2⟩
    have hm : t.cps.toList.head? ∈ ls.map some := by rw [← h2]; exact List.mem_map.mpr ⟨t, ht, rfl⟩
    obtain ⟨d, hd, e⟩ := List.mem_map.mp hm
    have hcd := p1 d hd
    unfold ltN
    cases hs : s.cps.toList with
    | nil => rw [hs] at h1; cases h1
    | cons a l =>
      cases ht2 : t.cps.toList with
      | nil => rw [ht2] at e; cases e
      | cons b m =>
        rw [hs] at h1
        rw [ht2] at e
        cases h1
        cases e
        exact List.cons_lt_cons_iff.mpr (.inl hcd)
end K07
namespace K07
open PySem PySem.Spec PyProof.Rows L2 Pyi
/-- the letters with which names begin -/
def l25 : List Nat := (List.range 25).map (97 + ·)
def abc25 : Str := cutS abc none (some 25)
theorem abc25_at : abc25.cps.toList = l25 := by decide +kernel
theorem abc25_len : abc25.length = 25 := by decide +kernel
theorem l25_asc : l25.Pairwise (· < ·) := by decide
theorem l25_in : ∀ c ∈ l25, 97 ≤ c ∧ c ≤ 121 := by decide
/-- names as they are drawn -/
structure NmA (s : Str) : Prop extends NmOk s where
  hd : ∃ c, s.cps.toList.head? = some c ∧ c ≤ 121
theorem names_run (k : Nat) (S : Store) (i m : Nat) (hu : Well S i) (h7 : m ≤ 25) : ∃ (nms : List Str) (S' : Store), call P (k + 3) "_law_names" [.ref i, .d (.int (m : Int))] S = .ok (.d (.lst (nms.map .str))) S' ∧ nms.length = m ∧ (∀ s ∈ nms, NmA s) ∧ nms.Pairwise ltN ∧ Drw S S' i := by
  have hi := hu.lt
  have hu1 : Well (S ++ [.lst []]) i := by
    obtain ⟨a, b, c, h⟩ := hu
    exact ⟨a, b, c, by rw [List.getElem?_append_left hi]; exact h⟩
  have f25 : fit abc25.length = true := by rw [abc25_len]; rfl
  have hit : itemsOf (S ++ [.lst []]) (.d (.str abc25)) = some (l25.map fun c => D.str ⟨#[c]⟩) := by
    show guard' (fit abc25.length) _ = _
    rw [f25, abc25_at]
    rfl
  have hlen : ∀ S, bi1 .len S (.d (.str abc25)) = some (.d (.int (((l25.map fun c => D.str ⟨#[c]⟩).length : Nat) : Int))) := fun S => by
    show guard' (fit abc25.length) _ = _
    rw [f25, abc25_len]
    rfl
  obtain ⟨es, S1, e1, hs, hl, u1⟩ := unlike_run k (S ++ [.lst []]) i hu1 (.d (.str abc25)) (l25.map fun c => D.str ⟨#[c]⟩) m hit hlen (by rw [List.length_map]; exact h7) (by rw [List.length_map]; decide)
  obtain ⟨ls, hls, rfl⟩ := List.sublist_map_iff.mp hs
  rw [List.length_map] at hl
  have hin := fun c hc => l25_in c (hls.subset hc)
  have hS1 : S1[S.length]? = some (.lst (([] : List Str).map .str)) := by
    rw [u1.o _ (by omega)]
    simp
  obtain ⟨new, y4, y5, y6, S', e, u, g, ok, hd, l, o⟩ := names_loop k i S.length (by omega) (some (.d (.int (m : Int)))) ls [] S1 none none none u1.u hS1 (fun c hc => ⟨(hin c hc).1, by have := (hin c hc).2; omega⟩) (by show 0 + _ ≤ _; omega)
  have hln : new.length = m := by
    have := congrArg List.length hd
    rw [List.length_map, List.length_map] at this
    omega
  rw [List.nil_append] at g
  refine ⟨new, S'.take S.length, ?_, hln, fun s hs => ⟨ok s hs, ?_⟩, asc_heads hd (l25_asc.sublist hls), ?_, ?_, fun j hj => ?_⟩
  · rw [run__law_names]
    have sl : slD (.str abc) none (some 25) = some (.str abc25) := by rfl
    simp [-forTurn_eq, runDf, d__law_names, fit, sl, e1, e, g]
  · have : s.cps.toList.head? ∈ ls.map some := by rw [← hd]; exact List.mem_map.mpr ⟨s, hs, rfl⟩
    obtain ⟨c, hc, e⟩ := List.mem_map.mp this
    exact ⟨c, e.symm, (hin c hc).2⟩
  · obtain ⟨a, b, c, hh⟩ := u
    exact ⟨a, b, c, by rw [List.getElem?_take_of_lt hi]; exact hh⟩
  · rw [List.length_take, l, u1.l, List.length_append]
    simp
  · by_cases hj2 : j < S.length
    · rw [List.getElem?_take_of_lt hj2, o j hj (by omega), u1.o j hj, List.getElem?_append_left hj2]
    · rw [List.getElem?_eq_none (by rw [List.length_take]; omega), List.getElem?_eq_none (by omega)]
/-! ### boats -/
theorem boats_loop (k : Nat) (i n : Nat) (hin : i ≠ n) (x1 : Option W) (rope long : Int) (r0 : 0 ≤ rope) (r9 : rope ≤ 99) (g1 : 1 ≤ long) (g9 : long ≤ 99) : ∀ (ss : List Str) (bs : List Bt) (S : Store) (x5 : Option W), Well S i → S[n]? = some (.lst (bs.map Bt.d)) → (∀ s ∈ ss, NmOk s) → bs.length + ss.length ≤ 1000 →
    ∃ bs' y5 S', forLoop (forTurn (Tg.nm 5).bind (execS (calAt P (k + 1)) b0__law_boats)) (ss.map .str) [some (.ref i), x1, some (.d (.int rope)), some (.d (.int long)), some (.ref n), x5] S = .nx [some (.ref i), x1, some (.d (.int rope)), some (.d (.int long)), some (.ref n), y5] S' ∧
      bs'.map Bt.nm = ss ∧ (∀ b ∈ bs', b.Ok ∧ b.rope ≤ rope ∧ b.long ≤ long) ∧ Well S' i ∧ S'[n]? = some (.lst ((bs ++ bs').map Bt.d)) ∧ S'.length = S.length ∧ ∀ j, j ≠ i → j ≠ n → S'[j]? = S[j]?
  | [], bs, S, x5, hu, hS, _, _ => ⟨[], x5, S, rfl, rfl, fun _ h => (by cases h), hu, by rw [List.append_nil]; exact hS, rfl, fun _ _ _ => rfl⟩
  | s :: ss, bs, S, x5, hu, hS, hs, hl => by
    rw [List.length_cons] at hl
    obtain ⟨p, S1, e1, p0, p1, u1⟩ := draw_run k S i (rope + 1) hu (by omega) (by omega)
    obtain ⟨q, S2, e2, q0, q1, u2⟩ := draw_run k S1 i long u1.u (by omega) (by omega)
    have u := u1.trans u2
    have hS2 : S2[n]? = some (.lst (bs.map Bt.d)) := (u.o n (Ne.symm hin)).trans hS
    have hn2 : n < S2.length := (List.getElem?_eq_some_iff.mp hS2).1
    have hw : Well (S2.set n (.lst ((bs ++ [(⟨s, p, 1 + q⟩ : Bt)]).map Bt.d))) i := by
      obtain ⟨a, b, d, h⟩ := u.u
      exact ⟨a, b, d, (List.getElem?_set_ne (Ne.symm hin)).trans h⟩
    obtain ⟨bs', y5, S4, e4, h1, h2, h3, h4, h5, h6⟩ := boats_loop k i n hin x1 rope long r0 r9 g1 g9 ss (bs ++ [⟨s, p, 1 + q⟩]) (S2.set n (.lst ((bs ++ [(⟨s, p, 1 + q⟩ : Bt)]).map Bt.d))) (some (.d (.str s))) hw (List.getElem?_set_self hn2) (fun x hx => hs x (List.mem_cons_of_mem _ hx)) (by rw [List.length_append, List.length_singleton]; omega)
    rw [List.append_assoc] at h4
    refine ⟨⟨s, p, 1 + q⟩ :: bs', y5, S4, ?_, by rw [List.map_cons, h1], fun b hb => ?_, h3, h4, by rw [h5, List.length_set, u.l], fun j a b => by rw [h6 j a b, List.getElem?_set_ne (Ne.symm b), u.o j a]⟩
    · rw [List.map_cons]
      unfold forLoop
      have hbl : bs.length < 16777216 := by omega
      rw [show forTurn (Tg.nm 5).bind (execS (calAt P (k + 1)) b0__law_boats) (.str s) [some (.ref i), x1, some (.d (.int rope)), some (.d (.int long)), some (.ref n), x5] S = .nx [some (.ref i), x1, some (.d (.int rope)), some (.d (.int long)), some (.ref n), some (.d (.str s))] (S2.set n (.lst ((bs ++ [(⟨s, p, 1 + q⟩ : Bt)]).map Bt.d))) by
        rw [List.map_append]
        simp [b0__law_boats, e1, e2, hS, hS2, hbl, show fit 3 = true from rfl]]
      exact e4
    · rcases List.mem_cons.mp hb with rfl | hb
      · exact ⟨⟨hs s List.mem_cons_self, p0, by show p ≤ 99; omega, by show 1 ≤ 1 + q; omega, by show 1 + q ≤ 99; omega⟩, by show p ≤ rope; omega, by show 1 + q ≤ long; omega⟩
      · exact h2 b hb
theorem boats_run (k : Nat) (S : Store) (i : Nat) (most rope long : Int) (hu : Well S i) (m1 : 1 ≤ most) (m7 : most ≤ 7) (r0 : 0 ≤ rope) (r9 : rope ≤ 99) (g1 : 1 ≤ long) (g9 : long ≤ 99) :
    ∃ bs S', call P (k + 4) "_law_boats" [.ref i, .d (.int most), .d (.int rope), .d (.int long)] S = .ok (.d (.tup (bs.map Bt.d))) S' ∧ Boats bs ∧ (∀ b ∈ bs, NmA b.nm ∧ b.rope ≤ rope ∧ b.long ≤ long) ∧ (bs.length : Int) ≤ most ∧ Drw S S' i := by
  have hi := hu.lt
  have hu0 : Well (S ++ [.lst []]) i := by
    obtain ⟨a, b, c, h⟩ := hu
    exact ⟨a, b, c, by rw [List.getElem?_append_left hi]; exact h⟩
  obtain ⟨r, S1, e1, a0, a1, u1⟩ := draw_run (k + 2) (S ++ [.lst []]) i most hu0 (by omega) (by omega)
  obtain ⟨r', S2, e2, b0, b1, u2⟩ := draw_run (k + 2) S1 i most u1.u (by omega) (by omega)
  obtain ⟨m, hm, hm1⟩ : ∃ m : Nat, (1 + if r' > r then r' else r) = (m : Int) ∧ 1 ≤ m ∧ (m : Int) ≤ most := ⟨(1 + if r' > r then r' else r).toNat, by split <;> omega, by split <;> omega, by split <;> omega⟩
  obtain ⟨nms, S3, e3, hl, ok, asc, u3⟩ := names_run k S2 i m u2.u (by omega)
  have u := (u1.trans u2).trans u3
  have hS3 : S3[S.length]? = some (.lst (([] : List Bt).map Bt.d)) := by
    rw [u.o _ (by omega)]
    simp
  obtain ⟨bs, y5, S', e, h1, h2, h3, h4, h5, h6⟩ := boats_loop (k + 2) i S.length (by omega) (some (.d (.int most))) rope long r0 r9 g1 g9 nms [] S3 none u3.u hS3 (fun s hs => (ok s hs).toNmOk) (by show 0 + _ ≤ _; omega)
  rw [List.nil_append] at h4
  have hbl : bs.length = m := by rw [← hl, ← h1, List.length_map]
  refine ⟨bs, S'.take S.length, ?_, ⟨?_, by omega, fun b hb => (h2 b hb).1, ?_⟩, fun b hb => ⟨ok _ (by rw [← h1]; exact List.mem_map_of_mem hb), (h2 b hb).2⟩, by omega, ?_, ?_, fun j hj => ?_⟩
  · rw [run__law_boats]
    simp [-forTurn_eq, runDf, d__law_boats, fit, e1, e2]
    rw [show (1 + if r' > r then r' else r) = (m : Int) from hm] at *
    simp [-forTurn_eq, e3, e, h4]
  · intro z
    rw [z] at hbl
    simp at hbl
    omega
  · rw [← h1] at asc
    exact List.pairwise_map.mp asc
  · obtain ⟨a, b, c, hh⟩ := h3
    exact ⟨a, b, c, by rw [List.getElem?_take_of_lt hi]; exact hh⟩
  · rw [List.length_take, h5, u.l, List.length_append]
    simp
  · by_cases hj2 : j < S.length
    · rw [List.getElem?_take_of_lt hj2, h6 j hj (by omega), u.o j hj, List.getElem?_append_left hj2]
    · rw [List.getElem?_eq_none (by rw [List.length_take]; omega), List.getElem?_eq_none (by omega)]
end K07
namespace K07
open PySem PySem.Spec PyProof.Rows L2 Pyi
/-! ### tuples of numbers -/
theorem eqD_t2 (a b c d : Int) : eqD (.tup [.int a, .int b]) (.tup [.int c, .int d]) = some (decide (a = c ∧ b = d)) := by
  show guard' (okq _ _) _ = _
  rw [eqv_tup]
  by_cases h : a = c <;> by_cases g : b = d <;> simp [okq, h, g]
theorem ltL_2 (a b c d : Int) : ltL [.int a, .int b] [.int c, .int d] = decide (a < c ∨ a = c ∧ b < d) := by
  rw [ltL_cons _ _ (alike_int _ _), ltL_cons _ _ (alike_int _ _)]
  by_cases h : a = c <;> by_cases g : b = d <;> simp [h, g]
theorem ltL_4 (a b c d a' b' c' d' : Int) : ltL [.int a, .int b, .int c, .int d] [.int a', .int b', .int c', .int d'] = decide (a < a' ∨ a = a' ∧ (b < b' ∨ b = b' ∧ (c < c' ∨ c = c' ∧ d < d'))) := by
  rw [ltL_cons _ _ (alike_int _ _), ltL_cons _ _ (alike_int _ _), ltL_cons _ _ (alike_int _ _), ltL_cons _ _ (alike_int _ _)]
  by_cases h : a = a' <;> by_cases g : b = b' <;> by_cases h' : c = c' <;> by_cases g' : d = d' <;> simp [h, g, h', g']
theorem leD_t2 (a b c d : Int) : leD (.tup [.int a, .int b]) (.tup [.int c, .int d]) = some (!decide (c < a ∨ c = a ∧ d < b)) := by
  show guard' (okl _ _) _ = _
  rw [lt_tup, ltL_2]
  simp [okl]
theorem ltD_t4 (a b c d a' b' c' d' : Int) : ltD (.tup [.int a, .int b, .int c, .int d]) (.tup [.int a', .int b', .int c', .int d']) = some (decide (a < a' ∨ a = a' ∧ (b < b' ∨ b = b' ∧ (c < c' ∨ c = c' ∧ d < d')))) := by
  show guard' (okl _ _) _ = _
  rw [lt_tup, ltL_4]
  simp [okl]
theorem geD_str (x y : Str) : geD (.str x) (.str y) = some (!decide (ltN x y)) := by
  show guard' (okl _ _) _ = _
  rw [lt_strN]
  unfold okl
  simp
/-! ### harbours -/
structure By where
  nm : Str
  x : Int
  y : Int
  deriving DecidableEq
abbrev By.d (b : By) : D := .tup [.str b.nm, .int b.x, .int b.y]
structure By.Ok (b : By) : Prop where
  nm : NmOk b.nm
  x0 : 0 ≤ b.x
  x9 : b.x ≤ 199
  y0 : 0 ≤ b.y
  y9 : b.y ≤ 199
structure Buoys (bs : List By) : Prop where
  ne : bs ≠ []
  l8 : bs.length ≤ 8
  ok : ∀ b ∈ bs, b.Ok
  asc : bs.Pairwise fun a b => ltN a.nm b.nm
  un : bs.Pairwise fun a b => ¬ (a.x = b.x ∧ a.y = b.y)
structure Wl where
  a : Int
  b : Int
  c : Int
  d : Int
  deriving DecidableEq
abbrev Wl.e (w : Wl) : D := .tup [.int w.a, .int w.b, .int w.c, .int w.d]
structure Wl.Ok (w : Wl) : Prop where
  a0 : 0 ≤ w.a
  a9 : w.a ≤ 199
  b0 : 0 ≤ w.b
  b9 : w.b ≤ 199
  c0 : 0 ≤ w.c
  c9 : w.c ≤ 199
  d0 : 0 ≤ w.d
  d9 : w.d ≤ 199
  le : ¬ (w.c < w.a ∨ w.c = w.a ∧ w.d < w.b)
def ltW (v w : Wl) : Prop := v.a < w.a ∨ v.a = w.a ∧ (v.b < w.b ∨ v.b = w.b ∧ (v.c < w.c ∨ v.c = w.c ∧ v.d < w.d))
structure Walls (ws : List Wl) : Prop where
  l8 : ws.length ≤ 8
  ok : ∀ w ∈ ws, w.Ok
  asc : ws.Pairwise ltW
theorem walls_nil : Walls [] := ⟨by decide, fun _ h => (by cases h), .nil⟩
structure Hb where
  room : Int
  bs : List By
  ws : List Wl
abbrev Hb.d (h : Hb) : D := .tup [.int h.room, .tup (h.bs.map By.d), .tup (h.ws.map Wl.e)]
structure Hb.Ok (h : Hb) : Prop where
  r1 : 1 ≤ h.room
  r9 : h.room ≤ 99
  bs : Buoys h.bs
  ws : Walls h.ws
theorem gl_room : P.gl "MOST_ROOM" = some (.d (.int 99)) := by rfl
theorem gl_place : P.gl "MOST_PLACE" = some (.d (.int 199)) := by rfl
theorem gl_buoys : P.gl "MOST_BUOYS" = some (.d (.int 8)) := by rfl
theorem gl_walls : P.gl "MOST_WALLS" = some (.d (.int 8)) := by rfl
theorem gl_next : P.gl "is_next_wall" = some (.fn "is_next_wall") := by rfl
theorem is_place_form_ok (k : Nat) (S : Store) {x y : Int} (x0 : 0 ≤ x) (x9 : x ≤ 199) (y0 : 0 ≤ y) (y9 : y ≤ 199) : call P (k + 3) "is_place_form" [.d (.int x), .d (.int y)] S = .ok (.d (.bl true)) S := by
  rw [run_is_place_form]
  simp [runDf, d_is_place_form, gl_place, is_number_int, x0, x9, y0, y9]
theorem is_buoy_form_ok (k : Nat) (S : Store) {b : By} (h : b.Ok) : call P (k + 4) "is_buoy_form" [.d b.d] S = .ok (.d (.bl true)) S := by
  rw [run_is_buoy_form]
  simp [runDf, d_is_buoy_form, is_tuple_of_3, is_name_ok k.succ S h.nm, is_place_form_ok, h.x0, h.x9, h.y0, h.y9, atI, ixN]
abbrev brightF : Df := ⟨["each", "before", "one"], ["each", "before"], false, n2_are_buoys_form, []⟩
theorem bright_lc (cc : Cal) (S : Store) (b : By) (l : List By) (hl : l.length ≤ 1000) (x2 : Option W) : evalE cc c1_are_buoys_form [some (.d b.d), some (.d (.tup (l.map By.d))), x2] S = .ok (.d (.lst (l.map fun a => D.bl (decide (a.x = b.x ∧ a.y = b.y))))) S := by
  have g : ∀ a : By, slD a.d (some 1) none = some (.tup [.int a.x, .int a.y]) := fun a => by rfl
  have e := lc_run (c := cc) (own := [2]) (t := .nm 2) (i := .it .seq (.cons (.var 1) .nil)) (q := .yes) (e := .cmp .Eq (.sl (.var 2) (.pt (.cst (.int 1))) .no) (.sl (.var 0) (.pt (.cst (.int 1))) .no)) (σ := [some (.d b.d), some (.d (.tup (l.map By.d))), x2]) (S := S)
    (fun d => match d with
      | .tup [_, .int x, .int y] => some (.bl (decide (x = b.x ∧ y = b.y)))
      | _ => none)
    (items := l.map By.d) (by simp) (by rw [List.length_map]; omega) fun d hd => by
      obtain ⟨a, _, rfl⟩ := List.mem_map.mp hd
      simp [g, eqD_t2]
  rw [filterMap_some (f := By.d) (r := fun a : By => D.bl (decide (a.x = b.x ∧ a.y = b.y))) (fun a => rfl)] at e
  exact e
theorem bright_run (k : Nat) (S : Store) {b : By} (h : b.Ok) (l : List By) (h9 : l.length ≤ 1000) (hl : ∀ c l', l = l' ++ [c] → ltN c.nm b.nm) (hu : ∀ c ∈ l, ¬ (c.x = b.x ∧ c.y = b.y)) : callf P (k + 5) brightF [] [.d b.d, .d (.tup (l.map By.d))] S = .ok (.d (.bl true)) S := by
  have e := bright_lc (calAt P (k + 4)) S b l h9 none
  have eb := anyBools l fun a => decide (a.x = b.x ∧ a.y = b.y)
  have ea : (l.map fun a : By => decide (a.x = b.x ∧ a.y = b.y)).any id = false := by
    rw [List.any_map, List.any_eq_false]
    intro c hc
    simpa using hu c hc
  generalize (l.map fun a => D.bl (decide (a.x = b.x ∧ a.y = b.y))) = L at e eb
  generalize (l.map fun a : By => decide (a.x = b.x ∧ a.y = b.y)) = M at eb ea
  rw [callf_succ]
  rcases List.eq_nil_or_concat l with rfl | ⟨l', c, rfl⟩
  · rw [List.map_nil] at e ⊢
    simp [runLf, lfOk, W.plain, n2_are_buoys_form, s0_are_buoys_form, is_buoy_form_ok k S h, eqD_tnil, fit, e, eb, ea]
  · have hc := hl c l' (by simp)
    have em : (l'.concat c).map By.d = l'.map By.d ++ [c.d] := by simp
    rw [em] at e ⊢
    have e2 : (l'.map By.d ++ [c.d]).isEmpty = false := by simp
    have b3 : ∀ z : By, atI [D.str z.nm, .int z.x, .int z.y] 0 = some (.str z.nm) := fun z => rfl
    simp [runLf, lfOk, W.plain, n2_are_buoys_form, s0_are_buoys_form, is_buoy_form_ok k S h, eqD_tnil, e2, atI_end, fit, b3, geD_str, hc, e, eb, ea, -geD]
/-- what is walked is right, whatever tells it -/
theorem wrong_gen_loop (k : Nat) (S : Store) {α : Type} (enc : α → D) (most : Int) (F : W) (as : List α) (hl : (as.length : Int) ≤ most)
    (hr : ∀ pre b post, as = pre ++ b :: post → evalE (calAt P k) (.calv 2 (.cons (.var 4) (.cons (.sl (.var 0) .no (.pt (.var 3))) .nil))) [some (.d (.tup (as.map enc))), some (.d (.int most)), some F, some (.d (.int pre.length)), some (.d (enc b))] S = .ok (.d (.bl true)) S) :
    ∀ (post pre : List α) (x3 x4 : Option W), as = pre ++ post → ∃ y3 y4, forLoop (forTurn (Tg.tup (.cons (.nm 3) (.cons (.nm 4) .nil))).bind (execS (calAt P k) b0_wrong_at)) (((post.map enc).zipIdx pre.length).map fun p => D.tup [.int p.2, p.1])
      [some (.d (.tup (as.map enc))), some (.d (.int most)), some F, x3, x4] S = .nx [some (.d (.tup (as.map enc))), some (.d (.int most)), some F, y3, y4] S
  | [], pre, x3, x4, e => ⟨x3, x4, rfl⟩
  | b :: post, pre, x3, x4, e => by
    obtain ⟨y3, y4, e2⟩ := wrong_gen_loop k S enc most F as hl hr post (pre ++ [b]) (some (.d (.int pre.length))) (some (.d (enc b))) (by rw [e]; simp)
    refine ⟨y3, y4, ?_⟩
    have e7 : ((pre.length : Int) == most) = false := by
      rw [e, List.length_append, List.length_cons] at hl
      simpa using (show ¬ (pre.length : Int) = most by omega)
    have h := hr pre b post e
    rw [List.map_cons, List.zipIdx_cons, List.map_cons]
    unfold forLoop
    rw [show forTurn (Tg.tup (.cons (.nm 3) (.cons (.nm 4) .nil))).bind (execS (calAt P k) b0_wrong_at) (D.tup [.int (((enc b, pre.length) : D × Nat).2 : Nat), ((enc b, pre.length) : D × Nat).1]) [some (.d (.tup (as.map enc))), some (.d (.int most)), some F, x3, x4] S = .nx [some (.d (.tup (as.map enc))), some (.d (.int most)), some F, some (.d (.int pre.length)), some (.d (enc b))] S by
      unfold b0_wrong_at
      generalize (Ex.calv 2 (.cons (.var 4) (.cons (.sl (.var 0) .no (.pt (.var 3))) .nil))) = E at h ⊢
      simp [e7, h]]
    rw [List.length_append] at e2
    exact e2
theorem wrong_gen (k : Nat) (S : Store) {α : Type} (enc : α → D) (most : Int) (F : W) (as : List α) (hl : (as.length : Int) ≤ most)
    (hr : ∀ pre b post, as = pre ++ b :: post → evalE (calAt P k) (.calv 2 (.cons (.var 4) (.cons (.sl (.var 0) .no (.pt (.var 3))) .nil))) [some (.d (.tup (as.map enc))), some (.d (.int most)), some F, some (.d (.int pre.length)), some (.d (enc b))] S = .ok (.d (.bl true)) S) :
    call P (k + 1) "wrong_at" [.d (.tup (as.map enc)), .d (.int most), F] S = .ok (.d (.lst [])) S := by
  obtain ⟨y3, y4, e⟩ := wrong_gen_loop k S enc most F as hl hr as [] none none rfl
  rw [List.length_nil] at e
  rw [run_wrong_at]
  simp [-forTurn_eq, runDf, d_wrong_at, isiD, e, fit]
theorem cut_pre {α : Type} (enc : α → D) {as pre post : List α} {b : α} (e : as = pre ++ b :: post) : cutL (as.map enc) none (some (pre.length : Int)) = pre.map enc := by
  rw [cutL_to _ (by omega) (by rw [List.length_map, e, List.length_append]; omega), e]
  simp
theorem buoys_form_ok (k : Nat) (S : Store) {bs : List By} (hB : Buoys bs) : call P (k + 8) "are_buoys_form" [.d (.tup (bs.map By.d))] S = .ok (.d (.bl true)) S := by
  have h8 := hB.l8
  have e := wrong_gen (k + 5) S By.d 8 (.lf brightF []) bs (by omega) fun pre b post z => by
    have hb : b.Ok := hB.ok b (by rw [z]; simp)
    have er := bright_run k S hb pre (by have := congrArg List.length z; rw [List.length_append] at this; omega) (fun c l' y => by
      have := hB.asc
      rw [z, y] at this
      exact (List.pairwise_append.mp this).2.2 c (by simp) b (by simp)) fun c hc => by
      have := hB.un
      rw [z] at this
      exact (List.pairwise_append.mp this).2.2 c hc b (by simp)
    simp [slD, cut_pre By.d z, er]
  have hn : (bs.map By.d).isEmpty = false := by
    have := hB.ne
    cases bs with
    | nil => exact absurd rfl this
    | cons b bs => rfl
  have e2 : call P (k + 7) "wrong_from_one" [.d (.tup (bs.map By.d)), .d (.int 8), .lf brightF []] S = .ok (.d (.lst [])) S := by
    rw [run_wrong_from_one]
    simp [runDf, d_wrong_from_one, isiD, fit, eqD_tnil, hn, e]
  rw [run_are_buoys_form]
  simp [runDf, d_are_buoys_form, gl_buoys, e2, eqD_lnil, fit]
theorem is_tuple_of_4 (k : Nat) (S : Store) (a b c d : D) : call P (k + 1) "is_tuple_of" [.d (.tup [a, b, c, d]), .d (.int 4)] S = .ok (.d (.bl true)) S := by
  rw [run_is_tuple_of]
  simp [runDf, d_is_tuple_of, isiD]
theorem wall_form_ok (k : Nat) (S : Store) {w : Wl} (h : w.Ok) : call P (k + 4) "is_wall_form" [.d w.e] S = .ok (.d (.bl true)) S := by
  have g1 : slD w.e none (some 2) = some (.tup [.int w.a, .int w.b]) := by rfl
  have g2 : slD w.e (some 2) none = some (.tup [.int w.c, .int w.d]) := by rfl
  have hl : leD (.tup [.int w.a, .int w.b]) (.tup [.int w.c, .int w.d]) = some true := by
    rw [leD_t2, decide_eq_false h.le]
    rfl
  have i0 : atI [D.int w.a, .int w.b, .int w.c, .int w.d] 0 = some (.int w.a) := rfl
  have i1 : atI [D.int w.a, .int w.b, .int w.c, .int w.d] 1 = some (.int w.b) := rfl
  have i2 : atI [D.int w.a, .int w.b, .int w.c, .int w.d] 2 = some (.int w.c) := rfl
  have i3 : atI [D.int w.a, .int w.b, .int w.c, .int w.d] 3 = some (.int w.d) := rfl
  rw [run_is_wall_form]
  simp [-leD, runDf, d_is_wall_form, s0_is_wall_form, is_tuple_of_4, is_place_form_ok, h.a0, h.a9, h.b0, h.b9, h.c0, h.c9, h.d0, h.d9, i0, i1, i2, i3, g1, g2, hl]
theorem next_wall_ok (k : Nat) (S : Store) {w : Wl} (h : w.Ok) (l : List Wl) (hl : ∀ c l', l = l' ++ [c] → ltW c w) : call P (k + 5) "is_next_wall" [.d w.e, .d (.tup (l.map Wl.e))] S = .ok (.d (.bl true)) S := by
  rw [run_is_next_wall]
  rcases List.eq_nil_or_concat l with rfl | ⟨l', c, rfl⟩
  · simp [runDf, d_is_next_wall, wall_form_ok k S h, eqD_tnil, fit]
  · have hc := hl c l' (by simp)
    have em : (l'.concat c).map Wl.e = l'.map Wl.e ++ [c.e] := by simp
    have e2 : (l'.map Wl.e ++ [c.e]).isEmpty = false := by simp
    have lt : ltD c.e w.e = some true := by
      rw [ltD_t4]
      exact congrArg some (decide_eq_true hc)
    rw [em]
    simp [-ltD, runDf, d_is_next_wall, wall_form_ok k S h, eqD_tnil, fit, e2, atI_end, lt]
theorem walls_form_ok (k : Nat) (S : Store) {ws : List Wl} (hW : Walls ws) : call P (k + 7) "are_walls_form" [.d (.tup (ws.map Wl.e))] S = .ok (.d (.bl true)) S := by
  have h8 := hW.l8
  have e := wrong_gen (k + 5) S Wl.e 8 (.fn "is_next_wall") ws (by omega) fun pre b post z => by
    have er := next_wall_ok k S (hW.ok b (by rw [z]; simp)) pre (fun c l' y => by
      have := hW.asc
      rw [z, y] at this
      exact (List.pairwise_append.mp this).2.2 c (by simp) b (by simp))
    simp [slD, cut_pre Wl.e z, er, gl_next]
  rw [run_are_walls_form]
  simp [runDf, d_are_walls_form, gl_walls, gl_next, e, eqD_lnil, fit]
theorem harbour_form_ok (k : Nat) (S : Store) {h : Hb} (hH : h.Ok) : call P (k + 9) "is_harbour_form" [.d h.d] S = .ok (.d (.bl true)) S := by
  have i0 : atI [D.int h.room, .tup (h.bs.map By.d), .tup (h.ws.map Wl.e)] 0 = some (.int h.room) := rfl
  have i1 : atI [D.int h.room, .tup (h.bs.map By.d), .tup (h.ws.map Wl.e)] 1 = some (.tup (h.bs.map By.d)) := rfl
  have i2 : atI [D.int h.room, .tup (h.bs.map By.d), .tup (h.ws.map Wl.e)] 2 = some (.tup (h.ws.map Wl.e)) := rfl
  rw [run_is_harbour_form]
  simp [runDf, d_is_harbour_form, s0_is_harbour_form, gl_room, is_tuple_of_3, is_number_int, hH.r1, hH.r9, i0, i1, i2, buoys_form_ok k S hH.bs, walls_form_ok (k + 1) S hH.ws]
theorem check_harbour_ok (k : Nat) (S : Store) {h : Hb} (hH : h.Ok) : call P (k + 10) "check_harbour" [.d h.d] S = .ok (.d .non) S := by
  rw [run_check_harbour]
  simp [runDf, d_check_harbour, harbour_form_ok k S hH]
end K07
namespace K07
open PySem PySem.Spec PyProof.Rows L2 Pyi
/-! ### boats of the program -/
def wayS (al : Bool) : Str := if al then "alike" else "each"
def waysL : List Str := ["alike", "each"]
theorem wayS_in (al : Bool) : inD (.str (wayS al)) (.tup (waysL.map .str)) = some true := in_tup (by cases al <;> simp [wayS, waysL])
theorem each_ne : (("each" : Str) = "alike") = False := by
  refine eq_false fun z => ?_
  have : (("each" : Str)).length = ("alike" : Str).length := by rw [z]
  exact absurd this (by decide)
theorem is_one_of_ok (k : Nat) (S : Store) {x : Str} {ws : List D} (h : inD (.str x) (.tup ws) = some true) : call P (k + 1) "is_one_of" [.d (.str x), .d (.tup ws)] S = .ok (.d (.bl true)) S := by
  rw [run_is_one_of]
  simp [runDf, d_is_one_of, isiD, h]
theorem boat_names_run (k : Nat) (S : Store) (bs : List Bt) (hl : bs.length ≤ 1000) : call P (k + 1) "boat_names" [.d (.tup (bs.map Bt.d))] S = .ok (.d (.tup ((bs.map Bt.nm).map .str))) S := by
  have e := lc_run (c := calAt P k) (own := [1]) (t := .nm 1) (i := .it .seq (.cons (.var 0) .nil)) (q := .yes) (e := .ix (.var 1) (.cst (.int 0))) (σ := [some (.d (.tup (bs.map Bt.d))), none]) (S := S) (fun d => match d with
      | .tup (x :: _) => some x
      | _ => none) (items := bs.map Bt.d) (by simp) (by rw [List.length_map]; omega) fun d hd => by
        obtain ⟨b, _, rfl⟩ := boats_d hd
        simp [atI, ixN]
  rw [filterMap_some (f := Bt.d) (r := fun b => D.str b.nm) (fun _ => rfl)] at e
  rw [run_boat_names]
  have e2 : evalE (calAt P k) c0_boat_names [some (.d (.tup (bs.map Bt.d))), none] S = .ok (.d (.lst (bs.map fun b => D.str b.nm))) S := e
  simp [runDf, d_boat_names, e2]
theorem check_boat_ok (k : Nat) (S : Store) {bs : List Bt} (hB : Boats bs) {b : Bt} (hb : b ∈ bs) : call P (k + 2) "check_boat" [.d (.tup (bs.map Bt.d)), .d (.str b.nm)] S = .ok (.d .non) S := by
  have hi := in_tup (s := b.nm) (nms := bs.map Bt.nm) (List.mem_map.mpr ⟨b, hb, rfl⟩)
  rw [run_check_boat]
  simp [runDf, d_check_boat, -List.map_map, boat_names_run k S bs (by have := hB.l7; omega), is_one_of_ok k S hi]
theorem boat_of_run (k : Nat) (S : Store) {bs : List Bt} (hB : Boats bs) {b : Bt} (hb : b ∈ bs) : call P (k + 1) "boat_of" [.d (.tup (bs.map Bt.d)), .d (.str b.nm)] S = .ok (.d b.d) S := by
  have hl := hB.l7
  have e := lc_run (c := calAt P k) (own := [2]) (t := .nm 2) (i := .it .seq (.cons (.var 0) .nil)) (q := .cmp .Eq (.ix (.var 2) (.cst (.int 0))) (.var 1)) (e := .var 2) (σ := [some (.d (.tup (bs.map Bt.d))), some (.d (.str b.nm)), none]) (S := S) (fun d => match d with
      | .tup (.str x :: r) => if x = b.nm then some (.tup (.str x :: r)) else none
      | _ => none) (items := bs.map Bt.d) (by simp) (by rw [List.length_map]; omega) fun d hd => by
        obtain ⟨c, _, rfl⟩ := boats_d hd
        by_cases z : c.nm = b.nm
        · simp [atI, ixN, z]
        · simp [atI, ixN, z]
  have e3 : ∀ cs : List Bt, (cs.map Bt.d).filterMap (fun d => match d with
      | .tup (.str x :: r) => if x = b.nm then some (.tup (.str x :: r)) else none
      | _ => none) = (cs.filter fun c => decide (c.nm = b.nm)).map Bt.d := by
    intro cs
    induction cs with
    | nil => rfl
    | cons c cs ih =>
      rw [List.map_cons, List.filterMap_cons, List.filter_cons]
      by_cases z : c.nm = b.nm
      · simp [z] at ih ⊢
        exact ih
      · simp [z] at ih ⊢
        exact ih
  rw [e3, filter_nm hB.asc hb] at e
  have e2 : evalE (calAt P k) c0_boat_of [some (.d (.tup (bs.map Bt.d))), some (.d (.str b.nm)), none] S = .ok (.d (.lst [b.d])) S := e
  rw [run_boat_of]
  simp [runDf, d_boat_of, e2, atI, ixN]
/-! ### parts of boats -/
abbrev rch (b : Bt) : Int := b.rope + b.long
def farZ (a b : Bt) : Int := max (rch a - b.rope) (rch b - a.rope)
def nearZ (a b : Bt) : Int := max (max 0 (a.rope - rch b)) (b.rope - rch a)
def farBy (al : Bool) (a b : Bt) : Int := if al then farZ a b else rch a + rch b
theorem bix0 (b : Bt) : atI [D.str b.nm, .int b.rope, .int b.long] 0 = some (.str b.nm) := rfl
theorem bix1 (b : Bt) : atI [D.str b.nm, .int b.rope, .int b.long] 1 = some (.int b.rope) := rfl
theorem bix2 (b : Bt) : atI [D.str b.nm, .int b.rope, .int b.long] 2 = some (.int b.long) := rfl
theorem reach_of_run (k : Nat) (S : Store) (b : Bt) : call P (k + 1) "reach_of" [.d b.d] S = .ok (.d (.int (rch b))) S := by
  rw [run_reach_of]
  simp [runDf, d_reach_of, bix1, bix2]
end K07
namespace K07
open PySem PySem.Spec PyProof.Rows L2 Pyi
/-! ### parts of harbours -/
theorem buoy_names_run (k : Nat) (S : Store) (h : Hb) (hl : h.bs.length ≤ 1000) : call P (k + 1) "buoy_names" [.d h.d] S = .ok (.d (.tup ((h.bs.map By.nm).map .str))) S := by
  have i1 : atI [D.int h.room, .tup (h.bs.map By.d), .tup (h.ws.map Wl.e)] 1 = some (.tup (h.bs.map By.d)) := rfl
  have e := lc_run (c := calAt P k) (own := [1]) (t := .nm 1) (i := .it .seq (.cons (.ix (.var 0) (.cst (.int 1))) .nil)) (q := .yes) (e := .ix (.var 1) (.cst (.int 0))) (σ := [some (.d h.d), none]) (S := S) (fun d => match d with
      | .tup (x :: _) => some x
      | _ => none) (items := h.bs.map By.d) (by simp [i1]) (by rw [List.length_map]; omega) fun d hd => by
        obtain ⟨b, _, rfl⟩ := List.mem_map.mp hd
        simp [atI, ixN]
  rw [filterMap_some (f := By.d) (r := fun b => D.str b.nm) (fun _ => rfl)] at e
  rw [run_buoy_names]
  have e2 : evalE (calAt P k) c0_buoy_names [some (.d h.d), none] S = .ok (.d (.lst (h.bs.map fun b => D.str b.nm))) S := e
  simp [runDf, d_buoy_names, e2]
theorem check_buoy_ok (k : Nat) (S : Store) {h : Hb} (hH : h.Ok) {b : By} (hb : b ∈ h.bs) : call P (k + 2) "check_buoy" [.d h.d, .d (.str b.nm)] S = .ok (.d .non) S := by
  have hi := in_tup (s := b.nm) (nms := h.bs.map By.nm) (List.mem_map.mpr ⟨b, hb, rfl⟩)
  rw [run_check_buoy]
  simp [runDf, d_check_buoy, -List.map_map, buoy_names_run k S h (by have := hH.bs.l8; omega), is_one_of_ok k S hi]
abbrev By.at (b : By) : D := .tup [.int b.x, .int b.y]
abbrev By.kv (b : By) : Key × D := (.inr b.nm, b.at)
theorem put_new {bs : List By} {b : By} (h : ∀ a ∈ bs, a.nm ≠ b.nm) : putD (bs.map By.kv) (.inr b.nm) b.at = (bs ++ [b]).map By.kv := by
  unfold putD
  rw [if_neg, List.map_append]
  · rfl
  · rw [Bool.not_eq_true, List.any_eq_false]
    intro kv hk
    obtain ⟨a, ha, rfl⟩ := List.mem_map.mp hk
    simpa using h a ha
theorem dcLoop_buoys {f : D → Store → Res (Option (Key × D))} {S : Store} (h : ∀ b : By, f b.d S = .ok (some b.kv) S) : ∀ (post pre : List By), (pre ++ post).Pairwise (fun a b => a.nm ≠ b.nm) → dcLoop f (post.map By.d) (pre.map By.kv) S = .ok ((pre ++ post).map By.kv) S
  | [], pre, _ => by rw [List.append_nil]; rfl
  | b :: post, pre, hp => by
    have e : pre ++ b :: post = pre ++ [b] ++ post := by simp
    have i := dcLoop_buoys h post (pre ++ [b]) (by rw [← e]; exact hp)
    rw [e, ← i, List.map_cons]
    show ((f b.d S).quiet.bind fun o S1 => dcLoop f (post.map By.d) (match o with
      | some p => putD (pre.map By.kv) p.1 p.2
      | none => pre.map By.kv) S1) = _
    rw [h b]
    show dcLoop f (post.map By.d) (putD (pre.map By.kv) (.inr b.nm) b.at) S = _
    rw [put_new fun a ha => (List.pairwise_append.mp hp).2.2 a ha b List.mem_cons_self]
theorem asc_ne {bs : List By} (h : bs.Pairwise fun a b => ltN a.nm b.nm) : bs.Pairwise fun a b => a.nm ≠ b.nm := h.imp fun {a b} h z => by
  rw [z] at h
  exact ltN_irrefl _ h
theorem spots_by_run (k : Nat) (S : Store) {h : Hb} (hH : h.Ok) : call P (k + 1) "spots_by" [.d h.d] S = .ok (.dct (h.bs.map By.kv)) S := by
  have i1 : atI [D.int h.room, .tup (h.bs.map By.d), .tup (h.ws.map Wl.e)] 1 = some (.tup (h.bs.map By.d)) := rfl
  have h8 := hH.bs.l8
  have f : fit h.bs.length = true := decide_eq_true (by omega)
  have e := dcLoop_buoys (S := S) (f := dcTurn (Tg.tup (.cons (.nm 1) (.cons (.nm 2) (.cons (.nm 3) .nil)))).bind (evalE (calAt P k) .yes) (evalE (calAt P k) (.var 1)) (evalE (calAt P k) (.tup (.cons (.var 2) (.cons (.var 3) .nil)))) [1, 2, 3] [some (.d h.d), none, none, none]) (fun b => by
    simp [dcTurn, keyD, fit]) h.bs [] (asc_ne hH.bs.asc)
  have e2 : evalE (calAt P k) c0_spots_by [some (.d h.d), none, none, none] S = .ok (.dct (h.bs.map By.kv)) S := by
    show ((evalI (calAt P k) (.it .seq (.cons (.ix (.var 0) (.cst (.int 1))) .nil)) [some (.d h.d), none, none, none] S).bind fun items S1 => _) = _
    rw [show evalI (calAt P k) (.it .seq (.cons (.ix (.var 0) (.cst (.int 1))) .nil)) [some (.d h.d), none, none, none] S = .ok (h.bs.map By.d) S by simp [i1]]
    rw [Res.bind_ok, List.length_map, if_pos f, show ([] : List (Key × D)) = ([] : List By).map By.kv from rfl, e]
    rfl
  rw [run_spots_by]
  simp [runDf, d_spots_by, e2]
theorem look_buoy {bs : List By} {b : By} (h : bs.Pairwise fun a b => a.nm ≠ b.nm) (hb : b ∈ bs) : lookK (bs.map By.kv) (.inr b.nm) = some b.at := by
  induction bs with
  | nil => cases hb
  | cons a bs ih =>
    obtain ⟨h1, h2⟩ := List.pairwise_cons.mp h
    rw [List.map_cons]
    unfold lookK
    rcases List.mem_cons.mp hb with rfl | hb'
    · simp
    · have h3 : ¬ (Sum.inr a.nm : Key) = .inr b.nm := fun z => h1 b hb' (Sum.inr.inj z)
      show (if (Sum.inr a.nm : Key) = .inr b.nm then some a.at else lookK (bs.map By.kv) (.inr b.nm)) = _
      rw [if_neg h3]
      exact ih h2 hb'
theorem spot_of_run (k : Nat) (S : Store) {h : Hb} (hH : h.Ok) {b : By} (hb : b ∈ h.bs) : call P (k + 2) "spot_of" [.d h.d, .d (.str b.nm)] S = .ok (.d b.at) S := by
  have e := look_buoy (asc_ne hH.bs.asc) hb
  rw [run_spot_of]
  simp [runDf, d_spot_of, spots_by_run k S hH, keyD, e]
theorem check_both_ok (k : Nat) (S : Store) {h : Hb} (hH : h.Ok) {bs : List Bt} (hB : Boats bs) : call P (k + 11) "check_both" [.d h.d, .d (.tup (bs.map Bt.d))] S = .ok (.d .non) S := by
  rw [run_check_both]
  simp [runDf, d_check_both, check_harbour_ok k S hH, check_boats_ok (k + 2) S hB]
theorem check_lying_ok (k : Nat) (S : Store) {h : Hb} (hH : h.Ok) {bs : List Bt} (hB : Boats bs) {a : Bt} (ha : a ∈ bs) {p : By} (hp : p ∈ h.bs) : call P (k + 12) "check_lying" [.d h.d, .d (.tup (bs.map Bt.d)), .d (.str a.nm), .d (.str p.nm)] S = .ok (.d .non) S := by
  rw [run_check_lying]
  simp [runDf, d_check_lying, check_both_ok k S hH hB, check_boat_ok (k + 9) S hB ha, check_buoy_ok (k + 9) S hH hp]
end K07
namespace K07
open PySem PySem.Spec PyProof.Rows L2 Pyi
/-! ### far, near, how clear -/
theorem reach_run (k : Nat) (S : Store) {bs : List Bt} (hB : Boats bs) {a : Bt} (ha : a ∈ bs) : call P (k + 10) "reach" [.d (.tup (bs.map Bt.d)), .d (.str a.nm)] S = .ok (.d (.int (rch a))) S := by
  have e : call P (k + 9) "check_one" [.d (.tup (bs.map Bt.d)), .d (.str a.nm)] S = .ok (.d .non) S := by
    rw [run_check_one]
    simp [runDf, d_check_one, check_boats_ok k S hB, check_boat_ok (k + 6) S hB ha]
  rw [run_reach]
  simp [runDf, d_reach, e, boat_of_run (k + 8) S hB ha, reach_of_run (k + 8)]
def Hb.with (h : Hb) (r : Int) : Hb := ⟨r, h.bs, h.ws⟩
theorem with_ok {h : Hb} (hH : h.Ok) {r : Int} (h1 : 1 ≤ r) (h9 : r ≤ 99) : (h.with r).Ok := ⟨h1, h9, hH.bs, hH.ws⟩
/-! how clear -/
theorem dot_run (k : Nat) (S : Store) (a b c d : Int) (h1 : mulOk a c = true) (h2 : mulOk b d = true) : call P (k + 1) "dot" [.d (.tup [.int a, .int b]), .d (.tup [.int c, .int d])] S = .ok (.d (.int (a * c + b * d))) S := by
  rw [run_dot]
  simp [runDf, d_dot, atI, ixN, h1, h2]
theorem square_of_run (k : Nat) (S : Store) (a b : Int) (h1 : mulOk a a = true) (h2 : mulOk b b = true) : call P (k + 2) "square_of" [.d (.tup [.int a, .int b])] S = .ok (.d (.int (a * a + b * b))) S := by
  rw [run_square_of]
  simp [runDf, d_square_of, dot_run k S a b a b h1 h2]
def isFar (q n : Int) : Bool := decide (n ≤ 0 ∨ n * n ≤ q)
def isNear (q n : Int) : Bool := decide (0 ≤ n ∧ q ≤ n * n)
def sqB (p q : By) : Int := (q.x - p.x) * (q.x - p.x) + (q.y - p.y) * (q.y - p.y)
def howS (room : Int) (a : Bt) (p : By) (b : Bt) (q : By) (al : Bool) : Str := if isFar (sqB p q) (farBy al a b + room) then "apart" else if isNear (sqB p q) (nearZ a b - room) then "within" else "no"
theorem farBy_small {a b : Bt} (ha : a.Ok) (hb : b.Ok) (al : Bool) : 0 ≤ farBy al a b ∧ farBy al a b ≤ 396 := by
  have h1 := ha.r0; have h2 := ha.r9; have h3 := ha.l1; have h4 := ha.l9
  have g1 := hb.r0; have g2 := hb.r9; have g3 := hb.l1; have g4 := hb.l9
  have e1 : rch a = a.rope + a.long := rfl
  have e2 : rch b = b.rope + b.long := rfl
  unfold farBy farZ
  cases al <;> simp <;> omega
theorem nearZ_small {a b : Bt} (ha : a.Ok) (hb : b.Ok) : 0 ≤ nearZ a b ∧ nearZ a b ≤ 99 := by
  have h1 := ha.r0; have h2 := ha.r9; have h3 := ha.l1; have h4 := ha.l9
  have g1 := hb.r0; have g2 := hb.r9; have g3 := hb.l1; have g4 := hb.l9
  have e1 : rch a = a.rope + a.long := rfl
  have e2 : rch b = b.rope + b.long := rfl
  unfold nearZ
  omega
theorem apart_ne : (("apart" : Str) = "no") = False := eq_false fun z => absurd (congrArg Str.length z) (by decide)
theorem within_ne : (("within" : Str) = "no") = False := eq_false fun z => absurd (congrArg Str.length z) (by decide)
def clrZ (room : Int) (a : Bt) (p : By) (b : Bt) (q : By) (al : Bool) : Bool := isFar (sqB p q) (farBy al a b + room) || isNear (sqB p q) (nearZ a b - room)
theorem howS_no (room : Int) (a : Bt) (p : By) (b : Bt) (q : By) (al : Bool) : (howS room a p b q al = "no") = (clrZ room a p b q al = false) := by
  unfold howS clrZ
  cases isFar (sqB p q) (farBy al a b + room) <;> cases isNear (sqB p q) (nearZ a b - room) <;> simp [apart_ne, within_ne]
end K07
namespace K07
open PySem PySem.Spec PyProof.Rows L2 Pyi
/-! ### divisors -/
def eM (a b : Nat) : Nat := if b = 0 then 0 else if a < b then (a * b).log2 + 2 else (a * b).log2 + 1
theorem eM_step (a b : Nat) (hb : b ≠ 0) : eM b (a % b) < eM a b := by
  unfold eM
  rw [if_neg hb]
  by_cases h : a < b
  · rw [if_pos h, Nat.mod_eq_of_lt h]
    by_cases h0 : a = 0
    · rw [if_pos h0]
      omega
    · rw [if_neg h0, if_neg (by omega), Nat.mul_comm]
      omega
  · rw [if_neg h]
    by_cases h0 : a % b = 0
    · rw [if_pos h0]
      omega
    · have hr : a % b < b := Nat.mod_lt _ (by omega)
      rw [if_neg h0, if_neg (by omega)]
      have h2 : 2 * (a % b) ≤ a := by
        have h3 := Nat.mod_add_div a b
        have h4 : 1 ≤ a / b := (Nat.one_le_div_iff (by omega)).mpr (by omega)
        have h5 : b * 1 ≤ b * (a / b) := Nat.mul_le_mul_left b h4
        omega
      have h3 : 2 * (b * (a % b)) ≤ a * b := by
        calc 2 * (b * (a % b)) = 2 * (a % b) * b := by rw [Nat.mul_assoc, Nat.mul_comm b]
          _ ≤ a * b := Nat.mul_le_mul_right b h2
      have h4 : b * (a % b) ≠ 0 := Nat.mul_ne_zero hb h0
      have h5 : a * b < 2 ^ ((a * b).log2 + 1) := Nat.lt_log2_self
      have := (Nat.log2_lt h4).mpr (show b * (a % b) < 2 ^ (a * b).log2 by rw [Nat.pow_succ] at h5; omega)
      omega
theorem divisor_run (k : Nat) (S : Store) (x y : Int) (hx : x.natAbs < 2 ^ 400) (hy : y.natAbs < 2 ^ 400) : call P (k + 1) "_law_divisor" [.d (.int x), .d (.int y)] S = .ok (.d (.int (Nat.gcd x.natAbs y.natAbs : Nat))) S := by
  obtain ⟨σ', S', e, rfl, a, b, rfl, hb, hg⟩ := whlLoop_inv (t := fun σ S => (evalE (calAt P k) t0__law_divisor σ S).tru) (f := execS (calAt P k) b1__law_divisor)
    (fun m σ S' => S' = S ∧ ∃ a b : Nat, σ = [some (.d (.int (a : Int))), some (.d (.int (b : Int)))] ∧ eM a b = m ∧ Nat.gcd a b = Nat.gcd x.natAbs y.natAbs ∧ a < 2 ^ 400 ∧ b < 2 ^ 400)
    (fun σ S' => S' = S ∧ ∃ a b : Nat, σ = [some (.d (.int (a : Int))), some (.d (.int (b : Int)))] ∧ b = 0 ∧ Nat.gcd a b = Nat.gcd x.natAbs y.natAbs)
    (fun m σ S' ⟨hS, a, b, e, hm, hg, ha, hb⟩ => by
      subst hS e
      by_cases h : b = 0
      · left
        exact ⟨by simp [t0__law_divisor, h], rfl, a, b, rfl, h, hg⟩
      · right
        have h0 : 0 < b := by omega
        have q1 : divOk (b : Int) = true := by
          unfold divOk
          have h2 : b.log2 < 9000 := by
            have := (Nat.log2_lt h).mpr hb
            omega
          simp [h, h2]
        have q2 : ∀ z : Nat, z < 2 ^ 400 → mulOk (b : Int) (z : Int) = true := fun z hz => by
          unfold mulOk
          have l1 := (Nat.log2_lt h).mpr hb
          by_cases z0 : z = 0
          · simp [z0]
          · have l2 := (Nat.log2_lt z0).mpr hz
            have : b.log2 + z.log2 < 1000000 := by omega
            simp [this]
        have q3 := q2 (a / b) (Nat.lt_of_le_of_lt (Nat.div_le_self _ _) ha)
        have q4 : (a : Int) - (b : Int) * ((a / b : Nat) : Int) = ((a % b : Nat) : Int) := by
          have := Nat.mod_add_div a b
          have h5 : ((a % b + b * (a / b) : Nat) : Int) = (a : Int) := by rw [this]
          rw [Int.natCast_add, Int.natCast_mul] at h5
          omega
        have q5 : Int.fdiv (a : Int) (b : Int) = ((a / b : Nat) : Int) := by
          rw [Int.fdiv_eq_ediv_of_nonneg _ (by omega)]
          rfl
        refine ⟨by simp [t0__law_divisor, h0], eM b (a % b), [some (.d (.int (b : Int))), some (.d (.int ((a % b : Nat) : Int)))], S', by rw [← hm]; exact eM_step a b h, ?_, rfl, b, a % b, rfl, rfl, ?_, hb, Nat.lt_of_le_of_lt (Nat.mod_le _ _) ha⟩
        · simp [b1__law_divisor, q1, q5, q3, q4, h, -Int.natCast_emod, -Int.natCast_ediv]
        · rw [← hg, Nat.gcd_comm b, ← Nat.gcd_rec, Nat.gcd_comm])
    1000000000000000000000 (eM x.natAbs y.natAbs) [some (.d (.int (x.natAbs : Int))), some (.d (.int (y.natAbs : Int)))] S (by
      unfold eM
      have : (x.natAbs * y.natAbs).log2 < 801 := by
        by_cases z : x.natAbs * y.natAbs = 0
        · rw [z]; decide
        · refine (Nat.log2_lt z).mpr ?_
          calc x.natAbs * y.natAbs < 2 ^ 400 * 2 ^ 400 := Nat.mul_lt_mul'' hx hy
            _ = 2 ^ 800 := by rw [← Nat.pow_add]
            _ ≤ 2 ^ 801 := Nat.pow_le_pow_right (by decide) (by decide)
      split
      · omega
      · split <;> omega) ⟨rfl, x.natAbs, y.natAbs, rfl, rfl, rfl, hx, hy⟩
  rw [hb, Nat.gcd_zero_right] at hg
  rw [run__law_divisor]
  simp [runDf, d__law_divisor, e, hg]
/-- a fraction in lowest terms -/
def lowZ (a n : Int) : D := .tup [.int (a / (Int.gcd a n : Int)), .int (n / (Int.gcd a n : Int))]
theorem gcd_ok {a n : Int} (hn : 0 < n) (hb : n.natAbs < 2 ^ 400) : divOk (Int.gcd a n : Int) = true ∧ (Int.gcd a n : Int) ≠ 0 ∧ 0 ≤ (Int.gcd a n : Int) := by
  have h1 : Int.gcd a n ≠ 0 := fun z => by
    have := (Int.gcd_eq_zero_iff.mp z).2
    omega
  have h2 : Int.gcd a n ≤ n.natAbs := Nat.gcd_le_right _ (by omega)
  refine ⟨?_, by omega, by omega⟩
  unfold divOk
  have h3 : (Int.gcd a n).log2 < 9000 := by
    have := (Nat.log2_lt h1).mpr (Nat.lt_of_le_of_lt h2 hb)
    omega
  have h4 : ¬ a = 0 ∨ ¬ n = 0 := .inr (by omega)
  simp [h3]
  omega
theorem part_run (k : Nat) (S : Store) (a n : Int) (hn : 0 < n) (ha : a.natAbs < 2 ^ 400) (hb : n.natAbs < 2 ^ 400) : call P (k + 2) "_law_part" [.d (.int a), .d (.int n)] S = .ok (.d (lowZ a n)) S := by
  obtain ⟨g1, g2, g3⟩ := gcd_ok (a := a) hn hb
  have e := divisor_run k S a n ha hb
  rw [show (Nat.gcd a.natAbs n.natAbs : Nat) = Int.gcd a n from rfl] at e
  have f1 := Int.fdiv_eq_ediv_of_nonneg a g3
  have f2 := Int.fdiv_eq_ediv_of_nonneg n g3
  rw [run__law_part]
  unfold lowZ
  generalize (Int.gcd a n : Int) = g at *
  simp [runDf, d__law_part, e, g1, g2, f1, f2, fit]
theorem lowest_run (k : Nat) (S : Store) (a n : Int) (hn : 0 < n) (hb : n.natAbs < 2 ^ 400) : call P (k + 1) "lowest" [.d (.int a), .d (.int n)] S = .ok (.d (lowZ a n)) S := by
  obtain ⟨g1, g2, g3⟩ := gcd_ok (a := a) hn hb
  have e : gcdD (.int a) (.int n) = some (.int (Int.gcd a n : Int)) := rfl
  have f1 := Int.fdiv_eq_ediv_of_nonneg a g3
  have f2 := Int.fdiv_eq_ediv_of_nonneg n g3
  rw [run_lowest]
  unfold lowZ
  generalize (Int.gcd a n : Int) = g at *
  simp [-gcdD, runDf, d_lowest, e, g1, g2, f1, f2, fit, hn]
end K07
namespace K07
open PySem PySem.Spec PyProof.Rows L2 Pyi
/-! ### winds -/
def dv (c s n : Int) : Nat := Nat.gcd (Nat.gcd c.natAbs s.natAbs) n.natAbs
theorem dv_low {c s n : Int} (hn : 0 < n) : ∃ c' s' n' : Int, c = (dv c s n : Int) * c' ∧ s = (dv c s n : Int) * s' ∧ n = (dv c s n : Int) * n' ∧ 0 < n' ∧ 0 < (dv c s n : Int) ∧ dv c' s' n' = 1 := by
  have g1 : dv c s n ∣ n.natAbs := Nat.gcd_dvd_right _ _
  have g2 : dv c s n ∣ c.natAbs := Nat.dvd_trans (Nat.gcd_dvd_left _ _) (Nat.gcd_dvd_left _ _)
  have g3 : dv c s n ∣ s.natAbs := Nat.dvd_trans (Nat.gcd_dvd_left _ _) (Nat.gcd_dvd_right _ _)
  have g0 : 0 < dv c s n := Nat.gcd_pos_of_pos_right _ (by omega)
  obtain ⟨c', e1⟩ : ∃ x : Int, c = (dv c s n : Int) * x := Int.ofNat_dvd_left.mpr g2
  obtain ⟨s', e2⟩ : ∃ x : Int, s = (dv c s n : Int) * x := Int.ofNat_dvd_left.mpr g3
  obtain ⟨n', e3⟩ : ∃ x : Int, n = (dv c s n : Int) * x := Int.ofNat_dvd_left.mpr g1
  have hp : 0 < n' := by
    by_cases h : 0 < n'
    · exact h
    · have : (dv c s n : Int) * n' ≤ (dv c s n : Int) * 0 := Int.mul_le_mul_of_nonneg_left (by omega) (by omega)
      omega
  refine ⟨c', s', n', e1, e2, e3, hp, by omega, ?_⟩
  have a1 : c.natAbs = dv c s n * c'.natAbs := by
    have := congrArg Int.natAbs e1
    rwa [Int.natAbs_mul, Int.natAbs_natCast] at this
  have a2 : s.natAbs = dv c s n * s'.natAbs := by
    have := congrArg Int.natAbs e2
    rwa [Int.natAbs_mul, Int.natAbs_natCast] at this
  have a3 : n.natAbs = dv c s n * n'.natAbs := by
    have := congrArg Int.natAbs e3
    rwa [Int.natAbs_mul, Int.natAbs_natCast] at this
  have h : dv c s n = dv c s n * dv c' s' n' := by
    conv => lhs; unfold dv
    rw [a1, a2, a3, Nat.gcd_mul_left, Nat.gcd_mul_left]
    rfl
  exact Nat.eq_of_mul_eq_mul_left g0 (by rw [Nat.mul_one]; exact h.symm)
structure Wd where
  c : Int
  s : Int
  n : Int
  deriving DecidableEq
abbrev Wd.d (w : Wd) : D := .tup [.int w.c, .int w.s, .int w.n]
structure Wd.Ok (w : Wd) : Prop where
  n1 : 1 ≤ w.n
  n9 : w.n ≤ 1000000
  sq : w.c * w.c + w.s * w.s = w.n * w.n
  g : dv w.c w.s w.n = 1
theorem abs_le_of_sq {a n : Int} (hn : 0 ≤ n) (h : a * a ≤ n * n) : -n ≤ a ∧ a ≤ n := by
  constructor
  · by_cases c : -n ≤ a
    · exact c
    · have : n * n < (-a) * (-a) := by
        have h1 : n * n ≤ n * (-a) := Int.mul_le_mul_of_nonneg_left (by omega) hn
        have h2 : n * (-a) < (-a) * (-a) := Int.mul_lt_mul_of_pos_right (by omega) (by omega)
        omega
      rw [Int.neg_mul_neg] at this
      omega
  · by_cases c : a ≤ n
    · exact c
    · have h1 : n * n ≤ n * a := Int.mul_le_mul_of_nonneg_left (by omega) hn
      have h2 : n * a < a * a := Int.mul_lt_mul_of_pos_right (by omega) (by omega)
      omega
theorem sq_nn (a : Int) : 0 ≤ a * a := by
  rcases Int.le_total 0 a with h | h
  · exact Int.mul_nonneg h h
  · exact Int.mul_nonneg_of_nonpos_of_nonpos h h
theorem Wd.Ok.cb {w : Wd} (h : w.Ok) : -w.n ≤ w.c ∧ w.c ≤ w.n := abs_le_of_sq (by have := h.n1; omega) (by have := h.sq; have := sq_nn w.s; omega)
theorem Wd.Ok.sb {w : Wd} (h : w.Ok) : -w.n ≤ w.s ∧ w.s ≤ w.n := abs_le_of_sq (by have := h.n1; omega) (by have := h.sq; have := sq_nn w.c; omega)
theorem gl_scale : P.gl "MOST_SCALE" = some (.d (.int 1000000000000)) := by rfl
theorem wix0 (w : Wd) : atI [D.int w.c, .int w.s, .int w.n] 0 = some (.int w.c) := rfl
theorem wix1 (w : Wd) : atI [D.int w.c, .int w.s, .int w.n] 1 = some (.int w.s) := rfl
theorem wix2 (w : Wd) : atI [D.int w.c, .int w.s, .int w.n] 2 = some (.int w.n) := rfl
theorem dotw_run (k : Nat) (S : Store) (a b c d : Int) (h1 : mulOk a c = true) (h2 : mulOk b d = true) : call P (k + 1) "dot" [.d (.tup [.int a, .int b]), .d (.tup [.int c, .int d])] S = .ok (.d (.int (a * c + b * d))) S := by
  rw [run_dot]
  simp [runDf, d_dot, atI, ixN, h1, h2]
theorem squarew_run (k : Nat) (S : Store) (a b : Int) (h1 : mulOk a a = true) (h2 : mulOk b b = true) : call P (k + 2) "square_of" [.d (.tup [.int a, .int b])] S = .ok (.d (.int (a * a + b * b))) S := by
  rw [run_square_of]
  simp [runDf, d_square_of, dotw_run k S a b a b h1 h2]
theorem wind_form_ok (k : Nat) (S : Store) {w : Wd} (h : w.Ok) : call P (k + 3) "is_wind_form" [.d w.d] S = .ok (.d (.bl true)) S := by
  have c1 := h.cb
  have s1 := h.sb
  have n1 := h.n1
  have n9 := h.n9
  have mc : mulOk w.c w.c = true := mulOk_of (by omega)
  have ms : mulOk w.s w.s = true := mulOk_of (by omega)
  have mn : mulOk w.n w.n = true := mulOk_of (by omega)
  have e1 := squarew_run k S w.c w.s mc ms
  rw [h.sq] at e1
  have g := h.g
  have e2 := lc_run (c := calAt P (k + 2)) (own := [1]) (t := .nm 1) (i := .it .seq (.cons (.var 0) .nil)) (q := .yes) (e := .call "is_whole" (.cons (.var 1) .nil)) (σ := [some (.d w.d), none]) (S := S) (fun _ => some (.bl true))
    (items := [.int w.c, .int w.s, .int w.n]) (by simp) (by show 3 ≤ 16777216; decide) fun d hd => by
      have : ∃ x, d = .int x := by
        simp at hd
        rcases hd with rfl | rfl | rfl
        · exact ⟨_, rfl⟩
        · exact ⟨_, rfl⟩
        · exact ⟨_, rfl⟩
      obtain ⟨x, rfl⟩ := this
      simp [is_whole_int]
  have e3 : evalE (calAt P (k + 2)) c0_is_wind_form [some (.d w.d), none] S = .ok (.d (.lst [.bl true, .bl true, .bl true])) S := e2
  have eb : boolsOf [.bl true, .bl true, .bl true] = some [true, true, true] := rfl
  have g2 : slD w.d none (some 2) = some (.tup [.int w.c, .int w.s]) := by rfl
  have h1 : ¬ w.n < (w.c.natAbs : Int) := by omega
  have h2 : ¬ w.n < (w.s.natAbs : Int) := by omega
  have h3 : w.n ≤ 1000000000000 := by omega
  have gd1 : gcdD (.int w.c) (.int w.s) = some (.int (Nat.gcd w.c.natAbs w.s.natAbs : Nat)) := rfl
  have gd2 : gcdD (.int (Nat.gcd w.c.natAbs w.s.natAbs : Nat)) (.int w.n) = some (.int 1) := by
    show some (D.int (Nat.gcd ((Nat.gcd w.c.natAbs w.s.natAbs : Nat) : Int).natAbs w.n.natAbs : Nat)) = _
    rw [Int.natAbs_natCast]
    unfold dv at g
    rw [g]
    rfl
  generalize ((Nat.gcd w.c.natAbs w.s.natAbs : Nat) : Int) = g1 at gd1 gd2
  rw [run_is_wind_form]
  simp [-gcdD, runDf, d_is_wind_form, s1_is_wind_form, s2_is_wind_form, is_tuple_of_3, e1, e3, eb, g2, wix0, wix1, wix2, h1, h2, h3, n1, mn, gl_scale, gd1, gd2]
theorem check_wind_ok (k : Nat) (S : Store) {w : Wd} (h : w.Ok) : call P (k + 4) "check_wind" [.d w.d] S = .ok (.d .non) S := by
  rw [run_check_wind]
  simp [runDf, d_check_wind, wind_form_ok k S h]
theorem law_lowest_run (k : Nat) (S : Store) (c s n : Int) (hn : 0 < n) (hc : c.natAbs < 2 ^ 400) (hs : s.natAbs < 2 ^ 400) (hb : n.natAbs < 2 ^ 400) : ∃ c' s' n' : Int, call P (k + 2) "_law_lowest" [.d (.int c), .d (.int s), .d (.int n)] S = .ok (.d (.tup [.int c', .int s', .int n'])) S ∧
    c = (dv c s n : Int) * c' ∧ s = (dv c s n : Int) * s' ∧ n = (dv c s n : Int) * n' ∧ 0 < n' ∧ 0 < (dv c s n : Int) ∧ dv c' s' n' = 1 := by
  obtain ⟨c', s', n', h1, h2, h3, h4, h5, h6⟩ := dv_low (c := c) (s := s) hn
  have gcs : Nat.gcd c.natAbs s.natAbs < 2 ^ 400 := by
    by_cases z : c.natAbs = 0
    · rw [z, Nat.gcd_zero_left]; exact hs
    · exact Nat.lt_of_le_of_lt (Nat.gcd_le_left _ (by omega)) hc
  have e1 := divisor_run k S c s hc hs
  have e2 := divisor_run k S (Nat.gcd c.natAbs s.natAbs : Nat) n (by rw [Int.natAbs_natCast]; exact gcs) hb
  rw [Int.natAbs_natCast] at e2
  rw [show Nat.gcd (Nat.gcd c.natAbs s.natAbs) n.natAbs = dv c s n from rfl] at e2
  have q : divOk (dv c s n : Int) = true := by
    unfold divOk
    have a : dv c s n ≠ 0 := by omega
    have b : dv c s n ≤ n.natAbs := Nat.gcd_le_right _ (by omega)
    have h3 : (dv c s n).log2 < 9000 := by
      have := (Nat.log2_lt a).mpr (Nat.lt_of_le_of_lt b hb)
      omega
    simp [h3, a]
  have z0 : (dv c s n : Int) ≠ 0 := by omega
  have f : ∀ a b : Int, a = (dv c s n : Int) * b → Int.fdiv a (dv c s n : Int) = b := fun a b h => by
    rw [Int.fdiv_eq_ediv_of_nonneg _ (by omega), h, Int.mul_ediv_cancel_left _ z0]
  refine ⟨c', s', n', ?_, h1, h2, h3, h4, h5, h6⟩
  have f1 := f c c' h1
  have f2 := f s s' h2
  have f3 := f n n' h3
  rw [run__law_lowest]
  generalize (dv c s n : Int) = g at *
  simp [runDf, d__law_lowest, e1, e2, q, z0, f1, f2, f3, fit]
theorem pyth (a b : Int) : (a * a - b * b) * (a * a - b * b) + (2 * a * b) * (2 * a * b) = (a * a + b * b) * (a * a + b * b) := by
  have e : 2 * a * b * (2 * a * b) = 4 * (a * a * (b * b)) := by
    have e1 : a * b * (a * b) = a * a * (b * b) := by simp only [Int.mul_assoc, Int.mul_left_comm, Int.mul_comm]
    rw [Int.mul_assoc 2 a b, ← e1, Int.mul_assoc 2, Int.mul_left_comm (a * b) 2]
    omega
  rw [e]
  generalize a * a = x
  generalize b * b = y
  rw [Int.sub_mul, Int.mul_sub, Int.mul_sub, Int.add_mul, Int.mul_add, Int.mul_add, Int.mul_comm y x]
  omega
theorem sq_le_of {a m : Int} (h : -m ≤ a) (h' : a ≤ m) : a * a ≤ m * m := by
  by_cases c : 0 ≤ a
  · exact Int.le_trans (Int.mul_le_mul_of_nonneg_left h' c) (Int.mul_le_mul_of_nonneg_right h' (by omega))
  · have := Int.le_trans (Int.mul_le_mul_of_nonneg_left (show -a ≤ m by omega) (show 0 ≤ -a by omega)) (Int.mul_le_mul_of_nonneg_right (show -a ≤ m by omega) (by omega))
    rwa [Int.neg_mul_neg] at this
theorem sq_pos {a : Int} (h : a ≠ 0) : 0 < a * a := by
  rcases Int.lt_or_gt_of_ne h with h | h
  · exact Int.mul_pos_of_neg_of_neg h h
  · exact Int.mul_pos h h
theorem big400 : (2 : Nat) ^ 64 ≤ 2 ^ 400 := Nat.pow_le_pow_right (by decide) (by decide)
theorem law_wind_run (k : Nat) (S : Store) (i : Nat) (m : Int) (hu : Well S i) (m1 : 1 ≤ m) (m9 : m ≤ 100) : ∃ (w : Wd) (S' : Store), call P (k + 3) "_law_wind" [.ref i, .d (.int m)] S = .ok (.d w.d) S' ∧ w.Ok ∧ w.n ≤ 2 * (m * m) ∧ Drw S S' i := by
  obtain ⟨p, S1, e1, p0, p1, u1⟩ := draw_run (k + 1) S i (2 * m + 1) hu (by omega) (by omega)
  obtain ⟨q, S2, e2, q0, q1, u2⟩ := draw_run (k + 1) S1 i (2 * m + 1) u1.u (by omega) (by omega)
  have u := u1.trans u2
  have m2 : ∀ x : Int, mulOk 2 x = true := fun x => mulOk_of (by decide)
  obtain ⟨a, ha⟩ : ∃ a, a = p - m := ⟨_, rfl⟩
  obtain ⟨b, hb⟩ : ∃ b, b = q - m := ⟨_, rfl⟩
  have ma : ∀ x : Int, mulOk a x = true := fun x => mulOk_of (by omega)
  have mb : ∀ x : Int, mulOk b x = true := fun x => mulOk_of (by omega)
  have m2b : ∀ x : Int, mulOk x b = true := fun x => mulOk_of2 (by omega)
  have sa := sq_le_of (a := a) (m := m) (by omega) (by omega)
  have sb := sq_le_of (a := b) (m := m) (by omega) (by omega)
  have sm := sq_le_of (a := m) (m := 100) (by omega) (by omega)
  have na := sq_nn a
  have nb := sq_nn b
  have ht : S2.take S.length = S2 := by rw [← u.l, List.take_length]
  by_cases h0 : a = 0 ∧ b = 0
  · refine ⟨⟨0, 1, 1⟩, S2, ?_, ⟨by decide, by decide, by decide, by decide⟩, ?_, u⟩
    · rw [run__law_wind]
      simp [runDf, d__law_wind, e1, e2, m2, ← ha, ← hb, h0.1, h0.2, fit, ht]
    · show (1 : Int) ≤ 2 * (m * m)
      have : 1 * 1 ≤ m * m := Int.mul_le_mul m1 m1 (by decide) (by omega)
      omega
  · have hn : 0 < a * a + b * b := by
      by_cases c : a = 0
      · have := sq_pos (a := b) (fun z => h0 ⟨c, z⟩)
        omega
      · have := sq_pos c
        omega
    have hab : -10000 ≤ a * b ∧ a * b ≤ 10000 := by
      have h1 := sq_nn (a + b)
      have h2 := sq_nn (a - b)
      have h3 : (a + b) * (a + b) = a * a + b * b + 2 * (a * b) := by rw [Int.add_mul, Int.mul_add, Int.mul_add, Int.mul_comm b a]; omega
      have h4 : (a - b) * (a - b) = a * a + b * b - 2 * (a * b) := by rw [Int.sub_mul, Int.mul_sub, Int.mul_sub, Int.mul_comm b a]; omega
      omega
    have h2ab : 2 * a * b = 2 * (a * b) := Int.mul_assoc _ _ _
    have big := big400
    obtain ⟨c', s', n', e3, h1, h2, h3, h4, h5, h6⟩ := law_lowest_run k S2 (a * a - b * b) (2 * a * b) (a * a + b * b) hn (by omega) (by omega) (by omega)
    refine ⟨⟨c', s', n'⟩, S2, ?_, ⟨by show 1 ≤ n'; omega, ?_, ?_, h6⟩, ?_, u⟩
    · have ht3 : ∀ x : Int, (x == 0) = true ↔ x = 0 := fun x => beq_iff_eq
      rw [run__law_wind]
      cases ca : a == 0 with
      | false => simp [runDf, d__law_wind, e1, e2, m2, ← ha, ← hb, ma, mb, m2b, ca, fit, e3, ht]
      | true =>
        have cb : (b == 0) = false := by
          cases cb : b == 0 with
          | false => rfl
          | true => exact absurd ⟨(ht3 a).mp ca, (ht3 b).mp cb⟩ h0
        simp [-beq_iff_eq, runDf, d__law_wind, e1, e2, m2, ← ha, ← hb, ma, mb, m2b, ca, cb, fit, e3, ht]
    · show n' ≤ 1000000
      have : 1 * n' ≤ (dv (a * a - b * b) (2 * a * b) (a * a + b * b) : Int) * n' := Int.mul_le_mul_of_nonneg_right (by omega) (by omega)
      omega
    · show c' * c' + s' * s' = n' * n'
      have hp := pyth a b
      generalize (dv (a * a - b * b) (2 * a * b) (a * a + b * b) : Int) = g at *
      rw [h1, h2, h3] at hp
      have h7 : g * g * (c' * c' + s' * s') = g * g * (n' * n') := by
        rw [Int.mul_add]
        simp only [Int.mul_assoc, Int.mul_left_comm, Int.mul_comm] at hp ⊢
        omega
      exact Int.eq_of_mul_eq_mul_left (Int.ne_of_gt (Int.mul_pos h5 h5)) h7
    · show n' ≤ 2 * (m * m)
      have : 1 * n' ≤ (dv (a * a - b * b) (2 * a * b) (a * a + b * b) : Int) * n' := Int.mul_le_mul_of_nonneg_right (by omega) (by omega)
      omega
end K07
namespace K07
open PySem PySem.Spec PyProof.Rows L2 Pyi
/-! ### fractions, points, lines: plain numbers -/
structure Fr where
  n : Int
  d : Int
abbrev Fr.v (f : Fr) : D := .tup [.int f.n, .int f.d]
def leF (f g : Fr) : Prop := f.n * g.d ≤ g.n * f.d
def eqF (f g : Fr) : Prop := f.n * g.d = g.n * f.d
theorem mul_le_iff {a b c : Int} (h : 0 < c) : a * c ≤ b * c ↔ a ≤ b := by
  constructor
  · exact fun z => Int.le_of_mul_le_mul_right z h
  · exact fun z => Int.mul_le_mul_of_nonneg_right z (by omega)
theorem mul_lt_iff {a b c : Int} (h : 0 < c) : a * c < b * c ↔ a < b := by
  constructor
  · exact fun z => Int.lt_of_mul_lt_mul_right z (by omega)
  · exact fun z => Int.mul_lt_mul_of_pos_right z h
theorem leF_congr {f f' g g' : Fr} (h : eqF f f') (h2 : eqF g g') (p : 0 < f.d) (p' : 0 < f'.d) (q : 0 < g.d) (q' : 0 < g'.d) : leF f g ↔ leF f' g' := by
  unfold leF eqF at *
  have a1 := mul_le_iff (a := f.n * g.d) (b := g.n * f.d) (Int.mul_pos p' q')
  have a2 := mul_le_iff (a := f'.n * g'.d) (b := g'.n * f'.d) (Int.mul_pos p q)
  have e1 : f.n * g.d * (f'.d * g'.d) = f'.n * g'.d * (f.d * g.d) := by grind
  have e2 : g.n * f.d * (f'.d * g'.d) = g'.n * f'.d * (f.d * g.d) := by grind
  rw [← a1, ← a2, e1, e2]
theorem leF_trans {f g h : Fr} (a : leF f g) (b : leF g h) (p : 0 < f.d) (q : 0 < g.d) (r : 0 < h.d) : leF f h := by
  unfold leF at *
  rw [← mul_le_iff q]
  have h1 := Int.mul_le_mul_of_nonneg_right a (show 0 ≤ h.d by omega)
  have h2 := Int.mul_le_mul_of_nonneg_right b (show 0 ≤ f.d by omega)
  have e1 : f.n * h.d * g.d = f.n * g.d * h.d := by grind
  have e2 : g.n * f.d * h.d = g.n * h.d * f.d := by grind
  have e3 : h.n * f.d * g.d = h.n * g.d * f.d := by grind
  omega
theorem leF_refl (f : Fr) : leF f f := Int.le_refl _
theorem eqF_refl (f : Fr) : eqF f f := rfl
theorem eqF_of {f g : Fr} (a : leF f g) (b : leF g f) : eqF f g := by
  unfold leF eqF at *
  omega
theorem eqF_symm {f g : Fr} (a : eqF f g) : eqF g f := by
  unfold eqF at *
  omega
theorem leF_of {f g : Fr} (a : eqF f g) : leF f g := by
  unfold leF eqF at *
  omega
def ltF (g f : Fr) : Bool := decide (g.n * f.d < f.n * g.d)
theorem ltF_iff {g f : Fr} : ltF g f = true ↔ ¬ leF f g := by
  unfold ltF leF
  simp
def minF (f g : Fr) : Fr := if ltF g f then g else f
theorem minF_pos {f g : Fr} (p : 0 < f.d) (q : 0 < g.d) : 0 < (minF f g).d := by
  unfold minF
  split <;> assumption
theorem minF_congr {f f' g g' : Fr} (h : eqF f f') (h2 : eqF g g') (p : 0 < f.d) (p' : 0 < f'.d) (q : 0 < g.d) (q' : 0 < g'.d) : eqF (minF f g) (minF f' g') := by
  have e : ltF g f = ltF g' f' := by
    rw [Bool.eq_iff_iff, ltF_iff, ltF_iff, leF_congr h h2 p p' q q']
  unfold minF
  rw [e]
  split <;> assumption
theorem minF_le1 (f g : Fr) : leF (minF f g) f := by
  unfold minF
  split
  · rename_i h
    have := ltF_iff.mp h
    unfold leF at *
    omega
  · exact leF_refl _
theorem minF_le2 (f g : Fr) : leF (minF f g) g := by
  unfold minF
  split
  · exact leF_refl _
  · rename_i h
    exact Classical.byContradiction fun z => h (ltF_iff.mpr z)
theorem le_minF {h f g : Fr} (a : leF h f) (b : leF h g) : leF h (minF f g) := by
  unfold minF
  split <;> assumption
theorem minF_self {f : Fr} : minF f f = f := by
  unfold minF
  split <;> rfl
/-- the least of four, in another order -/
theorem min4_swap {a b c d : Fr} (pa : 0 < a.d) (pb : 0 < b.d) (pc : 0 < c.d) (pd : 0 < d.d) : eqF (minF (minF (minF a b) c) d) (minF (minF (minF c d) a) b) := by
  have pab := minF_pos pa pb
  have pcd := minF_pos pc pd
  have p1 := minF_pos pab pc
  have p2 := minF_pos pcd pa
  have p3 := minF_pos p1 pd
  have p4 := minF_pos p2 pb
  refine eqF_of (le_minF (le_minF (le_minF ?_ ?_) ?_) ?_) (le_minF (le_minF (le_minF ?_ ?_) ?_) ?_)
  · exact leF_trans (minF_le1 _ _) (minF_le2 _ _) p3 p1 pc
  · exact minF_le2 _ _
  · exact leF_trans (minF_le1 _ _) (leF_trans (minF_le1 _ _) (minF_le1 _ _) p1 pab pa) p3 p1 pa
  · exact leF_trans (minF_le1 _ _) (leF_trans (minF_le1 _ _) (minF_le2 _ _) p1 pab pb) p3 p1 pb
  · exact leF_trans (minF_le1 _ _) (minF_le2 _ _) p4 p2 pa
  · exact minF_le2 _ _
  · exact leF_trans (minF_le1 _ _) (leF_trans (minF_le1 _ _) (minF_le1 _ _) p2 pcd pc) p4 p2 pc
  · exact leF_trans (minF_le1 _ _) (leF_trans (minF_le1 _ _) (minF_le2 _ _) p2 pcd pd) p4 p2 pd
/-! points -/
structure Pt where
  x : Int
  y : Int
abbrev Pt.v (p : Pt) : D := .tup [.int p.x, .int p.y]
def crs (a b p : Pt) : Int := (b.x - a.x) * (p.y - a.y) - (b.y - a.y) * (p.x - a.x)
def alg (p a b : Pt) : Int := (p.x - a.x) * (b.x - a.x) + (p.y - a.y) * (b.y - a.y)
def whl (a b : Pt) : Int := (b.x - a.x) * (b.x - a.x) + (b.y - a.y) * (b.y - a.y)
def sqd (p q : Pt) : Int := (p.x - q.x) * (p.x - q.x) + (p.y - q.y) * (p.y - q.y)
theorem sqd_nn (p q : Pt) : 0 ≤ sqd p q := by
  have := sq_nn (p.x - q.x)
  have := sq_nn (p.y - q.y)
  unfold sqd
  omega
theorem sqd_comm (p q : Pt) : sqd p q = sqd q p := by
  unfold sqd
  grind
theorem whl_nn (a b : Pt) : 0 ≤ whl a b := sqd_nn b a
theorem lagr (p a b : Pt) : crs a b p * crs a b p + alg p a b * alg p a b = sqd p a * whl a b := by
  unfold crs alg sqd whl
  grind
theorem sqd_b (p a b : Pt) : sqd p b = sqd p a - 2 * alg p a b + whl a b := by
  unfold alg sqd whl
  grind
def toL (p a b : Pt) : Fr := if alg p a b ≤ 0 then ⟨sqd p a, 1⟩ else if alg p a b ≥ whl a b then ⟨sqd p b, 1⟩ else ⟨crs a b p * crs a b p, whl a b⟩
theorem toL_pos (p a b : Pt) : 0 < (toL p a b).d := by
  unfold toL
  split
  · show (0 : Int) < 1
    decide
  · split
    · show (0 : Int) < 1
      decide
    · show 0 < whl a b
      omega
theorem toL_nn (p a b : Pt) : 0 ≤ (toL p a b).n := by
  unfold toL
  split
  · exact sqd_nn _ _
  · split
    · exact sqd_nn _ _
    · exact sq_nn _
/-- no nearer than to the line: both ends -/
theorem toL_a (p a b : Pt) : leF (toL p a b) ⟨sqd p a, 1⟩ := by
  unfold toL
  split
  · exact leF_refl _
  · split
    · show sqd p b * 1 ≤ sqd p a * 1
      have := sqd_b p a b
      have := whl_nn a b
      omega
    · show crs a b p * crs a b p * 1 ≤ sqd p a * whl a b
      have := lagr p a b
      have := sq_nn (alg p a b)
      omega
theorem toL_b (p a b : Pt) : leF (toL p a b) ⟨sqd p b, 1⟩ := by
  unfold toL
  split
  · show sqd p a * 1 ≤ sqd p b * 1
    have := sqd_b p a b
    have := whl_nn a b
    omega
  · split
    · exact leF_refl _
    · show crs a b p * crs a b p * 1 ≤ sqd p b * whl a b
      have h : crs a b p * crs a b p + (alg p a b - whl a b) * (alg p a b - whl a b) = sqd p b * whl a b := by
        have h1 := lagr p a b
        rw [sqd_b p a b]
        grind
      have := sq_nn (alg p a b - whl a b)
      omega
def crB (a b c d : Pt) : Bool := decide (crs a b c * crs a b d < 0) && decide (crs c d a * crs c d b < 0)
def gapL (a b c d : Pt) : Fr := if crB a b c d then ⟨0, 1⟩ else minF (minF (minF (toL a c d) (toL b c d)) (toL c a b)) (toL d a b)
theorem gapL_pos (a b c d : Pt) : 0 < (gapL a b c d).d := by
  unfold gapL
  split
  · show (0 : Int) < 1
    decide
  · exact minF_pos (minF_pos (minF_pos (toL_pos _ _ _) (toL_pos _ _ _)) (toL_pos _ _ _)) (toL_pos _ _ _)
theorem minF_nn {f g : Fr} (h : 0 ≤ f.n) (h2 : 0 ≤ g.n) : 0 ≤ (minF f g).n := by
  unfold minF
  split <;> assumption
theorem gapL_nn (a b c d : Pt) : 0 ≤ (gapL a b c d).n := by
  unfold gapL
  split
  · exact Int.le_refl _
  · exact minF_nn (minF_nn (minF_nn (toL_nn _ _ _) (toL_nn _ _ _)) (toL_nn _ _ _)) (toL_nn _ _ _)
theorem gapL_swap (a b c d : Pt) : eqF (gapL a b c d) (gapL c d a b) := by
  unfold gapL
  have : crB a b c d = crB c d a b := by
    unfold crB
    rw [Bool.and_comm]
  rw [this]
  split
  · rfl
  · exact min4_swap (toL_pos _ _ _) (toL_pos _ _ _) (toL_pos _ _ _) (toL_pos _ _ _)
theorem gapL_ends (a b c d p q : Pt) (hp : p = a ∨ p = b) (hq : q = c ∨ q = d) : leF (gapL a b c d) ⟨sqd p q, 1⟩ := by
  unfold gapL
  split
  · show (0 : Int) * 1 ≤ sqd p q * 1
    have := sqd_nn p q
    omega
  · have p0 : 0 < (⟨sqd p q, 1⟩ : Fr).d := by show (0 : Int) < 1; decide
    have pab := minF_pos (toL_pos a c d) (toL_pos b c d)
    have p1 := minF_pos pab (toL_pos c a b)
    have p2 := minF_pos p1 (toL_pos d a b)
    have l : leF (minF (minF (minF (toL a c d) (toL b c d)) (toL c a b)) (toL d a b)) (minF (toL a c d) (toL b c d)) := leF_trans (minF_le1 _ _) (minF_le1 _ _) p2 p1 pab
    have m : leF (minF (toL a c d) (toL b c d)) ⟨sqd p q, 1⟩ := by
      rcases hp with rfl | rfl
      · refine leF_trans (minF_le1 _ _) ?_ pab (toL_pos _ _ _) p0
        rcases hq with rfl | rfl
        · exact toL_a _ _ _
        · exact toL_b _ _ _
      · refine leF_trans (minF_le2 _ _) ?_ pab (toL_pos _ _ _) p0
        rcases hq with rfl | rfl
        · exact toL_a _ _ _
        · exact toL_b _ _ _
    exact leF_trans l m p2 pab p0
/-- moved along, all of them -/
def Pt.mv (p : Pt) (s t : Int) : Pt := ⟨p.x + s, p.y + t⟩
theorem gapL_mv (a b c d : Pt) (s t : Int) : gapL (a.mv s t) (b.mv s t) (c.mv s t) (d.mv s t) = gapL a b c d := by
  have h : ∀ x y z : Int, x + z - (y + z) = x - y := fun x y z => by omega
  unfold gapL crB toL crs alg whl sqd Pt.mv
  simp only [h]
/-! lowest terms -/
theorem lowZ_eq {a n a' n' : Int} (hn : 0 < n) (hn' : 0 < n') (h : a * n' = a' * n) : lowZ a n = lowZ a' n' := by
  have key : ∀ {a n : Int}, 0 < n → ∃ α ν : Int, lowZ a n = .tup [.int α, .int ν] ∧ 0 < ν ∧ a * ν = α * n ∧ Nat.gcd α.natAbs ν.natAbs = 1 := fun {a n} hn => by
    have g0 : 0 < (Int.gcd a n : Int) := by
      have : Int.gcd a n ≠ 0 := fun z => by have := (Int.gcd_eq_zero_iff.mp z).2; omega
      omega
    obtain ⟨α, e1⟩ := Int.gcd_dvd_left (a := a) (b := n)
    obtain ⟨ν, e2⟩ := Int.gcd_dvd_right (a := a) (b := n)
    have d1 : a / (Int.gcd a n : Int) = α := by
      conv => lhs; lhs; rw [e1]
      exact Int.mul_ediv_cancel_left _ (by omega)
    have d2 : n / (Int.gcd a n : Int) = ν := by
      conv => lhs; lhs; rw [e2]
      exact Int.mul_ediv_cancel_left _ (by omega)
    have hg : Int.gcd a n = Int.gcd a n * Nat.gcd α.natAbs ν.natAbs := by
      have h1 : a.natAbs = Int.gcd a n * α.natAbs := by
        have := congrArg Int.natAbs e1
        rwa [Int.natAbs_mul, Int.natAbs_natCast] at this
      have h2 : n.natAbs = Int.gcd a n * ν.natAbs := by
        have := congrArg Int.natAbs e2
        rwa [Int.natAbs_mul, Int.natAbs_natCast] at this
      have h3 : Int.gcd a n = Nat.gcd a.natAbs n.natAbs := rfl
      conv => lhs; rw [h3, h1, h2, Nat.gcd_mul_left]
    refine ⟨α, ν, by unfold lowZ; rw [d1, d2], ?_, ?_, Nat.eq_of_mul_eq_mul_left (show 0 < Int.gcd a n by omega) (by rw [Nat.mul_one]; exact hg.symm)⟩
    · by_cases c : 0 < ν
      · exact c
      · have : (Int.gcd a n : Int) * ν ≤ (Int.gcd a n : Int) * 0 := Int.mul_le_mul_of_nonneg_left (by omega) (by omega)
        omega
    · generalize (Int.gcd a n : Int) = g at e1 e2
      rw [e1, e2]
      grind
  obtain ⟨α, ν, e, hν, h1, c1⟩ := key (a := a) hn
  obtain ⟨α', ν', e', hν', h2, c2⟩ := key (a := a') hn'
  have hx : α * ν' = α' * ν := by
    have h3 : α * ν' * (n * n') = α' * ν * (n * n') := by grind
    exact Int.eq_of_mul_eq_mul_right (Int.ne_of_gt (Int.mul_pos hn hn')) h3
  have hxn : α.natAbs * ν'.natAbs = α'.natAbs * ν.natAbs := by
    have := congrArg Int.natAbs hx
    rwa [Int.natAbs_mul, Int.natAbs_mul] at this
  have d1 : ν.natAbs ∣ ν'.natAbs := by
    refine Nat.Coprime.dvd_of_dvd_mul_left (m := α.natAbs) ?_ ⟨α'.natAbs, by rw [hxn, Nat.mul_comm]⟩
    rw [Nat.coprime_comm]
    exact c1
  have d2 : ν'.natAbs ∣ ν.natAbs := by
    refine Nat.Coprime.dvd_of_dvd_mul_left (m := α'.natAbs) ?_ ⟨α.natAbs, by rw [← hxn, Nat.mul_comm]⟩
    rw [Nat.coprime_comm]
    exact c2
  have hν2 : ν = ν' := by
    have := Nat.dvd_antisymm d1 d2
    omega
  subst hν2
  have : α = α' := Int.eq_of_mul_eq_mul_right (by omega) hx
  rw [e, e', this]
theorem lowZ_of_eqF {f g : Fr} (h : eqF f g) (p : 0 < f.d) (q : 0 < g.d) {s : Int} (hs : 0 < s) : lowZ f.n (f.d * s) = lowZ g.n (g.d * s) := by
  refine lowZ_eq (Int.mul_pos p hs) (Int.mul_pos q hs) ?_
  unfold eqF at h
  grind
/-- a fraction in lowest terms is the same one -/
theorem lowZ_at {a n : Int} (hn : 0 < n) : ∃ f : Fr, lowZ a n = f.v ∧ 0 < f.d ∧ a * f.d = f.n * n ∧ f.d ≤ n ∧ f.n.natAbs ≤ a.natAbs := by
  have g0 : 0 < (Int.gcd a n : Int) := by
    have : Int.gcd a n ≠ 0 := fun z => by have := (Int.gcd_eq_zero_iff.mp z).2; omega
    omega
  obtain ⟨α, e1⟩ := Int.gcd_dvd_left (a := a) (b := n)
  obtain ⟨ν, e2⟩ := Int.gcd_dvd_right (a := a) (b := n)
  have d1 : a / (Int.gcd a n : Int) = α := by
    conv => lhs; lhs; rw [e1]
    exact Int.mul_ediv_cancel_left _ (by omega)
  have d2 : n / (Int.gcd a n : Int) = ν := by
    conv => lhs; lhs; rw [e2]
    exact Int.mul_ediv_cancel_left _ (by omega)
  refine ⟨⟨α, ν⟩, by unfold lowZ; rw [d1, d2], ?_, ?_, ?_, ?_⟩
  · show 0 < ν
    by_cases c : 0 < ν
    · exact c
    · have : (Int.gcd a n : Int) * ν ≤ (Int.gcd a n : Int) * 0 := Int.mul_le_mul_of_nonneg_left (by omega) (by omega)
      omega
  · show a * ν = α * n
    generalize (Int.gcd a n : Int) = g at e1 e2
    rw [e1, e2]
    grind
  · show ν ≤ n
    rw [← d2]
    exact Int.ediv_le_self _ (by omega)
  · show α.natAbs ≤ a.natAbs
    have h1 : a.natAbs = Int.gcd a n * α.natAbs := by
      have := congrArg Int.natAbs e1
      rwa [Int.natAbs_mul, Int.natAbs_natCast] at this
    have h2 : 1 * α.natAbs ≤ Int.gcd a n * α.natAbs := Nat.mul_le_mul_right _ (by omega)
    omega
end K07
namespace K07
open PySem PySem.Spec PyProof.Rows L2 Pyi
/-! ### how great numbers are -/
def Sm (p : Pt) : Prop := p.x.natAbs ≤ 268435456 ∧ p.y.natAbs ≤ 268435456
theorem prod_le {u v : Int} (h : u.natAbs ≤ 536870912) (h2 : v.natAbs ≤ 536870912) : (u * v).natAbs ≤ 288230376151711744 := by
  rw [Int.natAbs_mul]
  exact Nat.le_trans (Nat.mul_le_mul h h2) (by decide)
theorem crs_sm {a b p : Pt} (ha : Sm a) (hb : Sm b) (hp : Sm p) : (crs a b p).natAbs ≤ 576460752303423488 := by
  obtain ⟨a1, a2⟩ := ha
  obtain ⟨b1, b2⟩ := hb
  obtain ⟨p1, p2⟩ := hp
  have h1 := prod_le (u := b.x - a.x) (v := p.y - a.y) (by omega) (by omega)
  have h2 := prod_le (u := b.y - a.y) (v := p.x - a.x) (by omega) (by omega)
  unfold crs
  omega
theorem alg_sm {a b p : Pt} (ha : Sm a) (hb : Sm b) (hp : Sm p) : (alg p a b).natAbs ≤ 576460752303423488 := by
  obtain ⟨a1, a2⟩ := ha
  obtain ⟨b1, b2⟩ := hb
  obtain ⟨p1, p2⟩ := hp
  have h1 := prod_le (u := p.x - a.x) (v := b.x - a.x) (by omega) (by omega)
  have h2 := prod_le (u := p.y - a.y) (v := b.y - a.y) (by omega) (by omega)
  unfold alg
  omega
theorem sqd_sm {p q : Pt} (hp : Sm p) (hq : Sm q) : (sqd p q).natAbs ≤ 576460752303423488 := by
  obtain ⟨a1, a2⟩ := hp
  obtain ⟨b1, b2⟩ := hq
  have h1 := prod_le (u := p.x - q.x) (v := p.x - q.x) (by omega) (by omega)
  have h2 := prod_le (u := p.y - q.y) (v := p.y - q.y) (by omega) (by omega)
  unfold sqd
  omega
theorem whl_sm {a b : Pt} (ha : Sm a) (hb : Sm b) : (whl a b).natAbs ≤ 576460752303423488 := sqd_sm hb ha
theorem mulOk_big {i j : Int} (hi : i.natAbs < 2 ^ 400) (hj : j.natAbs < 2 ^ 400) : mulOk i j = true := by
  unfold mulOk
  by_cases a : i.natAbs = 0
  · simp [a]
  · by_cases b : j.natAbs = 0
    · simp [b]
    · have l1 := (Nat.log2_lt a).mpr hi
      have l2 := (Nat.log2_lt b).mpr hj
      have : i.natAbs.log2 + j.natAbs.log2 < 1000000 := by omega
      simp [this]
theorem lt400 {x : Nat} (h : x ≤ 2 ^ 200) : x < 2 ^ 400 := Nat.lt_of_le_of_lt h (Nat.pow_lt_pow_right (by decide) (by decide))
/-- fractions of no great numbers -/
def FSm (f : Fr) : Prop := f.n.natAbs ≤ 2 ^ 200 ∧ f.d.natAbs ≤ 2 ^ 200
theorem e200 : (576460752303423488 : Nat) * 576460752303423488 ≤ 2 ^ 200 := by decide
theorem e200' : (576460752303423488 : Nat) ≤ 2 ^ 200 := by decide
theorem toL_sm {p a b : Pt} (hp : Sm p) (ha : Sm a) (hb : Sm b) : FSm (toL p a b) := by
  have c := crs_sm ha hb hp
  have w := whl_sm ha hb
  have s1 := sqd_sm hp ha
  have s2 := sqd_sm hp hb
  have k1 := e200'
  have k2 := e200
  unfold toL
  split
  · exact ⟨Nat.le_trans s1 k1, by show 1 ≤ 2 ^ 200; decide⟩
  · split
    · exact ⟨Nat.le_trans s2 k1, by show 1 ≤ 2 ^ 200; decide⟩
    · refine ⟨?_, Nat.le_trans w k1⟩
      show (crs a b p * crs a b p).natAbs ≤ _
      rw [Int.natAbs_mul]
      exact Nat.le_trans (Nat.mul_le_mul c c) k2
theorem minF_sm {f g : Fr} (h : FSm f) (h2 : FSm g) : FSm (minF f g) := by
  unfold minF
  split <;> assumption
/-! ### the program's lines -/
end K07
namespace K07
open PySem PySem.Spec PyProof.Rows L2 Pyi
/-! ### boats by winds -/
def ptA (p : By) (w : Wd) (len sc : Int) : Pt := ⟨p.x * sc + len * w.c * (sc / w.n), p.y * sc + len * w.s * (sc / w.n)⟩
/-- a scale: a multiple of a wind's N, not too great -/
structure Sc (w : Wd) (sc : Int) : Prop where
  s1 : 1 ≤ sc
  s9 : sc ≤ 640000
  dv : w.n * (sc / w.n) = sc
theorem Sc.lr {w w2 : Wd} (h : w.Ok) (h2 : w2.Ok) (n8 : w.n ≤ 800) (m8 : w2.n ≤ 800) : Sc w (w.n * w2.n) ∧ Sc w2 (w.n * w2.n) := by
  have n1 := h.n1
  have m1 := h2.n1
  have a : 1 * 1 ≤ w.n * w2.n := Int.mul_le_mul n1 m1 (by decide) (by omega)
  have b : w.n * w2.n ≤ 800 * 800 := Int.mul_le_mul n8 m8 (by omega) (by decide)
  refine ⟨⟨by omega, by omega, ?_⟩, ⟨by omega, by omega, ?_⟩⟩
  · rw [Int.mul_ediv_cancel_left _ (by omega)]
  · rw [Int.mul_ediv_cancel _ (by omega), Int.mul_comm]
theorem Sc.q0 {w : Wd} (h : w.Ok) {sc : Int} (s : Sc w sc) : 0 ≤ sc / w.n := Int.ediv_nonneg (by have := s.s1; omega) (by have := h.n1; omega)
theorem part_sm {w : Wd} (h : w.Ok) {sc : Int} (s : Sc w sc) {c : Int} (h1 : -w.n ≤ c) (h2 : c ≤ w.n) : -sc ≤ c * (sc / w.n) ∧ c * (sc / w.n) ≤ sc := by
  have q := s.q0 h
  have a := Int.mul_le_mul_of_nonneg_right h1 q
  have b := Int.mul_le_mul_of_nonneg_right h2 q
  rw [Int.neg_mul, s.dv] at a
  rw [s.dv] at b
  exact ⟨a, b⟩
theorem scaled_sm {x len t sc : Int} (x0 : 0 ≤ x) (x9 : x ≤ 199) (l0 : 0 ≤ len) (l9 : len ≤ 198) (t0 : -sc ≤ t) (t1 : t ≤ sc) (s1 : 1 ≤ sc) (s9 : sc ≤ 640000) : (x * sc + len * t).natAbs ≤ 268435456 := by
  have a1 : x * sc ≤ 199 * sc := Int.mul_le_mul_of_nonneg_right x9 (by omega)
  have a2 : 0 ≤ x * sc := Int.mul_nonneg x0 (by omega)
  have b1 : len * t ≤ len * sc := Int.mul_le_mul_of_nonneg_left t1 l0
  have b2 : len * -sc ≤ len * t := Int.mul_le_mul_of_nonneg_left t0 l0
  have b3 : len * sc ≤ 198 * sc := Int.mul_le_mul_of_nonneg_right l9 (by omega)
  rw [Int.mul_neg] at b2
  omega
theorem ptA_sm {p : By} (hp : p.Ok) {w : Wd} (h : w.Ok) {len sc : Int} (l0 : 0 ≤ len) (l9 : len ≤ 198) (s : Sc w sc) : Sm (ptA p w len sc) := by
  have c := part_sm h s h.cb.1 h.cb.2
  have d := part_sm h s h.sb.1 h.sb.2
  have a := scaled_sm hp.x0 hp.x9 l0 l9 c.1 c.2 s.s1 s.s9
  have b := scaled_sm hp.y0 hp.y9 l0 l9 d.1 d.2 s.s1 s.s9
  rw [← Int.mul_assoc] at a b
  exact ⟨a, b⟩
theorem pix0 (p : Pt) : atI [D.int p.x, .int p.y] 0 = some (.int p.x) := rfl
theorem yix0 (p : By) : atI [D.int p.x, .int p.y] 0 = some (.int p.x) := rfl
theorem yix1 (p : By) : atI [D.int p.x, .int p.y] 1 = some (.int p.y) := rfl
theorem div_ok {w : Wd} (h : w.Ok) : divOk w.n = true := divOk_of (by have := h.n1; omega) (by have := h.n1; have := h.n9; omega)
theorem point_at_run (k : Nat) (S : Store) (p : By) {w : Wd} (h : w.Ok) (len : Int) {sc : Int} (l9 : len.natAbs ≤ 1000) (x9 : p.x.natAbs ≤ 1000) (y9 : p.y.natAbs ≤ 1000) (s : Sc w sc) : call P (k + 1) "point_at" [.d p.at, .d w.d, .d (.int len), .d (.int sc)] S = .ok (.d (ptA p w len sc).v) S := by
  have n1 := h.n1
  have q := div_ok h
  have n0 : w.n ≠ 0 := by omega
  have f := Int.fdiv_eq_ediv_of_nonneg sc (show 0 ≤ w.n by omega)
  have m1 : mulOk p.x sc = true := mulOk_of (by omega)
  have m2 : mulOk p.y sc = true := mulOk_of (by omega)
  have m3 : mulOk len w.c = true := mulOk_of (by omega)
  have m4 : mulOk len w.s = true := mulOk_of (by omega)
  have q1 : (sc / w.n).natAbs < 2 ^ 64 := by
    have := Int.ediv_le_self (a := sc) w.n (by have := s.s1; omega)
    have := s.q0 h
    have := s.s9
    omega
  have m5 : ∀ z, mulOk z (sc / w.n) = true := fun z => mulOk_of2 q1
  rw [run_point_at]
  simp [runDf, d_point_at, wix0, wix1, wix2, yix0, yix1, q, n0, f, m1, m2, m3, m4, m5, fit, ptA]
def lineA (a : Bt) (p : By) (w : Wd) (sc : Int) : D := .tup [(ptA p w a.rope sc).v, (ptA p w (rch a) sc).v]
def gapF (a : Bt) (p : By) (w : Wd) (b : Bt) (q : By) (w2 : Wd) (sc : Int) : Fr := gapL (ptA p w a.rope sc) (ptA p w (rch a) sc) (ptA q w2 b.rope sc) (ptA q w2 (rch b) sc)
def gapD (a : Bt) (p : By) (w : Wd) (b : Bt) (q : By) (w2 : Wd) : D := lowZ (gapF a p w b q w2 (w.n * w2.n)).n ((gapF a p w b q w2 (w.n * w2.n)).d * (w.n * w2.n * (w.n * w2.n)))
theorem rch_sm {a : Bt} (ha : a.Ok) : 0 ≤ a.rope ∧ a.rope ≤ 198 ∧ 0 ≤ rch a ∧ rch a ≤ 198 := by
  have h1 := ha.r0; have h2 := ha.r9; have h3 := ha.l1; have h4 := ha.l9
  have er : rch a = a.rope + a.long := rfl
  omega
theorem e400 : (2 : Nat) ^ 200 * 640000 * 640000 < 2 ^ 400 := by
  have : (2 : Nat) ^ 400 = 2 ^ 200 * 2 ^ 200 := by rw [← Nat.pow_add]
  rw [this, Nat.mul_assoc]
  exact Nat.mul_lt_mul_of_pos_left (by decide) (by decide)
end K07
namespace K07
open PySem PySem.Spec PyProof.Rows L2 Pyi
/-! ### the law's own lines -/
theorem filter_by : ∀ {bs : List By} {b : By}, bs.Pairwise (fun a b => ltN a.nm b.nm) → b ∈ bs → bs.filter (fun c => decide (c.nm = b.nm)) = [b]
  | c :: bs, b, h, hb => by
    obtain ⟨h1, h2⟩ := List.pairwise_cons.mp h
    rcases List.mem_cons.mp hb with rfl | hb
    · rw [List.filter_cons, if_pos (by simp)]
      congr 1
      rw [List.filter_eq_nil_iff]
      intro d hd
      have := h1 d hd
      simpa using fun z : d.nm = b.nm => ltN_irrefl _ (by rw [z] at this; exact this)
    · have := h1 b hb
      rw [List.filter_cons, if_neg (by simpa using fun z : c.nm = b.nm => ltN_irrefl _ (by rw [z] at this; exact this))]
      exact filter_by h2 hb
def pick (nm : Str) (d : D) : Option D := match d with
  | .tup [.str x, a, b] => if x = nm then some (.tup [a, b]) else none
  | _ => none
theorem law_spot_run (k : Nat) (S : Store) {h : Hb} (hH : h.Ok) {p : By} (hp : p ∈ h.bs) : call P (k + 1) "_law_spot" [.d h.d, .d (.str p.nm)] S = .ok (.d p.at) S := by
  have h8 := hH.bs.l8
  have i1 : atI [D.int h.room, .tup (h.bs.map By.d), .tup (h.ws.map Wl.e)] 1 = some (.tup (h.bs.map By.d)) := rfl
  have e := lc_run (c := calAt P k) (own := [2, 3, 4]) (t := .tup (.cons (.nm 2) (.cons (.nm 3) (.cons (.nm 4) .nil)))) (i := .it .seq (.cons (.ix (.var 0) (.cst (.int 1))) .nil)) (q := .cmp .Eq (.var 2) (.var 1)) (e := .tup (.cons (.var 3) (.cons (.var 4) .nil))) (σ := [some (.d h.d), some (.d (.str p.nm)), none, none, none]) (S := S)
    (pick p.nm) (items := h.bs.map By.d) (by simp [i1]) (by rw [List.length_map]; omega) fun d hd => by
      obtain ⟨c, _, rfl⟩ := List.mem_map.mp hd
      by_cases z : c.nm = p.nm
      · simp [pick, z, fit]
      · simp [pick, z, fit]
  have e3 : ∀ cs : List By, (cs.map By.d).filterMap (pick p.nm) = (cs.filter fun c => decide (c.nm = p.nm)).map By.at := by
    intro cs
    induction cs with
    | nil => rfl
    | cons c cs ih =>
      rw [List.map_cons, List.filterMap_cons, List.filter_cons]
      by_cases z : c.nm = p.nm
      · simp [pick, z] at ih ⊢
        exact ih
      · simp [pick, z] at ih ⊢
        exact ih
  rw [e3, filter_by hH.bs.asc hp] at e
  have e2 : evalE (calAt P k) c0__law_spot [some (.d h.d), some (.d (.str p.nm)), none, none, none] S = .ok (.d (.lst [p.at])) S := e
  rw [run__law_spot]
  simp [runDf, d__law_spot, e2, atI, ixN]
theorem law_boat_run (k : Nat) (S : Store) {bs : List Bt} (hB : Boats bs) {b : Bt} (hb : b ∈ bs) : call P (k + 1) "_law_boat" [.d (.tup (bs.map Bt.d)), .d (.str b.nm)] S = .ok (.d (.tup [.int b.rope, .int b.long])) S := by
  have h8 := hB.l7
  have e := lc_run (c := calAt P k) (own := [2, 3, 4]) (t := .tup (.cons (.nm 2) (.cons (.nm 3) (.cons (.nm 4) .nil)))) (i := .it .seq (.cons (.var 0) .nil)) (q := .cmp .Eq (.var 2) (.var 1)) (e := .tup (.cons (.var 3) (.cons (.var 4) .nil))) (σ := [some (.d (.tup (bs.map Bt.d))), some (.d (.str b.nm)), none, none, none]) (S := S)
    (pick b.nm) (items := bs.map Bt.d) (by simp) (by rw [List.length_map]; omega) fun d hd => by
      obtain ⟨c, _, rfl⟩ := List.mem_map.mp hd
      by_cases z : c.nm = b.nm
      · simp [pick, z, fit]
      · simp [pick, z, fit]
  have e3 : ∀ cs : List Bt, (cs.map Bt.d).filterMap (pick b.nm) = (cs.filter fun c => decide (c.nm = b.nm)).map fun c => .tup [.int c.rope, .int c.long] := by
    intro cs
    induction cs with
    | nil => rfl
    | cons c cs ih =>
      rw [List.map_cons, List.filterMap_cons, List.filter_cons]
      by_cases z : c.nm = b.nm
      · simp [pick, z] at ih ⊢
        exact ih
      · simp [pick, z] at ih ⊢
        exact ih
  rw [e3, filter_nm hB.asc hb] at e
  have e2 : evalE (calAt P k) c0__law_boat [some (.d (.tup (bs.map Bt.d))), some (.d (.str b.nm)), none, none, none] S = .ok (.d (.lst [.tup [.int b.rope, .int b.long]])) S := e
  rw [run__law_boat]
  simp [runDf, d__law_boat, e2, atI, ixN]
theorem stern_ne : (("stern" : Str) = "bow") = False := eq_false fun z => absurd (congrArg Str.length z) (by decide)
def wayB (s : Bool) : Str := if s then "stern" else "bow"
def lenB (s : Bool) (a : Bt) : Int := if s then rch a else a.rope
theorem powD_sq {x : Int} (h : x.natAbs < 2 ^ 64) : powD (.int x) (.int 2) = some (.int (x * x)) := by
  show guard' (powOk x 2) (D.int (x ^ (2 : Int).toNat)) = _
  have : powOk x 2 = true := by
    unfold powOk
    simp [h]
  rw [this, show x ^ (2 : Int).toNat = x * x by show x ^ 2 = x * x; grind]
  rfl
def sg (x : Int) : Int := (if 0 < x then 1 else 0) - (if x < 0 then 1 else 0)
theorem sg_mul (x y : Int) : (sg x * sg y < 0) ↔ x * y < 0 := by
  have key : ∀ z : Int, (0 < z ∧ sg z = 1) ∨ (z < 0 ∧ sg z = -1) ∨ (z = 0 ∧ sg z = 0) := fun z => by
    unfold sg
    by_cases h : 0 < z
    · exact .inl ⟨h, by rw [if_pos h, if_neg (by omega)]; rfl⟩
    · by_cases g : z < 0
      · exact .inr (.inl ⟨g, by rw [if_neg h, if_pos g]; rfl⟩)
      · exact .inr (.inr ⟨by omega, by rw [if_neg h, if_neg g]; rfl⟩)
  rcases key x with ⟨hx, ex⟩ | ⟨hx, ex⟩ | ⟨hx, ex⟩ <;> rcases key y with ⟨hy, ey⟩ | ⟨hy, ey⟩ | ⟨hy, ey⟩ <;> rw [ex, ey]
  · have := Int.mul_pos hx hy
    omega
  · have := Int.mul_neg_of_pos_of_neg hx hy
    omega
  · rw [hy, Int.mul_zero]; simp
  · have := Int.mul_neg_of_neg_of_pos hx hy
    omega
  · have := Int.mul_pos_of_neg_of_neg hx hy
    omega
  · rw [hy, Int.mul_zero]; simp
  · rw [hx, Int.zero_mul]; simp
  · rw [hx, Int.zero_mul]; simp
  · rw [hx, Int.zero_mul]; simp
end K07
namespace K07
open PySem PySem.Spec PyProof.Rows L2 Pyi
/-! ### drawn harbours -/
theorem place_run (k : Nat) (S : Store) (i : Nat) (high : Int) (hu : Well S i) (h0 : 0 ≤ high) (h9 : high ≤ 199) : ∃ (x y : Int) (S' : Store), call P (k + 2) "_law_place" [.ref i, .d (.int high)] S = .ok (.d (.tup [.int x, .int y])) S' ∧ 0 ≤ x ∧ x ≤ high ∧ 0 ≤ y ∧ y ≤ high ∧ Drw S S' i := by
  obtain ⟨x, S1, e1, x0, x1, u1⟩ := draw_run k S i (high + 1) hu (by omega) (by omega)
  obtain ⟨y, S2, e2, y0, y1, u2⟩ := draw_run k S1 i (high + 1) u1.u (by omega) (by omega)
  have u := u1.trans u2
  refine ⟨x, y, S2, ?_, x0, by omega, y0, by omega, u⟩
  rw [run__law_place]
  simp [runDf, d__law_place, e1, e2, fit]
  rw [← u.l, List.take_length]
theorem in_places (x y : Int) (bs : List By) : inD (.tup [.int x, .int y]) (.lst (bs.map By.at)) = some (bs.any fun b => decide (b.x = x ∧ b.y = y)) := by
  show inDs _ _ = _
  unfold inDs
  have : decide (min (depths (bs.map By.at)) (D.tup [.int x, .int y]).depth ≤ 64) = true := by
    refine decide_eq_true (Nat.le_trans (Nat.min_le_right _ _) ?_)
    simp
  rw [this]
  show some _ = some _
  congr 1
  rw [List.any_map]
  congr 1
  funext b
  show (b.at).eqv _ = _
  rw [eqv_tup]
  by_cases h : b.x = x <;> by_cases g : b.y = y <;> simp [h, g]
structure HL (S S' : Store) (i n : Nat) : Prop where
  u : Well S' i
  l : S'.length = S.length
  o : ∀ j, j ≠ i → j ≠ n → j ≠ n + 1 → S'[j]? = S[j]?
theorem harb_loop (k : Nat) (i n : Nat) (hin : i ≠ n) (hin1 : i ≠ n + 1) (x1 x2 x6 : Option W) (high : Int) (h0 : 0 ≤ high) (h9 : high ≤ 199) (x9 x10 x11 : Option W) : ∀ (ss : List Str) (bs : List By) (S : Store) (x7 x8 : Option W), Well S i → S[n]? = some (.lst (bs.map By.at)) → S[n + 1]? = some (.lst (bs.map By.d)) → (∀ s ∈ ss, NmOk s) → bs.length + ss.length ≤ 1000 → (bs.Pairwise fun a b => ¬ (a.x = b.x ∧ a.y = b.y)) →
    ∃ (bs' : List By) (y7 y8 : Option W) (S' : Store), forLoop (forTurn (Tg.nm 7).bind (execS (calAt P (k + 2)) b0__law_harbour)) (ss.map .str) [some (.ref i), x1, x2, some (.d (.int high)), some (.ref n), some (.ref (n + 1)), x6, x7, x8, x9, x10, x11] S = .nx [some (.ref i), x1, x2, some (.d (.int high)), some (.ref n), some (.ref (n + 1)), x6, y7, y8, x9, x10, x11] S' ∧
      HL S S' i n ∧ S'[n]? = some (.lst ((bs ++ bs').map By.at)) ∧ S'[n + 1]? = some (.lst ((bs ++ bs').map By.d)) ∧ (bs'.map By.nm).Sublist ss ∧ (∀ b ∈ bs', b.Ok ∧ b.x ≤ high ∧ b.y ≤ high) ∧ ((bs ++ bs').Pairwise fun a b => ¬ (a.x = b.x ∧ a.y = b.y)) ∧ (bs = [] → ss ≠ [] → bs' ≠ [])
  | [], bs, S, x7, x8, hu, hS, hS1, _, _, hp => ⟨[], x7, x8, S, rfl, ⟨hu, rfl, fun _ _ _ _ => rfl⟩, by rw [List.append_nil]; exact hS, by rw [List.append_nil]; exact hS1, List.Sublist.refl _, fun _ h => (by cases h), by rw [List.append_nil]; exact hp, fun _ h => absurd rfl h⟩
  | s :: ss, bs, S, x7, x8, hu, hS, hS1, hs, hl, hp => by
    rw [List.length_cons] at hl
    obtain ⟨x, y, S1, e1, a0, a1, b0, b1, u1⟩ := place_run k S i high hu h0 h9
    have g0 : S1[n]? = some (.lst (bs.map By.at)) := (u1.o n (Ne.symm hin)).trans hS
    have g1 : S1[n + 1]? = some (.lst (bs.map By.d)) := (u1.o _ (Ne.symm hin1)).trans hS1
    have l0 : n < S1.length := (List.getElem?_eq_some_iff.mp g0).1
    have l1 : n + 1 < S1.length := (List.getElem?_eq_some_iff.mp g1).1
    have ein := in_places x y bs
    by_cases hc : (bs.any fun b => decide (b.x = x ∧ b.y = y)) = true
    · obtain ⟨bs', y7, y8, S', e, hL, q0, q1, q2, q3, q4, q5⟩ := harb_loop k i n hin hin1 x1 x2 x6 high h0 h9 x9 x10 x11 ss bs S1 (some (.d (.str s))) (some (.d (.tup [.int x, .int y]))) u1.u g0 g1 (fun t ht => hs t (List.mem_cons_of_mem _ ht)) (by omega) hp
      refine ⟨bs', y7, y8, S', ?_, ⟨hL.u, by rw [hL.l, u1.l], fun j a b c => by rw [hL.o j a b c, u1.o j a]⟩, q0, q1, q2.cons _, q3, q4, fun z _ => ?_⟩
      · rw [List.map_cons]
        unfold forLoop
        rw [hc] at ein
        rw [show forTurn (Tg.nm 7).bind (execS (calAt P (k + 2)) b0__law_harbour) (.str s) [some (.ref i), x1, x2, some (.d (.int high)), some (.ref n), some (.ref (n + 1)), x6, x7, x8, x9, x10, x11] S = .nx [some (.ref i), x1, x2, some (.d (.int high)), some (.ref n), some (.ref (n + 1)), x6, some (.d (.str s)), some (.d (.tup [.int x, .int y])), x9, x10, x11] S1 by
          simp [b0__law_harbour, e1, g0, ein]]
        exact e
      · subst z
        cases hc
    · rw [Bool.not_eq_true] at hc
      have hnew : ∀ b ∈ bs, ¬ (b.x = x ∧ b.y = y) := fun b hb => by
        have := List.any_eq_false.mp hc b hb
        simpa using this
      have bok : (⟨s, x, y⟩ : By).Ok := ⟨hs s List.mem_cons_self, a0, by show x ≤ 199; omega, b0, by show y ≤ 199; omega⟩
      have hp' : (bs ++ [(⟨s, x, y⟩ : By)]).Pairwise fun a b => ¬ (a.x = b.x ∧ a.y = b.y) := List.pairwise_append.mpr ⟨hp, List.pairwise_singleton _ _, fun a ha b hb => by
        cases List.mem_singleton.mp hb
        exact hnew a ha⟩
      have hw : Well ((S1.set n (.lst ((bs ++ [(⟨s, x, y⟩ : By)]).map By.at))).set (n + 1) (.lst ((bs ++ [(⟨s, x, y⟩ : By)]).map By.d))) i := by
        obtain ⟨a, b, d, h⟩ := u1.u
        exact ⟨a, b, d, by rw [List.getElem?_set_ne (Ne.symm hin1), List.getElem?_set_ne (Ne.symm hin)]; exact h⟩
      obtain ⟨bs', y7, y8, S', e, hL, q0, q1, q2, q3, q4, q5⟩ := harb_loop k i n hin hin1 x1 x2 x6 high h0 h9 x9 x10 x11 ss (bs ++ [⟨s, x, y⟩]) ((S1.set n (.lst ((bs ++ [(⟨s, x, y⟩ : By)]).map By.at))).set (n + 1) (.lst ((bs ++ [(⟨s, x, y⟩ : By)]).map By.d))) (some (.d (.str s))) (some (.d (.tup [.int x, .int y]))) hw
        (by rw [List.getElem?_set_ne (by omega), List.getElem?_set_self l0]) (List.getElem?_set_self (by rw [List.length_set]; exact l1)) (fun t ht => hs t (List.mem_cons_of_mem _ ht)) (by rw [List.length_append, List.length_singleton]; omega) hp'
      rw [List.append_assoc] at q0 q1 q4
      refine ⟨⟨s, x, y⟩ :: bs', y7, y8, S', ?_, ⟨hL.u, by rw [hL.l, List.length_set, List.length_set, u1.l], fun j a b c => by rw [hL.o j a b c, List.getElem?_set_ne (Ne.symm c), List.getElem?_set_ne (Ne.symm b), u1.o j a]⟩, q0, q1, q2.cons_cons _, fun b hb => ?_, q4, fun _ _ z => (by cases z)⟩
      · rw [List.map_cons]
        unfold forLoop
        rw [hc] at ein
        have f1 : bs.length < 16777216 := by omega
        have g1' : (S1.set n (.lst (bs.map By.at ++ [D.tup [.int x, .int y]])))[n + 1]? = some (.lst (bs.map By.d)) := by
          rw [List.getElem?_set_ne (by omega)]
          exact g1
        rw [show forTurn (Tg.nm 7).bind (execS (calAt P (k + 2)) b0__law_harbour) (.str s) [some (.ref i), x1, x2, some (.d (.int high)), some (.ref n), some (.ref (n + 1)), x6, x7, x8, x9, x10, x11] S = .nx [some (.ref i), x1, x2, some (.d (.int high)), some (.ref n), some (.ref (n + 1)), x6, some (.d (.str s)), some (.d (.tup [.int x, .int y])), x9, x10, x11] ((S1.set n (.lst ((bs ++ [(⟨s, x, y⟩ : By)]).map By.at))).set (n + 1) (.lst ((bs ++ [(⟨s, x, y⟩ : By)]).map By.d))) by
          rw [List.map_append, List.map_append]
          simp [b0__law_harbour, e1, g0, g1', ein, f1, show fit 1 = true from rfl, show fit 3 = true from rfl]]
        exact e
      · rcases List.mem_cons.mp hb with rfl | hb
        · exact ⟨bok, a1, b1⟩
        · exact q3 b hb
theorem harbour0_run (k : Nat) (S : Store) (i : Nat) (most high : Int) (hu : Well S i) (m1 : 1 ≤ most) (m8 : most ≤ 8) (h0 : 0 ≤ high) (h9 : high ≤ 199) :
    ∃ (h : Hb) (S' : Store), call P (k + 4) "_law_harbour" [.ref i, .d (.int most), .d (.int 0), .d (.int high)] S = .ok (.d h.d) S' ∧ h.Ok ∧ h.ws = [] ∧ Drw S S' i := by
  have hi := hu.lt
  have hu0 : Well (S ++ [.lst [], .lst [], .lst []]) i := by
    obtain ⟨a, b, c, h⟩ := hu
    exact ⟨a, b, c, by rw [List.getElem?_append_left hi]; exact h⟩
  obtain ⟨r, S1, e1, a0, a1, u1⟩ := draw_run (k + 2) (S ++ [.lst [], .lst [], .lst []]) i most hu0 (by omega) (by omega)
  obtain ⟨r', S2, e2, b0, b1, u2⟩ := draw_run (k + 2) S1 i most u1.u (by omega) (by omega)
  obtain ⟨m, hm, hm1⟩ : ∃ m : Nat, (1 + if r' > r then r' else r) = (m : Int) ∧ 1 ≤ m ∧ (m : Int) ≤ most := ⟨(1 + if r' > r then r' else r).toNat, by split <;> omega, by split <;> omega, by split <;> omega⟩
  obtain ⟨nms, S3, e3, hl, ok, asc, u3⟩ := names_run k S2 i m u2.u (by omega)
  have u := (u1.trans u2).trans u3
  have g0 : S3[S.length]? = some (.lst (([] : List By).map By.at)) := by
    rw [u.o _ (by omega)]
    simp
  have g1 : S3[S.length + 1]? = some (.lst (([] : List By).map By.d)) := by
    rw [u.o _ (by omega)]
    simp
  have g2 : S3[S.length + 2]? = some (.lst []) := by
    rw [u.o _ (by omega)]
    simp
  obtain ⟨bs, y7, y8, S4, e, hL, q0, q1, q2, q3, q4, q5⟩ := harb_loop (k + 1) i S.length (by omega) (by omega) (some (.d (.int most))) (some (.d (.int 0))) (some (.ref (S.length + 2))) high h0 h9 none none none nms [] S3 none none u3.u g0 g1 (fun s hs => (ok s hs).toNmOk) (by show 0 + _ ≤ _; omega) .nil
  rw [List.nil_append] at q0 q1 q4
  obtain ⟨t, S5, e5, t0, t1, u5⟩ := draw_run (k + 2) S4 i 1 hL.u (by decide) (by decide)
  have ht : t = 0 := by omega
  subst ht
  have er := rng1 S5 (n := 0) (by decide)
  obtain ⟨c, S6, e6, hc, u6⟩ := of_tup (k + 1) S5 i [.int 4, .int 99] u5.u (by simp) (by simp)
  obtain ⟨lim, rfl, lim1, lim9⟩ : ∃ lim : Int, c = .int lim ∧ 1 ≤ lim ∧ lim ≤ 99 := by
    simp at hc
    rcases hc with rfl | rfl
    · exact ⟨4, rfl, by decide, by decide⟩
    · exact ⟨99, rfl, by decide, by decide⟩
  obtain ⟨rm, S7, e7, w0, w1, u7⟩ := draw_run (k + 2) S6 i lim u6.u (by omega) (by omega)
  have uu := (u5.trans u6).trans u7
  have q1' : S7[S.length + 1]? = some (.lst (bs.map By.d)) := by
    rw [uu.o _ (by omega)]
    exact q1
  have g2' : S7[S.length + 2]? = some (.lst []) := by
    rw [uu.o _ (by omega), hL.o _ (by omega) (by omega) (by omega)]
    exact g2
  have hbl : bs.length ≤ m := by
    have := q2.length_le
    rw [List.length_map] at this
    omega
  have hBy : Buoys bs := by
    refine ⟨q5 rfl fun z => ?_, by omega, fun b hb => (q3 b hb).1, ?_, q4⟩
    · rw [z] at hl
      simp at hl
      omega
    · exact List.pairwise_map.mp (asc.sublist q2)
  have l4 : S4.length = S.length + 3 := by
    rw [hL.l, u.l, List.length_append]
    rfl
  refine ⟨⟨1 + rm, bs, []⟩, S7.take S.length, ?_, ⟨by show 1 ≤ 1 + rm; omega, by show 1 + rm ≤ 99; omega, hBy, walls_nil⟩, rfl, ?_, ?_, fun j hj => ?_⟩
  · have ess : ssW S7 (.ref (S.length + 2)) = some (.d (.lst [])) := by
      unfold ssW
      simp [g2', allTI, ssOk, ssLen, ssL, dedupL]
    rw [run__law_harbour]
    simp [-forTurn_eq, runDf, d__law_harbour, fit, e1, e2]
    rw [show (1 + if r' > r then r' else r) = (m : Int) from hm] at *
    simp [-forTurn_eq, e3, e, e5, er, e6, e7, q1', ess, range0, forLoop]
  · obtain ⟨a, b, c, hh⟩ := u7.u
    exact ⟨a, b, c, by rw [List.getElem?_take_of_lt hi]; exact hh⟩
  · rw [List.length_take, uu.l, l4]
    omega
  · by_cases hj2 : j < S.length
    · rw [List.getElem?_take_of_lt hj2, uu.o j hj, hL.o j hj (by omega) (by omega), u.o j hj, List.getElem?_append_left hj2]
    · rw [List.getElem?_eq_none (by rw [List.length_take]; omega), List.getElem?_eq_none (by omega)]
end K07
namespace K07
open PySem PySem.Spec PyProof.Rows L2 Pyi
/-! ### drawn harbours with walls -/
theorem ltL_2' (a b c d : Int) : (D.tup [.int a, .int b]).lt (.tup [.int c, .int d]) = decide (a < c ∨ a = c ∧ b < d) := by rw [lt_tup, ltL_2]
theorem best2 (a b c d : Int) : bestOk [.tup [.int a, .int b], .tup [.int c, .int d]] = true := by
  unfold bestOk
  simp
theorem min2_pair (x y u v : Int) : min2D (.tup [.int x, .int y]) (.tup [.int u, .int v]) = some (if u < x ∨ u = x ∧ v < y then .tup [.int u, .int v] else .tup [.int x, .int y]) := by
  show (if bestOk [D.tup [.int x, .int y], .tup [.int u, .int v]] = true then minDs [D.tup [.int x, .int y], .tup [.int u, .int v]] else none) = _
  rw [if_pos (best2 _ _ _ _)]
  show some (if (D.tup [.int u, .int v]).lt (.tup [.int x, .int y]) = true then _ else _) = _
  rw [ltL_2']
  by_cases h : u < x ∨ u = x ∧ v < y <;> simp [h]
theorem max2_pair (x y u v : Int) : max2D (.tup [.int x, .int y]) (.tup [.int u, .int v]) = some (if x < u ∨ x = u ∧ y < v then .tup [.int u, .int v] else .tup [.int x, .int y]) := by
  show (if bestOk [D.tup [.int x, .int y], .tup [.int u, .int v]] = true then maxDs [D.tup [.int x, .int y], .tup [.int u, .int v]] else none) = _
  rw [if_pos (best2 _ _ _ _)]
  show some (if (D.tup [.int x, .int y]).lt (.tup [.int u, .int v]) = true then _ else _) = _
  rw [ltL_2']
  by_cases h : x < u ∨ x = u ∧ y < v <;> simp [h]
theorem wall_turn (k : Nat) (i n2 : Nat) (hin : i ≠ n2) (x1 x2 x4 x5 : Option W) (high : Int) (h0 : 0 ≤ high) (h9 : high ≤ 199) (x7 x8 x9 x10 x11 : Option W) (S : Store) (ws : List Wl) (hu : Well S i) (hS : S[n2]? = some (.lst (ws.map Wl.e))) (hl : ws.length ≤ 1000) :
    ∃ (w : Wl) (y10 y11 : Option W) (S' : Store), execS (calAt P (k + 2)) b1__law_harbour [some (.ref i), x1, x2, some (.d (.int high)), x4, x5, some (.ref n2), x7, x8, x9, x10, x11] S = .nx [some (.ref i), x1, x2, some (.d (.int high)), x4, x5, some (.ref n2), x7, x8, x9, y10, y11] S' ∧
      w.Ok ∧ Well S' i ∧ S'[n2]? = some (.lst ((ws ++ [w]).map Wl.e)) ∧ S'.length = S.length ∧ ∀ j, j ≠ i → j ≠ n2 → S'[j]? = S[j]? := by
  obtain ⟨x, y, S1, e1, a0, a1, b0, b1, u1⟩ := place_run k S i high hu h0 h9
  obtain ⟨u, v, S2, e2, c0, c1, d0, d1, u2⟩ := place_run k S1 i high u1.u h0 h9
  obtain ⟨r, S3, e3, r0, r1, u3⟩ := draw_run (k + 1) S2 i 5 u2.u (by decide) (by decide)
  have uu := (u1.trans u2).trans u3
  have hS3 : S3[n2]? = some (.lst (ws.map Wl.e)) := (uu.o n2 (Ne.symm hin)).trans hS
  have hn3 : n2 < S3.length := (List.getElem?_eq_some_iff.mp hS3).1
  have f1 : ws.length < 16777216 := by omega
  obtain ⟨p, q, hpq, p0, p9, q0, q9⟩ : ∃ p q : Int, (if r = 0 then (D.tup [.int x, .int y]) else .tup [.int u, .int v]) = .tup [.int p, .int q] ∧ 0 ≤ p ∧ p ≤ 199 ∧ 0 ≤ q ∧ q ≤ 199 := by
    by_cases c : r = 0
    · exact ⟨x, y, by rw [if_pos c], by omega, by omega, by omega, by omega⟩
    · exact ⟨u, v, by rw [if_neg c], by omega, by omega, by omega, by omega⟩
  have m1 := min2_pair x y p q
  have m2 := max2_pair x y p q
  have key : ∃ w : Wl, w.Ok ∧ (if p < x ∨ p = x ∧ q < y then D.tup [.int p, .int q] else .tup [.int x, .int y]) = .tup [.int w.a, .int w.b] ∧ (if x < p ∨ x = p ∧ y < q then D.tup [.int p, .int q] else .tup [.int x, .int y]) = .tup [.int w.c, .int w.d] := by
    by_cases c : p < x ∨ p = x ∧ q < y
    · refine ⟨⟨p, q, x, y⟩, ⟨p0, p9, q0, q9, a0, by show x ≤ 199; omega, b0, by show y ≤ 199; omega, by show ¬ (x < p ∨ x = p ∧ y < q); omega⟩, by rw [if_pos c], by rw [if_neg (by omega)]⟩
    · by_cases c2 : x < p ∨ x = p ∧ y < q
      · exact ⟨⟨x, y, p, q⟩, ⟨a0, by show x ≤ 199; omega, b0, by show y ≤ 199; omega, p0, p9, q0, q9, c⟩, by rw [if_neg c], by rw [if_pos c2]⟩
      · exact ⟨⟨x, y, x, y⟩, ⟨a0, by show x ≤ 199; omega, b0, by show y ≤ 199; omega, a0, by show x ≤ 199; omega, b0, by show y ≤ 199; omega, by show ¬ (x < x ∨ x = x ∧ y < y); omega⟩, by rw [if_neg c], by rw [if_neg c2]⟩
  obtain ⟨w, wok, k1, k2⟩ := key
  rw [k1] at m1
  rw [k2] at m2
  refine ⟨w, some (.d (.tup [.int x, .int y])), some (.d (.tup [.int p, .int q])), S3.set n2 (.lst ((ws ++ [w]).map Wl.e)), ?_, wok, ?_, List.getElem?_set_self hn3, by rw [List.length_set, uu.l], fun j a b => by rw [List.getElem?_set_ne (Ne.symm b), uu.o j a]⟩
  · rw [List.map_append]
    by_cases c : r = 0
    · rw [if_pos c] at hpq
      cases hpq
      simp [-min2D, -max2D, b1__law_harbour, e1, e2, e3, c, m1, m2, hS3, f1, fit]
    · rw [if_neg c] at hpq
      cases hpq
      have cb : (r == 0) = false := by simpa using c
      simp [-min2D, -max2D, -beq_iff_eq, b1__law_harbour, e1, e2, e3, cb, m1, m2, hS3, f1, fit]
  · obtain ⟨a, b, d, h⟩ := uu.u
    exact ⟨a, b, d, (List.getElem?_set_ne (Ne.symm hin)).trans h⟩
theorem wall_loop (k : Nat) (i n2 : Nat) (hin : i ≠ n2) (x1 x2 x4 x5 : Option W) (high : Int) (h0 : 0 ≤ high) (h9 : high ≤ 199) (x7 x8 : Option W) : ∀ (ds : List D) (S : Store) (ws : List Wl) (x9 x10 x11 : Option W), Well S i → S[n2]? = some (.lst (ws.map Wl.e)) → ws.length + ds.length ≤ 1000 →
    ∃ (ws' : List Wl) (y9 y10 y11 : Option W) (S' : Store), forLoop (forTurn (Tg.nm 9).bind (execS (calAt P (k + 2)) b1__law_harbour)) ds [some (.ref i), x1, x2, some (.d (.int high)), x4, x5, some (.ref n2), x7, x8, x9, x10, x11] S = .nx [some (.ref i), x1, x2, some (.d (.int high)), x4, x5, some (.ref n2), x7, x8, y9, y10, y11] S' ∧
      (∀ w ∈ ws', w.Ok) ∧ ws'.length = ds.length ∧ Well S' i ∧ S'[n2]? = some (.lst ((ws ++ ws').map Wl.e)) ∧ S'.length = S.length ∧ ∀ j, j ≠ i → j ≠ n2 → S'[j]? = S[j]?
  | [], S, ws, x9, x10, x11, hu, hS, _ => ⟨[], x9, x10, x11, S, rfl, fun _ h => (by cases h), rfl, hu, by rw [List.append_nil]; exact hS, rfl, fun _ _ _ => rfl⟩
  | d :: ds, S, ws, x9, x10, x11, hu, hS, hl => by
    rw [List.length_cons] at hl
    obtain ⟨w, y10, y11, S1, e1, wok, u1, g1, l1, o1⟩ := wall_turn k i n2 hin x1 x2 x4 x5 high h0 h9 x7 x8 (some (.d d)) x10 x11 S ws hu hS (by omega)
    obtain ⟨ws', z9, z10, z11, S2, e2, ok2, hl2, u2, g2, l2, o2⟩ := wall_loop k i n2 hin x1 x2 x4 x5 high h0 h9 x7 x8 ds S1 (ws ++ [w]) (some (.d d)) y10 y11 u1 g1 (by rw [List.length_append, List.length_singleton]; omega)
    rw [List.append_assoc] at g2
    refine ⟨w :: ws', z9, z10, z11, S2, ?_, fun v hv => ?_, by rw [List.length_cons, hl2, List.length_cons], u2, g2, by omega, fun j a b => (o2 j a b).trans (o1 j a b)⟩
    · unfold forLoop
      rw [show forTurn (Tg.nm 9).bind (execS (calAt P (k + 2)) b1__law_harbour) d [some (.ref i), x1, x2, some (.d (.int high)), x4, x5, some (.ref n2), x7, x8, x9, x10, x11] S = execS (calAt P (k + 2)) b1__law_harbour [some (.ref i), x1, x2, some (.d (.int high)), x4, x5, some (.ref n2), x7, x8, some (.d d), x10, x11] S from rfl, e1]
      exact e2
    · rcases List.mem_cons.mp hv with rfl | hv
      · exact wok
      · exact ok2 v hv
theorem dedup_len : ∀ xs : List (List Int), (dedupL xs).length ≤ xs.length
  | [] => Nat.le_refl _
  | x :: r => by
    have i := dedup_len r
    unfold dedupL
    split
    · rw [List.length_cons]; omega
    · rw [List.length_cons, List.length_cons]; omega
/-- the rows, sorted, each once -/
def encW (w : Wl) : List Int := [w.a, w.b, w.c, w.d]
theorem rows_sorted {ws : List Wl} (h : ∀ w ∈ ws, w.Ok) (hl : ws.length ≤ 8) {S : Store} {n2 : Nat} (hS : S[n2]? = some (.lst (ws.map Wl.e))) : ∃ vs : List Wl, ssW S (.ref n2) = some (.d (.lst (vs.map Wl.e))) ∧ Walls vs := by
  have a1 : allTI (ws.map Wl.e) = some (ws.map encW) := by
    clear h hl hS
    induction ws with
    | nil => rfl
    | cons w ws ih =>
      rw [List.map_cons]
      unfold allTI
      rw [ih]
      rfl
  have a2 : ssOk (ws.map encW) = true := by
    unfold ssOk
    have hlen : ∀ w : Wl, (encW w).length = 4 := fun _ => rfl
    cases ws with
    | nil => rfl
    | cons w0 ws0 =>
      have hs : ssLen ((w0 :: ws0).map encW) = 4 := rfl
      rw [hs]
      rw [Bool.and_eq_true, Bool.and_eq_true, List.all_eq_true]
      refine ⟨⟨decide_eq_true (by rw [List.length_map]; omega), by decide⟩, fun y hy => ?_⟩
      obtain ⟨w, hw, rfl⟩ := List.mem_map.mp hy
      have o := h w hw
      have o1 := o.a0; have o2 := o.a9; have o3 := o.b0; have o4 := o.b9; have o5 := o.c0; have o6 := o.c9; have o7 := o.d0; have o8 := o.d9
      rw [Bool.and_eq_true, List.all_eq_true]
      refine ⟨decide_eq_true rfl, fun i hi => ?_⟩
      have : 0 ≤ i ∧ i < 1000 := by
        unfold encW at hi
        simp at hi
        rcases hi with rfl | rfl | rfl | rfl <;> omega
      rw [decide_eq_true this.1, decide_eq_true this.2]
      rfl
  have ex : ∃ vs : List Wl, ssL (ws.map encW) = vs.map encW ∧ ∀ v ∈ vs, v ∈ ws := by
    have hm : ∀ x ∈ ssL (ws.map encW), ∃ w ∈ ws, encW w = x := fun x hx => by
      obtain ⟨w, hw, e⟩ := List.mem_map.mp (ssL_mem.mp hx)
      exact ⟨w, hw, e⟩
    generalize ssL (ws.map encW) = L at hm
    clear a1 a2 h hl hS
    induction L with
    | nil => exact ⟨[], rfl, fun v hv => by cases hv⟩
    | cons x L ih =>
      obtain ⟨w, hw, rfl⟩ := hm x List.mem_cons_self
      obtain ⟨vs, e, hv⟩ := ih fun y hy => hm y (List.mem_cons_of_mem _ hy)
      refine ⟨w :: vs, by rw [e]; rfl, fun v hv' => ?_⟩
      rcases List.mem_cons.mp hv' with rfl | hv'
      · exact hw
      · exact hv v hv'
  obtain ⟨vs, ev, hv⟩ := ex
  have nd := ssL_nodup (ws.map encW)
  have so := ssL_sorted (ws.map encW)
  rw [ev] at nd so
  have inj : ∀ v w : Wl, encW v = encW w → v = w := fun v w e => by
    unfold encW at e
    obtain ⟨a, b, c, d⟩ := v
    obtain ⟨a', b', c', d'⟩ := w
    simp at e
    obtain ⟨rfl, rfl, rfl, rfl⟩ := e
    rfl
  have hcode : ∀ w : Wl, codeL (encW w) = w.a * 1000000000 + w.b * 1000000 + w.c * 1000 + w.d := fun w => by
    show w.a * 1000 ^ 3 + (w.b * 1000 ^ 2 + (w.c * 1000 ^ 1 + (w.d * 1000 ^ 0 + 0))) = _
    omega
  have hlen : vs.length ≤ ws.length := by
    have e1 := congrArg List.length ev
    rw [List.length_map] at e1
    have e2 : (ssL (ws.map encW)).length = (dedupL (ws.map encW)).length := List.length_mergeSort _
    have e3 := dedup_len (ws.map encW)
    rw [List.length_map] at e3
    omega
  refine ⟨vs, ?_, ⟨by omega, fun v hv' => h v (hv v hv'), ?_⟩⟩
  · unfold ssW
    have hlst : lstOf S (.ref n2) = some (ws.map Wl.e) := by simp [hS]
    rw [hlst]
    dsimp only
    rw [a1]
    dsimp only
    rw [if_pos a2, ev, List.map_map]
    rfl
  · have p1 := List.pairwise_map.mp so
    have p2 := List.pairwise_map.mp nd
    refine (p1.and p2).imp_of_mem fun {v w} hv1 hw1 ⟨h1, h2⟩ => ?_
    rw [hcode, hcode] at h1
    have o := h v (hv v hv1)
    have o' := h w (hv w hw1)
    have o1 := o.a0; have o2 := o.a9; have o3 := o.b0; have o4 := o.b9; have o5 := o.c0; have o6 := o.c9; have o7 := o.d0; have o8 := o.d9
    have q1 := o'.a0; have q2 := o'.a9; have q3 := o'.b0; have q4 := o'.b9; have q5 := o'.c0; have q6 := o'.c9; have q7 := o'.d0; have q8 := o'.d9
    have hne : ¬ (v.a = w.a ∧ v.b = w.b ∧ v.c = w.c ∧ v.d = w.d) := fun ⟨e1, e2, e3, e4⟩ => h2 (by unfold encW; rw [e1, e2, e3, e4])
    unfold ltW
    omega
theorem harbour_run (k : Nat) (S : Store) (i : Nat) (most walls high : Int) (hu : Well S i) (m1 : 1 ≤ most) (m8 : most ≤ 8) (w0 : 0 ≤ walls) (w8 : walls ≤ 8) (h0 : 0 ≤ high) (h9 : high ≤ 199) :
    ∃ (h : Hb) (S' : Store), call P (k + 4) "_law_harbour" [.ref i, .d (.int most), .d (.int walls), .d (.int high)] S = .ok (.d h.d) S' ∧ h.Ok ∧ Drw S S' i := by
  have hi := hu.lt
  have hu0 : Well (S ++ [.lst [], .lst [], .lst []]) i := by
    obtain ⟨a, b, c, h⟩ := hu
    exact ⟨a, b, c, by rw [List.getElem?_append_left hi]; exact h⟩
  obtain ⟨r, S1, e1, a0, a1, u1⟩ := draw_run (k + 2) (S ++ [.lst [], .lst [], .lst []]) i most hu0 (by omega) (by omega)
  obtain ⟨r', S2, e2, b0, b1, u2⟩ := draw_run (k + 2) S1 i most u1.u (by omega) (by omega)
  obtain ⟨m, hm, hm1⟩ : ∃ m : Nat, (1 + if r' > r then r' else r) = (m : Int) ∧ 1 ≤ m ∧ (m : Int) ≤ most := ⟨(1 + if r' > r then r' else r).toNat, by split <;> omega, by split <;> omega, by split <;> omega⟩
  obtain ⟨nms, S3, e3, hl, ok, asc, u3⟩ := names_run k S2 i m u2.u (by omega)
  have u := (u1.trans u2).trans u3
  have g0 : S3[S.length]? = some (.lst (([] : List By).map By.at)) := by
    rw [u.o _ (by omega)]
    simp
  have g1 : S3[S.length + 1]? = some (.lst (([] : List By).map By.d)) := by
    rw [u.o _ (by omega)]
    simp
  have g2 : S3[S.length + 2]? = some (.lst []) := by
    rw [u.o _ (by omega)]
    simp
  obtain ⟨bs, y7, y8, S4, e, hL, q0, q1, q2, q3, q4, q5⟩ := harb_loop (k + 1) i S.length (by omega) (by omega) (some (.d (.int most))) (some (.d (.int walls))) (some (.ref (S.length + 2))) high h0 h9 none none none nms [] S3 none none u3.u g0 g1 (fun s hs => (ok s hs).toNmOk) (by show 0 + _ ≤ _; omega) .nil
  rw [List.nil_append] at q0 q1 q4
  have g2' : S4[S.length + 2]? = some (.lst (([] : List Wl).map Wl.e)) := by
    rw [hL.o _ (by omega) (by omega) (by omega)]
    exact g2
  obtain ⟨t, S5, e5, t0, t1, u5⟩ := draw_run (k + 2) S4 i (walls + 1) hL.u (by omega) (by omega)
  have er := rng1 S5 (n := t) (by omega)
  have g2'' : S5[S.length + 2]? = some (.lst (([] : List Wl).map Wl.e)) := (u5.o _ (by omega)).trans g2'
  obtain ⟨ws, y9, y10, y11, S6, e6, wok, wl, u6, g6, l6, o6⟩ := wall_loop (k + 1) i (S.length + 2) (by omega) (some (.d (.int most))) (some (.d (.int walls))) (some (.ref S.length)) (some (.ref (S.length + 1))) high h0 h9 y7 y8 ((range0 t.toNat).map D.int) S5 [] none none none u5.u g2'' (by rw [List.length_map, len_range0]; show 0 + _ ≤ _; omega)
  rw [List.length_map, len_range0] at wl
  rw [List.nil_append] at g6
  obtain ⟨c, S7, e7, hc, u7⟩ := of_tup (k + 1) S6 i [.int 4, .int 99] u6 (by simp) (by simp)
  obtain ⟨lim, rfl, lim1, lim9⟩ : ∃ lim : Int, c = .int lim ∧ 1 ≤ lim ∧ lim ≤ 99 := by
    simp at hc
    rcases hc with rfl | rfl
    · exact ⟨4, rfl, by decide, by decide⟩
    · exact ⟨99, rfl, by decide, by decide⟩
  obtain ⟨rm, S8, e8, w0', w1', u8⟩ := draw_run (k + 2) S7 i lim u7.u (by omega) (by omega)
  have uu := u7.trans u8
  have q1' : S8[S.length + 1]? = some (.lst (bs.map By.d)) := by
    rw [uu.o _ (by omega), o6 _ (by omega) (by omega), u5.o _ (by omega)]
    exact q1
  have g6' : S8[S.length + 2]? = some (.lst (ws.map Wl.e)) := by
    rw [uu.o _ (by omega)]
    exact g6
  obtain ⟨vs, ess, hW⟩ := rows_sorted wok (by omega) g6'
  have hbl : bs.length ≤ m := by
    have := q2.length_le
    rw [List.length_map] at this
    omega
  have hBy : Buoys bs := by
    refine ⟨q5 rfl fun z => ?_, by omega, fun b hb => (q3 b hb).1, ?_, q4⟩
    · rw [z] at hl
      simp at hl
      omega
    · exact List.pairwise_map.mp (asc.sublist q2)
  have l4 : S4.length = S.length + 3 := by
    rw [hL.l, u.l, List.length_append]
    rfl
  refine ⟨⟨1 + rm, bs, vs⟩, S8.take S.length, ?_, ⟨by show 1 ≤ 1 + rm; omega, by show 1 + rm ≤ 99; omega, hBy, hW⟩, ?_, ?_, fun j hj => ?_⟩
  · rw [run__law_harbour]
    simp [-forTurn_eq, runDf, d__law_harbour, fit, e1, e2]
    rw [show (1 + if r' > r then r' else r) = (m : Int) from hm] at *
    simp [-forTurn_eq, e3, e, e5, er, e6, e7, e8, q1', ess]
  · obtain ⟨a, b, c, hh⟩ := u8.u
    exact ⟨a, b, c, by rw [List.getElem?_take_of_lt hi]; exact hh⟩
  · rw [List.length_take, uu.l, l6, u5.l, l4]
    omega
  · by_cases hj2 : j < S.length
    · rw [List.getElem?_take_of_lt hj2, uu.o j hj, o6 j hj (by omega), u5.o j hj, hL.o j hj (by omega) (by omega), u.o j hj, List.getElem?_append_left hj2]
    · rw [List.getElem?_eq_none (by rw [List.length_take]; omega), List.getElem?_eq_none (by omega)]
end K07
namespace K07
open PySem PySem.Spec PyProof.Rows L2 Pyi
theorem of_lst (k : Nat) (S : Store) (i : Nat) (ds : List D) (h : Well S i) (h0 : ds ≠ []) (h1 : ds.length < 1073741824) :
    ∃ d S', call P (k + 2) "_law_of" [.ref i, .d (.lst ds)] S = .ok (.d d) S' ∧ d ∈ ds ∧ Drw S S' i := by
  have hp : 0 < ds.length := List.length_pos_iff.mpr h0
  obtain ⟨r, S', e, r0, r1, hu⟩ := draw_run k S i (ds.length : Int) h (by omega) (by omega)
  have hr : r.toNat < ds.length := by omega
  refine ⟨ds[r.toNat], S', ?_, List.getElem_mem hr, hu⟩
  rw [run__law_of]
  have e2 : atI ds r = some ds[r.toNat] := by
    unfold atI ixN
    rw [if_pos r0, if_pos (by omega)]
    exact List.getElem?_eq_getElem hr
  simp [runDf, d__law_of, e, e2]
  rw [← hu.l, List.take_length]
theorem of_ints (k : Nat) (S : Store) (i : Nat) (xs : List Int) (h : Well S i) (h0 : xs ≠ []) (h1 : xs.length < 1073741824) :
    ∃ x S', call P (k + 2) "_law_of" [.ref i, .d (.tup (xs.map D.int))] S = .ok (.d (.int x)) S' ∧ x ∈ xs ∧ Drw S S' i := by
  obtain ⟨d, S', e, hd, u⟩ := of_tup k S i (xs.map D.int) h (by simpa using h0) (by rw [List.length_map]; exact h1)
  obtain ⟨x, hx, rfl⟩ := List.mem_map.mp hd
  exact ⟨x, S', e, hx, u⟩
abbrev oneD (a : Bt) (p : By) : D := .tup [.str a.nm, .str p.nm]
theorem oix0 (a : Bt) (p : By) : atI [D.str a.nm, .str p.nm] 0 = some (.str a.nm) := rfl
theorem oix1 (a : Bt) (p : By) : atI [D.str a.nm, .str p.nm] 1 = some (.str p.nm) := rfl
/-! ### one boat changed -/
def chg (bs : List Bt) (a' : Bt) : List Bt := bs.map fun c => if c.nm = a'.nm then a' else c
theorem chg_nm (bs : List Bt) (a' : Bt) : (chg bs a').map Bt.nm = bs.map Bt.nm := by
  unfold chg
  rw [List.map_map]
  refine List.map_congr_left fun c _ => ?_
  show (if c.nm = a'.nm then a' else c).nm = c.nm
  split
  · rename_i h; exact h.symm
  · rfl
theorem chg_ok {bs : List Bt} (hB : Boats bs) {a' : Bt} (ha : a'.Ok) : Boats (chg bs a') := by
  refine ⟨?_, ?_, fun b hb => ?_, ?_⟩
  · have := hB.ne
    unfold chg
    simpa using this
  · unfold chg
    rw [List.length_map]
    exact hB.l7
  · unfold chg at hb
    obtain ⟨c, hc, rfl⟩ := List.mem_map.mp hb
    split
    · exact ha
    · exact hB.ok c hc
  · have h := hB.asc
    have h2 : (bs.map Bt.nm).Pairwise ltN := List.pairwise_map.mpr h
    rw [← chg_nm bs a'] at h2
    exact List.pairwise_map.mp h2
theorem chg_mem {bs : List Bt} {a a' : Bt} (ha : a ∈ bs) (h : a'.nm = a.nm) : a' ∈ chg bs a' := List.mem_map.mpr ⟨a, ha, by rw [if_pos h.symm]⟩
theorem chg_other {bs : List Bt} {b a' : Bt} (hb : b ∈ bs) (h : a'.nm ≠ b.nm) : b ∈ chg bs a' := List.mem_map.mpr ⟨b, hb, by rw [if_neg (Ne.symm h)]⟩
theorem with_boat_run (k : Nat) (S : Store) {bs : List Bt} (hl : bs.length ≤ 1000) (a' : Bt) : call P (k + 1) "with_boat" [.d (.tup (bs.map Bt.d)), .d a'.d] S = .ok (.d (.tup ((chg bs a').map Bt.d))) S := by
  have e := lc_run (c := calAt P k) (own := [2]) (t := .nm 2) (i := .it .seq (.cons (.var 0) .nil)) (q := .yes) (e := .ite (.cmp .Eq (.ix (.var 2) (.cst (.int 0))) (.ix (.var 1) (.cst (.int 0)))) (.var 1) (.var 2)) (σ := [some (.d (.tup (bs.map Bt.d))), some (.d a'.d), none]) (S := S) (fun d => match d with
      | .tup (.str x :: r) => some (if x = a'.nm then a'.d else .tup (.str x :: r))
      | _ => none) (items := bs.map Bt.d) (by simp) (by rw [List.length_map]; omega) fun d hd => by
        obtain ⟨c, _, rfl⟩ := boats_d hd
        by_cases z : c.nm = a'.nm
        · simp [atI, ixN, z]
        · simp [atI, ixN, z]
  rw [filterMap_some (f := Bt.d) (r := fun c => (if c.nm = a'.nm then a' else c : Bt).d) (fun c => by
    show some (if c.nm = a'.nm then a'.d else c.d) = _
    split <;> rfl)] at e
  have e2 : evalE (calAt P k) c0_with_boat [some (.d (.tup (bs.map Bt.d))), some (.d a'.d), none] S = .ok (.d (.lst ((chg bs a').map Bt.d))) S := by
    unfold chg
    rw [List.map_map]
    exact e
  rw [run_with_boat]
  simp [runDf, d_with_boat, e2]
theorem check_one_ok (k : Nat) (S : Store) {bs : List Bt} (hB : Boats bs) {a : Bt} (ha : a ∈ bs) : call P (k + 9) "check_one" [.d (.tup (bs.map Bt.d)), .d (.str a.nm)] S = .ok (.d .non) S := by
  rw [run_check_one]
  simp [runDf, d_check_one, check_boats_ok k S hB, check_boat_ok (k + 6) S hB ha]
theorem with_rope_run (k : Nat) (S : Store) {bs : List Bt} (hB : Boats bs) {a : Bt} (ha : a ∈ bs) (r : Int) (h1 : 0 ≤ r) (h9 : r ≤ 99) : call P (k + 10) "with_rope" [.d (.tup (bs.map Bt.d)), .d (.str a.nm), .d (.int r)] S = .ok (.d (.tup ((chg bs ⟨a.nm, r, a.long⟩).map Bt.d))) S := by
  have e := with_boat_run (k + 8) S (bs := bs) (by have := hB.l7; omega) ⟨a.nm, r, a.long⟩
  rw [run_with_rope]
  simp [runDf, d_with_rope, gl_rope, check_one_ok k S hB ha, check_number_int, h1, h9, boat_of_run (k + 8) S hB ha, bix2, fit, e]
end K07
namespace K07
open PySem PySem.Spec PyProof.Rows L2 Pyi
theorem seq_nx {c : Cal} {s r : Stm} {σ σ1 : Sg} {S S1 : Store} (h : execS c s σ S = .nx σ1 S1) : execS c (.seq s r) σ S = execS c r σ1 S1 := by
  rw [execS, h]
  rfl
theorem lc_eff {c : Cal} {own : List Nat} {t : Tg} {i q e : Ex} {σ : Sg} {S S0 S' : Store} {items ds : List D} (hi : evalI c i σ S = .ok items S0) (hf : items.length ≤ 16777216) (h : lcLoop (lcTurn t.bind (evalE c q) (evalE c e) own σ) items S0 = .ok ds S') : evalE c (.lc false own t i q e) σ S = .ok (.d (.lst ds)) S' := by
  show ((evalI c i σ S).bind fun items S1 => _) = _
  rw [hi, Res.bind_ok, if_pos (by unfold fit; exact decide_eq_true hf), h]
  rfl
theorem is_same (k : Nat) (S : Store) {d : D} (h : reprOk d = true) : call P (k + 1) "_law_is" [.d d, .d d] S = .ok (.d (.bl true)) S := by
  rw [run__law_is]
  simp [runDf, d__law_is, h]
theorem is_same_ref (k : Nat) (S : Store) {p : Nat} {ds : List D} (hp : S[p]? = some (.lst ds)) (h : reprOk (.lst ds) = true) : call P (k + 1) "_law_is" [.ref p, .d (.lst ds)] S = .ok (.d (.bl true)) S := by
  rw [run__law_is]
  simp [runDf, d__law_is, h, hp]
theorem well_le {S S' : Store} {i : Nat} (h : Well S i) (o : ∀ j, j < S.length → S'[j]? = S[j]?) : Well S' i := by
  have hi := h.lt
  obtain ⟨a, b, c, h⟩ := h
  exact ⟨a, b, c, by rw [o i hi, h]⟩
theorem lowZ_one (x : Int) : lowZ x 1 = .tup [.int x, .int 1] := by
  unfold lowZ
  have : Int.gcd x 1 = 1 := Int.gcd_one_right _
  rw [this]
  simp
/-! ### points of boats -/
def ptD (p : By) (w : Wd) (len : Int) : D := .tup [lowZ (p.x * w.n + len * w.c) w.n, lowZ (p.y * w.n + len * w.s) w.n]
theorem Sc.self {w : Wd} (h : w.Ok) (n8 : w.n ≤ 7200) : Sc w w.n := by
  have n1 := h.n1
  refine ⟨n1, by omega, ?_⟩
  rw [Int.ediv_self (by omega)]
  exact Int.mul_one _
theorem ptA_self (p : By) {w : Wd} (h : w.Ok) (len : Int) : ptA p w len w.n = ⟨p.x * w.n + len * w.c, p.y * w.n + len * w.s⟩ := by
  have n1 := h.n1
  unfold ptA
  rw [Int.ediv_self (by omega), Int.mul_one, Int.mul_one]
theorem n400 {w : Wd} (h : w.Ok) (n8 : w.n ≤ 7200) : w.n.natAbs < 2 ^ 400 := Nat.lt_of_lt_of_le (show w.n.natAbs < 2 ^ 64 by have := h.n1; omega) big400
section
variable (k : Nat) (S : Store) {h : Hb} (hH : h.Ok) {p : By} (hp : p ∈ h.bs) {w : Wd} (hw : w.Ok) (n8 : w.n ≤ 7200)
include hH hp hw n8
theorem point_of_run (len : Int) (l9 : len.natAbs ≤ 1000) : call P (k + 3) "point_of" [.d h.d, .d (.str p.nm), .d w.d, .d (.int len)] S = .ok (.d (ptD p w len)) S := by
  have hpo := hH.bs.ok p hp
  have p1 := hpo.x0; have p2 := hpo.x9; have p3 := hpo.y0; have p4 := hpo.y9
  have e1 := spot_of_run k S hH hp
  have e2 := point_at_run (k + 1) S p hw len (by omega) (by omega) (by omega) (Sc.self hw n8)
  rw [ptA_self p hw len] at e2
  have n1 := hw.n1
  have e3 := lowest_run (k + 1) S (p.x * w.n + len * w.c) w.n (by omega) (n400 hw n8)
  have e4 := lowest_run (k + 1) S (p.y * w.n + len * w.s) w.n (by omega) (n400 hw n8)
  rw [run_point_of]
  unfold ptD
  generalize lowZ _ _ = R1 at e3 ⊢
  generalize lowZ _ _ = R2 at e4 ⊢
  generalize p.x * w.n + len * w.c = X at *
  generalize p.y * w.n + len * w.s = Y at *
  simp [runDf, d_point_of, e1, wix2, e2, e3, e4, fit]
theorem law_at_run (len : Int) (l9 : len.natAbs ≤ 1000) : call P (k + 3) "_law_at" [.d h.d, .d (.str p.nm), .d (.int len), .d w.d] S = .ok (.d (ptD p w len)) S := by
  have hpo := hH.bs.ok p hp
  have p1 := hpo.x0; have p2 := hpo.x9; have p3 := hpo.y0; have p4 := hpo.y9
  have e1 := law_spot_run (k + 1) S hH hp
  have n1 := hw.n1
  have c1 := hw.cb
  have s1 := hw.sb
  have bnd : ∀ x c : Int, 0 ≤ x → x ≤ 199 → -w.n ≤ c → c ≤ w.n → (x * w.n + len * c).natAbs < 2 ^ 400 := fun x c x0 x9 c0 c9 => by
    refine Nat.lt_of_lt_of_le ?_ big400
    have h1 : (x * w.n).natAbs ≤ 199 * 7200 := by
      rw [Int.natAbs_mul]
      exact Nat.mul_le_mul (by omega) (by omega)
    have h2 : (len * c).natAbs ≤ 1000 * 7200 := by
      rw [Int.natAbs_mul]
      exact Nat.mul_le_mul (by omega) (by omega)
    have := Int.natAbs_add_le (x * w.n) (len * c)
    omega
  have e3 := part_run k S (p.x * w.n + len * w.c) w.n (by omega) (bnd _ _ p1 p2 c1.1 c1.2) (n400 hw n8)
  have e4 := part_run k S (p.y * w.n + len * w.s) w.n (by omega) (bnd _ _ p3 p4 s1.1 s1.2) (n400 hw n8)
  have m1 : mulOk p.x w.n = true := mulOk_of (by omega)
  have m2 : mulOk p.y w.n = true := mulOk_of (by omega)
  have m3 : mulOk len w.c = true := mulOk_of (by omega)
  have m4 : mulOk len w.s = true := mulOk_of (by omega)
  rw [run__law_at]
  unfold ptD
  generalize lowZ _ _ = R1 at e3 ⊢
  generalize lowZ _ _ = R2 at e4 ⊢
  simp [runDf, d__law_at, e1, m1, m2, m3, m4, e3, e4, fit]
theorem check_lies_ok {bs : List Bt} (hB : Boats bs) {a : Bt} (ha : a ∈ bs) : call P (k + 13) "check_lies" [.d h.d, .d (.tup (bs.map Bt.d)), .d (.str a.nm), .d (.str p.nm), .d w.d] S = .ok (.d .non) S := by
  have e1 := check_lying_ok k S hH hB ha hp
  have e2 := check_wind_ok (k + 8) S hw
  rw [run_check_lies]
  simp [runDf, d_check_lies, e1, e2]
theorem bow_run {bs : List Bt} (hB : Boats bs) {a : Bt} (ha : a ∈ bs) : call P (k + 14) "bow" [.d h.d, .d (.tup (bs.map Bt.d)), .d (.str a.nm), .d (.str p.nm), .d w.d] S = .ok (.d (ptD p w a.rope)) S := by
  have ok := hB.ok a ha
  have e1 := check_lies_ok k S hH hp hw n8 hB ha
  have e2 := boat_of_run (k + 12) S hB ha
  have e3 := point_of_run (k + 10) S hH hp hw n8 a.rope (by have := ok.r0; have := ok.r9; omega)
  rw [run_bow]
  simp [runDf, d_bow, e1, e2, bix1, e3]
theorem stern_run {bs : List Bt} (hB : Boats bs) {a : Bt} (ha : a ∈ bs) : call P (k + 14) "stern" [.d h.d, .d (.tup (bs.map Bt.d)), .d (.str a.nm), .d (.str p.nm), .d w.d] S = .ok (.d (ptD p w (rch a))) S := by
  have ok := hB.ok a ha
  have e1 := check_lies_ok k S hH hp hw n8 hB ha
  have e2 := boat_of_run (k + 12) S hB ha
  have er : rch a = a.rope + a.long := rfl
  have e3 := point_of_run (k + 10) S hH hp hw n8 (rch a) (by have := ok.r0; have := ok.r9; have := ok.l1; have := ok.l9; omega)
  have e4 := reach_of_run (k + 12) S a
  rw [run_stern]
  simp [runDf, d_stern, e1, e2, e4, e3]
omit hH hp
def bkW (w : Wd) : Wd := ⟨0 - w.c, 0 - w.s, w.n⟩
theorem bkW_ok : (bkW w).Ok := by
  refine ⟨hw.n1, hw.n9, ?_, ?_⟩
  · have := hw.sq
    show (0 - w.c) * (0 - w.c) + (0 - w.s) * (0 - w.s) = w.n * w.n
    grind
  · have := hw.g
    show dv (0 - w.c) (0 - w.s) w.n = 1
    unfold dv at *
    rw [Int.zero_sub, Int.zero_sub, Int.natAbs_neg, Int.natAbs_neg]
    exact this
theorem back_run : call P (k + 5) "back" [.d w.d] S = .ok (.d (bkW w).d) S := by
  have e1 := check_wind_ok k S hw
  have e2 : call P (k + 4) "opposite" [.d w.d] S = .ok (.d (bkW w).d) S := by
    rw [run_opposite]
    simp [runDf, d_opposite, wix0, wix1, wix2, bkW, fit]
  rw [run_back]
  generalize (bkW w).d = B at *
  simp [runDf, d_back, e1, e2]
end
end K07
namespace K07
open PySem PySem.Spec PyProof.Rows L2 Pyi
/-- a point's two fractions -/
theorem ptD_at (p : By) (w : Wd) (hw : w.Ok) (n8 : w.n ≤ 7200) (hp : p.Ok) {len : Int} (l0 : 0 ≤ len) (l9 : len ≤ 198) : ∃ f g : Fr, ptD p w len = .tup [f.v, g.v] ∧
    0 < f.d ∧ f.d ≤ 7200 ∧ f.n.natAbs ≤ 3000000 ∧ (p.x * w.n + len * w.c) * f.d = f.n * w.n ∧ 0 < g.d ∧ g.d ≤ 7200 ∧ g.n.natAbs ≤ 3000000 ∧ (p.y * w.n + len * w.s) * g.d = g.n * w.n := by
  have p1 := hp.x0; have p2 := hp.x9; have p3 := hp.y0; have p4 := hp.y9
  have n1 := hw.n1
  have c1 := hw.cb
  have s1 := hw.sb
  have bnd : ∀ x c : Int, 0 ≤ x → x ≤ 199 → -w.n ≤ c → c ≤ w.n → (x * w.n + len * c).natAbs ≤ 3000000 := fun x c x0 x9 c0 c9 => by
    have h1 : (x * w.n).natAbs ≤ 199 * 7200 := by
      rw [Int.natAbs_mul]
      exact Nat.mul_le_mul (by omega) (by omega)
    have h2 : (len * c).natAbs ≤ 198 * 7200 := by
      rw [Int.natAbs_mul]
      exact Nat.mul_le_mul (by omega) (by omega)
    have := Int.natAbs_add_le (x * w.n) (len * c)
    omega
  obtain ⟨f, e1, f1, f2, f3, f4⟩ := lowZ_at (a := p.x * w.n + len * w.c) (n := w.n) (by omega)
  obtain ⟨g, e2, g1, g2, g3, g4⟩ := lowZ_at (a := p.y * w.n + len * w.s) (n := w.n) (by omega)
  refine ⟨f, g, ?_, f1, by omega, Nat.le_trans f4 (bnd _ _ p1 p2 c1.1 c1.2), f2, g1, by omega, Nat.le_trans g4 (bnd _ _ p3 p4 s1.1 s1.2), g2⟩
  unfold ptD
  rw [e1, e2]
theorem fine_fr {f : Fr} (h : f.n.natAbs ≤ 3000000) (h2 : 0 < f.d) (h3 : f.d ≤ 7200) : (f.v).fine = true := by
  have e1 : (D.int f.n).fine = true := decide_eq_true (by omega)
  have e2 : (D.int f.d).fine = true := decide_eq_true (by omega)
  refine fines_all fun d hd => ?_
  simp at hd
  rcases hd with rfl | rfl
  · exact e1
  · exact e2
theorem fine_pt {f g : Fr} (h : (f.v).fine = true) (h2 : (g.v).fine = true) : (D.tup [f.v, g.v]).fine = true := by
  refine fines_all fun d hd => ?_
  rcases List.mem_cons.mp hd with rfl | hd
  · exact h
  · cases List.mem_singleton.mp hd
    exact h2
theorem fine_ptD (p : By) (w : Wd) (hw : w.Ok) (n8 : w.n ≤ 7200) (hp : p.Ok) {len : Int} (l0 : 0 ≤ len) (l9 : len ≤ 198) : (ptD p w len).fine = true ∧ (ptD p w len).bulk ≤ 10 ∧ (ptD p w len).depth ≤ 5 := by
  obtain ⟨f, g, e, f1, f2, f3, _, g1, g2, g3, _⟩ := ptD_at p w hw n8 hp l0 l9
  rw [e]
  refine ⟨fine_pt (fine_fr f3 f1 f2) (fine_fr g3 g1 g2), by simp, by simp⟩
theorem repr_four {a b : D} (h : a.fine = true ∧ a.bulk ≤ 10 ∧ a.depth ≤ 5) (h2 : b.fine = true ∧ b.bulk ≤ 10 ∧ b.depth ≤ 5) : reprOk (.lst [a, a, b, b]) = true := by
  refine reprOk_of (fines_all fun d hd => ?_) (by simp; omega) (by simp; omega)
  simp at hd
  rcases hd with rfl | rfl
  · exact h.1
  · exact h2.1
theorem repr_two {a b : D} (h : a.fine = true ∧ a.bulk ≤ 10 ∧ a.depth ≤ 5) (h2 : b.fine = true ∧ b.bulk ≤ 10 ∧ b.depth ≤ 5) : reprOk (.lst [a, b]) = true := by
  refine reprOk_of (fines_all fun d hd => ?_) (by simp; omega) (by simp; omega)
  simp at hd
  rcases hd with rfl | rfl
  · exact h.1
  · exact h2.1
theorem repr_one {a : D} (h : a.fine = true ∧ a.bulk ≤ 10 ∧ a.depth ≤ 5) : reprOk a = true := reprOk_of h.1 (by omega) (by omega)
theorem fine_int {x : Int} (h : x.natAbs < 1000000000000) : (D.int x).fine = true ∧ (D.int x).bulk ≤ 10 ∧ (D.int x).depth ≤ 5 := ⟨decide_eq_true h, by simp, by simp⟩
/-- no rope: the bow is at the buoy -/
theorem ptD_zero (p : By) {w : Wd} (hw : w.Ok) : ptD p w 0 = .tup [.tup [.int p.x, .int 1], .tup [.int p.y, .int 1]] := by
  have n1 := hw.n1
  unfold ptD
  rw [Int.zero_mul, Int.zero_mul, Int.add_zero, Int.add_zero, lowZ_eq (a := p.x * w.n) (n := w.n) (a' := p.x) (n' := 1) (by omega) Int.one_pos (by rw [Int.mul_one]), lowZ_eq (a := p.y * w.n) (n := w.n) (a' := p.y) (n' := 1) (by omega) Int.one_pos (by rw [Int.mul_one]), lowZ_one, lowZ_one]
/-- both sides of a buoy -/
theorem both_sides {x r c n fn fd gn gd : Int} (hn : 0 < n) (h1 : (x * n + r * c) * fd = fn * n) (h2 : (x * n + r * (0 - c)) * gd = gn * n) : fn * gd + gn * fd = 2 * x * fd * gd := by
  have h : n * (fn * gd + gn * fd) = n * (2 * x * fd * gd) := by grind
  exact Int.eq_of_mul_eq_mul_left (by omega) h
end K07
namespace K07
open PySem PySem.Spec PyProof.Rows L2 Pyi
theorem hix1 (h : Hb) : atI [D.int h.room, .tup (h.bs.map By.d), .tup (h.ws.map Wl.e)] 1 = some (.tup (h.bs.map By.d)) := rfl
theorem pix (b : By) : atI [D.str b.nm, .int b.x, .int b.y] 0 = some (.str b.nm) := rfl
theorem next_assoc (x : Fl) (f g : Sg → Store → Fl) : (x.next f).next g = x.next fun σ S => (f σ S).next g := by cases x <;> rfl
theorem seq_def {c : Cal} {a b : Stm} {σ : Sg} {S : Store} : execS c (.seq a b) σ S = (execS c a σ S).next fun σ1 S1 => execS c b σ1 S1 := by rw [execS]
theorem nil_def {c : Cal} {σ : Sg} {S : Store} : execS c .nil σ S = .nx σ S := by rw [execS]
theorem cat5 {c : Cal} {a b d e f r : Stm} {σ σ1 : Sg} {S S1 : Store} (h : execS c (.seq a (.seq b (.seq d (.seq e (.seq f .nil))))) σ S = .nx σ1 S1) : execS c (.seq a (.seq b (.seq d (.seq e (.seq f r))))) σ S = execS c r σ1 S1 := by
  have z : execS c (.seq a (.seq b (.seq d (.seq e (.seq f r))))) σ S = (execS c (.seq a (.seq b (.seq d (.seq e (.seq f .nil))))) σ S).next fun σ1 S1 => execS c r σ1 S1 := by
    simp only [seq_def, next_assoc, nil_def]
    rfl
  rw [z, h]
  rfl
theorem turn_run (k : Nat) (S : Store) (i : Nat) (hu : Well S i) (x1 x2 x3 x4 x5 x6 x7 x8 x9 x10 x11 x12 x13 x14 x15 x16 x17 x18 x19 x20 : Option W) : ∃ y2 y3 y4 y5 y6 y7 y8 y9 y10 y11 y12 y13 y14 y15 y16 y17 y18 y19 y20 S',
    execS (calAt P (k + 20)) b17__law_right [some (.ref i), x1, x2, x3, x4, x5, x6, x7, x8, x9, x10, x11, x12, x13, x14, x15, x16, x17, x18, x19, x20] S =
    .nx [some (.ref i), x1, y2, y3, y4, y5, y6, y7, y8, y9, y10, y11, y12, y13, y14, y15, y16, y17, y18, y19, y20] S' ∧ Well S' i := by
  obtain ⟨hi, S1, e1, hhi, u1⟩ := of_ints (k + 18) S i [9, 199] hu (by simp) (by simp)
  rw [show [9, 199].map D.int = [.int 9, .int 199] from rfl] at e1
  have hhi' : 0 ≤ hi ∧ hi ≤ 199 := by simp at hhi; omega
  obtain ⟨h, S2, e2, hH, u2⟩ := harbour_run (k + 16) S1 i 6 2 hi u1.u (by decide) (by decide) (by decide) (by decide) hhi'.1 hhi'.2
  obtain ⟨bs, S3, e3, hB, hbl, _, u3⟩ := boats_run (k + 16) S2 i 5 99 99 u2.u (by decide) (by decide) (by decide) (by decide) (by decide) (by decide)
  obtain ⟨most, S4, e4, hmo, u4⟩ := of_ints (k + 18) S3 i [1, 4, 60] u3.u (by simp) (by simp)
  rw [show [1, 4, 60].map D.int = [.int 1, .int 4, .int 60] from rfl] at e4
  obtain ⟨w, S5, e5, hw, n8, u5⟩ : ∃ (w : Wd) (S5 : Store), call P (k + 20) "_law_wind" [.ref i, .d (.int most)] S4 = .ok (.d w.d) S5 ∧ w.Ok ∧ w.n ≤ 7200 ∧ Drw S4 S5 i := by
    obtain ⟨w, S5, e5, hw, hn, u5⟩ := law_wind_run (k + 17) S4 i most u4.u (by simp at hmo; omega) (by simp at hmo; omega)
    refine ⟨w, S5, e5, hw, ?_, u5⟩
    simp at hmo
    rcases hmo with rfl | rfl | rfl <;> omega
  have h7 := hB.l7
  have h8 := hH.bs.l8
  obtain ⟨d1, S6, e6, hd1, u6⟩ := of_tup (k + 18) S5 i (bs.map Bt.d) u5.u (by simpa using hB.ne) (by rw [List.length_map]; omega)
  obtain ⟨d2, S7, e7, hd2, u7⟩ := of_tup (k + 18) S6 i (h.bs.map By.d) u6.u (by simpa using hH.bs.ne) (by rw [List.length_map]; omega)
  obtain ⟨a, ha, rfl⟩ := List.mem_map.mp hd1
  obtain ⟨p, hp, rfl⟩ := List.mem_map.mp hd2
  have ok := hB.ok a ha
  have okp := hH.bs.ok p hp
  have a0 := ok.r0
  have a9 := ok.r9
  have l1 := ok.l1
  have l9 := ok.l9
  have er : rch a = a.rope + a.long := rfl
  have ok0 : (⟨a.nm, 0, a.long⟩ : Bt).Ok := ⟨ok.nm, by show (0 : Int) ≤ 0; decide, by show (0 : Int) ≤ 99; decide, ok.l1, ok.l9⟩
  have e8 := fun S => law_boat_run (k + 19) S hB ha
  have e9 := fun S => law_at_run (k + 17) S hH hp hw n8 a.rope (by omega)
  have e10 : ∀ S, call P (k + 20) "_law_at" [.d h.d, .d (.str p.nm), .d (.int (a.rope + a.long)), .d w.d] S = .ok (.d (ptD p w (rch a))) S := fun S => law_at_run (k + 17) S hH hp hw n8 (rch a) (by omega)
  have e11 := fun S => bow_run (k + 6) S hH hp hw n8 hB ha
  have e12 := fun S => stern_run (k + 6) S hH hp hw n8 hB ha
  have F1 := fine_ptD p w hw n8 okp (len := a.rope) a0 (by omega)
  have F2 := fine_ptD p w hw n8 okp (len := rch a) (by omega) (by omega)
  have q1 := is_same_ref (k + 19) (S7 ++ [.lst [ptD p w a.rope, ptD p w a.rope, ptD p w (rch a), ptD p w (rch a)]]) (p := S7.length) (by simp) (repr_four F1 F2)
  have e13 := fun S => law_spot_run (k + 19) S hH hp
  have e14 := fun S => back_run (k + 15) S hw n8
  have e15 : ∀ S, call P (k + 20) "stern" [.d h.d, .d (.tup (bs.map Bt.d)), .d (.str a.nm), .d (.str p.nm), .d (bkW w).d] S = .ok (.d (ptD p (bkW w) (rch a))) S := fun S => stern_run (k + 6) S hH hp (bkW_ok hw n8) n8 hB ha
  have e16 := fun S => with_rope_run (k + 10) S hB ha 0 (by decide) (by decide)
  have e17 : ∀ S, call P (k + 20) "bow" [.d h.d, .d (.tup ((chg bs ⟨a.nm, 0, a.long⟩).map Bt.d)), .d (.str a.nm), .d (.str p.nm), .d w.d] S = .ok (.d (.tup [.tup [.int p.x, .int 1], .tup [.int p.y, .int 1]])) S := fun S => by
    have e := bow_run (k + 6) S hH hp hw n8 (chg_ok hB ok0) (chg_mem ha rfl)
    rw [show (⟨a.nm, 0, a.long⟩ : Bt).rope = 0 from rfl, ptD_zero p hw] at e
    exact e
  have e18 : ∀ S, call P (k + 20) "reach" [.d (.tup ((chg bs ⟨a.nm, 0, a.long⟩).map Bt.d)), .d (.str a.nm)] S = .ok (.d (.int a.long)) S := fun S => by
    have e := reach_run (k + 10) S (chg_ok hB ok0) (a := ⟨a.nm, 0, a.long⟩) (chg_mem ha rfl)
    rw [show rch ⟨a.nm, 0, a.long⟩ = a.long from Int.zero_add _] at e
    exact e
  have F0 := fine_ptD p w hw n8 okp (len := 0) (by decide) (by decide)
  rw [ptD_zero p hw] at F0
  have e21 := fun S => reach_run (k + 10) S hB ha
  have t1 : execS (calAt P (k + 20)) a0__law_right [some (.ref i), x1, x2, x3, x4, x5, x6, x7, x8, x9, x10, x11, x12, x13, x14, x15, x16, x17, x18, x19, x20] S = .nx [some (.ref i), x1, some (.d h.d), some (.d (.tup (bs.map Bt.d))), x4, x5, x6, x7, x8, x9, x10, x11, x12, x13, x14, x15, x16, x17, x18, x19, x20] S3 := by
    simp [a0__law_right, e1, e2, e3, fit]
  have t2 : execS (calAt P (k + 20)) a1__law_right [some (.ref i), x1, some (.d h.d), some (.d (.tup (bs.map Bt.d))), x4, x5, x6, x7, x8, x9, x10, x11, x12, x13, x14, x15, x16, x17, x18, x19, x20] S3 = .nx [some (.ref i), x1, some (.d h.d), some (.d (.tup (bs.map Bt.d))), some (.d w.d), x5, x6, x7, x8, x9, x10, x11, x12, x13, x14, x15, x16, x17, x18, x19, x20] S5 := by
    simp [a1__law_right, e4, e5, fit]
  have t3 : execS (calAt P (k + 20)) a2__law_right [some (.ref i), x1, some (.d h.d), some (.d (.tup (bs.map Bt.d))), some (.d w.d), x5, x6, x7, x8, x9, x10, x11, x12, x13, x14, x15, x16, x17, x18, x19, x20] S5 = .nx [some (.ref i), x1, some (.d h.d), some (.d (.tup (bs.map Bt.d))), some (.d w.d), some (.d (.str a.nm)), some (.d (.str p.nm)), x7, x8, x9, x10, x11, x12, x13, x14, x15, x16, x17, x18, x19, x20] S7 := by
    simp [a2__law_right, e6, e7, bix0, hix1, pix, fit]
  have t4 : execS (calAt P (k + 20)) a3__law_right [some (.ref i), x1, some (.d h.d), some (.d (.tup (bs.map Bt.d))), some (.d w.d), some (.d (.str a.nm)), some (.d (.str p.nm)), x7, x8, x9, x10, x11, x12, x13, x14, x15, x16, x17, x18, x19, x20] S7 = .nx [some (.ref i), x1, some (.d h.d), some (.d (.tup (bs.map Bt.d))), some (.d w.d), some (.d (.str a.nm)), some (.d (.str p.nm)), some (.d (.int a.rope)), some (.d (.int a.long)), x9, x10, x11, x12, x13, x14, x15, x16, x17, x18, x19, x20] S7 := by
    simp [a3__law_right, e8]
  have t5 : execS (calAt P (k + 20)) a4__law_right [some (.ref i), x1, some (.d h.d), some (.d (.tup (bs.map Bt.d))), some (.d w.d), some (.d (.str a.nm)), some (.d (.str p.nm)), some (.d (.int a.rope)), some (.d (.int a.long)), x9, x10, x11, x12, x13, x14, x15, x16, x17, x18, x19, x20] S7 = .nx [some (.ref i), x1, some (.d h.d), some (.d (.tup (bs.map Bt.d))), some (.d w.d), some (.d (.str a.nm)), some (.d (.str p.nm)), some (.d (.int a.rope)), some (.d (.int a.long)), some (.d (ptD p w a.rope)), some (.d (ptD p w (rch a))), x11, x12, x13, x14, x15, x16, x17, x18, x19, x20] S7 := by
    generalize ptD p w (rch a) = R2 at *
    generalize ptD p w a.rope = R1 at *
    simp [a4__law_right, e9, e10]
  have t6 : execS (calAt P (k + 20)) (.seq a5__law_right (.seq a6__law_right (.seq a7__law_right (.seq a8__law_right (.seq (.ife (.not (.call "_law_is" (.cons (.var 11) (.cons (.lst (.cons (.var 9) (.cons (.var 9) (.cons (.var 10) (.cons (.var 10) .nil))))) .nil)))) (.seq (.ret (.cst (.bl false))) .nil) .nil) .nil))))) [some (.ref i), x1, some (.d h.d), some (.d (.tup (bs.map Bt.d))), some (.d w.d), some (.d (.str a.nm)), some (.d (.str p.nm)), some (.d (.int a.rope)), some (.d (.int a.long)), some (.d (ptD p w a.rope)), some (.d (ptD p w (rch a))), x11, x12, x13, x14, x15, x16, x17, x18, x19, x20] S7 = .nx [some (.ref i), x1, some (.d h.d), some (.d (.tup (bs.map Bt.d))), some (.d w.d), some (.d (.str a.nm)), some (.d (.str p.nm)), some (.d (.int a.rope)), some (.d (.int a.long)), some (.d (ptD p w a.rope)), some (.d (ptD p w (rch a))), some (.ref S7.length), x12, x13, x14, x15, x16, x17, x18, x19, x20] (S7 ++ [.lst [ptD p w a.rope, ptD p w a.rope, ptD p w (rch a), ptD p w (rch a)]]) := by
    generalize ptD p w (rch a) = R2 at *
    generalize ptD p w a.rope = R1 at *
    simp [a5__law_right, a6__law_right, a7__law_right, a8__law_right, e11, e12, q1, Shape.out, fit]
  obtain ⟨S8, hS8⟩ : ∃ S8, S8 = S7 ++ [.lst [ptD p w a.rope, ptD p w a.rope, ptD p w (rch a), ptD p w (rch a)]] := ⟨_, rfl⟩
  rw [← hS8] at t6
  have w8 : Well S8 i := well_le u7.u fun j hj => by rw [hS8]; exact List.getElem?_append_left hj
  have q2 := is_same (k + 19) S8 (repr_two F0 (fine_int (x := a.long) (by omega)))
  clear q1 hS8
  have t7 : execS (calAt P (k + 20)) a9__law_right [some (.ref i), x1, some (.d h.d), some (.d (.tup (bs.map Bt.d))), some (.d w.d), some (.d (.str a.nm)), some (.d (.str p.nm)), some (.d (.int a.rope)), some (.d (.int a.long)), some (.d (ptD p w a.rope)), some (.d (ptD p w (rch a))), some (.ref S7.length), x12, x13, x14, x15, x16, x17, x18, x19, x20] S8 = .nx [some (.ref i), x1, some (.d h.d), some (.d (.tup (bs.map Bt.d))), some (.d w.d), some (.d (.str a.nm)), some (.d (.str p.nm)), some (.d (.int a.rope)), some (.d (.int a.long)), some (.d (ptD p w a.rope)), some (.d (ptD p w (rch a))), some (.ref S7.length), some (.d (.int p.x)), some (.d (.int p.y)), some (.d (ptD p (bkW w) (rch a))), x15, x16, x17, x18, x19, x20] S8 := by
    generalize ptD p (bkW w) (rch a) = R3 at *
    simp [a9__law_right, e13, e14, e15, fit]
  obtain ⟨y15, y16, y17, t8⟩ : ∃ y15 y16 y17 : Option W, execS (calAt P (k + 20)) (.loop (.tup (.cons (.nm 15) (.cons (.nm 16) (.cons (.nm 17) .nil)))) (.it .zip (.cons (.var 10) (.cons (.var 14) (.cons (.tup (.cons (.var 12) (.cons (.var 13) .nil))) .nil)))) b11__law_right) [some (.ref i), x1, some (.d h.d), some (.d (.tup (bs.map Bt.d))), some (.d w.d), some (.d (.str a.nm)), some (.d (.str p.nm)), some (.d (.int a.rope)), some (.d (.int a.long)), some (.d (ptD p w a.rope)), some (.d (ptD p w (rch a))), some (.ref S7.length), some (.d (.int p.x)), some (.d (.int p.y)), some (.d (ptD p (bkW w) (rch a))), x15, x16, x17, x18, x19, x20] S8 = .nx [some (.ref i), x1, some (.d h.d), some (.d (.tup (bs.map Bt.d))), some (.d w.d), some (.d (.str a.nm)), some (.d (.str p.nm)), some (.d (.int a.rope)), some (.d (.int a.long)), some (.d (ptD p w a.rope)), some (.d (ptD p w (rch a))), some (.ref S7.length), some (.d (.int p.x)), some (.d (.int p.y)), some (.d (ptD p (bkW w) (rch a))), y15, y16, y17, x18, x19, x20] S8 := by
    obtain ⟨f, g, r1, f1, f2, f3, f4, g1, g2, g3, g4⟩ := ptD_at p w hw n8 okp (len := rch a) (by omega) (by omega)
    obtain ⟨f', g', r2, f1', f2', f3', f4', g1', g2', g3', g4'⟩ := ptD_at p (bkW w) (bkW_ok hw n8) n8 okp (len := rch a) (by omega) (by omega)
    have b1 := both_sides (by have := hw.n1; omega) f4 f4'
    have b2 := both_sides (by have := hw.n1; omega) g4 g4'
    refine ⟨some (.d g.v), some (.d g'.v), some (.d (.int p.y)), ?_⟩
    rw [r1, r2]
    have i0 : ∀ z : Fr, atI [D.int z.n, .int z.d] 0 = some (.int z.n) := fun _ => rfl
    have i1 : ∀ z : Fr, atI [D.int z.n, .int z.d] 1 = some (.int z.d) := fun _ => rfl
    have m1 : mulOk f.n f'.d = true := mulOk_of (by omega)
    have m2 : mulOk f'.n f.d = true := mulOk_of (by omega)
    have m3 : mulOk g.n g'.d = true := mulOk_of (by omega)
    have m4 : mulOk g'.n g.d = true := mulOk_of (by omega)
    have m5 : ∀ z, mulOk 2 z = true := fun z => mulOk_of (by decide)
    have m7 : ∀ z, mulOk z f.d = true := fun z => mulOk_of2 (by omega)
    have m8 : ∀ z, mulOk z f'.d = true := fun z => mulOk_of2 (by omega)
    have m9 : ∀ z, mulOk z g.d = true := fun z => mulOk_of2 (by omega)
    have m10 : ∀ z, mulOk z g'.d = true := fun z => mulOk_of2 (by omega)
    simp [b11__law_right, s10__law_right, i0, i1, m1, m2, m3, m4, m5, m7, m8, m9, m10, b1, b2, fit, forLoop]
  have t9 : execS (calAt P (k + 20)) a12__law_right [some (.ref i), x1, some (.d h.d), some (.d (.tup (bs.map Bt.d))), some (.d w.d), some (.d (.str a.nm)), some (.d (.str p.nm)), some (.d (.int a.rope)), some (.d (.int a.long)), some (.d (ptD p w a.rope)), some (.d (ptD p w (rch a))), some (.ref S7.length), some (.d (.int p.x)), some (.d (.int p.y)), some (.d (ptD p (bkW w) (rch a))), y15, y16, y17, x18, x19, x20] S8 = .nx [some (.ref i), x1, some (.d h.d), some (.d (.tup (bs.map Bt.d))), some (.d w.d), some (.d (.str a.nm)), some (.d (.str p.nm)), some (.d (.int a.rope)), some (.d (.int a.long)), some (.d (ptD p w a.rope)), some (.d (ptD p w (rch a))), some (.ref S7.length), some (.d (.int p.x)), some (.d (.int p.y)), some (.d (ptD p (bkW w) (rch a))), y15, y16, y17, some (.d (.tup ((chg bs ⟨a.nm, 0, a.long⟩).map Bt.d))), x19, x20] S8 := by
    generalize D.tup ((chg bs ⟨a.nm, 0, a.long⟩).map Bt.d) = B1 at *
    simp [a12__law_right, e16]
  have t10 : execS (calAt P (k + 20)) a13__law_right [some (.ref i), x1, some (.d h.d), some (.d (.tup (bs.map Bt.d))), some (.d w.d), some (.d (.str a.nm)), some (.d (.str p.nm)), some (.d (.int a.rope)), some (.d (.int a.long)), some (.d (ptD p w a.rope)), some (.d (ptD p w (rch a))), some (.ref S7.length), some (.d (.int p.x)), some (.d (.int p.y)), some (.d (ptD p (bkW w) (rch a))), y15, y16, y17, some (.d (.tup ((chg bs ⟨a.nm, 0, a.long⟩).map Bt.d))), x19, x20] S8 = .nx [some (.ref i), x1, some (.d h.d), some (.d (.tup (bs.map Bt.d))), some (.d w.d), some (.d (.str a.nm)), some (.d (.str p.nm)), some (.d (.int a.rope)), some (.d (.int a.long)), some (.d (ptD p w a.rope)), some (.d (ptD p w (rch a))), some (.ref S7.length), some (.d (.int p.x)), some (.d (.int p.y)), some (.d (ptD p (bkW w) (rch a))), y15, y16, y17, some (.d (.tup ((chg bs ⟨a.nm, 0, a.long⟩).map Bt.d))), some (.d (.tup [.tup [.int p.x, .int 1], .tup [.int p.y, .int 1]])), x20] S8 := by
    simp [a13__law_right, fit]
  have t11 : execS (calAt P (k + 20)) s14__law_right [some (.ref i), x1, some (.d h.d), some (.d (.tup (bs.map Bt.d))), some (.d w.d), some (.d (.str a.nm)), some (.d (.str p.nm)), some (.d (.int a.rope)), some (.d (.int a.long)), some (.d (ptD p w a.rope)), some (.d (ptD p w (rch a))), some (.ref S7.length), some (.d (.int p.x)), some (.d (.int p.y)), some (.d (ptD p (bkW w) (rch a))), y15, y16, y17, some (.d (.tup ((chg bs ⟨a.nm, 0, a.long⟩).map Bt.d))), some (.d (.tup [.tup [.int p.x, .int 1], .tup [.int p.y, .int 1]])), x20] S8 = .nx [some (.ref i), x1, some (.d h.d), some (.d (.tup (bs.map Bt.d))), some (.d w.d), some (.d (.str a.nm)), some (.d (.str p.nm)), some (.d (.int a.rope)), some (.d (.int a.long)), some (.d (ptD p w a.rope)), some (.d (ptD p w (rch a))), some (.ref S7.length), some (.d (.int p.x)), some (.d (.int p.y)), some (.d (ptD p (bkW w) (rch a))), y15, y16, y17, some (.d (.tup ((chg bs ⟨a.nm, 0, a.long⟩).map Bt.d))), some (.d (.tup [.tup [.int p.x, .int 1], .tup [.int p.y, .int 1]])), x20] S8 := by
    generalize D.tup ((chg bs ⟨a.nm, 0, a.long⟩).map Bt.d) = B1 at *
    simp [s14__law_right, e17, e18, q2, fit]
  obtain ⟨y20, t12⟩ : ∃ y20 : Option W, execS (calAt P (k + 20)) s16__law_right [some (.ref i), x1, some (.d h.d), some (.d (.tup (bs.map Bt.d))), some (.d w.d), some (.d (.str a.nm)), some (.d (.str p.nm)), some (.d (.int a.rope)), some (.d (.int a.long)), some (.d (ptD p w a.rope)), some (.d (ptD p w (rch a))), some (.ref S7.length), some (.d (.int p.x)), some (.d (.int p.y)), some (.d (ptD p (bkW w) (rch a))), y15, y16, y17, some (.d (.tup ((chg bs ⟨a.nm, 0, a.long⟩).map Bt.d))), some (.d (.tup [.tup [.int p.x, .int 1], .tup [.int p.y, .int 1]])), x20] S8 = .nx [some (.ref i), x1, some (.d h.d), some (.d (.tup (bs.map Bt.d))), some (.d w.d), some (.d (.str a.nm)), some (.d (.str p.nm)), some (.d (.int a.rope)), some (.d (.int a.long)), some (.d (ptD p w a.rope)), some (.d (ptD p w (rch a))), some (.ref S7.length), some (.d (.int p.x)), some (.d (.int p.y)), some (.d (ptD p (bkW w) (rch a))), y15, y16, y17, some (.d (.tup ((chg bs ⟨a.nm, 0, a.long⟩).map Bt.d))), some (.d (.tup [.tup [.int p.x, .int 1], .tup [.int p.y, .int 1]])), y20] S8 := by
    by_cases c : rch a ≤ 99
    · have ok2 : (⟨a.nm, rch a, a.long⟩ : Bt).Ok := ⟨ok.nm, by show 0 ≤ rch a; omega, c, ok.l1, ok.l9⟩
      have e19 := fun S => with_rope_run (k + 10) S hB ha (rch a) (by omega) c
      have e20 : ∀ S, call P (k + 20) "bow" [.d h.d, .d (.tup ((chg bs ⟨a.nm, rch a, a.long⟩).map Bt.d)), .d (.str a.nm), .d (.str p.nm), .d w.d] S = .ok (.d (ptD p w (rch a))) S := fun S => bow_run (k + 6) S hH hp hw n8 (chg_ok hB ok2) (chg_mem ha rfl)
      have q3 := is_same (k + 19) S8 (repr_one F2)
      refine ⟨some (.d (.tup ((chg bs ⟨a.nm, rch a, a.long⟩).map Bt.d))), ?_⟩
      generalize D.tup ((chg bs ⟨a.nm, rch a, a.long⟩).map Bt.d) = B2 at *
      generalize D.tup ((chg bs ⟨a.nm, 0, a.long⟩).map Bt.d) = B1 at *
      generalize ptD p w (rch a) = R2 at *
      generalize rch a = ra at *
      simp [s16__law_right, a15__law_right, e21, c, e19, e20, q3, fit]
    · refine ⟨x20, ?_⟩
      generalize D.tup ((chg bs ⟨a.nm, 0, a.long⟩).map Bt.d) = B1 at *
      generalize rch a = ra at *
      simp [s16__law_right, e21, c]
  refine ⟨some (.d h.d), some (.d (.tup (bs.map Bt.d))), some (.d w.d), some (.d (.str a.nm)), some (.d (.str p.nm)), some (.d (.int a.rope)), some (.d (.int a.long)), some (.d (ptD p w a.rope)), some (.d (ptD p w (rch a))), some (.ref S7.length), some (.d (.int p.x)), some (.d (.int p.y)), some (.d (ptD p (bkW w) (rch a))), y15, y16, y17, some (.d (.tup ((chg bs ⟨a.nm, 0, a.long⟩).map Bt.d))), some (.d (.tup [.tup [.int p.x, .int 1], .tup [.int p.y, .int 1]])), y20, S8, ?_, w8⟩
  unfold b17__law_right
  rw [seq_nx t1, seq_nx t2, seq_nx t3, seq_nx t4, seq_nx t5, cat5 t6, seq_nx t7, seq_nx t8, seq_nx t9, seq_nx t10, seq_nx t11, seq_nx t12, execS]
end K07
namespace K07
open PySem PySem.Spec PyProof.Rows L2 Pyi
theorem rightL_run (k : Nat) (S : Store) (i : Nat) (hu : Well S i) : ∃ S', call P (k + 21) "_law_right" [.ref i] S = .ok (.d (.bl true)) S' := by
  obtain ⟨σ', S', e, x1, x2, x3, x4, x5, x6, x7, x8, x9, x10, x11, x12, x13, x14, x15, x16, x17, x18, x19, x20, rfl, u1⟩ := forLoop_inv (f := forTurn (Tg.nm 1).bind (execS (calAt P (k + 20)) b17__law_right))
    (fun _ σ S' => ∃ x1 x2 x3 x4 x5 x6 x7 x8 x9 x10 x11 x12 x13 x14 x15 x16 x17 x18 x19 x20 : Option W, σ = [some (.ref i), x1, x2, x3, x4, x5, x6, x7, x8, x9, x10, x11, x12, x13, x14, x15, x16, x17, x18, x19, x20] ∧ Well S' i)
    (fun z zs σ S1 ⟨x1, x2, x3, x4, x5, x6, x7, x8, x9, x10, x11, x12, x13, x14, x15, x16, x17, x18, x19, x20, e, u1⟩ => by
      subst e
      obtain ⟨y2, y3, y4, y5, y6, y7, y8, y9, y10, y11, y12, y13, y14, y15, y16, y17, y18, y19, y20, S2, e2, u2⟩ := turn_run k S1 i u1 (some (.d z)) x2 x3 x4 x5 x6 x7 x8 x9 x10 x11 x12 x13 x14 x15 x16 x17 x18 x19 x20
      exact ⟨_, S2, e2, _, _, _, _, _, _, _, _, _, _, _, _, _, _, _, _, _, _, _, _, rfl, u2⟩)
    ((range0 8).map D.int) [some (.ref i), none, none, none, none, none, none, none, none, none, none, none, none, none, none, none, none, none, none, none, none] S ⟨none, none, none, none, none, none, none, none, none, none, none, none, none, none, none, none, none, none, none, none, rfl, hu⟩
  refine ⟨S'.take S.length, ?_⟩
  rw [run__law_right]
  simp [-forTurn_eq, runDf, d__law_right, rng1 S (n := 8) (by decide), e]
theorem mix_run (cc : Cal) (S : Store) (sc lp : Option W) : ∀ (ds : List D) (m : Int) (x : Option W), (∀ d ∈ ds, ∃ i : Int, d = .int i) → ∃ (m' : Int) (x' : Option W), forLoop (forTurn (Tg.nm 3).bind (execS cc b0__law_well)) ds [sc, lp, some (.d (.int m)), x, none] S = .nx [sc, lp, some (.d (.int m')), x', none] S
  | [], m, x, _ => ⟨m, x, rfl⟩
  | d :: ds, m, x, h => by
    obtain ⟨i, rfl⟩ := h d List.mem_cons_self
    have q1 : mulOk m 47521 = true := mulOk_of2 (by decide)
    obtain ⟨m', x', e⟩ := mix_run cc S sc lp ds ((m * 47521 + i.fmod 2147483549 + 41).fmod 2147483629) (some (.d (.int i))) fun d hd => h d (List.mem_cons_of_mem _ hd)
    refine ⟨m', x', ?_⟩
    unfold forLoop
    rw [show forTurn (Tg.nm 3).bind (execS cc b0__law_well) (.int i) [sc, lp, some (.d (.int m)), x, none] S = .nx [sc, lp, some (.d (.int ((m * 47521 + i.fmod 2147483549 + 41).fmod 2147483629))), some (.d (.int i)), none] S by
      simp [Tg.bind, b0__law_well, q1]]
    exact e
theorem well_run (k : Nat) (S : Store) (ns : List Int) (lap : Int) (h0 : 0 ≤ lap) : ∃ a b : Int, call P (k + 1) "_law_well" [.d (.lst (ns.map D.int)), .d (.int lap)] S = .ok (.ref S.length) (S ++ [.lst [.int a, .int b, .int 0]]) := by
  have q1 : mulOk 5231 lap = true := mulOk_of (by decide)
  have q2 : ∀ y : Int, mulOk y 61 = true := fun y => mulOk_of2 (by decide)
  have q3 : ∀ y : Int, mulOk y 16007 = true := fun y => mulOk_of2 (by decide)
  have q4 : powD (.int 10) (.int 15) = some (.int 1000000000000000) := by rfl
  obtain ⟨m, x, e⟩ := mix_run (calAt P k) S (some (.d (.lst (ns.map D.int)))) (some (.d (.int lap))) (cutL (ns.map D.int) none (some 9)) (2117273 + 5231 * lap) none fun d hd => by
    unfold cutL at hd
    have := List.mem_of_mem_drop (List.mem_of_mem_take hd)
    obtain ⟨i, _, rfl⟩ := List.mem_map.mp this
    exact ⟨i, rfl⟩
  rw [run__law_well]
  by_cases hl : lap < (ns.length : Int)
  · have hi : lap.toNat < ns.length := by omega
    have e2 : atI (ns.map D.int) lap = some (.int ns[lap.toNat]) := by
      unfold atI ixN
      rw [if_pos h0, List.length_map, if_pos hl, Option.bind_some, List.getElem?_map, List.getElem?_eq_getElem hi]
      rfl
    generalize ns[lap.toNat] = own at e2
    by_cases hc : own < 0
    · exact ⟨(own.natAbs : Int), (m * 61 + own.fmod 2147483549 * 16007 + 17).fmod 2147483629, by simp [runDf, d__law_well, slD, e, q1, q2, q3, q4, hc, fit, hl, e2]⟩
    · by_cases hb : 1000000000000000 ≤ own
      · exact ⟨(own.natAbs : Int), (m * 61 + own.fmod 2147483549 * 16007 + 17).fmod 2147483629, by simp [runDf, d__law_well, slD, e, q1, q2, q3, q4, hc, hb, fit, hl, e2]⟩
      · exact ⟨0, (m * 61 + own.fmod 2147483549 * 16007 + 17).fmod 2147483629, by simp [runDf, d__law_well, slD, e, q1, q2, q3, q4, hc, hb, fit, hl, e2]⟩
  · have q6 : (0 : Int).fmod 2147483549 = 0 := by decide
    exact ⟨0, (m * 61 + 17).fmod 2147483629, by simp [runDf, d__law_well, slD, e, q1, q2, q3, q4, q6, fit, hl]⟩
theorem lcLoop_true {f : D → Store → Res (Option D)} : ∀ (ds : List D) (S : Store), (∀ d ∈ ds, ∀ S, ∃ S', f d S = .ok (some (.bl true)) S') → ∃ S', lcLoop f ds S = .ok (ds.map fun _ => D.bl true) S'
  | [], S, _ => ⟨S, rfl⟩
  | d :: ds, S, h => by
    obtain ⟨S1, e1⟩ := h d List.mem_cons_self S
    obtain ⟨S2, e2⟩ := lcLoop_true ds S1 fun d hd => h d (List.mem_cons_of_mem _ hd)
    refine ⟨S2, ?_⟩
    unfold lcLoop
    rw [e1]
    simp [e2]
theorem law_true (ns : List Int) (h : ns.length ≤ 63) : ∃ S, call mo.pg 60 "law" [.d (.lst (ns.map .int))] [] = .ok (.d (.bl true)) S := by
  obtain ⟨n, hn, hn3⟩ : ∃ n : Int, n = (if (if (3 : Int) < (ns.length : Int) then (3 : Int) else (ns.length : Int)) > 1 then (if (3 : Int) < (ns.length : Int) then (3 : Int) else (ns.length : Int)) else 1) ∧ n.natAbs ≤ 3 := ⟨_, rfl, by split <;> split <;> omega⟩
  have hl : ∃ S', evalE (calAt mo.pg 59) c0_law [some (.d (.lst (ns.map .int))), none] [] = .ok (.d (.lst ((range0 n.toNat).map fun _ => D.bl true))) S' := by
    obtain ⟨S', e⟩ := lcLoop_true (f := lcTurn (Tg.nm 1).bind (evalE (calAt mo.pg 59) .yes) (evalE (calAt mo.pg 59) (.call "_law_right" (.cons (.call "_law_well" (.cons (.var 0) (.cons (.var 1) .nil))) .nil))) [1] [some (.d (.lst (ns.map .int))), none]) ((range0 n.toNat).map D.int) [] fun d hd S => by
      obtain ⟨i, hi, rfl⟩ := List.mem_map.mp hd
      have h0 := (mem_range0.mp hi).1
      obtain ⟨a, b, e1⟩ := well_run 58 S ns i h0
      obtain ⟨S2, e2⟩ := rightL_run 38 (S ++ [.lst [.int a, .int b, .int 0]]) S.length ⟨a, b, 0, by simp⟩
      exact ⟨S2, by simp [Tg.bind, e1, e2]⟩
    have hi : evalI (calAt mo.pg 59) (.it .rng (.cons (.bi .max (.cons (.cst (.int 1)) (.cons (.bi .min (.cons (.bi .len (.cons (.var 0) .nil)) (.cons (.cst (.int 3)) .nil))) .nil))) .nil)) [some (.d (.lst (ns.map .int))), none] [] = .ok ((range0 n.toNat).map D.int) [] := by
      have e3 := rng1 [] (n := n) (by omega)
      rw [hn] at e3 ⊢
      simp at e3 ⊢
      simp [e3]
    refine ⟨S', ?_⟩
    have e5 := lc_eff hi (by rw [List.length_map, len_range0]; omega) e
    rw [List.map_map] at e5
    exact e5
  obtain ⟨S', e⟩ := hl
  have eb : boolsOf ((range0 n.toNat).map fun _ => D.bl true) = some ((range0 n.toNat).map fun _ => true) := by
    have := boolsOf_map ((range0 n.toNat).map fun _ => true)
    rw [List.map_map] at this
    exact this
  refine ⟨S'.take 0, ?_⟩
  rw [run_law 59]
  simp [runDf, d_law, e, eb]
end K07
namespace K07
open PySem PySem.Spec PyProof.Rows L2 Pyi
abbrev hk : PySem.W.Hook := hookX PySem.Challenge.rw_swingrooms_k07_whole_bows_and_sterns.prog mo 4
def ob (s : PySem.W.SharedT) : AlX := obsX PySem.Challenge.rw_swingrooms_k07_whole_bows_and_sterns.prog mo 4 (HandSHeadRun.getT s)
theorem ob_eq (s : PySem.W.SharedT) : ob s = hk.obs s.abs := obsX_eq (HandSHeadRun.getT_eq s)
theorem head_run (w : World) : HeadI.RunI R (PySem.W.view R.prog [95]) hk ob 4000 8000 loose w := HeadI.run_parts (HeadI.two_l (run_0 w)) (HeadI.two_r (run_0 w)) (HeadI.two_l (run_1 w)) (HeadI.two_r (run_1 w)) (HeadI.two_l (run_2 w)) (HeadI.tabs_cut 45 (HeadI.two_l (HeadI.two_r (run_2 w))) (HeadI.two_r (HeadI.two_r (run_2 w))))
end K07
open PySem PySem.W PySem.Calls PyProof.Rows
set_option maxHeartbeats 0 in
theorem PySem.Challenge.cw_swingrooms_k07_whole_bows_and_sterns_holds : PySem.Challenge.rw_swingrooms_k07_whole_bows_and_sterns.Holds := by
  w_on; o_law
  refine HeadI.head_imp (r := OpenLaw.row PySem.Challenge.rw_swingrooms_k07_whole_bows_and_sterns) (q := view (OpenLaw.row PySem.Challenge.rw_swingrooms_k07_whole_bows_and_sterns).prog [95]) (H := K07.hk) (ob := K07.ob) (N := 4000) (M := 8000) (loose := K07.loose)
    (d := HandSHeadRun.topDef (OpenLaw.row PySem.Challenge.rw_swingrooms_k07_whole_bows_and_sterns).prog 95) (kwd := []) K07.ob_eq (by kernel_rfl) K07.head_run (by kernel_rfl) (by kernel_rfl) (by kernel_rfl) (by rfl)
    (by first | assumption | decide +kernel) (by decide +kernel) ⟨rfl, rfl, rfl, rfl, rfl, by decide +kernel⟩ ?hw ?hc
  case hw => w_witness2
  case hc =>
    exact Pyi.walkG (l := PySem.Challenge.rw_swingrooms_k07_whole_bows_and_sterns) (n := 63) (k := 60) (M := K07.mo) (e := K07.e_law) rfl (by decide) (by kernel_rfl) ⟨⟨rfl, by decide, by decide⟩, rfl⟩ (by kernel_rfl) (by kernel_rfl) rfl K07.mo_ok (fun _ _ => Iff.rfl) K07.mo_binds K07.law_true
