import PyProof.Rows.All
import Wide.All
import OpenK.AllK
import Wide.FinOn
import HandS.ForMost
import HandS.ForExc
import HandS.Wide
import HandS.Style
import HandS.Lambda
import HandS.Star
import HandS.CallSlots
import HandS.ExcValue
import HandS.ExcIs
import HandS.IsInst
import HandS.NoneIn
import HandS.Zip
import HandS.Codes
import HandS.HeadHook1
import HandS.ExcInit
import HandS.Nested
import KE.KExcSuper
import KE.KDictZip
import KE.DataMinMax
import HandS.ExcOwn
import KE.KExcIs
import HandS.HeadWalk
import HandS.ExcField
import HandS.TupAny
import PyProof.ListMulAny
import PyProof.Rows.ListMulArg
import HandS.EndBits
import HandS.NestedK
import HandS.HeadHook4
import HandS.Head0
import HandS.Head1
import HandS.Head2
import PySem.Challenge.RW_stoppedso_k07_how_far_shares_are_apart
set_option Elab.async false
set_option linter.all false
set_option maxRecDepth 100000
set_option maxHeartbeats 0
set_option autoImplicit false
/-! Mi: a small language of one's own; values as trees, mutable things as numbered cells. -/
namespace Mi
open PySem (Str)

inductive Op where | add | sub | mul | fdiv | mod | pow
  deriving DecidableEq
inductive Cmp where | lt | le | gt | ge | eq | ne | is_ | isnot | in_ | notin
  deriving DecidableEq
inductive Blt where | len | abs | int | tuple | repr | min | max | sum | all | any
  deriving DecidableEq
inductive D where
  | non | bl (b : Bool) | int (i : Int) | str (s : Str) | tup (l : List D) | lst (l : List D) | fn (f : Nat)
  | exc (c : Nat) (fs : List (Str × D))
inductive W where | d (x : D) | ref (n : Nat)
abbrev Key := Sum Int Str
inductive Cell where | lst (ws : List W) | dct (kvs : List (Key × W)) | frz (d : D)
abbrev Store := List Cell
inductive Res (α : Type) where | ok (a : α) (st : Store) | exc (c : Nat) (fs : List (Str × D)) (st : Store) | stuck
def Res.bind {α β : Type} (r : Res α) (f : α → Store → Res β) : Res β := match r with
  | .ok a st => f a st
  | .exc c fs st => .exc c fs st
  | .stuck => .stuck
/-- nothing may be raised -/
def noexc {α : Type} (r : Res α) : Res α := match r with
  | .exc _ _ _ => .stuck
  | r => r
def Res.opt {α : Type} (o : Option α) (st : Store) : Res α := match o with
  | some a => .ok a st
  | none => .stuck

/-- the greatest length of a list or text -/
def sizeTop : Nat := 16777216
/-! ### the trees behind values -/
def rdW (st : Store) : Nat → W → Option D
  | k, .d x => some x
  | 0, .ref _ => none
  | k + 1, .ref n => match st[n]? with
    | some (.lst ws) => (ws.mapM (rdW st k)).map .lst
    | some (.frz d) => some d
    | _ => none
def rd (st : Store) (w : W) : Option D := rdW st st.length w
/-- frozen: a cell that is handed into something that does not change -/
def fzL (f : W → Store → Option (D × Store)) : List W → Store → Option (List D × Store)
  | [], st => some ([], st)
  | w :: ws, st => match f w st with
    | none => none
    | some (d, st1) => match fzL f ws st1 with
      | none => none
      | some (ds, st2) => some (d :: ds, st2)
def fzW : Nat → W → Store → Option (D × Store)
  | _, .d x, st => some (x, st)
  | 0, .ref _, _ => none
  | k + 1, .ref n, st => match st[n]? with
    | some (.frz d) => some (d, st)
    | some (.lst ws) => match fzL (fzW k) ws st with
      | none => none
      | some (ds, st1) => some (.lst ds, st1.set n (.frz (.lst ds)))
    | _ => none
def fz (w : W) (st : Store) : Res D := match fzW st.length w st with
  | some (d, st1) => .ok d st1
  | none => .stuck
def fzs (ws : List W) (st : Store) : Res (List D) := match fzL (fzW st.length) ws st with
  | some (ds, st1) => .ok ds st1
  | none => .stuck

/-! ### data as the library tells it -/
mutual
def toP : D → Option PySem.PyData
  | .non => some .none
  | .bl b => some (.bool b)
  | .int i => some (.int i)
  | .str s => some (.str s)
  | .tup l => match toPs l with | some ps => some (.tuple ps) | none => none
  | .lst l => match toPs l with | some ps => some (.list ps) | none => none
  | .fn _ => none
  | .exc _ _ => none
def toPs : List D → Option (List PySem.PyData)
  | [] => some []
  | d :: ds => match toP d, toPs ds with | some p, some ps => some (p :: ps) | _, _ => none
end
def pyEq (a b : D) : Option Bool := match toP a, toP b with
  | some p, some q => if PySem.SeqAt.shaped p && PySem.SeqAt.shaped q then some (PySem.PyData.eqv p q) else none
  | _, _ => none

/-! ### operations by value -/
def mulOk (i j : Int) : Bool := decide (i.natAbs.log2 + j.natAbs.log2 < 1000000)
def divOk (j : Int) : Bool := decide (j ≠ 0 ∧ j.natAbs.log2 < 9000)
def powOk (i j : Int) : Bool := decide (0 ≤ j ∧ j ≤ 1000000 ∧ i.natAbs < 2 ^ 64)
def small (n : Nat) : Bool := decide (n ≤ 1000000)
def opD : Op → D → D → Option D
  | .add, .int i, .int j => some (.int (i + j))
  | .sub, .int i, .int j => some (.int (i - j))
  | .mul, .int i, .int j => if mulOk i j then some (.int (i * j)) else none
  | .fdiv, .int i, .int j => if divOk j then some (.int (i.fdiv j)) else none
  | .mod, .int i, .int j => if j = 0 then none else some (.int (i.fmod j))
  | .pow, .int i, .int j => if powOk i j then some (.int (i ^ j.toNat)) else none
  | _, _, _ => none
def cmpI : Cmp → Int → Int → Option Bool
  | .lt, i, j => some (decide (i < j))
  | .le, i, j => some (decide (i ≤ j))
  | .gt, i, j => some (decide (j < i))
  | .ge, i, j => some (decide (j ≤ i))
  | _, _, _ => none
def opW (o : Op) (a b : W) (st : Store) : Res W := match a, b with
  | .d x, .d y => match opD o x y with | some z => .ok (.d z) st | none => .stuck
  | _, _ => .stuck
def eqW (neg : Bool) (a b : W) (st : Store) : Res W := match rd st a, rd st b with
  | some x, some y => match pyEq x y with | some k => .ok (.d (.bl (k != neg))) st | none => .stuck
  | _, _ => .stuck
def isNonW (a : W) : Bool := match a with | .d .non => true | _ => false
def isW2 (neg : Bool) (a b : W) (st : Store) : Res W := match b with
  | .d .non => .ok (.d (.bl (isNonW a != neg))) st
  | .d (.bl y) => match a with | .d (.bl x) => .ok (.d (.bl (decide (x = y) != neg))) st | _ => .stuck
  | _ => .stuck
def numW (o : Cmp) (a b : W) (st : Store) : Res W := match a, b with
  | .d (.int i), .d (.int j) => match cmpI o i j with | some k => .ok (.d (.bl k)) st | none => .stuck
  | _, _ => .stuck
def cmpW (o : Cmp) (a b : W) (st : Store) : Res W := match o with
  | .eq => eqW false a b st
  | .ne => eqW true a b st
  | .is_ => isW2 false a b st
  | .isnot => isW2 true a b st
  | o => numW o a b st
def negW (a : W) (st : Store) : Res W := match a with
  | .d (.int i) => .ok (.d (.int (-i))) st
  | _ => .stuck
def ixN (n : Nat) (i : Int) : Option Nat := if 0 ≤ i then (if i < n then some i.toNat else none) else if -(n : Int) ≤ i then some (i + n).toNat else none
def atI {α : Type} (xs : List α) (i : Int) : Option α := match ixN xs.length i with
  | some j => xs[j]?
  | none => none
def keyOf : W → Option Key
  | .d (.int i) => some (.inl i)
  | .d (.str s) => some (.inr s)
  | _ => none
def getK (kvs : List (Key × W)) (k : Key) : Option W := match kvs with
  | [] => none
  | (k', v) :: r => if k' = k then some v else getK r k
def putKey (kvs : List (Key × W)) (k : Key) (v : W) : List (Key × W) :=
  if (kvs.any fun kv => decide (kv.1 = k)) = true then kvs.map (fun kv => if kv.1 = k then (kv.1, v) else kv) else kvs ++ [(k, v)]
def idxW (a i : W) (st : Store) : Res W := match a, i with
  | .d (.tup l), .d (.int k) => match atI l k with | some x => .ok (.d x) st | none => .stuck
  | .d (.lst l), .d (.int k) => match atI l k with | some x => .ok (.d x) st | none => .stuck
  | .ref n, i => match st[n]? with
    | some (.lst ws) => match i with
      | .d (.int k) => match atI ws k with | some x => .ok x st | none => .stuck
      | _ => .stuck
    | some (.frz (.lst l)) => match i with
      | .d (.int k) => match atI l k with | some x => .ok (.d x) st | none => .stuck
      | _ => .stuck
    | some (.dct kvs) => match keyOf i with
      | some k => match getK kvs k with | some x => .ok x st | none => .stuck
      | none => .stuck
    | _ => .stuck
  | _, _ => .stuck
/-- a cell is told only of cells before it -/
def below (n : Nat) : W → Bool
  | .d _ => true
  | .ref k => decide (k < n)
def setW (a i v : W) (st : Store) : Option Store := match a with
  | .ref n => if below n v then match st[n]? with
    | some (.lst ws) => match i with
      | .d (.int k) => match ixN ws.length k with | some j => some (st.set n (.lst (ws.set j v))) | none => none
      | _ => none
    | some (.dct kvs) => match keyOf i with
      | some k => if small kvs.length then some (st.set n (.dct (putKey kvs k v))) else none
      | none => none
    | _ => none else none
  | _ => none
def appW (a v : W) (st : Store) : Option Store := match a with
  | .ref n => if below n v then match st[n]? with
    | some (.lst ws) => if small ws.length then some (st.set n (.lst (ws ++ [v]))) else none
    | _ => none else none
  | _ => none
/-- a cell is told only of what is before it: a later one is frozen -/
def lowW (a v : W) (st : Store) : Res W := match a with
  | .ref n => if below n v then .ok v st else (fz v st).bind fun x st1 => .ok (.d x) st1
  | _ => .ok v st
/-- a.pop(i) -/
def popW (a i : W) (st : Store) : Res W := match a, i with
  | .ref n, .d (.int k) => match st[n]? with
    | some (.lst ws) => match ixN ws.length k with
      | some j => match ws[j]? with
        | some x => if small ws.length then .ok x (st.set n (.lst (ws.eraseIdx j))) else .stuck
        | none => .stuck
      | none => .stuck
    | _ => .stuck
  | _, _ => .stuck
def truD : D → Option Bool
  | .non => some false
  | .bl b => some b
  | .int i => some (i != 0)
  | .tup l => some (!l.isEmpty)
  | .lst l => some (!l.isEmpty)
  | _ => none
def truW (a : W) (st : Store) : Res Bool := match a with
  | .d x => .opt (truD x) st
  | .ref n => match st[n]? with
    | some (.lst ws) => .ok (!ws.isEmpty) st
    | some (.frz (.lst l)) => .ok (!l.isEmpty) st
    | _ => .stuck
def lenW (a : W) (st : Store) : Res W := match a with
  | .d (.tup l) => .ok (.d (.int l.length)) st
  | .d (.lst l) => .ok (.d (.int l.length)) st
  | .ref n => match st[n]? with
    | some (.lst ws) => .ok (.d (.int ws.length)) st
    | some (.frz (.lst l)) => .ok (.d (.int l.length)) st
    | _ => .stuck
  | _ => .stuck
def showP (p : PySem.PyData) : Bool := PySem.SeqAt.shaped p && p.showable && decide (p.shown.length ≤ sizeTop)
/-- the items of a list or tuple as they stand -/
def itemsW (w : W) (st : Store) : Option (List W) := match w with
  | .d (.lst l) => some (l.map .d)
  | .d (.tup l) => some (l.map .d)
  | .ref n => match st[n]? with
    | some (.lst ws) => some ws
    | some (.frz (.lst l)) => some (l.map .d)
    | _ => none
  | _ => none
def lstW (w : W) (st : Store) : Option (List W) := match w with
  | .d (.lst l) => some (l.map .d)
  | .ref n => match st[n]? with
    | some (.lst ws) => some ws
    | some (.frz (.lst l)) => some (l.map .d)
    | _ => none
  | _ => none
def reprW (a : W) (st : Store) : Res W := match rd st a with
  | some x => match toP x with
    | some (.list ps) => if showP (.list ps) then .ok (.d (.str (PySem.PyData.list ps).shown)) st else .stuck
    | some (.tuple ps) => if showP (.tuple ps) then .ok (.d (.str (PySem.PyData.tuple ps).shown)) st else .stuck
    | _ => .stuck
  | none => .stuck
def len1 : List W → Store → Res W
  | [a], st => lenW a st
  | _, _ => .stuck
def abs1 : List W → Store → Res W
  | [.d (.int i)], st => .ok (.d (.int (if i < 0 then -i else i))) st
  | _, _ => .stuck
def int1 : List W → Store → Res W
  | [.d (.int i)], st => .ok (.d (.int i)) st
  | [.d (.bl b)], st => .ok (.d (.int (if b then 1 else 0))) st
  | _, _ => .stuck
def min2 : List W → Store → Res W
  | [.d (.int i), .d (.int j)], st => .ok (.d (.int (if j < i then j else i))) st
  | [.d (.tup [.int i, .int j])], st => .ok (.d (.int (if j < i then j else i))) st
  | _, _ => .stuck
def max2 : List W → Store → Res W
  | [.d (.int i), .d (.int j)], st => .ok (.d (.int (if j > i then j else i))) st
  | _, _ => .stuck
def repr1 : List W → Store → Res W
  | [a], st => reprW a st
  | _, _ => .stuck
def intW : W → Option Int
  | .d (.int i) => some i
  | _ => none
def blW : W → Option Bool
  | .d (.bl b) => some b
  | _ => none
def intsW : List W → Option (List Int)
  | [] => some []
  | w :: ws => match intW w, intsW ws with | some i, some is => some (i :: is) | _, _ => none
def blsW : List W → Option (List Bool)
  | [] => some []
  | w :: ws => match blW w, blsW ws with | some i, some is => some (i :: is) | _, _ => none
def sum1 : List W → Store → Res W
  | [a], st => match itemsW a st with
    | some ws => match intsW ws with | some ns => .ok (.d (.int ns.sum)) st | none => .stuck
    | none => .stuck
  | _, _ => .stuck
/-- all(list of True and False), any(..) -/
def all1 : List W → Store → Res W
  | [a], st => match lstW a st with
    | some ws => match blsW ws with | some bs => .ok (.d (.bl (bs.all id))) st | none => .stuck
    | none => .stuck
  | _, _ => .stuck
def any1 : List W → Store → Res W
  | [a], st => match lstW a st with
    | some ws => match blsW ws with | some bs => .ok (.d (.bl (bs.any id))) st | none => .stuck
    | none => .stuck
  | _, _ => .stuck
/-- a list or tuple as a tuple -/
def tuple1 : List W → Store → Res W
  | [a], st => match a with
    | .d (.tup l) => .ok (.d (.tup l)) st
    | a => match lstW a st with
      | some ws => if small ws.length then (fzs ws st).bind fun ds st1 => .ok (.d (.tup ds)) st1 else .stuck
      | none => .stuck
  | _, _ => .stuck
def bltW (b : Blt) (ws : List W) (st : Store) : Res W := match b with
  | .sum => sum1 ws st
  | .all => all1 ws st
  | .any => any1 ws st
  | .tuple => tuple1 ws st
  | .len => len1 ws st
  | .abs => abs1 ws st
  | .int => int1 ws st
  | .min => min2 ws st
  | .max => max2 ws st
  | .repr => repr1 ws st

/-! ### the texts -/
inductive Ty where | int | bool | tup | lst | str | exc (c : Nat)
  deriving DecidableEq
inductive Tg where | v (i : Nat) | t (l : List Tg)
mutual
inductive E where
  | var (i : Nat) | non | bl (b : Bool) | int (i : Int) | str (s : Str) | fnv (f : Nat)
  | op (o : Op) (a b : E) | neg (a : E)
  | cmp (o : Cmp) (a b : E) | chain (o o' : Cmp) (a b c : E)
  | bool (isAnd : Bool) (es : Es) | not (a : E) | ite (c a b : E)
  | tup (es : Es) | lst (cell : Bool) (es : Es) | dct (ks : List Key) (es : Es)
  | idx (a i : E) | call (f : Nat) (es : Es) | callk (f : Nat) (es ks : Es) (perm : List Nat) | callv (i : Nat) (es : Es)
  | blt (b : Blt) (es : Es) | lstOf (cell : Bool) (a : E) | comp (cell : Bool) (elt : E) (tg : Tg) (it : It) (cond : Es)
  | popm (a i : E) | caught (e : E) | isin (a : E) (ts : List Ty) | fld (a : E) (f : Str)
  | cat (cell : Bool) (a b : E) | rep (cell : Bool) (a b : E) | slc (a lo hi : E) | inn (neg : Bool) (a b : E) | stuck
inductive Es where | nil | cons (e : E) (es : Es) | star (e : E) (es : Es)
inductive It where | seq (e : E) | rng (es : Es) | zip (a b : E) | enum (a : E) | zipL (a b : E)
end
mutual
inductive S where
  | set (i : Nat) (e : E) | setT (tg : Tg) (e : E) | par (is : List Nat) (es : Es) | setIx (a i e : E)
  | app (a e : E) | expr (e : E) | ret (e : E) | retN | doc | brk | cont
  | ifs (c : E) (a b : Ss) | for_ (tg : Tg) (it : It) (b : Ss) | whl (c : E) (b : Ss)
  | raise (c : Nat) (es : Es) | stuck
inductive Ss where | nil | cons (s : S) (ss : Ss)
end
abbrev Env := List (Option W)
structure Def where
  np : Nat
  ns : Nat
  keep : Bool
  body : Ss
/-- what a text asks of around it: the defs by number, the turns of a while, which class lies below which, the fields of an exception's class -/
structure Ctx where
  call : Nat → List W → Store → Res W
  turns : Nat
  sub : Nat → Nat → Bool
  flds : Nat → List Str

/-! ### the meaning of expressions -/
def isTy : Ty → D → Bool
  | .int, .int _ => true
  | .int, .bl _ => true
  | .bool, .bl _ => true
  | .tup, .tup _ => true
  | .lst, .lst _ => true
  | .str, .str _ => true
  | _, _ => false
def plainTy : Ty → Bool
  | .exc _ => false
  | _ => true
def plainD : D → Bool
  | .fn _ => false
  | .exc _ _ => false
  | _ => true
def isW (C : Ctx) (ts : List Ty) (a : W) (st : Store) : Res W := match a with
  | .d (.exc c _) => match ts with
    | [.exc c'] => .ok (.d (.bl (C.sub c c'))) st
    | _ => .stuck
  | .d x => if plainD x && ts.all plainTy then .ok (.d (.bl (ts.any fun t => isTy t x))) st else .stuck
  | .ref n => match st[n]? with
    | some (.lst _) => if ts.all plainTy then .ok (.d (.bl (ts.any fun t => decide (t = .lst)))) st else .stuck
    | some (.frz (.lst _)) => if ts.all plainTy then .ok (.d (.bl (ts.any fun t => decide (t = .lst)))) st else .stuck
    | _ => .stuck
def fldW (f : Str) (a : W) (st : Store) : Res W := match a with
  | .d (.exc _ fs) => match fs.lookup f with | some x => .ok (.d x) st | none => .stuck
  | _ => .stuck
mutual
/-- a target takes a value -/
def asgT : Tg → W → Env → Store → Option Env
  | .v i, w, env, _ => some (env.set i (some w))
  | .t l, w, env, st => match w with
    | .d (.tup ds) => if ds.length = l.length then asgTs l (ds.map .d) env st else none
    | .d (.lst ds) => if ds.length = l.length then asgTs l (ds.map .d) env st else none
    | _ => none
def asgTs : List Tg → List W → Env → Store → Option Env
  | [], [], env, _ => some env
  | t :: ts, w :: ws, env, st => match asgT t w env st with
    | some env1 => asgTs ts ws env1 st
    | none => none
  | _, _, _, _ => none
end
def rngOk (i : Int) : Bool := decide (-(2 ^ 62) ≤ i ∧ i < 2 ^ 62)
/-- what is walked: items that stand, a cell of a length that stays, a range -/
inductive Sq where | dat (ws : List W) | cell (n len : Nat) | rng (lo : Int) (n : Nat)
inductive Src where | one (s : Sq) | zip (a b : Sq) | enum (s : Sq)
inductive Item where | one (w : W) | two (x y : W)
def Sq.len : Sq → Nat
  | .dat ws => ws.length
  | .cell _ l => l
  | .rng _ n => n
def Sq.at (st : Store) : Sq → Nat → Option W
  | .dat ws, i => ws[i]?
  | .rng lo n, i => if i < n then some (.d (.int (lo + i))) else none
  | .cell n l, i => match st[n]? with
    | some (.lst ws) => if ws.length = l then ws[i]? else none
    | some (.frz (.lst ds)) => if ds.length = l then (ds.map W.d)[i]? else none
    | _ => none
/-- still of the length with which the walk began -/
def Sq.over (st : Store) : Sq → Bool
  | .cell n l => match st[n]? with
    | some (.lst ws) => decide (ws.length = l)
    | some (.frz (.lst ds)) => decide (ds.length = l)
    | _ => false
  | _ => true
def pairI : W → W → Item
  | .d x, .d y => .one (.d (.tup [x, y]))
  | x, y => .two x y
def Src.len : Src → Nat
  | .one s => s.len
  | .zip a b => min a.len b.len
  | .enum s => s.len
def Src.at : Src → Nat → Store → Option Item
  | .one s, i, st => match s.at st i with | some w => some (.one w) | none => none
  | .zip a b, i, st => match a.at st i, b.at st i with | some x, some y => some (pairI x y) | _, _ => none
  | .enum s, i, st => match s.at st i with | some w => some (pairI (.d (.int i)) w) | none => none
def Src.over : Src → Store → Bool
  | .one s, st => s.over st
  | .zip a b, st => a.over st && b.over st
  | .enum s, st => s.over st
def sqW (w : W) (st : Store) : Res Sq := match w with
  | .d (.lst l) => .ok (.dat (l.map .d)) st
  | .d (.tup l) => .ok (.dat (l.map .d)) st
  | .ref n => match st[n]? with
    | some (.lst ws) => .ok (.cell n ws.length) st
    | some (.frz (.lst l)) => .ok (.dat (l.map .d)) st
    | _ => .stuck
  | _ => .stuck
/-- a list (true), a tuple (false) -/
def sqK (w : W) (st : Store) : Option Bool := match w with
  | .d (.lst _) => some true
  | .d (.tup _) => some false
  | .ref n => match st[n]? with
    | some (.lst _) => some true
    | some (.frz (.lst _)) => some true
    | _ => none
  | _ => none
def rngW : List W → Store → Res Sq
  | [.d (.int n)], st => if rngOk n then .ok (.rng 0 n.toNat) st else .stuck
  | [.d (.int a), .d (.int b)], st => if rngOk a && rngOk b then .ok (.rng a (b - a).toNat) st else .stuck
  | _, _ => .stuck
mutual
def tgVars : Tg → List Nat
  | .v i => [i]
  | .t l => tgsVars l
def tgsVars : List Tg → List Nat
  | [] => []
  | t :: ts => tgVars t ++ tgsVars ts
end
def wipeE (env : Env) : List Nat → Env
  | [] => env
  | v :: vs => (wipeE env vs).set v none
def asgI : Tg → Item → Env → Store → Option Env
  | tg, .one w, env, st => asgT tg w env st
  | .t [a, b], .two x y, env, st => match asgT a x env st with
    | some env1 => asgT b y env1 st
    | none => none
  | _, _, _, _ => none
/-- the turns of a comprehension: f gives a turn's item, if it is kept -/
def comps (look : Nat → Store → Option Item) (over : Store → Bool) (f : Item → Store → Res (Option W)) : Nat → Nat → List W → Store → Res (List W)
  | 0, _, acc, st => if over st then .ok acc st else .stuck
  | n + 1, i, acc, st => match look i st with
    | none => .stuck
    | some x => (f x st).bind fun o st1 => match o with
      | some y => if small acc.length then comps look over f n (i + 1) (acc ++ [y]) st1 else .stuck
      | none => comps look over f n (i + 1) acc st1
/-- a list is done: a cell of its own, or frozen -/
def mkLst (cell : Bool) (ws : List W) (st : Store) : Res W :=
  if small ws.length then (if cell then .ok (.ref st.length) (st ++ [.lst ws]) else (fzs ws st).bind fun ds st1 => .ok (.d (.lst ds)) st1) else .stuck
def mkTup (ws : List W) (st : Store) : Res W := if small ws.length then (fzs ws st).bind fun ds st1 => .ok (.d (.tup ds)) st1 else .stuck
def mkDct (ks : List Key) (ws : List W) (st : Store) : Res W :=
  if ks.length = ws.length ∧ 0 < ks.length ∧ ks.length ≤ 15 then .ok (.ref st.length) (st ++ [.dct ((ks.zip ws).foldl (fun acc p => putKey acc p.1 p.2) [])]) else .stuck
/-- a turn of a comprehension -/
def keepOf (cell : Bool) (y : W) (st : Store) : Res (Option W) := if cell then .ok (some y) st else (fz y st).bind fun x s3 => .ok (some (.d x)) s3
def turnOf (cell : Bool) (asg : Item → Store → Option Env) (cond : Env → Store → Res Bool) (elt : Env → Store → Res W) (w : Item) (st : Store) : Res (Option W) := match asg w st with
  | none => .stuck
  | some env1 => noexc ((cond env1 st).bind fun k s1 => if k then (elt env1 s1).bind (keepOf cell) else .ok none s1)
def catW (cell : Bool) (a b : W) (st : Store) : Res W := match lstW a st, lstW b st with
  | some xs, some ys => mkLst cell (xs ++ ys) st
  | _, _ => match a, b with
    | .d (.tup xs), .d (.tup ys) => if small (xs.length + ys.length) then .ok (.d (.tup (xs ++ ys))) st else .stuck
    | _, _ => .stuck
def repOk (k : Int) : Bool := decide (-1000000 ≤ k ∧ k ≤ 1000000)
def repW (cell : Bool) (a b : W) (st : Store) : Res W := match lstW a st, b with
  | some xs, .d (.int k) => if repOk k then mkLst cell (List.replicate k.toNat xs).flatten st else .stuck
  | _, _ => .stuck
def inL (x : D) : List D → Option Bool
  | [] => some false
  | y :: ys => match pyEq x y with
    | none => none
    | some true => some true
    | some false => inL x ys
def rdL (st : Store) (w : W) : Option (List D) := match rd st w with
  | some (.lst l) => some l
  | some (.tup l) => some l
  | _ => none
def innW (neg : Bool) (a b : W) (st : Store) : Res W := match rd st a, rdL st b with
  | some x, some l => match inL x l with | some k => .ok (.d (.bl (k != neg))) st | none => .stuck
  | _, _ => .stuck
/-- the bounds of a slice: a number, or nothing -/
def partW (none? : Bool) (w : W) : Option (Option Int) := if none? then some none else match w with
  | .d (.int i) => some (some i)
  | _ => none
def cutAt (n dflt : Nat) : Option Int → Nat
  | none => dflt
  | some v => if v < 0 then (v + (n : Int)).toNat else min v.toNat n
def cutD {α : Type} (l : List α) (i j : Option Int) : List α := (l.drop (cutAt l.length 0 i)).take (cutAt l.length l.length j - cutAt l.length 0 i)
def slcW (a : W) (i j : Option Int) (st : Store) : Res W := match a with
  | .d (.tup l) => .ok (.d (.tup (cutD l i j))) st
  | _ => .stuck
def E.isNon : E → Bool
  | .non => true
  | _ => false
def permW (p : List Nat) (ws : List W) : Option (List W) := if p.length = ws.length then p.mapM fun i => ws[i]? else none
mutual
def evE (C : Ctx) : E → Env → Store → Res W
  | .var i, env, st => match env[i]? with | some (some w) => .ok w st | _ => .stuck
  | .non, _, st => .ok (.d .non) st
  | .bl b, _, st => .ok (.d (.bl b)) st
  | .int i, _, st => .ok (.d (.int i)) st
  | .str s, _, st => .ok (.d (.str s)) st
  | .fnv f, _, st => .ok (.d (.fn f)) st
  | .op o a b, env, st => (evE C a env st).bind fun x st1 => (evE C b env st1).bind fun y st2 => opW o x y st2
  | .neg a, env, st => (evE C a env st).bind negW
  | .cmp o a b, env, st => (evE C a env st).bind fun x st1 => (evE C b env st1).bind fun y st2 => cmpW o x y st2
  | .chain o o' a b c, env, st => (evE C a env st).bind fun x st1 => (evE C b env st1).bind fun y st2 => (cmpW o x y st2).bind fun z st3 => match z with
    | .d (.bl true) => (evE C c env st3).bind fun u st4 => cmpW o' y u st4
    | .d (.bl false) => .ok (.d (.bl false)) st3
    | _ => .stuck
  | .bool k es, env, st => evB C k es env st
  | .not a, env, st => (evE C a env st).bind fun x st1 => match x with | .d (.bl b) => .ok (.d (.bl (!b))) st1 | _ => .stuck
  | .ite c a b, env, st => (evT C c env st).bind fun k st1 => if k then evE C a env st1 else evE C b env st1
  | .tup es, env, st => (evEs C es env st).bind mkTup
  | .lst cell es, env, st => (evEs C es env st).bind (mkLst cell)
  | .dct ks es, env, st => (evEs C es env st).bind (mkDct ks)
  | .idx a i, env, st => (evE C a env st).bind fun x st1 => (evE C i env st1).bind fun y st2 => idxW x y st2
  | .call f es, env, st => (evEs C es env st).bind (C.call f)
  | .callk f es ks p, env, st => (evEs C es env st).bind fun ws st1 => (evEs C ks env st1).bind fun us st2 => match permW p (ws ++ us) with
    | some vs => C.call f vs st2
    | none => .stuck
  | .callv i es, env, st => match env[i]? with
    | some (some (.d (.fn f))) => (evEs C es env st).bind (C.call f)
    | _ => .stuck
  | .blt b es, env, st => (evEs C es env st).bind (bltW b)
  | .lstOf cell a, env, st => (evE C a env st).bind fun x st1 => match itemsW x st1 with
    | some ws => mkLst cell ws st1
    | none => .stuck
  | .comp cell elt tg it cond, env, st => (evI C it env st).bind fun src st1 =>
      (comps src.at src.over (turnOf cell (fun w s => asgI tg w (wipeE env (tgVars tg)) s) (evC C cond) (evE C elt)) src.len 0 [] st1).bind (mkLst cell)
  | .cat cell a b, env, st => (evE C a env st).bind fun x st1 => (evE C b env st1).bind fun y st2 => catW cell x y st2
  | .rep cell a b, env, st => (evE C a env st).bind fun x st1 => (evE C b env st1).bind fun y st2 => repW cell x y st2
  | .inn k a b, env, st => (evE C a env st).bind fun x st1 => (evE C b env st1).bind fun y st2 => innW k x y st2
  | .slc a i j, env, st => (evE C a env st).bind fun x st1 => (evE C i env st1).bind fun y st2 => match partW i.isNon y with
    | none => .stuck
    | some lo => (evE C j env st2).bind fun z st3 => match partW j.isNon z with
      | none => .stuck
      | some hi => slcW x lo hi st3
  | .popm a i, env, st => (evE C a env st).bind fun x st1 => if (lstW x st1).isSome then (evE C i env st1).bind fun y st2 => popW x y st2 else .stuck
  | .caught e, env, st => match evE C e env st with
    | .ok _ st1 => .ok (.d .non) st1
    | .exc c fs st1 => if C.sub c 0 then .ok (.d (.exc c fs)) st1 else .stuck
    | .stuck => .stuck
  | .isin a ts, env, st => (evE C a env st).bind (isW C ts)
  | .fld a f, env, st => (evE C a env st).bind (fldW f)
  | .stuck, _, _ => .stuck
/-- and, or by value: True or False but for the last -/
def evB (C : Ctx) (k : Bool) : Es → Env → Store → Res W
  | .nil, _, _ => .stuck
  | .star _ _, _, _ => .stuck
  | .cons e es, env, st => match es with
    | .nil => evE C e env st
    | .star _ _ => .stuck
    | .cons _ _ => (evE C e env st).bind fun x st1 => match x with
      | .d (.bl b) => if b = k then evB C k es env st1 else .ok (.d (.bl b)) st1
      | _ => .stuck
def evT (C : Ctx) : E → Env → Store → Res Bool
  | .bool k es, env, st => evTs C k es env st
  | .not a, env, st => (evT C a env st).bind fun b st1 => .ok (!b) st1
  | .var i, env, st => match env[i]? with | some (some w) => truW w st | _ => .stuck
  | .non, _, st => .stuck
  | .bl b, _, st => .ok b st
  | .int i, _, st => .stuck
  | .str s, _, st => .stuck
  | .fnv f, _, st => .stuck
  | .op o a b, env, st => (evE C a env st).bind fun x st1 => (evE C b env st1).bind fun y st2 => (opW o x y st2).bind truW
  | .neg a, env, st => .stuck
  | .cmp o a b, env, st => (evE C a env st).bind fun x st1 => (evE C b env st1).bind fun y st2 => (cmpW o x y st2).bind truW
  | .chain o o' a b c, env, st => (evE C a env st).bind fun x st1 => (evE C b env st1).bind fun y st2 => (cmpW o x y st2).bind fun z st3 => match z with
    | .d (.bl true) => (evE C c env st3).bind fun u st4 => (cmpW o' y u st4).bind truW
    | .d (.bl false) => .ok false st3
    | _ => .stuck
  | .ite _ _ _, _, _ => .stuck
  | .tup _, _, _ => .stuck
  | .lst _ _, _, _ => .stuck
  | .dct _ _, _, _ => .stuck
  | .idx a i, env, st => (evE C a env st).bind fun x st1 => (evE C i env st1).bind fun y st2 => (idxW x y st2).bind truW
  | .call f es, env, st => ((evEs C es env st).bind (C.call f)).bind truW
  | .callk f es ks p, env, st => ((evEs C es env st).bind fun ws st1 => (evEs C ks env st1).bind fun us st2 => match permW p (ws ++ us) with
    | some vs => C.call f vs st2
    | none => .stuck).bind truW
  | .callv _ _, _, _ => .stuck
  | .blt b es, env, st => ((evEs C es env st).bind (bltW b)).bind truW
  | .comp _ _ _ _ _, _, _ => .stuck
  | .popm _ _, _, _ => .stuck
  | .caught _, _, _ => .stuck
  | .isin a ts, env, st => ((evE C a env st).bind (isW C ts)).bind truW
  | .fld _ _, _, _ => .stuck
  | .stuck, _, _ => .stuck
  | .lstOf _ _, _, _ => .stuck
  | .cat _ _ _, _, _ => .stuck
  | .rep _ _ _, _, _ => .stuck
  | .slc _ _ _, _, _ => .stuck
  | .inn k a b, env, st => ((evE C a env st).bind fun x st1 => (evE C b env st1).bind fun y st2 => innW k x y st2).bind truW
def evTs (C : Ctx) (k : Bool) : Es → Env → Store → Res Bool
  | .nil, _, _ => .stuck
  | .star _ _, _, _ => .stuck
  | .cons e es, env, st => match es with
    | .nil => evT C e env st
    | .star _ _ => .stuck
    | .cons _ _ => (evT C e env st).bind fun b st1 => if b = k then evTs C k es env st1 else .ok b st1
/-- no test, or one -/
def evC (C : Ctx) : Es → Env → Store → Res Bool
  | .nil, _, st => .ok true st
  | .star _ _, _, _ => .stuck
  | .cons e es, env, st => match es with
    | .nil => evT C e env st
    | .star _ _ => .stuck
    | .cons _ _ => .stuck
def evEs (C : Ctx) : Es → Env → Store → Res (List W)
  | .nil, _, st => .ok [] st
  | .cons e es, env, st => (evE C e env st).bind fun w st1 => (evEs C es env st1).bind fun ws st2 => .ok (w :: ws) st2
  | .star e es, env, st => (evE C e env st).bind fun w st1 => match itemsW w st1 with
    | some us => (evEs C es env st1).bind fun ws st2 => .ok (us ++ ws) st2
    | none => .stuck
def evI (C : Ctx) : It → Env → Store → Res Src
  | .seq e, env, st => (evE C e env st).bind fun w st1 => (sqW w st1).bind fun q st2 => .ok (.one q) st2
  | .rng es, env, st => (evEs C es env st).bind fun ws st1 => (rngW ws st1).bind fun q st2 => .ok (.one q) st2
  | .zip a b, env, st => (evE C a env st).bind fun x st1 => (evE C b env st1).bind fun y st2 => if sqK x st2 = sqK y st2 then (sqW x st2).bind fun p st3 => (sqW y st3).bind fun q st4 => .ok (.zip p q) st4 else .stuck
  | .enum a, env, st => (evE C a env st).bind fun x st1 => if sqK x st1 = some true then (sqW x st1).bind fun q st2 => .ok (.enum q) st2 else .stuck
  | .zipL a b, env, st => (evE C a env st).bind fun x st1 => (evE C b env st1).bind fun y st2 => if sqK x st2 = some true ∧ sqK y st2 = some true then (sqW x st2).bind fun p st3 => (sqW y st3).bind fun q st4 => .ok (.zip p q) st4 else .stuck
end

/-! ### the meaning of statements -/
inductive Out where | nx (env : Env) | ret (w : W) | bk (env : Env) | ct (env : Env)
inductive RS where | ok (o : Out) (st : Store) | exc (c : Nat) (fs : List (Str × D)) (env : Env) (st : Store) | stuck
def Res.then {α : Type} (r : Res α) (env : Env) (f : α → Store → RS) : RS := match r with
  | .ok a st => f a st
  | .exc c fs st => .exc c fs env st
  | .stuck => .stuck
def RS.then (r : RS) (f : Env → Store → RS) : RS := match r with
  | .ok (.nx env) st => f env st
  | r => r
def parSet : List Nat → List W → Env → Env
  | i :: is, w :: ws, env => parSet is ws (env.set i (some w))
  | _, _, env => env
def fors (look : Nat → Store → Option Item) (over : Store → Bool) (f : Item → Env → Store → RS) : Nat → Nat → Env → Store → RS
  | 0, _, env, st => if over st then .ok (.nx env) st else .stuck
  | n + 1, i, env, st => match look i st with
    | none => .stuck
    | some x => match f x env st with
      | .ok (.nx env1) st1 => fors look over f n (i + 1) env1 st1
      | .ok (.ct env1) st1 => fors look over f n (i + 1) env1 st1
      | .ok (.bk env1) st1 => .ok (.nx env1) st1
      | .ok (.ret x) st1 => .ok (.ret x) st1
      | .exc c fs env1 st1 => .exc c fs env1 st1
      | .stuck => .stuck
def whls (c : Env → Store → Res Bool) (f : Env → Store → RS) : Nat → Env → Store → RS
  | 0, _, _ => .stuck
  | n + 1, env, st => (c env st).then env fun b st1 => if b then match f env st1 with
    | .ok (.nx env1) st2 => whls c f n env1 st2
    | .ok (.ct env1) st2 => whls c f n env1 st2
    | .ok (.bk env1) st2 => .ok (.nx env1) st2
    | .ok (.ret x) st2 => .ok (.ret x) st2
    | .exc c fs env1 st2 => .exc c fs env1 st2
    | .stuck => .stuck
    else .ok (.nx env) st1
mutual
def evS (C : Ctx) : S → Env → Store → RS
  | .set i e, env, st => (evE C e env st).then env fun w st1 => .ok (.nx (env.set i (some w))) st1
  | .setT tg e, env, st => (evE C e env st).then env fun w st1 => match asgT tg w env st1 with
    | some env1 => .ok (.nx env1) st1
    | none => .stuck
  | .par is es, env, st => (evEs C es env st).then env fun ws st1 => .ok (.nx (parSet is ws env)) st1
  | .setIx a i e, env, st => (evE C e env st).then env fun v st1 => (evE C a env st1).then env fun x st2 => (evE C i env st2).then env fun y st3 => (lowW x v st3).then env fun v st3 => match setW x y v st3 with
    | some st4 => .ok (.nx env) st4
    | none => .stuck
  | .app a e, env, st => (evE C a env st).then env fun x st1 => if (lstW x st1).isSome then (evE C e env st1).then env fun v st2 => (lowW x v st2).then env fun v st2 => match appW x v st2 with
    | some st3 => .ok (.nx env) st3
    | none => .stuck
    else .stuck
  | .expr e, env, st => (evE C e env st).then env fun _ st1 => .ok (.nx env) st1
  | .ret e, env, st => (evE C e env st).then env fun w st1 => .ok (.ret w) st1
  | .retN, _, st => .ok (.ret (.d .non)) st
  | .stuck, _, _ => .stuck
  | .doc, env, st => .ok (.nx env) st
  | .brk, env, st => .ok (.bk env) st
  | .cont, env, st => .ok (.ct env) st
  | .ifs c a b, env, st => (evT C c env st).then env fun k st1 => if k then evSs C a env st1 else evSs C b env st1
  | .for_ tg it b, env, st => (evI C it env st).then env fun src st1 => fors src.at src.over (fun w env s => match asgI tg w env s with
      | some env1 => evSs C b env1 s
      | none => .stuck) src.len 0 env st1
  | .whl c b, env, st => whls (evT C c) (evSs C b) C.turns env st
  | .raise c es, env, st => (evEs C es env st).then env fun ws st1 => (fzs ws st1).then env fun ds st2 => .exc c ((C.flds c).zip ds) env st2
def evSs (C : Ctx) : Ss → Env → Store → RS
  | .nil, env, st => .ok (.nx env) st
  | .cons s ss, env, st => (evS C s env st).then fun env1 st1 => evSs C ss env1 st1
end
/-- what a def hands back: a cell of its own is frozen, its cells are forgotten, but where keep is said -/
def handed (keep : Bool) (base : Nat) (w : W) (st : Store) : Res W := if keep then .ok w st else match w with
  | .d x => .ok (.d x) (st.take base)
  | .ref n => if n < base then .ok (.ref n) (st.take base) else (fz w st).bind fun x st1 => .ok (.d x) (st1.take base)
def start (f : Def) (ws : List W) : Env := ws.map some ++ List.replicate (f.ns - ws.length) none
def runD (C : Ctx) (f : Def) (ws : List W) (st : Store) : Res W :=
  if ws.length = f.np then match evSs C f.body (start f ws) st with
    | .ok (.ret w) st1 => handed f.keep st.length w st1
    | .ok (.nx _) st1 => handed f.keep st.length (.d .non) st1
    | .exc c fs _ st1 => .exc c fs (st1.take st.length)
    | _ => .stuck
  else .stuck
structure Prog where
  defs : Nat → Option Def
  turns : Nat
  sub : Nat → Nat → Bool
  flds : Nat → List Str
/-- n: how deep defs may call one another -/
def callD (P : Prog) : Nat → Nat → List W → Store → Res W
  | 0, _, _, _ => .stuck
  | n + 1, f, ws, st => match P.defs f with
    | some d => runD ⟨callD P n, P.turns, P.sub, P.flds⟩ d ws st
    | none => .stuck
end Mi
namespace Mi
open PySem PySem.Spec PyProof.Rows L2
/-! ### zip whose turns go to one name: the pair that was given out stays out, or is gone -/
section
variable {prog : Program} {w : World} {A : Around} {E : Value → Shared → Prop} {s : Shared}
theorem no_more {a : Addr} {Q : Option Obj → Shared → Prop} (ho : s.heap.get? a = none) (h : Q none s) : wpAny (model prog w) A (loadIfAlive a) Q E s := by
  have h' : Q (s.heap.get? a) s := by rw [ho]; exact h
  exact fun _ _ _ => h'
/-- the zip takes its pair again: none is out, or what was out is gone -/
def FreeZ (prog : Program) (w : World) (A : Around) (E : Value → Shared → Prop) (s : Shared) (z : Addr) : Prop :=
  ∀ Q : Bool → Shared → Prop, Q true s → wpAny (model prog w) A (Builtin.SmallTypes.ownedTupleIsFree (.ref z)) Q E s
theorem free_gone {z TI TO T : Addr} {f : Bool} (hz : IsZipHeld s.heap z TI TO T f) (hT : s.heap.get? T = none) : FreeZ prog w A E s z := fun Q q => by
  unfold Builtin.SmallTypes.ownedTupleIsFree
  refine wpAny_bind (wpAny_field hz rfl (x := rawInt T) rfl ?_)
  show wpAny _ _ (loadIfAlive ((T : Int).toNat) >>= _) _ _ _
  rw [Int.toNat_natCast]
  exact wpAny_bind (no_more hT (wpAny_pure q))
/-- a zip, whatever stands in its first two places -/
abbrev ZipOf (h : Heap) (z TI TO : Addr) (c0 c1 : Value) : Prop :=
  h.get? z = some { cls := .type "zip", dict := none, data := .fields #[c0, c1, .bool false, .ref TI, .ref TO], slots := #[] }
theorem gone_item {z TI TO i1 i2 l1 l2 : Addr} {c0 c1 : Value} {m1 m2 : Nat} {us vs : Array Value} {u v a b : Value} {Q : Value → Shared → Prop} (D : ZipApart z TI TO i1 i2 l1 l2) (fr : FreeZ prog w A E s z)
    (hz : ZipOf s.heap z TI TO c0 c1) (hi : IsPair s.heap TI (.ref i1) (.ref i2)) (ho : IsPair s.heap TO a b)
    (w1 : s.heap.IsListIter i1 l1 m1) (w2 : s.heap.IsListIter i2 l2 m2) (q1 : s.heap.IsList l1 us) (q2 : s.heap.IsList l2 vs) (hu : us[m1]? = some u) (hv : vs[m2]? = some v)
    (hQ : ∀ k, IsZipHeld k z TI TO s.heap.objs.size false → IsPair k TO u v → k.IsListIter i1 l1 (m1 + 1) → k.IsListIter i2 l2 (m2 + 1) → IsPair k s.heap.objs.size u v → k.objs.size = s.heap.objs.size + 1 →
      (∀ c o, c ≠ z → c ≠ TO → c ≠ i1 → c ≠ i2 → s.heap.get? c = some o → k.get? c = some o) → Q (.ref s.heap.objs.size) { s with heap := k }) :
    wpAny (model prog w) A (Builtin.«zip.__next__» ⟨[.ref z], []⟩) (fun r s1 => ∃ x, r = .done (.ret x) ∧ Q x s1) E s := by
  show wpAny _ _ (field (.ref z) 2 >>= _) _ _ _
  refine wpAny_bind (wpAny_field hz rfl (x := .bool false) rfl ?_)
  show wpAny _ _ (field (.ref z) 3 >>= _) _ _ _
  refine wpAny_bind (wpAny_field hz rfl (x := .ref TI) rfl (wpAny_bind (wpAny_seqItems hi rfl ?_)))
  show wpAny _ _ (Builtin.SmallTypes.ownedTupleIsFree (.ref z) >>= _) _ _ _
  refine wpAny_bind (fr _ ?_)
  simp only [if_true]
  refine wpAny_bind (wpAny_rule (wpAny_bind (wpAny_field hz rfl (x := .ref TO) rfl (wpAny_bind (wpAny_setField_rec hz (by simp) fun k1 z1 b1 => ?_)))))
  replace z1 : ZipOf k1 z TI TO .ellipsis c1 := z1
  refine wpAny_bind ?_
  simp only [List.zipIdx_cons, List.zipIdx_nil, List.forIn_cons, List.forIn_nil]
  refine wpAny_bind (wpAny_bind (wpAny_onRaise ?_))
  show wpAny _ _ (Builtin.SmallTypes.nextOf (.ref i1) >>= _) _ _ _
  refine wpAny_bind (wpAny_nextOf_list_item (w1.extBut b1.extBut D.i1z) (q1.extBut b1.extBut D.l1z) hu fun k2 v1 b2 => wpAny_pure ?_)
  have o2 : IsPair k2 TO a b := b2.extBut _ _ D.TOi1 (b1.extBut _ _ D.TOz ho)
  refine wpAny_bind (wpAny_seqItems o2 rfl (wpAny_bind (wpAny_updateSeq_pair o2 fun k3 o3 b3 => ?_)))
  replace o3 : IsPair k3 TO u b := o3
  refine wpAny_bind (wpAny_letGo (wpAny_pure (wpAny_bind (wpAny_bind (wpAny_onRaise ?_)))))
  show wpAny _ _ (Builtin.SmallTypes.nextOf (.ref i2) >>= _) _ _ _
  have w2' : k3.IsListIter i2 l2 m2 := ((w2.extBut b1.extBut D.i2z).extBut b2.extBut D.i12.symm).extBut b3.extBut D.TOi2.symm
  have q2' : k3.IsList l2 vs := ((q2.extBut b1.extBut D.l2z).extBut b2.extBut D.l2i1).extBut b3.extBut D.l2TO
  refine wpAny_bind (wpAny_nextOf_list_item w2' q2' hv fun k4 v2 b4 => wpAny_pure ?_)
  have o4 : IsPair k4 TO u b := b4.extBut _ _ D.TOi2 o3
  refine wpAny_bind (wpAny_seqItems o4 rfl (wpAny_bind (wpAny_updateSeq_pair o4 fun k5 o5 b5 => ?_)))
  replace o5 : IsPair k5 TO u v := o5
  refine wpAny_bind (wpAny_letGo (wpAny_pure (wpAny_pure ?_)))
  refine wpAny_bind (wpAny_seqItems o5 rfl (wpAny_bind (wpAny_newTuple ?_)))
  have len : k5.objs.size = s.heap.objs.size := by rw [b5.1, b4.1, b3.1, b2.1, b1.1]
  have z5 : ZipOf k5 z TI TO .ellipsis c1 := b5.extBut _ _ D.TOz.symm (b4.extBut _ _ D.i2z.symm (b3.extBut _ _ D.TOz.symm (b2.extBut _ _ D.i1z.symm z1)))
  have old : ∀ c o, c ≠ z → c ≠ TO → c ≠ i1 → c ≠ i2 → s.heap.get? c = some o → k5.get? c = some o := fun c o n1 n2 n3 n4 e =>
    b5.extBut _ _ n2 (b4.extBut _ _ n4 (b3.extBut _ _ n2 (b2.extBut _ _ n3 (b1.extBut _ _ n1 e))))
  have v1' : k5.IsListIter i1 l1 (m1 + 1) := ((v1.extBut b3.extBut D.TOi1.symm).extBut b4.extBut D.i12).extBut b5.extBut D.TOi1.symm
  have v2' : k5.IsListIter i2 l2 (m2 + 1) := v2.extBut b5.extBut D.TOi2.symm
  have lz : z < k5.objs.size := Heap.lt_size z5
  show wpAny _ _ (Builtin.SmallTypes.ownedTupleHandOut (.ref z) (.ref k5.objs.size) >>= _) _ _ _
  refine wpAny_bind ?_
  unfold Builtin.SmallTypes.ownedTupleHandOut
  have z6 : ZipOf (k5.push { cls := .type "tuple", data := .seq #[u, v] }) z TI TO .ellipsis c1 := Heap.get?_push_of_some _ z5
  refine wpAny_bind (wpAny_setField_rec z6 (by simp) fun k7 z7 b7 => ?_)
  replace z7 : ZipOf k7 z TI TO (rawInt k5.objs.size) c1 := z7
  refine wpAny_setField_rec z7 (by simp) fun k8 z8 b8 => ?_
  replace z8 : IsZipHeld k8 z TI TO k5.objs.size false := z8
  have up : ∀ c o, c ≠ z → k5.get? c = some o → k8.get? c = some o := fun c o n1 e => b8.extBut _ _ n1 (b7.extBut _ _ n1 (Heap.get?_push_of_some _ e))
  have t8 : IsPair k8 k5.objs.size u v := b8.extBut _ _ (Nat.ne_of_gt lz) (b7.extBut _ _ (Nat.ne_of_gt lz) (Heap.get?_push_size _ rfl))
  have len8 : k8.objs.size = k5.objs.size + 1 := by rw [b8.1, b7.1, Heap.size_push]
  rw [len] at z8 t8 len8
  refine wpAny_pure ⟨_, rfl, ?_⟩
  show Q (.ref k5.objs.size) _
  rw [len]
  exact hQ k8 z8 (up _ _ D.TOz o5) (v1'.at fun o e => up _ o D.i1z e) (v2'.at fun o e => up _ o D.i2z e) t8 len8 fun c o n1 n2 n3 n4 e => up c o n1 (old c o n1 n2 n3 n4 e)
theorem gone_end {z TI TO i1 i2 l1 l2 : Addr} {c0 c1 : Value} {m1 m2 : Nat} {us vs : Array Value} {a b : Value} {Q : Fin → Shared → Prop} (hh : A.handled = none) (D : ZipApart z TI TO i1 i2 l1 l2) (fr : FreeZ prog w A E s z)
    (hz : ZipOf s.heap z TI TO c0 c1) (hi : IsPair s.heap TI (.ref i1) (.ref i2)) (ho : IsPair s.heap TO a b)
    (w1 : s.heap.IsListIter i1 l1 m1) (w2 : s.heap.IsListIter i2 l2 m2) (q1 : s.heap.IsList l1 us) (q2 : s.heap.IsList l2 vs) (he : us[m1]? = none ∨ vs[m2]? = none)
    (hE : ∀ k e, (∀ c o, c ≠ z → c ≠ TO → c ≠ i1 → c ≠ i2 → s.heap.get? c = some o → k.get? c = some o) → (∃ o, k.get? e = some o ∧ o.cls = .type "StopIteration") → E (.ref e) { s with heap := k }) :
    wpAny (model prog w) A (Builtin.«zip.__next__» ⟨[.ref z], []⟩) Q E s := by
  show wpAny _ _ (field (.ref z) 2 >>= _) _ _ _
  refine wpAny_bind (wpAny_field hz rfl (x := .bool false) rfl ?_)
  show wpAny _ _ (field (.ref z) 3 >>= _) _ _ _
  refine wpAny_bind (wpAny_field hz rfl (x := .ref TI) rfl (wpAny_bind (wpAny_seqItems hi rfl ?_)))
  show wpAny _ _ (Builtin.SmallTypes.ownedTupleIsFree (.ref z) >>= _) _ _ _
  refine wpAny_bind (fr _ ?_)
  simp only [if_true]
  refine wpAny_bind (wpAny_rule (wpAny_bind (wpAny_field hz rfl (x := .ref TO) rfl (wpAny_bind (wpAny_setField_rec hz (by simp) fun k1 z1 b1 => ?_)))))
  replace z1 : ZipOf k1 z TI TO .ellipsis c1 := z1
  refine wpAny_bind ?_
  simp only [List.zipIdx_cons, List.zipIdx_nil, List.forIn_cons, List.forIn_nil]
  refine wpAny_bind (wpAny_bind (wpAny_onRaise ?_))
  show wpAny _ _ (Builtin.SmallTypes.nextOf (.ref i1) >>= _) _ _ _
  have w1' : k1.IsListIter i1 l1 m1 := w1.extBut b1.extBut D.i1z
  have q1' : k1.IsList l1 us := q1.extBut b1.extBut D.l1z
  cases hu : us[m1]? with
  | none =>
    refine wpAny_bind (wpAny_nextOf_list_end hh w1' q1' hu fun k2 e b2 ⟨x, ex, cx⟩ => ?_)
    have z2 : ZipOf k2 z TI TO .ellipsis c1 := b2 _ _ D.i1z.symm z1
    have ne : e ≠ z := fun y => by subst y; rw [z2] at ex; cases ex; simp at cx
    exact wpAny_setField_rec z2 (by simp) fun k3 _ b3 => hE k3 e (fun c o n1 _ n3 _ y => b3.extBut _ _ n1 (b2 _ _ n3 (b1.extBut _ _ n1 y))) ⟨x, b3.extBut _ _ ne ex, cx⟩
  | some u =>
    have hv : vs[m2]? = none := he.elim (fun y => by rw [hu] at y; cases y) id
    refine wpAny_bind (wpAny_nextOf_list_item w1' q1' hu fun k2 v1 b2 => wpAny_pure ?_)
    have o2 : IsPair k2 TO a b := b2.extBut _ _ D.TOi1 (b1.extBut _ _ D.TOz ho)
    refine wpAny_bind (wpAny_seqItems o2 rfl (wpAny_bind (wpAny_updateSeq_pair o2 fun k3 o3 b3 => ?_)))
    refine wpAny_bind (wpAny_letGo (wpAny_pure (wpAny_bind (wpAny_bind (wpAny_onRaise ?_)))))
    show wpAny _ _ (Builtin.SmallTypes.nextOf (.ref i2) >>= _) _ _ _
    have w2' : k3.IsListIter i2 l2 m2 := ((w2.extBut b1.extBut D.i2z).extBut b2.extBut D.i12.symm).extBut b3.extBut D.TOi2.symm
    have q2' : k3.IsList l2 vs := ((q2.extBut b1.extBut D.l2z).extBut b2.extBut D.l2i1).extBut b3.extBut D.l2TO
    refine wpAny_bind (wpAny_nextOf_list_end hh w2' q2' hv fun k4 e b4 ⟨x, ex, cx⟩ => ?_)
    have z4 : ZipOf k4 z TI TO .ellipsis c1 := b4 _ _ D.i2z.symm (b3.extBut _ _ D.TOz.symm (b2.extBut _ _ D.i1z.symm z1))
    have ne : e ≠ z := fun y => by subst y; rw [z4] at ex; cases ex; simp at cx
    exact wpAny_setField_rec z4 (by simp) fun k5 _ b5 => hE k5 e (fun c o n1 n2 n3 n4 y => b5.extBut _ _ n1 (b4 _ _ n4 (b3.extBut _ _ n2 (b2.extBut _ _ n3 (b1.extBut _ _ n1 y))))) ⟨x, b5.extBut _ _ ne ex, cx⟩
/-- next, as it stands: none out, out, gone -/
def OutZ (h : Heap) (z TI TO : Addr) : Prop := IsZip h z TI TO .none ∨ ∃ T f, IsZipHeld h z TI TO T f
theorem next_item {z TI TO i1 i2 l1 l2 : Addr} {m1 m2 : Nat} {us vs : Array Value} {u v a b : Value} {Q : Option Value → Shared → Prop} (D : ZipApart z TI TO i1 i2 l1 l2)
    (hz : OutZ s.heap z TI TO) (hi : IsPair s.heap TI (.ref i1) (.ref i2)) (ho : IsPair s.heap TO a b)
    (w1 : s.heap.IsListIter i1 l1 m1) (w2 : s.heap.IsListIter i2 l2 m2) (q1 : s.heap.IsList l1 us) (q2 : s.heap.IsList l2 vs) (hu : us[m1]? = some u) (hv : vs[m2]? = some v)
    (hQ : ∀ k, (∃ T f, IsZipHeld k z TI TO T f) → (∃ x y, IsPair k TO x y) → k.IsListIter i1 l1 (m1 + 1) → k.IsListIter i2 l2 (m2 + 1) → IsPair k s.heap.objs.size u v →
      (∀ c o, c ≠ z → c ≠ TO → c ≠ i1 → c ≠ i2 → s.heap.get? c = some o → k.get? c = some o) → Q (some (.ref s.heap.objs.size)) { s with heap := k }) :
    wpAny (model prog w) A (pyNext (.ref z)) Q E s := by
  rcases hz with hz | ⟨T, f, hz⟩
  · exact wpAny_pyNext_zip_item D hz hi ho w1 w2 q1 q2 hu hv fun k a1 a2 a3 a4 a5 _ a7 => hQ k ⟨_, _, a1⟩ ⟨_, _, a2⟩ a3 a4 a5 a7
  · cases hT : s.heap.get? T with
    | some oT => exact wpAny_pyNext_zip_item_held D hz hT hi w1 w2 q1 q2 hu hv fun k a1 a3 a4 a5 _ a7 => hQ k ⟨_, _, a1⟩ ⟨a, b, a7 _ _ D.TOz D.TOi1 D.TOi2 ho⟩ a3 a4 a5 fun c o n1 n2 n3 n4 e => a7 c o n1 n3 n4 e
    | none =>
      have ty : s.TypeIs (.ref z) "zip" := ⟨_, hz, rfl⟩
      unfold pyNext
      exact wpAny_bind (wpAny_attempt (wpAny_callSpecial?_slot (name := Str.ofString "__next__") ty PySem.F.slot_zip_next (wpAny_call_entry PySem.F.slot_zip_next ty PySem.F.entry_zip_next
        (gone_item D (free_gone hz hT) hz hi ho w1 w2 q1 q2 hu hv fun k a1 a2 a3 a4 a5 _ a7 => wpAny_pure (hQ k ⟨_, _, a1⟩ ⟨_, _, a2⟩ a3 a4 a5 a7)) (PySem.F.args_zip_next_1 _))))
theorem next_end {z TI TO i1 i2 l1 l2 : Addr} {m1 m2 : Nat} {us vs : Array Value} {a b : Value} {Q : Option Value → Shared → Prop} (hh : A.handled = none) (D : ZipApart z TI TO i1 i2 l1 l2)
    (hz : OutZ s.heap z TI TO) (hi : IsPair s.heap TI (.ref i1) (.ref i2)) (ho : IsPair s.heap TO a b)
    (w1 : s.heap.IsListIter i1 l1 m1) (w2 : s.heap.IsListIter i2 l2 m2) (q1 : s.heap.IsList l1 us) (q2 : s.heap.IsList l2 vs) (he : us[m1]? = none ∨ vs[m2]? = none)
    (hQ : ∀ k, (∀ c o, c ≠ z → c ≠ TO → c ≠ i1 → c ≠ i2 → s.heap.get? c = some o → k.get? c = some o) → Q none { s with heap := k }) : wpAny (model prog w) A (pyNext (.ref z)) Q E s := by
  rcases hz with hz | ⟨T, f, hz⟩
  · exact wpAny_pyNext_zip_end hh D hz hi ho w1 w2 q1 q2 he hQ
  · cases hT : s.heap.get? T with
    | some oT => exact wpAny_pyNext_zip_end_held hh D hz hT hi w1 w2 q1 q2 he fun k a7 => hQ k fun c o n1 n2 n3 n4 e => a7 c o n1 n3 n4 e
    | none =>
      have ty : s.TypeIs (.ref z) "zip" := ⟨_, hz, rfl⟩
      unfold pyNext
      refine wpAny_bind (wpAny_attempt (wpAny_callSpecial?_slot (name := Str.ofString "__next__") ty PySem.F.slot_zip_next (wpAny_call_entry PySem.F.slot_zip_next ty PySem.F.entry_zip_next
        (gone_end hh D (free_gone hz hT) hz hi ho w1 w2 q1 q2 he fun k e hk ⟨x, ex, cx⟩ => ?_) (PySem.F.args_zip_next_1 _))))
      exact wpAny_bind (wpAny_isInstance (T := "StopIteration") (b := true) ⟨x, ex, cx⟩ isSubtype_stop (wpAny_pure (hQ _ hk)))
end
def tnZ (z TI TO i1 i2 a b : Addr) (i : Nat) (h : Heap) : Prop := OutZ h z TI TO ∧ IsPair h TI (.ref i1) (.ref i2) ∧ (∃ x y, IsPair h TO x y) ∧ h.IsListIter i1 a i ∧ h.IsListIter i2 b i
theorem five {P : Addr → Prop} {z TI TO i1 i2 c : Addr} (h : c ∈ [z, TI, TO, i1, i2]) (h1 : P z) (h2 : P TI) (h3 : P TO) (h4 : P i1) (h5 : P i2) : P c := by
  have : c = z ∨ c = TI ∨ c = TO ∨ c = i1 ∨ c = i2 := by simpa using h
  rcases this with q | q | q | q | q <;> (rw [q]; assumption)
theorem turn_zipN {P : Program} {w : World} {K : PySem.W.Frag} {x : Str} {tpos : Pos} {a b z TI TO i1 i2 : Addr} (D : ZipApart z TI TO i1 i2 a b) : Turn P w K (.Name x tpos) (Itz K a b) [z, TI, TO, i1, i2] z (tnZ z TI TO i1 i2 a b) where
  mem := by simp
  obj := fun i h ⟨hz, hi, ⟨x, y, ho⟩, ⟨p1, e1, _, d1⟩, ⟨p2, e2, _, d2⟩⟩ c hc => by
    refine five (P := fun c => ∃ o, h.get? c = some o ∧ ∀ v, o.data ≠ .cell v) hc ?_ ⟨_, hi, fun v q => nomatch q⟩ ⟨_, ho, fun v q => nomatch q⟩ ⟨p1, e1, fun v q => by rw [d1] at q; cases q⟩ ⟨p2, e2, fun v q => by rw [d2] at q; cases q⟩
    rcases hz with hz | ⟨T, f, hz⟩
    · exact ⟨_, hz, fun v q => nomatch q⟩
    · exact ⟨_, hz, fun v q => nomatch q⟩
  keep := fun i h h' ⟨hz, hi, ⟨x, y, ho⟩, w1, w2⟩ k => by
    refine ⟨?_, k TI (by simp) _ hi, ⟨x, y, k TO (by simp) _ ho⟩, w1.at fun o q => k i1 (by simp) o q, w2.at fun o q => k i2 (by simp) o q⟩
    rcases hz with hz | ⟨T, f, hz⟩
    · exact .inl (k z (by simp) _ hz)
    · exact .inr ⟨T, f, k z (by simp) _ hz⟩
  item := by
    intro X hP hw hK hc i pins s σ H E I hf ⟨hz, hi, ⟨x0, y0, ho⟩, w1, w2⟩ ⟨xs, ys, x, y, g1, g2, gx, gy⟩
    subst hP hw hK
    obtain ⟨us, rv, p1, _⟩ := I.list g1
    obtain ⟨vs, rv2, p2, _⟩ := I.list g2
    obtain ⟨u, eu, ru⟩ := rv.get gx
    obtain ⟨v, ev, rv'⟩ := rv2.get gy
    refine next_item D hz hi ho w1 w2 p1.isList p2.isList (u := u) (v := v) (by simpa using eu) (by simpa using ev) fun k zk ok w1' w2' tk hk => ⟨_, rfl, ?_⟩
    have new : ObjOk X.prog X.w (upd H s.heap.objs.size (.tup [x, y])) k s.heap.objs.size (.tup [x, y]) := ⟨by show 2 ≤ sizeLine; decide, [u, v], .cons ru (.cons rv' .nil), ⟨_, tk, rfl, _, rfl⟩⟩
    have inn : ∀ c o, c ∉ [z, TI, TO, i1, i2] → s.heap.get? c = some o → k.get? c = some o := fun c o hb q => hk c o (fun y => hb (by simp [y])) (fun y => hb (by simp [y])) (fun y => hb (by simp [y])) (fun y => hb (by simp [y])) q
    have I1 : Inv X pins σ (upd H s.heap.objs.size (.tup [x, y])) { s with heap := k } := I.turnedNew (t' := s.toks) (ch := [z, TI, TO, i1, i2]) inn hf (Nat.le_refl _) new
    refine wpAny_pure ⟨.ref s.heap.objs.size, _, I1, rfl, ⟨_, x, y, rfl, I.hok.fresh (Nat.le_refl _), rfl, fun l hl => by rw [I.list_inj hl g1]; exact gx, fun l hl => by rw [I.list_inj hl g2]; exact gy⟩, ⟨.inr zk, hk _ _ D.TIz D.TITO D.TIi1 D.TIi2 hi, ok, w1', w2'⟩, fun c hcm => ?_⟩
    have lz : z < s.heap.objs.size := by
      rcases hz with hz | ⟨T, f, hz⟩ <;> exact Heap.lt_size hz
    have lt : c < s.heap.objs.size := five (P := fun c => c < s.heap.objs.size) hcm lz (Heap.lt_size hi) (Heap.lt_size ho) (by obtain ⟨_, e, _⟩ := w1; exact Heap.lt_size e) (by obtain ⟨_, e, _⟩ := w2; exact Heap.lt_size e)
    rw [upd_ne (Nat.ne_of_lt lt)]
    exact (hf c hcm).1
  done := by
    intro X hP hw hK hc i pins s σ H E I hf ⟨hz, hi, ⟨x0, y0, ho⟩, w1, w2⟩ ⟨xs, ys, g1, g2, hend⟩
    subst hP hw hK
    obtain ⟨us, rv, p1, _⟩ := I.list g1
    obtain ⟨vs, rv2, p2, _⟩ := I.list g2
    have n1 := rv.length
    have n2 := rv2.length
    have he : us.toArray[i]? = none ∨ vs.toArray[i]? = none := hend.imp (fun q => by simp; omega) (fun q => by simp; omega)
    refine next_end (I.ok.hd hc) D hz hi ho w1 w2 p1.isList p2.isList he fun k hk => ⟨rfl, I.turnedL (t' := s.toks) (ch := [z, TI, TO, i1, i2]) (fun c o hb q => ?_) hf⟩
    exact hk c o (fun y => hb (by simp [y])) (fun y => hb (by simp [y])) (fun y => hb (by simp [y])) (fun y => hb (by simp [y])) q
  self := fun A i s Q E ⟨hz, _⟩ q => by
    rcases hz with hz | ⟨T, f, hz⟩
    · exact wpAny_pyIter_zip hz q
    · have ty : s.TypeIs (.ref z) "zip" := ⟨_, hz, rfl⟩
      refine wpAny_pyIter_slot ty PySem.F.slot_zip_iter (wpAny_call_entry PySem.F.slot_zip_iter ty PySem.F.entry_zip_iter ?_ (PySem.F.args_zip_iter_1 _))
      show wpAny _ _ (ret (.ref z)) _ _ s
      exact wpAny_pure ⟨_, rfl, "zip", _, ty, PySem.F.slot_zip_next.lookup, q⟩
theorem pi_zipN {X : Cx} {x : Str} {e e2 : Expr} {ta : TA} {p pos tpos : Pos} (hg : Gl X "zip") (hm : X.mg "zip" = none) (ha : PA X [e, e2] ta)
    (hs : starEach [e, e2] X.env = (false, eval e X.env) :: starEach [e2] X.env) (hpl : (backTo pos (starEach [e2] X.env)).any (·.1) = false) : PI X (.Name x tpos) (.Call (.Name "zip" p) [e, e2] [] pos) (iZip X.K ta) := by
  refine ⟨fun pins s σ H R I h => Call_ (ld_blt I hg hm PyProof.Rows.boot_zip (PyProof.Rows.callWith_type1 (thn (ha.run pos pins s σ H _ I h) fun us s1 ⟨vs, H1, I1, r1, a, b, xs, ys, ex, g1, g2, q⟩ => ?_) hs hpl))⟩
  subst ex
  cases r1 with
  | cons r rr => cases rr with
    | cons r' rr =>
      cases rr
      cases r
      cases r'
      obtain ⟨_, _, p1, _⟩ := I1.list g1
      obtain ⟨_, _, p2, _⟩ := I1.list g2
      refine call_zip_2 p1.isList p2.isList fun k hz hi ho w1 w2 hsz hk => wpAny_pyIter_zip hz ?_
      have I2 : Inv X pins σ H1 { s1 with heap := k } := I1.kept (t' := s1.toks) hk
      refine ⟨s1.heap.objs.size + 4, [s1.heap.objs.size + 4, s1.heap.objs.size + 2, s1.heap.objs.size + 3, s1.heap.objs.size, s1.heap.objs.size + 1], _, _, H1, rfl, I2, turn_zipN (PySem.W.ktu_apart s1.heap.objs.size a b p1.lt p2.lt), ⟨.inl hz, hi, ⟨_, _, ho⟩, w1, w2⟩, fun c hc => ?_, q⟩
      have le : s1.heap.objs.size ≤ c := five (P := fun c => s1.heap.objs.size ≤ c) hc (Nat.le_add_right _ _) (Nat.le_add_right _ _) (Nat.le_add_right _ _) (Nat.le_refl _) (Nat.le_add_right _ _)
      exact I1.fpOk le (I1.hok.fresh le)
end Mi
namespace Mi
open PySem PySem.Spec PyProof.Rows L2

/-! ### what stands behind trees, cells and texts -/
structure Gd where
  fa : Nat → Option Addr
  ca : Nat → Option Addr
  T : List (Addr × Str)
structure Wd where
  hf : Hp
  rs : Hp
  m : List Addr
def Ext (H H' : Hp) : Prop := ∀ a o, H a = some o → H' a = some o
theorem Ext.rfl {H : Hp} : Ext H H := fun _ _ h => h
theorem Ext.trans {H H1 H2 : Hp} (a : Ext H H1) (b : Ext H1 H2) : Ext H H2 := fun x o h => b x o (a x o h)
theorem Ext.upd {H : Hp} {p : Addr} {o : HO} (h : H p = none) : Ext H (upd H p o) := fun a u e => (upd_ne (ne_of_none e h)).trans e
theorem Ext.rd {H H' : Hp} {a : Addr} {u : HO} (e : Ext H H') (h : Rd H a u) : Rd H' a u := by
  rcases h with h | ⟨o, h⟩
  · exact .inl (e _ _ h)
  · exact .inr ⟨o, e _ _ h⟩
theorem Ext.sl {K : W.Frag} {H H' : Hp} {a : Addr} {xs : List V} (e : Ext H H') (h : SqL K H a xs) : SqL K H' a xs := h.imp e.rd id
theorem Ext.st {K : W.Frag} {H H' : Hp} {a : Addr} {xs : List V} (e : Ext H H') (h : SqT K H a xs) : SqT K H' a xs := h.imp e.rd id
/-- an exception that is held as a value -/
def ExH (cls : Value) (dd : Option Addr) (a : Addr) : HO := .ext fun h => ∃ (oe : Obj) (vs : Array Value), h.get? a = some oe ∧ Zc cls dd oe ∧ oe.data = .fields vs

section
variable (G : Gd) (K : W.Frag) (hf : Hp)
mutual
inductive RepD : V → D → Prop where
  | non : RepD .non .non
  | bl (b : Bool) : RepD (.bl b) (.bl b)
  | int (i : Int) : RepD (.int i) (.int i)
  | str (x : Str) : RepD (.str x) (.str x)
  | tup {a : Addr} {vs : List V} {ds : List D} : SqT K hf a vs → RepDs vs ds → RepD (.ref a) (.tup ds)
  | lst {a : Addr} {vs : List V} {ds : List D} : SqL K hf a vs → RepDs vs ds → RepD (.ref a) (.lst ds)
  | fn {f : Nat} {a : Addr} : G.fa f = some a → RepD (.ref a) (.fn f)
  | exc {a C : Addr} {c : Nat} {dd : Option Addr} {fs : List (Str × D)} : G.ca c = some C → hf a = some (ExH (.ref C) dd a) → RepX dd fs → RepD (.ref a) (.exc c fs)
inductive RepDs : List V → List D → Prop where
  | nil : RepDs [] []
  | cons {v : V} {vs : List V} {d : D} {ds : List D} : RepD v d → RepDs vs ds → RepDs (v :: vs) (d :: ds)
inductive RepX : Option Addr → List (Str × D) → Prop where
  | none : RepX none []
  | some {b : Addr} {fs : List (Str × D)} {vs : List (Str × V)} : hf b = some (.xd vs) → RepFs vs fs → RepX (some b) fs
inductive RepFs : List (Str × V) → List (Str × D) → Prop where
  | nil : RepFs [] []
  | cons {f : Str} {v : V} {d : D} {vs : List (Str × V)} {fs : List (Str × D)} : RepD v d → RepFs vs fs → RepFs ((f, v) :: vs) ((f, d) :: fs)
end
end
section
variable {G : Gd} {K : W.Frag} {hf hf' : Hp}
mutual
theorem RepD.mono (e : Ext hf hf') : ∀ {v : V} {d : D}, RepD G K hf v d → RepD G K hf' v d
  | _, _, .non => .non
  | _, _, .bl b => .bl b
  | _, _, .int i => .int i
  | _, _, .str x => .str x
  | _, _, .tup h r => .tup (e.st h) (RepDs.mono e r)
  | _, _, .lst h r => .lst (e.sl h) (RepDs.mono e r)
  | _, _, .fn h => .fn h
  | _, _, .exc h1 h2 h3 => .exc h1 (e _ _ h2) (RepX.mono e h3)
theorem RepDs.mono (e : Ext hf hf') : ∀ {vs : List V} {ds : List D}, RepDs G K hf vs ds → RepDs G K hf' vs ds
  | _, _, .nil => .nil
  | _, _, .cons h r => .cons (RepD.mono e h) (RepDs.mono e r)
theorem RepX.mono (e : Ext hf hf') : ∀ {dd : Option Addr} {fs : List (Str × D)}, RepX G K hf dd fs → RepX G K hf' dd fs
  | _, _, .none => .none
  | _, _, .some h r => .some (e _ _ h) (RepFs.mono e r)
theorem RepFs.mono (e : Ext hf hf') : ∀ {vs : List (Str × V)} {fs : List (Str × D)}, RepFs G K hf vs fs → RepFs G K hf' vs fs
  | _, _, .nil => .nil
  | _, _, .cons h r => .cons (RepD.mono e h) (RepFs.mono e r)
end
theorem RepDs.len {vs : List V} {ds : List D} (h : RepDs G K hf vs ds) : vs.length = ds.length := by
  induction ds generalizing vs with
  | nil => cases h; rfl
  | cons d ds ih => cases h with | cons a b => simp [ih b]
theorem RepDs.get {vs : List V} {ds : List D} (h : RepDs G K hf vs ds) {i : Nat} {d : D} (e : ds[i]? = some d) : ∃ v, vs[i]? = some v ∧ RepD G K hf v d := by
  induction ds generalizing vs i with
  | nil => simp at e
  | cons x ds ih => cases h with
    | cons a b => cases i with
      | zero => simp at e; subst e; exact ⟨_, rfl, a⟩
      | succ i => simpa using ih b (by simpa using e)
theorem RepDs.app {vs ws : List V} {ds es : List D} (h : RepDs G K hf vs ds) (g : RepDs G K hf ws es) : RepDs G K hf (vs ++ ws) (ds ++ es) := by
  induction ds generalizing vs with
  | nil => cases h; exact g
  | cons d ds ih => cases h with | cons a b => exact .cons a (ih b)
end

/-! ### cells -/
section
variable (G : Gd) (K : W.Frag) (d : Wd)
def RepW (v : V) : W → Prop
  | .d x => RepD G K d.hf v x
  | .ref k => ∃ a, v = .ref a ∧ d.m[k]? = some a
def RepWs : List V → List W → Prop := Paired (RepW G K d)
def RepKs (ks : List (Key × V)) (kvs : List (Key × W)) : Prop := Paired (fun p q => p.1 = q.1 ∧ RepW G K d p.2 q.2) ks kvs
def CellR (H : Hp) (n : Nat) (a : Addr) : Cell → Prop
  | .lst ws => d.hf a = none ∧ (∀ w ∈ ws, below n w = true) ∧ ∃ vs, H a = some (.lst vs) ∧ RepWs G K d vs ws
  | .dct kvs => d.hf a = none ∧ (∀ p ∈ kvs, below n p.2 = true) ∧ ∃ ks, H a = some (.dK ks) ∧ RepKs G K d ks kvs
  | .frz x => RepD G K d.hf (.ref a) x
structure SR (H : Hp) (st : Store) : Prop where
  sub : Ext d.hf H
  res : ∀ a o, d.rs a = some o → H a = some o ∧ d.hf a = none ∧ a ∉ d.m
  len : d.m.length = st.length
  nd : d.m.Nodup
  thr : ∀ a ∈ d.m, ∃ o, H a = some o ∧ ∀ ps, o ≠ .tbl ps
  live : ∀ n c, st[n]? = some c → ∃ a, d.m[n]? = some a ∧ CellR G K d H n a c
  tab : ∀ p ∈ G.T, LamX.TabS H p.1 p.2 ∧ d.hf p.1 = none ∧ d.rs p.1 = none ∧ p.1 ∉ d.m
  nt : ∀ a ps, d.hf a ≠ some (.tbl ps) ∧ d.rs a ≠ some (.tbl ps)
end
structure Le (d d' : Wd) : Prop where
  hf : Ext d.hf d'.hf
  rs : d'.rs = d.rs
  m : ∀ (k : Nat) (a : Addr), d.m[k]? = some a → d'.m[k]? = some a
theorem Le.rfl {d : Wd} : Le d d := ⟨Ext.rfl, _root_.rfl, fun _ _ h => h⟩
theorem Le.trans {d d1 d2 : Wd} (a : Le d d1) (b : Le d1 d2) : Le d d2 := ⟨a.hf.trans b.hf, b.rs.trans a.rs, fun k x h => b.m k x (a.m k x h)⟩
section
variable {G : Gd} {K : W.Frag} {d d' : Wd}
theorem RepW.mono (e : Le d d') {v : V} {w : W} (h : RepW G K d v w) : RepW G K d' v w := by
  cases w with
  | d x => exact RepD.mono e.hf h
  | ref k => obtain ⟨a, h1, h2⟩ := h; exact ⟨a, h1, e.m _ _ h2⟩
theorem RepWs.mono (e : Le d d') {vs : List V} {ws : List W} (h : RepWs G K d vs ws) : RepWs G K d' vs ws := Paired.mapP h fun _ _ => RepW.mono e
theorem RepKs.mono (e : Le d d') {vs : List (Key × V)} {ws : List (Key × W)} (h : RepKs G K d vs ws) : RepKs G K d' vs ws := Paired.mapP h fun _ _ q => ⟨q.1, q.2.mono e⟩
end

/-! ### states that carry a run on -/
section
variable (G : Gd) (K : W.Frag)
/-- what the slots hold -/
def EnvR (d : Wd) (σ : L2.St) (env : Env) : Prop := env.length = σ.length ∧ ∀ (i : Nat) (w : W), env[i]? = some (some w) → ∃ v, σ[i]? = some (some v) ∧ RepW G K d v w
/-- an exception that flies -/
def RepE (d : Wd) (cls : Value) (dd : Option Addr) (c : Nat) (fs : List (Str × D)) : Prop := ∃ C, G.ca c = some C ∧ cls = .ref C ∧ RepX G K d.hf dd fs
def Lk {α β : Type} (R : Wd → β → α → Prop) (X : WX) (σ : L2.St) (d : Wd) (r : Res α) (Q : β → Hp → Prop) : Prop := match r with
  | .ok a st => ∀ b H d', Le d d' → SR G K d' H st → R d' b a → Q b H
  | .exc c fs st => ∀ cls dd H d', Le d d' → SR G K d' H st → RepE G K d' cls dd c fs → X cls dd σ H
  | .stuck => False
end
section
variable {G : Gd} {K : W.Frag} {X : WX} {σ : L2.St} {d d' : Wd} {α β γ δ : Type} {R : Wd → β → α → Prop} {R' : Wd → δ → γ → Prop}
theorem EnvR.mono {env : Env} (e : Le d d') (h : EnvR G K d σ env) : EnvR G K d' σ env := ⟨h.1, fun i w q => let ⟨v, a, b⟩ := h.2 i w q; ⟨v, a, b.mono e⟩⟩
theorem Lk.mono {r : Res α} {Q : β → Hp → Prop} (e : Le d d') (h : Lk G K R X σ d r Q) : Lk G K R X σ d' r Q := by
  cases r with
  | ok a st => exact fun b H d1 l s q => h b H d1 (e.trans l) s q
  | exc c fs st => exact fun cls dd H d1 l s q => h cls dd H d1 (e.trans l) s q
  | stuck => exact h
theorem Lk.imp {r : Res α} {Q Q' : β → Hp → Prop} (h : Lk G K R X σ d r Q) (k : ∀ b H, Q b H → Q' b H) : Lk G K R X σ d r Q' := by
  cases r with
  | ok a st => exact fun b H d1 l s q => k b H (h b H d1 l s q)
  | exc c fs st => exact h
  | stuck => exact h
/-- one step, and what follows -/
theorem Lk.bind {r : Res α} {f : α → Store → Res γ} {Q : δ → Hp → Prop} (h : Lk G K R' X σ d (r.bind f) Q) :
    Lk G K R X σ d r (fun b H => ∃ d' st a, Le d d' ∧ SR G K d' H st ∧ R d' b a ∧ Lk G K R' X σ d' (f a st) Q) := by
  cases r with
  | ok a st => exact fun b H d1 l s q => ⟨d1, st, a, l, s, q, Lk.mono l h⟩
  | exc c fs st => exact h
  | stuck => exact h
theorem Lk.run {a : α} {st : Store} {Q : β → Hp → Prop} (h : Lk G K R X σ d (.ok a st) Q) {b : β} {H : Hp} (s : SR G K d H st) (q : R d b a) : Q b H := h b H d Le.rfl s q
end

/-! ### what a store does -/
section
variable {G : Gd} {K : W.Frag} {d : Wd} {H : Hp} {st : Store}
theorem CellR.keep {H' : Hp} {d' : Wd} {n : Nat} {a : Addr} {c : Cell} (h : CellR G K d H n a c) (e : Le d d') (hH : (∀ x, c ≠ .frz x) → H' a = H a) (hf : (∀ x, c ≠ .frz x) → d'.hf a = none) : CellR G K d' H' n a c := by
  cases c with
  | lst ws =>
    obtain ⟨_, hb, vs, h1, h2⟩ := h
    exact ⟨hf (fun _ q => by cases q), hb, vs, by rw [hH (fun _ q => by cases q)]; exact h1, h2.mono e⟩
  | dct kvs =>
    obtain ⟨_, hb, vs, h1, h2⟩ := h
    exact ⟨hf (fun _ q => by cases q), hb, vs, by rw [hH (fun _ q => by cases q)]; exact h1, h2.mono e⟩
  | frz x => exact RepD.mono e.hf h
theorem SR.at (s : SR G K d H st) {n : Nat} {c : Cell} (e : st[n]? = some c) : ∃ a, d.m[n]? = some a ∧ CellR G K d H n a c := s.live n c e
theorem tabKeep {H H' : Hp} {P : Addr} {q : Str} (t : LamX.TabS H P q) (e : ∀ o, H P = some o → H' P = some o) (e2 : ∀ c o, H c = some (.ext o) → H' c = some (.ext o)) : LamX.TabS H' P q := by
  obtain ⟨ps, h1, h2, h3⟩ := t
  refine ⟨ps, e _ h1, h2, fun pos cv hc => ?_⟩
  obtain ⟨c, q1, q2⟩ := h3 pos cv hc
  exact ⟨c, q1, e2 _ _ q2⟩
/-- something new that never changes -/
theorem SR.newF (s : SR G K d H st) {p : Addr} {o : HO} (hp : H p = none) (ho : ∀ ps, o ≠ .tbl ps := by intro ps z; cases z) : SR G K { d with hf := upd d.hf p o } (upd H p o) st ∧ Le d { d with hf := upd d.hf p o } := by
  have hfp : d.hf p = none := by
    cases q : d.hf p with
    | none => rfl
    | some u => rw [s.sub p u q] at hp; cases hp
  have le : Le d { d with hf := upd d.hf p o } := ⟨Ext.upd hfp, rfl, fun _ _ h => h⟩
  have ne : ∀ {a u}, H a = some u → a ≠ p := fun e => ne_of_none e hp
  have cne : ∀ (n : Nat) (a : Addr) (c : Cell), st[n]? = some c → d.m[n]? = some a → (∀ x, c ≠ .frz x) → a ≠ p := fun n a c h1 h2 h3 => by
    obtain ⟨a', h4, h5⟩ := s.live n c h1
    rw [h2] at h4; cases h4
    cases c with
    | lst ws => obtain ⟨_, _, vs, q, _⟩ := h5; exact ne q
    | dct kvs => obtain ⟨_, _, vs, q, _⟩ := h5; exact ne q
    | frz x => exact absurd rfl (h3 x)
  refine ⟨⟨fun a u e => ?_, fun a u e => ?_, s.len, s.nd, fun a ha => (let ⟨u, e, e2⟩ := s.thr a ha; ⟨u, by rw [upd_ne (ne e)]; exact e, e2⟩), fun n c e => ?_, fun q hq => ?_, fun a ps => ⟨fun z => ?_, (s.nt a ps).2⟩⟩, le⟩
  rotate_right
  · by_cases h : a = p
    · have z' : upd d.hf p o a = some (.tbl ps) := z
      rw [h, upd_same] at z'; exact ho ps (Option.some.inj z')
    · have z' : upd d.hf p o a = some (.tbl ps) := z
      rw [upd_ne h] at z'; exact (s.nt a ps).1 z'
  · by_cases h : a = p
    · subst h
      have e' : upd d.hf a o a = some u := e
      rw [upd_same] at e' ⊢
      exact e'
    · have e' : upd d.hf p o a = some u := e
      rw [upd_ne h] at e' ⊢
      exact s.sub a u e'
  · obtain ⟨h1, h2, h3⟩ := s.res a u e
    exact ⟨by rw [upd_ne (ne h1)]; exact h1, by show upd d.hf p o a = none; rw [upd_ne (ne h1)]; exact h2, h3⟩
  · obtain ⟨a, h1, h2⟩ := s.live n c e
    refine ⟨a, h1, h2.keep le (fun hc => upd_ne (cne n a c e h1 hc)) fun hc => ?_⟩
    show upd d.hf p o a = none
    rw [upd_ne (cne n a c e h1 hc)]
    cases c with
    | lst ws => exact h2.1
    | dct kvs => exact h2.1
    | frz x => exact absurd rfl (hc x)
  · obtain ⟨h1, h2, h3, h4⟩ := s.tab q hq
    have hne : q.1 ≠ p := by obtain ⟨ps, h, _⟩ := h1; exact ne h
    exact ⟨tabKeep h1 (fun u e => by rw [upd_ne hne]; exact e) (fun c u e => by rw [upd_ne (ne e)]; exact e), by show upd d.hf p o q.1 = none; rw [upd_ne hne]; exact h2, h3, h4⟩
/-- what a cell of the store stands at is told in H -/
theorem CellR.there {n : Nat} {a : Addr} {c : Cell} (h : CellR G K d H n a c) (hc : ∀ x, c ≠ .frz x) : ∃ o, H a = some o := by
  cases c with
  | lst ws => obtain ⟨_, _, vs, q, _⟩ := h; exact ⟨_, q⟩
  | dct kvs => obtain ⟨_, _, vs, q, _⟩ := h; exact ⟨_, q⟩
  | frz x => exact absurd rfl (hc x)
theorem CellR.notbl {n : Nat} {a : Addr} {c : Cell} (h : CellR G K d H n a c) (hc : ∀ x, c ≠ .frz x) : ∃ o, H a = some o ∧ ∀ ps, o ≠ .tbl ps := by
  cases c with
  | lst ws => obtain ⟨_, _, vs, q, _⟩ := h; exact ⟨_, q, fun ps z => by cases z⟩
  | dct kvs => obtain ⟨_, _, vs, q, _⟩ := h; exact ⟨_, q, fun ps z => by cases z⟩
  | frz x => exact absurd rfl (hc x)
theorem CellR.nohf {n : Nat} {a : Addr} {c : Cell} (h : CellR G K d H n a c) (hc : ∀ x, c ≠ .frz x) : d.hf a = none := by
  cases c with
  | lst ws => exact h.1
  | dct kvs => exact h.1
  | frz x => exact absurd rfl (hc x)
/-- where the numbers of cells stand that are not below: the places of later cells are others -/
theorem SR.ne (s : SR G K d H st) {i j : Nat} {a b : Addr} (h1 : d.m[i]? = some a) (h2 : d.m[j]? = some b) (h : i ≠ j) : a ≠ b := by
  rintro rfl
  obtain ⟨l1, e1⟩ := List.getElem?_eq_some_iff.mp h1
  obtain ⟨l2, e2⟩ := List.getElem?_eq_some_iff.mp h2
  exact h ((List.getElem_inj s.nd).mp (e1.trans e2.symm))
theorem SR.get_lt (s : SR G K d H st) {k : Nat} {a : Addr} (h : d.m[k]? = some a) : k < st.length := by
  have := (List.getElem?_eq_some_iff.mp h).1
  rw [s.len] at this; exact this
/-- a new cell; o is what stands at it -/
theorem SR.newC (s : SR G K d H st) {p : Addr} {o : HO} {c : Cell} (hp : H p = none)
    (hc : CellR G K { d with m := d.m ++ [p] } (upd H p o) st.length p c) (hcf : ∀ x, c ≠ .frz x) : SR G K { d with m := d.m ++ [p] } (upd H p o) (st ++ [c]) ∧ Le d { d with m := d.m ++ [p] } := by
  have ne : ∀ {a u}, H a = some u → a ≠ p := fun e => ne_of_none e hp
  have hpm : p ∉ d.m := fun z => by
    obtain ⟨u, e, _⟩ := s.thr p z
    exact ne e rfl
  have hT : ∀ q ∈ G.T, q.1 ≠ p := fun q hq => by
    obtain ⟨⟨ps, e, _⟩, _⟩ := s.tab q hq
    exact ne e
  have le : Le d { d with m := d.m ++ [p] } := ⟨Ext.rfl, rfl, fun k a h => by
    show (d.m ++ [p])[k]? = some a
    rw [List.getElem?_append_left (List.getElem?_eq_some_iff.mp h).1]; exact h⟩
  refine ⟨⟨fun a u e => by rw [upd_ne (ne (s.sub a u e))]; exact s.sub a u e, fun a u e => ?_, by simp [s.len], ?_, fun a ha => ?_, fun n c' e => ?_, fun q hq => ?_, s.nt⟩, le⟩
  · obtain ⟨h1, h2, h3⟩ := s.res a u e
    refine ⟨by rw [upd_ne (ne h1)]; exact h1, h2, ?_⟩
    intro hm
    rcases List.mem_append.mp hm with h | h
    · exact h3 h
    · exact ne h1 (by simpa using h)
  · refine List.nodup_append.mpr ⟨s.nd, by simp, ?_⟩
    intro a ha b hb
    have : b = p := by simpa using hb
    subst this
    exact fun z => hpm (z ▸ ha)
  · rcases List.mem_append.mp ha with h | h
    · obtain ⟨u, e, e2⟩ := s.thr a h
      exact ⟨u, by rw [upd_ne (ne e)]; exact e, e2⟩
    · have : a = p := by simpa using h
      subst this
      exact hc.notbl hcf
  · by_cases hn : n < st.length
    · rw [List.getElem?_append_left hn] at e
      obtain ⟨a, h1, h2⟩ := s.live n c' e
      refine ⟨a, le.m _ _ h1, h2.keep le (fun hx => ?_) fun hx => h2.nohf hx⟩
      obtain ⟨u, hu⟩ := h2.there hx
      exact upd_ne (ne hu)
    · have hn' : n = st.length := by
        have := (List.getElem?_eq_some_iff.mp e).1
        simp at this; omega
      subst hn'
      have : c' = c := by simpa using e.symm
      subst this
      refine ⟨p, ?_, hc⟩
      show (d.m ++ [p])[st.length]? = some p
      rw [← s.len]; simp
  · obtain ⟨h1, h2, h3, h4⟩ := s.tab q hq
    refine ⟨tabKeep h1 (fun u e => by rw [upd_ne (hT q hq)]; exact e) (fun b u e => by rw [upd_ne (ne e)]; exact e), h2, h3, ?_⟩
    intro hm
    rcases List.mem_append.mp hm with h | h
    · exact h4 h
    · exact hT q hq (by simpa using h)
/-- a cell is written -/
theorem SR.write (s : SR G K d H st) {n : Nat} {a : Addr} {c c' : Cell} {o : HO} (hn : st[n]? = some c) (hcf : ∀ x, c ≠ .frz x) (ha : d.m[n]? = some a) (ho : ∀ φ, H a ≠ some (.ext φ))
    (hc : CellR G K d (upd H a o) n a c') (hcf' : ∀ x, c' ≠ .frz x) : SR G K d (upd H a o) (st.set n c') := by
  obtain ⟨a', h1, h2⟩ := s.live n c hn
  rw [ha] at h1; cases h1
  have hfa := h2.nohf hcf
  have hm : a ∈ d.m := List.mem_of_getElem? ha
  have ne : ∀ {b u}, d.hf b = some u → b ≠ a := fun e z => by rw [z, hfa] at e; cases e
  refine ⟨fun b u e => by rw [upd_ne (ne e)]; exact s.sub b u e, fun b u e => ?_, by simp [s.len], s.nd, fun b hb => ?_, fun k c2 e => ?_, fun q hq => ?_, s.nt⟩
  · obtain ⟨q1, q2, q3⟩ := s.res b u e
    have : b ≠ a := fun z => q3 (z ▸ hm)
    exact ⟨by rw [upd_ne this]; exact q1, q2, q3⟩
  · by_cases hba : b = a
    · subst hba; exact hc.notbl hcf'
    · obtain ⟨u, e, e2⟩ := s.thr b hb
      exact ⟨u, by rw [upd_ne hba]; exact e, e2⟩
  · by_cases hk : k = n
    · subst hk
      have hl : k < st.length := (List.getElem?_eq_some_iff.mp hn).1
      rw [List.getElem?_set_self hl] at e
      cases e
      exact ⟨a, ha, hc⟩
    · rw [List.getElem?_set_ne (Ne.symm hk)] at e
      obtain ⟨b, q1, q2⟩ := s.live k c2 e
      exact ⟨b, q1, q2.keep Le.rfl (fun _ => upd_ne (s.ne q1 ha hk)) fun hx => q2.nohf hx⟩
  · obtain ⟨q1, q2, q3, q4⟩ := s.tab q hq
    have hqa : q.1 ≠ a := fun z => q4 (z ▸ hm)
    exact ⟨tabKeep q1 (fun u e => by rw [upd_ne hqa]; exact e) (fun b u e => by rw [upd_ne (show b ≠ a from fun z => ho u (by rw [← z]; exact e))]; exact e), q2, q3, q4⟩
/-- a cell is frozen -/
theorem SR.freeze (s : SR G K d H st) {n : Nat} {a : Addr} {c : Cell} {o : HO} {x : D} (hn : st[n]? = some c) (ha : d.m[n]? = some a) (hcf : ∀ x, c ≠ .frz x) (ho : H a = some o)
    (hx : RepD G K (upd d.hf a o) (.ref a) x) : SR G K { d with hf := upd d.hf a o } H (st.set n (.frz x)) ∧ Le d { d with hf := upd d.hf a o } := by
  obtain ⟨a', h1, h2⟩ := s.live n c hn
  rw [ha] at h1; cases h1
  have hfa := h2.nohf hcf
  have hm : a ∈ d.m := List.mem_of_getElem? ha
  have le : Le d { d with hf := upd d.hf a o } := ⟨Ext.upd hfa, rfl, fun _ _ h => h⟩
  refine ⟨⟨fun b u e => ?_, fun b u e => ?_, by simp [s.len], s.nd, s.thr, fun k c2 e => ?_, fun q hq => ?_, fun b ps => ⟨fun z => ?_, (s.nt b ps).2⟩⟩, le⟩
  rotate_right
  · by_cases hb : b = a
    · have z' : upd d.hf a o b = some (.tbl ps) := z
      rw [hb, upd_same] at z'
      obtain ⟨o', q1, q2⟩ := h2.notbl hcf
      rw [ho] at q1; cases q1
      exact q2 ps (Option.some.inj z')
    · have z' : upd d.hf a o b = some (.tbl ps) := z
      rw [upd_ne hb] at z'; exact (s.nt b ps).1 z'
  · by_cases hb : b = a
    · subst hb
      have e' : upd d.hf b o b = some u := e
      rw [upd_same] at e'; cases e'
      exact ho
    · have e' : upd d.hf a o b = some u := e
      rw [upd_ne hb] at e'
      exact s.sub b u e'
  · obtain ⟨q1, q2, q3⟩ := s.res b u e
    have : b ≠ a := fun z => q3 (z ▸ hm)
    exact ⟨q1, by show upd d.hf a o b = none; rw [upd_ne this]; exact q2, q3⟩
  · by_cases hk : k = n
    · subst hk
      have hl : k < st.length := (List.getElem?_eq_some_iff.mp hn).1
      rw [List.getElem?_set_self hl] at e
      cases e
      exact ⟨a, ha, hx⟩
    · rw [List.getElem?_set_ne (Ne.symm hk)] at e
      obtain ⟨b, q1, q2⟩ := s.live k c2 e
      refine ⟨b, q1, q2.keep le (fun _ => rfl) fun hx => ?_⟩
      show upd d.hf a o b = none
      rw [upd_ne (s.ne q1 ha hk)]
      exact q2.nohf hx
  · obtain ⟨q1, q2, q3, q4⟩ := s.tab q hq
    have hqa : q.1 ≠ a := fun z => q4 (z ▸ hm)
    exact ⟨q1, by show upd d.hf a o q.1 = none; rw [upd_ne hqa]; exact q2, q3, q4⟩
end
end Mi
namespace Mi
open PySem PySem.Spec PyProof.Rows L2
section
variable {G : Gd} {K : W.Frag} {H : Hp}
/-! ### a tree is read off -/
theorem toPs_cons {x : D} {ds : List D} {ps : List PyData} (h : toPs (x :: ds) = some ps) : ∃ p r, toP x = some p ∧ toPs ds = some r ∧ ps = p :: r := by
  unfold toPs at h
  cases h1 : toP x with
  | none => rw [h1] at h; cases h
  | some p =>
    cases h2 : toPs ds with
    | none => rw [h1, h2] at h; cases h
    | some r => rw [h1, h2] at h; exact ⟨p, r, rfl, rfl, (Option.some.inj h).symm⟩
mutual
theorem dp_of {hf : Hp} (e : Ext hf H) : ∀ (x : D) (v : V) (p : PyData), RepD G K hf v x → toP x = some p → Dp K H v p
  | .non, _, _, .non, h => by simp only [toP, Option.some.injEq] at h; subst h; exact .non
  | .bl b, _, _, .bl _, h => by simp only [toP, Option.some.injEq] at h; subst h; exact .bl b
  | .int b, _, _, .int _, h => by simp only [toP, Option.some.injEq] at h; subst h; exact .int b
  | .str b, _, _, .str _, h => by simp only [toP, Option.some.injEq] at h; subst h; exact .str b
  | .tup l, _, _, .tup h1 h2, h => by
    unfold toP at h
    cases q : toPs l with
    | none => rw [q] at h; cases h
    | some ps =>
      rw [q] at h; cases h
      exact .tup (e.st h1) (dps_of e l _ ps h2 q)
  | .lst l, _, _, .lst h1 h2, h => by
    unfold toP at h
    cases q : toPs l with
    | none => rw [q] at h; cases h
    | some ps =>
      rw [q] at h; cases h
      exact .lst (e.sl h1) (dps_of e l _ ps h2 q)
  | .fn _, _, _, _, h => by simp [toP] at h
  | .exc _ _, _, _, _, h => by simp [toP] at h
theorem dps_of {hf : Hp} (e : Ext hf H) : ∀ (l : List D) (vs : List V) (ps : List PyData), RepDs G K hf vs l → toPs l = some ps → DpAll K H vs ps
  | [], _, _, .nil, h => by simp only [toPs, Option.some.injEq] at h; subst h; exact .nil
  | x :: ds, _, _, .cons h1 h2, h => by
    obtain ⟨p, r, q1, q2, rfl⟩ := toPs_cons h
    exact .cons (dp_of e x _ p h1 q1) (dps_of e ds _ r h2 q2)
end
variable {d : Wd} {st : Store}
theorem mapM_cons {α β : Type} {f : α → Option β} {a : α} {l : List α} {r : List β} (h : (a :: l).mapM f = some r) : ∃ b s, f a = some b ∧ l.mapM f = some s ∧ r = b :: s := by
  rw [List.mapM_cons] at h
  cases h1 : f a with
  | none => rw [h1] at h; cases h
  | some b =>
    cases h2 : l.mapM f with
    | none => rw [h1, h2] at h; cases h
    | some s => rw [h1, h2] at h; exact ⟨b, s, rfl, rfl, (Option.some.inj h).symm⟩
theorem rds_dp {f : W → Option D} (ih : ∀ (w : W) (v : V) (x : D) (p : PyData), RepW G K d v w → f w = some x → toP x = some p → Dp K H v p) :
    ∀ (ws : List W) (vs : List V) (ds : List D) (ps : List PyData), RepWs G K d vs ws → ws.mapM f = some ds → toPs ds = some ps → DpAll K H vs ps
  | [], _, _, _, .nil, hm, hq => by
    rw [List.mapM_nil] at hm
    cases hm
    simp only [toPs, Option.some.injEq] at hq
    subst hq
    exact .nil
  | w :: ws, _, _, _, .cons g1 g2, hm, hq => by
    obtain ⟨b, s', e1, e2, rfl⟩ := mapM_cons hm
    obtain ⟨p, r, q1, q2, rfl⟩ := toPs_cons hq
    exact .cons (ih w _ b p g1 e1 q1) (rds_dp ih ws _ s' r g2 e2 q2)
theorem rdW_d (k : Nat) (x : D) : rdW st k (.d x) = some x := by cases k <;> rfl
theorem fzW_d (k : Nat) (x : D) : fzW k (.d x) st = some (x, st) := by cases k <;> rfl
theorem rd_dp (s : SR G K d H st) : ∀ (k : Nat) (w : W) (v : V) (x : D) (p : PyData), RepW G K d v w → rdW st k w = some x → toP x = some p → Dp K H v p
  | k, .d x, v, y, p, r, h, hp => by
    rw [rdW_d] at h
    cases h
    exact dp_of s.sub x v p r hp
  | 0, .ref n, v, x, p, r, h, hp => by simp [rdW] at h
  | k + 1, .ref n, v, x, p, r, h, hp => by
    obtain ⟨a, rfl, ha⟩ := r
    unfold rdW at h
    cases hc : st[n]? with
    | none => rw [hc] at h; cases h
    | some c =>
      rw [hc] at h
      obtain ⟨a', h1, h2⟩ := s.live n c hc
      rw [ha] at h1; cases h1
      cases c with
      | lst ws =>
        obtain ⟨_, _, vs, hv, hr⟩ := h2
        have h : (ws.mapM (rdW st k)).map D.lst = some x := h
        cases hm : ws.mapM (rdW st k) with
        | none => rw [hm] at h; cases h
        | some ds =>
          rw [hm] at h; cases h
          unfold toP at hp
          cases hq : toPs ds with
          | none => rw [hq] at hp; cases hp
          | some ps =>
            rw [hq] at hp; cases hp
            exact .lst (SqL.of hv) (rds_dp (rd_dp s k) ws vs ds ps hr hm hq)
      | frz y =>
        cases h
        exact dp_of s.sub x _ p h2 hp
      | dct kvs => cases h
/-! ### a tree is frozen -/
theorem below_mono {n m : Nat} {w : W} (h : below n w = true) (e : n ≤ m) : below m w = true := by
  cases w with
  | d x => rfl
  | ref k => have : k < n := by simpa [below] using h
             simp [below]; omega
theorem fz_ok : ∀ (k : Nat) (w : W) (d : Wd) (st st1 : Store) (v : V) (x : D), SR G K d H st → RepW G K d v w → fzW k w st = some (x, st1) →
    ∃ d', Le d d' ∧ SR G K d' H st1 ∧ RepD G K d'.hf v x ∧ st1.length = st.length ∧ ∀ b, below b w = true → ∀ j : Nat, b ≤ j → st1[j]? = st[j]?
  | k, .d y, d, st, st1, v, x, s, r, h => by
    rw [fzW_d] at h; cases h
    exact ⟨d, Le.rfl, s, r, rfl, fun _ _ _ _ => rfl⟩
  | 0, .ref n, d, st, st1, v, x, s, r, h => by simp [fzW] at h
  | k + 1, .ref n, d, st, st1, v, x, s, r, h => by
    obtain ⟨a, rfl, ha⟩ := r
    unfold fzW at h
    cases hc : st[n]? with
    | none => rw [hc] at h; cases h
    | some c =>
      rw [hc] at h
      obtain ⟨a', h1, h2⟩ := s.live n c hc
      rw [ha] at h1; cases h1
      cases c with
      | frz y =>
        cases h
        exact ⟨d, Le.rfl, s, h2, rfl, fun _ _ _ _ => rfl⟩
      | dct kvs => cases h
      | lst ws =>
        obtain ⟨hfa, hb, vs, hv, hr⟩ := h2
        -- the items, one by one
        have items : ∀ (ws : List W) (vs : List V) (d : Wd) (st st1 : Store) (ds : List D), (∀ w ∈ ws, below n w = true) → SR G K d H st → RepWs G K d vs ws → fzL (fzW k) ws st = some (ds, st1) →
            ∃ d', Le d d' ∧ SR G K d' H st1 ∧ RepDs G K d'.hf vs ds ∧ st1.length = st.length ∧ ∀ j : Nat, n ≤ j → st1[j]? = st[j]? := by
          intro ws
          induction ws with
          | nil =>
            intro vs d st st1 ds _ s r h
            cases r
            simp only [fzL, Option.some.injEq, Prod.mk.injEq] at h
            obtain ⟨rfl, rfl⟩ := h
            exact ⟨d, Le.rfl, s, .nil, rfl, fun _ _ => rfl⟩
          | cons w ws ih =>
            intro vs d st st1 ds hb s r h
            cases r with
            | cons r1 r2 =>
              unfold fzL at h
              cases q : fzW k w st with
              | none => rw [q] at h; cases h
              | some y =>
                obtain ⟨y, st2⟩ := y
                rw [q] at h
                have h : (match fzL (fzW k) ws st2 with | none => none | some (ds, st2) => some (y :: ds, st2)) = some (ds, st1) := h
                cases q2 : fzL (fzW k) ws st2 with
                | none => rw [q2] at h; cases h
                | some z =>
                  obtain ⟨z, st3⟩ := z
                  rw [q2] at h; cases h
                  obtain ⟨d2, l2, s2, g2, e2, k2⟩ := fz_ok k w d st st2 _ y s r1 q
                  obtain ⟨d3, l3, s3, g3, e3, k3⟩ := ih _ d2 st2 st1 z (fun w' hw => hb w' (List.mem_cons_of_mem _ hw)) s2 (RepWs.mono l2 r2) q2
                  exact ⟨d3, l2.trans l3, s3, .cons (g2.mono l3.hf) g3, e3.trans e2, fun j hj => (k3 j hj).trans (k2 n (hb w (by simp)) j hj)⟩
        have h : (match fzL (fzW k) ws st with | none => none | some (ds, st1) => some (D.lst ds, st1.set n (.frz (.lst ds)))) = some (x, st1) := h
        cases q : fzL (fzW k) ws st with
        | none => rw [q] at h; cases h
        | some y =>
          obtain ⟨ds, st2⟩ := y
          rw [q] at h; cases h
          obtain ⟨d2, l2, s2, g2, e2, k2⟩ := items ws vs d st st2 ds hb s hr q
          have hn2 : st2[n]? = some (.lst ws) := (k2 n (Nat.le_refl _)).trans hc
          have ha2 : d2.m[n]? = some a := l2.m _ _ ha
          obtain ⟨a3, q1, q2⟩ := s2.live n _ hn2
          rw [ha2] at q1; cases q1
          obtain ⟨hfa2, _, vs2, hv2, _⟩ := q2
          rw [hv] at hv2; cases hv2
          have ext : Ext d2.hf (upd d2.hf a (.lst vs)) := Ext.upd hfa2
          have rep : RepD G K (upd d2.hf a (.lst vs)) (.ref a) (.lst ds) := .lst (SqL.of upd_same) (g2.mono ext)
          obtain ⟨s3, l3⟩ := s2.freeze hn2 ha2 (fun _ z => by cases z) hv rep
          refine ⟨_, l2.trans l3, s3, rep, by simp [e2], fun b hbb j hj => ?_⟩
          have hnb : n < b := by simpa [below] using hbb
          rw [List.getElem?_set_ne (by omega)]
          exact k2 j (by omega)
theorem fzs_ok (k : Nat) : ∀ (ws : List W) (vs : List V) (d : Wd) (st st1 : Store) (ds : List D), SR G K d H st → RepWs G K d vs ws → fzL (fzW k) ws st = some (ds, st1) →
    ∃ d', Le d d' ∧ SR G K d' H st1 ∧ RepDs G K d'.hf vs ds ∧ st1.length = st.length
  | [], vs, d, st, st1, ds, s, r, h => by
    cases r
    simp only [fzL, Option.some.injEq, Prod.mk.injEq] at h
    obtain ⟨rfl, rfl⟩ := h
    exact ⟨d, Le.rfl, s, .nil, rfl⟩
  | w :: ws, vs, d, st, st1, ds, s, r, h => by
    cases r with
    | cons r1 r2 =>
      unfold fzL at h
      cases q : fzW k w st with
      | none => rw [q] at h; cases h
      | some y =>
        obtain ⟨y, st2⟩ := y
        rw [q] at h
        have h : (match fzL (fzW k) ws st2 with | none => none | some (ds, st2) => some (y :: ds, st2)) = some (ds, st1) := h
        cases q2 : fzL (fzW k) ws st2 with
        | none => rw [q2] at h; cases h
        | some z =>
          obtain ⟨z, st3⟩ := z
          rw [q2] at h; cases h
          obtain ⟨d2, l2, s2, g2, e2, _⟩ := fz_ok k w d st st2 _ y s r1 q
          obtain ⟨d3, l3, s3, g3, e3⟩ := fzs_ok k ws _ d2 st2 st1 z s2 (RepWs.mono l2 r2) q2
          exact ⟨d3, l2.trans l3, s3, .cons (g2.mono l3.hf) g3, e3.trans e2⟩
end
end Mi
namespace Mi
open PySem PySem.Spec PyProof.Rows L2
/-! how plain parameters are bound: by place, then by name -/
theorem pure_do {α β : Type} (a : α) (f : α → Sem β) : (pure a >>= f) = f a := rfl
theorem forIn_keeps {α β : Type} {f : α → β → Sem (ForInStep β)} (g : β → α → β) : ∀ (l : List α) (b : β), (∀ b' x, (∃ l1 l2, l = l1 ++ x :: l2 ∧ b' = l1.foldl g b) → f x b' = pure (ForInStep.yield (g b' x))) → forIn l b f = (pure (l.foldl g b) : Sem β)
  | [], b, _ => by rw [List.forIn_nil]; rfl
  | x :: l, b, h => by
    rw [List.forIn_cons, h b x ⟨[], l, rfl, rfl⟩]
    show forIn l (g b x) f = _
    rw [forIn_keeps g l (g b x) fun b' y ⟨l1, l2, e1, e2⟩ => h b' y ⟨x :: l1, l2, by rw [e1]; rfl, e2⟩]
    rfl
theorem lookup_app_none {α : Type} {a : List (Str × α)} {b : List (Str × α)} {k : Str} (h : a.lookup k = none) : (a ++ b).lookup k = b.lookup k := by
  rw [List.lookup_append, h]; rfl
theorem foldl_app {α : Type} : ∀ (l : List α) (a : List α), l.foldl (fun s x => s ++ [x]) a = a ++ l
  | [], a => by simp
  | x :: l, a => by rw [List.foldl_cons, foldl_app]; simp
theorem zip_lookup_none {α : Type} {k : Str} : ∀ {ks : List Str} {ws : List α}, k ∉ ks → (ks.zip ws).lookup k = none
  | [], _, _ => by simp
  | x :: ks, [], _ => by simp
  | x :: ks, w :: ws, h => by
    rw [List.zip_cons_cons, List.lookup_cons]
    have h1 : (k == x) = false := beq_eq_false_iff_ne.mpr fun z => h (z ▸ List.mem_cons_self)
    rw [h1]
    exact zip_lookup_none fun z => h (List.mem_cons_of_mem _ z)
theorem zip_lookup {α : Type} {k : Str} : ∀ {ks : List Str} {ws : List α} {i : Nat}, ks.idxOf k = i → i < ks.length → ks.length = ws.length → (ks.zip ws).lookup k = ws[i]?
  | [], _, i, _, h, _ => by simp at h
  | x :: ks, [], i, _, _, h => by simp at h
  | x :: ks, w :: ws, i, e, h, hl => by
    rw [List.zip_cons_cons, List.lookup_cons]
    by_cases hx : k = x
    · subst hx
      rw [List.idxOf_cons_self] at e
      subst e
      simp
    · have h1 : (k == x) = false := beq_eq_false_iff_ne.mpr hx
      have h2 : (x == k) = false := beq_eq_false_iff_ne.mpr (Ne.symm hx)
      rw [h1]
      rw [List.idxOf_cons, h2] at e
      simp only [cond_false] at e
      subst e
      simp only [List.length_cons] at h hl
      rw [show (w :: ws)[ks.idxOf k + 1]? = ws[ks.idxOf k]? from by simp]
      exact zip_lookup rfl (by omega) (by omega)
/-- the place of each parameter among the values that are handed -/
def permOf (names : List Str) (npos : Nat) (ks : List Str) : List Nat := names.map fun x => (names.take npos ++ ks).idxOf x
def kwFit (names : List Str) (npos : Nat) (ks : List Str) : Bool :=
  decide (npos ≤ names.length) && decide (npos + ks.length = names.length) && ks.all (fun k => names.contains k) && decide (names.take npos ++ ks).Nodup && (permOf names npos ks).all fun i => decide (i < npos + ks.length)
theorem zip_take {α : Type} : ∀ (names : List Str) (us : List α), names.zip us = (names.take us.length).zip us
  | [], us => by simp
  | x :: names, [] => by simp
  | x :: names, u :: us => by simp [zip_take names us]
theorem filterMap_zip {α : Type} {f : Str → Option α} : ∀ {names : List Str} {vs : List α}, names.map f = vs.map some → names.filterMap (fun n => (f n).map (n, ·)) = names.zip vs
  | [], [], _ => rfl
  | [], v :: vs, h => by simp at h
  | x :: names, [], h => by simp at h
  | x :: names, v :: vs, h => by
    simp only [List.map_cons, List.cons.injEq] at h
    rw [List.filterMap_cons, h.1]
    simp only [Option.map_some, List.zip_cons_cons]
    rw [filterMap_zip h.2]
theorem filter_none {α : Type} {f : Str → Option α} : ∀ {names : List Str} {vs : List α}, names.map f = vs.map some → names.filter (fun n => (f n).isNone) = []
  | [], _, _ => rfl
  | x :: names, [], h => by simp at h
  | x :: names, v :: vs, h => by
    simp only [List.map_cons, List.cons.injEq] at h
    rw [List.filter_cons, h.1]
    simp only [Option.isNone_some, Bool.false_eq_true, if_false]
    exact filter_none h.2
theorem bind_kw {fd : FuncData} {as : List Arg} {us ws vs : List Value} {ks : List Str} (hp : fd.params = ⟨[], as, none, [], [], none, []⟩) (hd : fd.defaults = .none) (hfit : kwFit (as.map (·.arg)) us.length ks = true)
    (hw : ks.length = ws.length) (hv : (permOf (as.map (·.arg)) us.length ks).mapM (fun i => (us ++ ws)[i]?) = some vs) : bindArgs fd ⟨us, ks.zip ws⟩ = pure ((as.map (·.arg)).zip vs) := by
  obtain ⟨names, hn⟩ : ∃ names, names = as.map (·.arg) := ⟨_, rfl⟩
  rw [← hn] at hfit hv ⊢
  unfold kwFit at hfit
  simp only [Bool.and_eq_true, decide_eq_true_eq, List.all_eq_true] at hfit
  obtain ⟨⟨⟨⟨f1, f2⟩, f3⟩, f4⟩, f5⟩ := hfit
  have hz : names.zip us = (names.take us.length).zip us := zip_take names us
  have lt : (names.take us.length).length = us.length := by rw [List.length_take]; omega
  have hslots : (names.zip us ++ ks.zip ws) = (names.take us.length ++ ks).zip (us ++ ws) := by
    rw [hz, List.zip_append (by rw [lt])]
  have hres : names.map (fun x => (names.zip us ++ ks.zip ws).lookup x) = vs.map some := by
    have gen : ∀ (l : List Str) (vs : List Value), (∀ x ∈ l, (names.take us.length ++ ks).idxOf x < us.length + ks.length) → (l.map fun x => (names.take us.length ++ ks).idxOf x).mapM (fun i => (us ++ ws)[i]?) = some vs → l.map (fun x => (names.zip us ++ ks.zip ws).lookup x) = vs.map some := by
      intro l
      induction l with
      | nil =>
        intro vs _ h
        rw [List.map_nil, List.mapM_nil] at h
        cases h; rfl
      | cons x l ih =>
        intro vs h0 h
        rw [List.map_cons] at h
        obtain ⟨b, s, e1, e2, rfl⟩ := mapM_cons h
        rw [List.map_cons, List.map_cons, ih s (fun y hy => h0 y (List.mem_cons_of_mem _ hy)) e2, hslots]
        rw [zip_lookup rfl (by rw [List.length_append, lt]; exact h0 x List.mem_cons_self) (by rw [List.length_append, List.length_append, lt, hw]), e1]
    refine gen names vs (fun x hx => f5 _ ?_) hv
    exact List.mem_map.mpr ⟨x, hx, rfl⟩
  unfold bindArgs
  rw [hp]
  dsimp only
  rw [hd]
  simp only [List.map_nil, List.nil_append, ← hn, List.append_nil]
  rw [forIn_keeps (fun (b : List (Str × Value) × List (Str × Value)) x => (b.1 ++ [x], b.2))]
  rotate_left
  · intro b' x ⟨l1, l2, e1, e2⟩
    have hx : x.1 ∈ ks := by
      have : x ∈ ks.zip ws := by rw [e1]; simp
      exact (List.of_mem_zip this).1
    have hb : b'.1 = names.zip us ++ l1 := by
      rw [e2]
      have : ∀ (l : List (Str × Value)) (b : List (Str × Value) × List (Str × Value)), (l.foldl (fun b x => (b.1 ++ [x], b.2)) b).1 = b.1 ++ l := by
        intro l
        induction l with
        | nil => intro b; simp
        | cons y l ih => intro b; rw [List.foldl_cons, ih]; simp
      rw [this]
    have hnone : b'.1.lookup x.1 = none := by
      rw [hb, hz]
      have hnd : (names.take us.length ++ ks).Nodup := f4
      obtain ⟨n1, n2, n3⟩ := List.nodup_append.mp hnd
      rw [lookup_app_none (zip_lookup_none fun z => n3 _ z _ hx rfl)]
      -- the names ahead are other ones
      have hks : ks.zip ws = l1 ++ x :: l2 := e1
      have hm : ks = (l1.map (·.1)) ++ x.1 :: (l2.map (·.1)) := by
        have := congrArg (List.map (·.1)) hks
        rw [List.map_fst_zip (by omega)] at this
        simpa using this
      rw [hm] at n2
      have hx1 : x.1 ∉ l1.map (·.1) := fun z => (List.nodup_append.mp n2).2.2 _ z _ List.mem_cons_self rfl
      have : ∀ (l : List (Str × Value)), x.1 ∉ l.map (·.1) → l.lookup x.1 = none := by
        intro l
        induction l with
        | nil => intro _; rfl
        | cons y l ih =>
          intro h
          rw [List.lookup_cons]
          have h1 : (x.1 == y.1) = false := beq_eq_false_iff_ne.mpr fun z => h (z ▸ by simp)
          rw [h1]
          exact ih fun z => h (by simp only [List.map_cons, List.mem_cons]; exact .inr z)
      exact this l1 hx1
    have hc : (names.contains x.1 || ([] : List Str).contains x.1) = true := by rw [f3 x.1 hx]; rfl
    rw [if_pos hc, if_neg (by rw [hnone]; exact Bool.false_ne_true)]
  have hfold : ∀ (l : List (Str × Value)) (b : List (Str × Value) × List (Str × Value)), (l.foldl (fun b x => (b.1 ++ [x], b.2)) b) = (b.1 ++ l, b.2) := by
    intro l
    induction l with
    | nil => intro b; simp
    | cons y l ih => intro b; rw [List.foldl_cons, ih]; simp
  rw [hfold, pure_do]
  dsimp only
  show (pure (none : Option (Array Value)) >>= _) = _
  rw [pure_do]
  rw [if_neg (by rw [decide_eq_false (by omega)]; exact Bool.false_ne_true)]
  simp only [Option.getD_none, Array.toList_empty, List.drop_nil, List.length_nil, Nat.sub_zero, List.take_length, List.drop_length, List.zip_nil_right, List.forIn_nil]
  rw [filter_none hres]
  rw [if_neg (by decide)]
  rw [pure_do, pure_do]
  dsimp only
  rw [if_neg (by decide), filterMap_zip hres]
theorem binds_of {K : W.Frag} {fd : FuncData} {as : List Arg} (hp : fd.params = ⟨[], as, none, [], [], none, []⟩) (hd : fd.defaults = .none) (hn : (as.map (·.arg)).Nodup) : L2.Binds K fd (as.map (·.arg)) [] := fun s us hk hl => by
  rw [List.append_nil] at hl ⊢
  have idx : ∀ (names pre : List Str), (pre ++ names).Nodup → (names.map fun x => (pre ++ names).idxOf x) = (List.range names.length).map (· + pre.length) := by
    intro names
    induction names with
    | nil => intro pre _; rfl
    | cons x l ih =>
      intro pre h
      have h2 : pre ++ x :: l = (pre ++ [x]) ++ l := by simp
      have h1 : x ∉ pre := fun z => (List.nodup_append.mp h).2.2 x z x List.mem_cons_self rfl
      rw [List.map_cons, List.length_cons, List.range_succ_eq_map, List.map_cons, List.map_map]
      congr 1
      · rw [List.idxOf_append, if_neg h1, List.idxOf_cons_self]
      · rw [h2] at h ⊢
        rw [ih (pre ++ [x]) h]
        refine List.map_congr_left fun k _ => ?_
        simp only [List.length_append, List.length_singleton, Function.comp]
        omega
  have hperm : permOf (as.map (·.arg)) us.length [] = List.range us.length := by
    unfold permOf
    rw [List.append_nil, hl, List.take_length]
    have := idx (as.map (·.arg)) [] (by simpa using hn)
    simpa using this
  have key := bind_kw (us := us) (ws := []) (vs := us) (ks := []) hp hd ?_ rfl ?_
  · exact BindsTo.of_eq key
  · unfold kwFit
    rw [hperm]
    simp only [Bool.and_eq_true, decide_eq_true_eq, List.all_eq_true, List.length_nil, Nat.add_zero, List.append_nil]
    exact ⟨⟨⟨⟨by omega, by omega⟩, fun _ h => by cases h⟩, (List.take_sublist _ _).nodup hn⟩, fun x hx => List.mem_range.mp hx⟩
  · rw [hperm, List.append_nil]
    have gen : ∀ (l pre : List Value), ((List.range l.length).map (· + pre.length)).mapM (fun i => (pre ++ l)[i]?) = some l := by
      intro l
      induction l with
      | nil => intro pre; rfl
      | cons u l ih =>
        intro pre
        rw [List.length_cons, List.range_succ_eq_map, List.map_cons, List.map_map, List.mapM_cons]
        have h1 : (pre ++ u :: l)[0 + pre.length]? = some u := by simp
        rw [h1]
        have h2 : pre ++ u :: l = (pre ++ [u]) ++ l := by simp
        have h3 : (List.range l.length).map ((· + pre.length) ∘ Nat.succ) = (List.range l.length).map (· + (pre ++ [u]).length) := List.map_congr_left fun k _ => by
          simp only [List.length_append, List.length_singleton, Function.comp]
          omega
        rw [h2, h3, ih (pre ++ [u])]
        rfl
    have := gen us []
    simpa using this
end Mi
namespace Mi
open PySem PySem.Spec PyProof.Rows L2
/-! ### what a def promises -/
/-- room for n levels of defs, each with a lambda's call on top -/
abbrev RoomN (n : Nat) (A : Around) : Prop := Room (3 * n + 3) A
structure FnG (P : Program) (w : World) (K : W.Frag) (mg : Str → Option Value) (base : Heap) (n : Nat) (f : Addr) (fd : FuncData) (ps : List Str) (sp : Sp) : Prop where
  len : ∀ vs H Q E, sp vs H Q E → vs.length = ps.length
  run : ∀ (A : Around) (outer : List PySem.Env) (s : Shared) (H : Hp) (args : Args) (us : List Value) (vs : List V) (Q : VK) (E : XK), RoomN n A → A.guards = some [] → Env0 P w K mg base A outer s H → BindsTo s fd args (ps.zip us) → Vals vs us → sp vs H Q E →
    codeAny (model P w) A (.call (.ref f) args) (CR (L2.CX P w) outer P w H s Q E) s
def RT (_ : Wd) (b a : Bool) : Prop := b = a
def spD (G : Gd) (K : W.Frag) (call : Nat → List W → Store → Res W) (f : Nat) : Sp := fun vs H Q E => ∃ d st ws, SR G K d H st ∧ RepWs G K d vs ws ∧ Lk G K (RepW G K) (fun cls dd _ H => E cls dd H) [] d (call f ws st) Q
/-- a def's text -/
structure TxD where
  as : List Arg
  body : List Stmt
  scope : Scope
  N : List Str
/-- the def that catches what its parameter raises, and tells it -/
def cauB (t : TxD) : Bool := match t.as, t.body with
  | [a], [.Assign [.Name h1 _] (.Constant .none _ _) _, .Try [.Expr (.Call (.Name w _) [] [] _) _] [.ExceptHandler (some (.Name x _)) (some e) [.Assign [.Name h2 _] (.Name e2 _) _] _] [] [] _, .Return (some (.Name h3 _)) _] =>
    decide (w = a.arg) && decide (h2 = h1) && decide (h3 = h1) && decide (e2 = e) && decide (x = Str.ofString "StopError") && C8.scC [a.arg, h1, e] [a.arg] t.scope && decide (t.scope.names.lookup a.arg = some .local) && decide (t.scope.names.lookup h1 = some .local) && decide (t.scope.names.lookup e = some .local) && decide (t.scope.names.lookup x = some .globalImplicit) &&
      [a.arg, h1, e].all fun y => !(y == ("__debug__" : Str)) && !(y == ("__classdict__" : Str))
  | _, _ => false
/-- what the class x says: an error's class -/
structure ClsF (K : W.Frag) (mg : Str → Option Value) (x : Str) (Ca : Addr) : Prop where
  mgc : mg x = some (.ref Ca)
  kp : PySem.W.keepIn K (.ref Ca) = true
  bx : PySem.W.subIn K (.ref Ca) (.type "BaseException") = some true
  ty : PySem.W.typeIn K (.ref Ca) = some (.type "type")
  is : L2.ExcC K Ca
/-- what the written part says of such a class: Ca the class, fI its __init__, F the words of that -/
structure IniF (P : Program) (K : W.Frag) (mg : Str → Option Value) (Ca fI : Addr) (F : NdefX.NF) (sv pv fld : Str) : Prop where
  oex : L2.OexC K Ca
  lk : ∃ (oc doc pm ct dV kV : Value) (od an : Option Addr) (osl : Array (Option Value)), K.lookup fI = some ⟨oc, od, .func (PySem.W.fnX F.name F.qual F.params F.body F.scope F.cl dV kV doc pm an (.ref F.c) ct), osl⟩ ∧ dV = .none
  code : PySem.W.codeIn K (.ref F.c) F.qual = true
  file : ∃ (co : Obj) (vs : Array Value) (fl : Str) (tf : Tok), K.lookup F.c = some co ∧ co.data = .fields vs ∧ vs[2]? = some (.str fl tf) ∧ ((P.main.file : Str) == fl) = true
  cl : ∃ (cc : Addr) (co : Obj), F.cl = [(("__class__" : Str), cc)] ∧ K.lookup cc = some co ∧ co.data = .cell (some (.ref Ca))
  find : PySem.W.findIn K (.ref Ca) "__init__" = some (some (.ref fI))
  fty : PySem.W.typeIn K (.ref fI) = some (.type "function")
  sup : PySem.W.ks_superIn K Ca Ca "__init__" = some (some (.builtin "ValueError.__init__"))
  mro : PySem.W.mroIn K Ca (.ref Ca) = some true
  isV : PySem.W.subIn K (.ref Ca) (.type "ValueError") = some true
  opq : PySem.W.nsIn K cStatics "thirdparty.any" = some none
  nofld : PySem.W.findIn K (.ref Ca) fld = some none
  sc : NdefX.NScope [sv, pv, "__class__"] [sv, pv] ["__class__"] F.scope
  ksup : F.scope.names.lookup ("super" : Str) = some .globalImplicit
  msup : mg "super" = none
  top : (P.main.scope.names.lookup ("super" : Str)).isSome = false
  par : ∃ a1 a2 : Arg, F.params = ⟨[], [a1, a2], none, [], [], none, []⟩ ∧ a1.arg = sv ∧ a2.arg = pv
  dsv : (sv == ("__debug__" : Str)) = false ∧ (sv == ("__classdict__" : Str)) = false
  dpv : (pv == ("__debug__" : Str)) = false ∧ (pv == ("__classdict__" : Str)) = false
  body : ∃ (p0 p1 p2 p3 p4 p5 p6 p7 p8 p9 : Pos) (j : Nat) (msg : Str), (p2.endLine == p4.line) = true ∧ F.body = [.Expr (.Call (.Attribute (.Call (.Name "super" p0) [] [] p1) "__init__" p2) [.Constant (.str msg) j p3] [] p4) p5, .Assign [.Attribute (.Name sv p6) fld p7] (.Name pv p8) p9]
/-- the names of a text: of defs, of classes, by number -/
structure Nm where
  fn : Nat → Option Str
  cl : Nat → Option Str
  par : Nat → List Str
  lam : Nat → Bool
  cau : Option TxD
  pln : Nat → Bool
  ini : Nat → Option Str
  fl : List Str
def blts : List Str := ["len", "abs", "int", "tuple", "list", "repr", "min", "max", "sum", "all", "any", "range", "zip", "enumerate", "isinstance", "bool", "str", "sorted", "reversed", "set", "dict", "super"]
structure GOk (G : Gd) (T : Nm) (P : Program) (w : World) (K : W.Frag) (mg : Str → Option Value) (base : Heap) (n : Nat) (C : Ctx) : Prop where
  fns : ∀ f x, T.fn f = some x → ∃ a fd as, G.fa f = some a ∧ mg x = some (.ref a) ∧ W.keepIn K (.ref a) = true ∧ fd.params = ⟨[], as, none, [], [], none, []⟩ ∧ fd.defaults = .none ∧ as.map (·.arg) = T.par f ∧ (T.par f).Nodup ∧ FnG P w K mg base n a fd (T.par f) (spD G K C.call f)
  fas : ∀ f a, G.fa f = some a → ∃ x, T.fn f = some x
  blt : ∀ x ∈ blts, mg x = none
  cls : ∀ c Ca, G.ca c = some Ca → ∃ x, T.cl c = some x
  cla : ∀ c x, T.cl c = some x → ∃ Ca, G.ca c = some Ca ∧ ClsF K mg x Ca
  sub : ∀ c c' Ca Ca', G.ca c = some Ca → G.ca c' = some Ca' → PySem.W.exmOne K (.ref Ca) (.ref Ca') = some (C.sub c c') ∧ PySem.W.kitOne K (.ref Ca) (.ref Ca') = some (C.sub c c')
  pln : ∀ c Ca, G.ca c = some Ca → T.pln c = true → C.flds c = [] ∧ PySem.W.excIn K Ca He.veBase "ValueError.__new__" = true
  ini : ∀ c Ca fld, G.ca c = some Ca → T.ini c = some fld → C.flds c = [fld] ∧ ∃ fI F sv pv, IniF P K mg Ca fI F sv pv fld
  nof : ∀ c Ca f, G.ca c = some Ca → f ∈ T.fl → PySem.W.findIn K (.ref Ca) f = some none
  cau : ∀ t, T.cau = some t → T.cl 0 = some (Str.ofString "StopError") ∧ cauB t = true ∧ ∃ (g : Addr) (dV kV doc pm cdv ct oc : Value) (an od : Option Addr) (osl : Array (Option Value)), mg "_law_caught" = some (.ref g) ∧ W.keepIn K (.ref g) = true ∧
    K.lookup g = some ⟨oc, od, .func (PySem.W.fnOf "_law_caught" "_law_caught" ⟨[], t.as, none, [], [], none, []⟩ t.body t.scope dV kV doc pm an cdv ct), osl⟩ ∧ PySem.W.codeIn K cdv "_law_caught" = true ∧ (PySem.W.fnOf "_law_caught" "_law_caught" ⟨[], t.as, none, [], [], none, []⟩ t.body t.scope dV kV doc pm an cdv ct).defaults = .none
structure Sc where
  N : List Str
  sc : Scope
  fn : Str → Bool
  lam : Bool
/-- lambdas may be made here: the code object and its table are known -/
def LamF (G : Gd) (X : Cx) : Prop := ∃ c P, X.env.code = .ref c ∧ LamX.TabB X.base X.mg c P ∧ (P, X.env.qual ++ "<lambda>") ∈ G.T ∧ ∀ p ∈ G.T, p.1 = P → p.2 = X.env.qual ++ "<lambda>"
structure XOk (G : Gd) (T : Nm) (X : Cx) (S : Sc) (C : Ctx) (n : Nat) (Z : WX) : Prop where
  N : X.N = S.N
  sc : X.env.scope = S.sc
  nd : X.N.Nodup
  calm : X.calm = true
  tk : Takes X Z
  rm : RoomN n X.A
  la : S.lam = true → Room (3 * n + 5) X.A ∧ LamF G X
  gd : X.A.guards = some []
  fn : X.fn = S.fn
  g : GOk G T X.prog X.w X.K X.mg X.base n C

section
variable {G : Gd} {T : Nm} {X : Cx} {S : Sc} {C : Ctx} {n : Nat} {Z : WX}
def tE (G : Gd) (K : W.Frag) (C : Ctx) (Z : WX) (e : E) : TE := fun σ H Q => ∃ d st env, SR G K d H st ∧ EnvR G K d σ env ∧ Lk G K (RepW G K) Z σ d (evE C e env st) Q
def tT (G : Gd) (K : W.Frag) (C : Ctx) (Z : WX) (e : E) : TT := fun σ H Q => ∃ d st env, SR G K d H st ∧ EnvR G K d σ env ∧ Lk G K RT Z σ d (evT C e env st) Q
def tTs (G : Gd) (K : W.Frag) (C : Ctx) (Z : WX) (k : Bool) (es : Es) : TT := fun σ H Q => ∃ d st env, SR G K d H st ∧ EnvR G K d σ env ∧ Lk G K RT Z σ d (evTs C k es env st) Q
def tB' (G : Gd) (K : W.Frag) (C : Ctx) (Z : WX) (k : Bool) (es : Es) : TE := fun σ H Q => ∃ d st env, SR G K d H st ∧ EnvR G K d σ env ∧ Lk G K (RepW G K) Z σ d (evB C k es env st) Q
def tA (G : Gd) (K : W.Frag) (C : Ctx) (Z : WX) (es : Es) : TA := fun σ H Q => ∃ d st env, SR G K d H st ∧ EnvR G K d σ env ∧ Lk G K (RepWs G K) Z σ d (evEs C es env st) Q
theorem _root_.L2.PE.to {e : Expr} {t t' : TE} (h : PE X e t) (k : ∀ σ H Q, t' σ H Q → t σ H Q) : PE X e t' := ⟨fun pins s σ H Q I q => h.run pins s σ H Q I (k σ H Q q)⟩
theorem _root_.L2.PT.to {e : Expr} {t t' : TT} (h : PT X e t) (k : ∀ σ H Q, t' σ H Q → t σ H Q) : PT X e t' := ⟨fun pins s σ H Q I q => h.run pins s σ H Q I (k σ H Q q)⟩
theorem _root_.L2.PW.to {e : Expr} {t t' : TT} (h : PW X e t) (k : ∀ σ H Q, t' σ H Q → t σ H Q) : PW X e t' := ⟨fun wh pins s σ H Q I q => h.run wh pins s σ H Q I (k σ H Q q)⟩
theorem _root_.L2.PA.to {e : List Expr} {t t' : TA} (h : PA X e t) (k : ∀ σ H Q, t' σ H Q → t σ H Q) : PA X e t' := ⟨fun pos pins s σ H Q I q => h.run pos pins s σ H Q I (k σ H Q q)⟩
theorem _root_.L2.PS.to {e : Stmt} {t t' : TS} (h : PS X e t) (k : ∀ D σ H, t' D σ H → t D σ H) : PS X e t' := ⟨fun pins s σ H D I q => h.run pins s σ H D I (k D σ H q)⟩
theorem _root_.L2.PSs.to {e : List Stmt} {t t' : TS} (h : PSs X e t) (k : ∀ D σ H, t' D σ H → t D σ H) : PSs X e t' := ⟨fun pins s σ H D I q => h.run pins s σ H D I (k D σ H q)⟩

/-! ### names, constants -/
theorem e_var {i : Nat} {x : Str} {pos : Pos} (hN : X.N[i]? = some x) (hv : Vis X.env.scope x) (hd : (x == ("__debug__" : Str)) = false) (hcd : (x == ("__classdict__" : Str)) = false) : PE X (.Name x pos) (tE G X.K C Z (.var i)) :=
  (pe_var hN hv hd hcd).to fun σ H Q ⟨d, st, env, s, er, h⟩ => by
    unfold evE at h
    cases q : env[i]? with
    | none => rw [q] at h; exact h.elim
    | some o => cases o with
      | none => rw [q] at h; exact h.elim
      | some w =>
        rw [q] at h
        obtain ⟨v, h1, h2⟩ := er.2 i w q
        exact ⟨v, h1, Lk.run h s h2⟩
theorem e_const {e : Expr} {x : E} {v : V} {w : D} (h : PE X e (tC v)) (hx : ∀ env st, evE C x env st = .ok (.d w) st) (hr : ∀ hf, RepD G X.K hf v w) : PE X e (tE G X.K C Z x) :=
  h.to fun σ H Q ⟨d, st, env, s, er, h⟩ => by
    rw [hx] at h
    exact Lk.run h s (hr d.hf)
theorem e_non {k : Nat} {pos : Pos} : PE X (.Constant .none k pos) (tE G X.K C Z .non) := e_const pe_non (fun _ _ => rfl) fun _ => .non
theorem e_bl {b : Bool} {k : Nat} {pos : Pos} : PE X (.Constant (.bool b) k pos) (tE G X.K C Z (.bl b)) := e_const pe_bl (fun _ _ => rfl) fun _ => .bl b
theorem e_int {i : Int} {k : Nat} {pos : Pos} : PE X (.Constant (.int i) k pos) (tE G X.K C Z (.int i)) := e_const pe_int (fun _ _ => rfl) fun _ => .int i
theorem e_str {x : Str} {k : Nat} {pos : Pos} : PE X (.Constant (.str x) k pos) (tE G X.K C Z (.str x)) := e_const pe_str (fun _ _ => rfl) fun _ => .str x
theorem e_fnv (o : XOk G T X S C n Z) {f : Nat} {x : Str} {pos : Pos} (hf : T.fn f = some x) (hg : Gl X x) (hd : (x == ("__debug__" : Str)) = false) : PE X (.Name x pos) (tE G X.K C Z (.fnv f)) := by
  obtain ⟨a, fd, as, h1, h2, h3, _⟩ := o.g.fns f x hf
  exact e_const (w := .fn f) (pe_glob (v := .ref a) hg h2 rfl hd) (fun _ _ => rfl) fun _ => .fn h1
/-! ### two in a row -/
/-- an operation by its parts -/
def r2 (G : Gd) (K : W.Frag) (f : W → W → Store → Res W) : R2 := fun x y H Q => ∃ d st a b, SR G K d H st ∧ RepW G K d x a ∧ RepW G K d y b ∧ Lk G K (RepW G K) (fun _ _ _ _ => False) [] d (f a b st) Q
/-- it raises nothing -/
def Calm {α : Type} (r : Res α) : Prop := match r with | .exc _ _ _ => False | _ => True
theorem Lk.calm {α β : Type} {K : W.Frag} {R : Wd → β → α → Prop} {σ σ' : L2.St} {Z Z' : WX} {d : Wd} {r : Res α} {Q : β → Hp → Prop} (c : Calm r) (h : Lk G K R Z σ d r Q) : Lk G K R Z' σ' d r Q := by
  cases r with
  | ok a st => exact h
  | exc c fs st => exact c.elim
  | stuck => exact h
theorem two {a b : E} {f : W → W → Store → Res W} (hc : ∀ x y st, Calm (f x y st)) {σ : L2.St} {H : Hp} {Q : VK} {K : W.Frag} {d : Wd} {st : Store} {env : Env} (s : SR G K d H st) (er : EnvR G K d σ env)
    (h : Lk G K (RepW G K) Z σ d ((evE C a env st).bind fun x st1 => (evE C b env st1).bind fun y st2 => f x y st2) Q) : tOp (r2 G K f) (tE G K C Z a) (tE G K C Z b) σ H Q :=
  ⟨d, st, env, s, er, h.bind.imp fun x H1 ⟨d1, st1, wa, l1, s1, ra, h1⟩ => ⟨d1, st1, env, s1, er.mono l1, h1.bind.imp fun y H2 ⟨d2, st2, wb, l2, s2, rb, h2⟩ => ⟨d2, st2, wa, wb, s2, ra.mono l2, rb, h2.calm (hc _ _ _)⟩⟩⟩
theorem opW_calm (o : Op) (x y : W) (st : Store) : Calm (opW o x y st) := by
  unfold opW
  split
  · split <;> trivial
  · trivial
theorem eqW_calm (k : Bool) (x y : W) (st : Store) : Calm (eqW k x y st) := by
  unfold eqW
  split
  · split <;> trivial
  · trivial
theorem isW2_calm (k : Bool) (x y : W) (st : Store) : Calm (isW2 k x y st) := by
  unfold isW2
  split
  · trivial
  · split <;> trivial
  · trivial
theorem cmpW_calm (o : Cmp) (x y : W) (st : Store) : Calm (cmpW o x y st) := by
  unfold cmpW
  split
  · exact eqW_calm _ _ _ _
  · exact eqW_calm _ _ _ _
  · exact isW2_calm _ _ _ _
  · exact isW2_calm _ _ _ _
  · unfold numW
    split
    · split <;> trivial
    · trivial
theorem op_fdivA {X : Cx} : OpR X (binaryOp .FloorDiv) (rI (fun _ j => j ≠ 0 ∧ j.natAbs.log2 < 9000) fun i j => .int (i.fdiv j)) := opI fun _ _ _ _ _ _ _ hc q => floordiv_int hc.1 q (.inl (PyProof.noPylong_of_log2 hc.2))
def opOf : Op → Operator
  | .add => .Add | .sub => .Sub | .mul => .Mult | .fdiv => .FloorDiv | .mod => .Mod | .pow => .Pow
theorem repD_int {K : W.Frag} {hf : Hp} {v : V} {i : Int} (h : RepD G K hf v (.int i)) : v = .int i := by cases h; rfl
theorem repD_bl {K : W.Frag} {hf : Hp} {v : V} {i : Bool} (h : RepD G K hf v (.bl i)) : v = .bl i := by cases h; rfl
theorem repD_str {K : W.Frag} {hf : Hp} {v : V} {i : Str} (h : RepD G K hf v (.str i)) : v = .str i := by cases h; rfl
theorem repD_non {K : W.Frag} {hf : Hp} {v : V} (h : RepD G K hf v .non) : v = .non := by cases h; rfl
theorem opInt {o : Op} {x y z : D} (h : opD o x y = some z) : ∃ i j k, x = .int i ∧ y = .int j ∧ z = .int k := by
  unfold opD at h
  split at h <;> (try split at h) <;> first | (cases h; done) | exact ⟨_, _, _, rfl, rfl, (Option.some.inj h).symm⟩
theorem op_any (o : Op) : OpR X (binaryOp (opOf o)) (r2 G X.K (opW o)) := by
  intro pins s σ H x y v u Q I rx ry ⟨d, st, a, b, sr, ra, rb, h⟩
  cases a with
  | ref k => exact h.elim
  | d a =>
  cases b with
  | ref k => exact h.elim
  | d b =>
  unfold opW at h
  cases q : opD o a b with
  | none => simp only [q] at h; exact h.elim
  | some z =>
    simp only [q] at h
    obtain ⟨i, j, k, rfl, rfl, rfl⟩ := opInt q
    obtain rfl := repD_int ra
    obtain rfl := repD_int rb
    have fin : Q (.int k) H := Lk.run h sr (RepD.int k)
    cases o with
    | add => cases q; exact op_add pins s σ H _ _ v u Q I rx ry ⟨i, j, rfl, rfl, fin⟩
    | sub => cases q; exact op_sub pins s σ H _ _ v u Q I rx ry ⟨i, j, rfl, rfl, fin⟩
    | mul =>
      simp only [opD] at q
      split at q
      · rename_i hm
        cases q
        exact op_mulW pins s σ H _ _ v u Q I rx ry ⟨i, j, rfl, rfl, of_decide_eq_true (p := i.natAbs.log2 + j.natAbs.log2 < 1000000) hm, fin⟩
      · cases q
    | fdiv =>
      simp only [opD] at q
      split at q
      · rename_i hm
        cases q
        exact op_fdivA pins s σ H _ _ v u Q I rx ry ⟨i, j, rfl, rfl, of_decide_eq_true (p := j ≠ 0 ∧ j.natAbs.log2 < 9000) hm, fin⟩
      · cases q
    | mod =>
      simp only [opD] at q
      split at q
      · cases q
      · rename_i hm
        cases q
        exact op_modN pins s σ H _ _ v u Q I rx ry ⟨i, j, rfl, rfl, hm, fin⟩
    | pow =>
      simp only [opD] at q
      split at q
      · rename_i hm
        cases q
        exact op_pow pins s σ H _ _ v u Q I rx ry ⟨i, j, rfl, rfl, of_decide_eq_true (p := 0 ≤ j ∧ j ≤ 1000000 ∧ i.natAbs < 2 ^ 64) hm, fin⟩
      · cases q
theorem e_op {o : Op} {a b : E} {ea eb : Expr} {pos : Pos} (ha : PE X ea (tE G X.K C Z a)) (hb : PE X eb (tE G X.K C Z b)) : PE X (.BinOp ea (opOf o) eb pos) (tE G X.K C Z (.op o a b)) :=
  (pe_op (op_any o) ha hb).to fun σ H Q ⟨d, st, env, s, er, h⟩ => two (opW_calm o) s er (by unfold evE at h; exact h)
end
end Mi
namespace Mi
open PySem PySem.Spec PyProof.Rows L2
section
variable {G : Gd} {T : Nm} {X : Cx} {S : Sc} {C : Ctx} {n : Nat} {Z : WX}
/-! ### comparisons -/
def cmpOf : Cmp → CmpOp
  | .lt => .Lt | .le => .LtE | .gt => .Gt | .ge => .GtE | .eq => .Eq | .ne => .NotEq | .is_ => .Is | .isnot => .IsNot | .in_ => .In | .notin => .NotIn
theorem eqW_inv {neg : Bool} {a b : W} {st : Store} {K : W.Frag} {d : Wd} {σ : L2.St} {Z : WX} {Q : VK} (h : Lk G K (RepW G K) Z σ d (eqW neg a b st) Q) :
    ∃ x y p q, rd st a = some x ∧ rd st b = some y ∧ toP x = some p ∧ toP y = some q ∧ SeqAt.shaped p = true ∧ SeqAt.shaped q = true ∧ Lk G K (RepW G K) Z σ d (.ok (.d (.bl (PyData.eqv p q != neg))) st) Q := by
  unfold eqW at h
  cases h1 : rd st a with
  | none => rw [h1] at h; exact h.elim
  | some x => cases h2 : rd st b with
    | none => rw [h1, h2] at h; exact h.elim
    | some y =>
      simp only [h1, h2] at h
      unfold pyEq at h
      cases h3 : toP x with
      | none => simp only [h3] at h; exact h.elim
      | some p => cases h4 : toP y with
        | none => simp only [h3, h4] at h; exact h.elim
        | some q =>
          simp only [h3, h4] at h
          by_cases h5 : (SeqAt.shaped p && SeqAt.shaped q) = true
          · rw [if_pos h5] at h
            obtain ⟨h6, h7⟩ := (Bool.and_eq_true _ _).mp h5
            exact ⟨x, y, p, q, rfl, rfl, h3, h4, h6, h7, h⟩
          · rw [if_neg h5] at h; exact h.elim
theorem isNon_rep {K : W.Frag} {d : Wd} {v : V} {w : W} (h : RepW G K d v w) : isNonW w = decide (v = .non) := by
  cases w with
  | ref k => obtain ⟨a, rfl, _⟩ := h; rfl
  | d x => cases x <;> (have h' : RepD G K d.hf v _ := h; cases h'; rfl)
theorem cmp_any (o : XOk G T X S C n Z) {c : Cmp} (h1 : c ≠ .in_) (h2 : c ≠ .notin) : OpR X (compareOp (cmpOf c)) (r2 G X.K (cmpW c)) := by
  intro pins s σ H x y v u Q I rx ry ⟨d, st, a, b, sr, ra, rb, h⟩
  have hu := o.rm.units
  have num : ∀ (ci : Cmp), Lk G X.K (RepW G X.K) (fun _ _ _ _ => False) [] d (numW ci a b st) Q → ∃ i j k, x = .int i ∧ y = .int j ∧ cmpI ci i j = some k ∧ Q (.bl k) H := fun ci h => by
    cases a with
    | ref k => exact h.elim
    | d a => cases b with
      | ref k => cases a <;> exact h.elim
      | d b => cases a with
        | int i => cases b with
          | int j =>
            unfold numW at h
            cases q : cmpI ci i j with
            | none => simp only [q] at h; exact h.elim
            | some k => simp only [q] at h; exact ⟨i, j, k, repD_int ra, repD_int rb, q, Lk.run h sr (RepD.bl k)⟩
          | _ => exact h.elim
        | _ => exact h.elim
  have isx : ∀ neg : Bool, Lk G X.K (RepW G X.K) (fun _ _ _ _ => False) [] d (isW2 neg a b st) Q →
      (y = .non ∧ Q (.bl (decide (x = .non) != neg)) H) ∨ ∃ i j : Bool, x = .bl i ∧ y = .bl j ∧ Q (.bl (decide (i = j) != neg)) H := fun neg h => by
    unfold isW2 at h
    split at h
    · refine .inl ⟨repD_non rb, ?_⟩
      rw [isNon_rep ra] at h
      exact Lk.run h sr (RepD.bl _)
    · split at h
      · exact .inr ⟨_, _, repD_bl ra, repD_bl rb, Lk.run h sr (RepD.bl _)⟩
      · exact h.elim
    · exact h.elim
  cases c with
  | eq =>
    obtain ⟨x', y', p, q, e1, e2, e3, e4, e5, e6, h⟩ := eqW_inv h
    have fin := Lk.run h sr (RepD.bl _)
    rw [Bool.bne_false] at fin
    exact op_eqD hu pins s σ H x y v u Q I rx ry ⟨p, q, rd_dp sr _ a x x' p ra e1 e3, rd_dp sr _ b y y' q rb e2 e4, e5, e6, fin⟩
  | ne =>
    obtain ⟨x', y', p, q, e1, e2, e3, e4, e5, e6, h⟩ := eqW_inv h
    have fin := Lk.run h sr (RepD.bl _)
    rw [Bool.bne_true] at fin
    exact op_neD hu pins s σ H x y v u Q I rx ry ⟨p, q, rd_dp sr _ a x x' p ra e1 e3, rd_dp sr _ b y y' q rb e2 e4, e5, e6, fin⟩
  | is_ =>
    rcases isx false h with ⟨e, q⟩ | ⟨i, j, e1, e2, q⟩
    · rw [Bool.bne_false] at q
      exact op_isN pins s σ H x y v u Q I rx ry ⟨e, q⟩
    · rw [Bool.bne_false] at q
      exact op_isBl pins s σ H x y v u Q I rx ry ⟨i, j, e1, e2, q⟩
  | isnot =>
    rcases isx true h with ⟨e, q⟩ | ⟨i, j, e1, e2, q⟩
    · rw [Bool.bne_true] at q
      exact op_notN pins s σ H x y v u Q I rx ry ⟨e, q⟩
    · rw [Bool.bne_true] at q
      exact op_notBl pins s σ H x y v u Q I rx ry ⟨i, j, e1, e2, q⟩
  | lt =>
    obtain ⟨i, j, k, e1, e2, e3, q⟩ := num .lt h
    cases e3
    exact op_lt pins s σ H x y v u Q I rx ry ⟨i, j, e1, e2, q⟩
  | le =>
    obtain ⟨i, j, k, e1, e2, e3, q⟩ := num .le h
    cases e3
    exact op_le pins s σ H x y v u Q I rx ry ⟨i, j, e1, e2, q⟩
  | gt =>
    obtain ⟨i, j, k, e1, e2, e3, q⟩ := num .gt h
    cases e3
    exact op_gt pins s σ H x y v u Q I rx ry ⟨i, j, e1, e2, q⟩
  | ge =>
    obtain ⟨i, j, k, e1, e2, e3, q⟩ := num .ge h
    cases e3
    exact op_ge pins s σ H x y v u Q I rx ry ⟨i, j, e1, e2, q⟩
  | in_ => exact absurd rfl h1
  | notin => exact absurd rfl h2
theorem nomk {c : Cmp} (h1 : c ≠ .in_) (h2 : c ≠ .notin) (b : Expr) : behindInMarks (cmpOf c) b = false := nobehind b (by cases c <;> first | (exact absurd rfl h1) | (exact absurd rfl h2) | (intro z; cases z)) (by cases c <;> first | (exact absurd rfl h1) | (exact absurd rfl h2) | (intro z; cases z))
theorem e_cmp (o : XOk G T X S C n Z) {c : Cmp} (h1 : c ≠ .in_) (h2 : c ≠ .notin) {a b : E} {ea eb : Expr} {pos : Pos} (ha : PE X ea (tE G X.K C Z a)) (hb : PE X eb (tE G X.K C Z b)) : PE X (.Compare ea [cmpOf c] [eb] pos) (tE G X.K C Z (.cmp c a b)) :=
  (pe_cmpR (cmp_any o h1 h2) ha hb (nomk h1 h2 eb)).to fun σ H Q ⟨d, st, env, s, er, h⟩ => two (cmpW_calm c) s er (by unfold evE at h; exact h)
/-! ### truth -/
/-- True or False comes -/
def Truly (r : Res W) : Prop := match r with | .ok (.d (.bl _)) _ => True | .ok _ _ => False | _ => True
theorem cmpW_truly (c : Cmp) (x y : W) (st : Store) : Truly (cmpW c x y st) := by
  unfold cmpW
  split <;> (try unfold eqW) <;> (try unfold isW2) <;> (try unfold numW) <;> (repeat' split) <;> trivial
theorem Lk.tru {r : Res W} {K : W.Frag} {σ : L2.St} {d : Wd} {Q : Bool → Hp → Prop} (c : Truly r) (h : Lk G K RT Z σ d (r.bind truW) Q) : Lk G K (RepW G K) Z σ d r (fun x H => ∃ k, x = .bl k ∧ Q k H) := by
  cases r with
  | ok a st =>
    cases a with
    | ref k => exact c.elim
    | d x => cases x with
      | bl b => exact fun v H d1 l s q => ⟨b, repD_bl q, h b H d1 l s rfl⟩
      | _ => exact c.elim
  | exc c fs st => exact h
  | stuck => exact h
theorem t_cmp (o : XOk G T X S C n Z) {c : Cmp} (h1 : c ≠ .in_) (h2 : c ≠ .notin) {a b : E} {ea eb : Expr} {pos : Pos} (ha : PE X ea (tE G X.K C Z a)) (hb : PE X eb (tE G X.K C Z b)) : PT X (.Compare ea [cmpOf c] [eb] pos) (tT G X.K C Z (.cmp c a b)) :=
  (pt_cmpR (cmp_any o h1 h2) ha hb (nomk h1 h2 eb)).to fun σ H Q ⟨d, st, env, s, er, h⟩ => by
    unfold evT at h
    refine ⟨d, st, env, s, er, h.bind.imp fun x H1 ⟨d1, st1, wa, l1, s1, ra, h1⟩ => ⟨d1, st1, env, s1, er.mono l1, h1.bind.imp fun y H2 ⟨d2, st2, wb, l2, s2, rb, h2⟩ => ⟨d2, st2, wa, wb, s2, ra.mono l2, rb, ?_⟩⟩⟩
    exact (Lk.tru (cmpW_truly _ _ _ _) h2).calm (cmpW_calm _ _ _ _)
theorem tru_any {x : V} {w : W} {st : Store} {H : Hp} {d : Wd} {σ : L2.St} {Q : Bool → Hp → Prop} {K : W.Frag} (s : SR G K d H st) (r : RepW G K d x w) (h : Lk G K RT Z σ d (truW w st) Q) : ∃ k, TruV K x H k ∧ Q k H := by
  have emp : ∀ {vs : List V} {l : List D}, RepDs G K d.hf vs l → (!vs.isEmpty) = !l.isEmpty := fun {vs l} h => by cases h <;> rfl
  have empW : ∀ {vs : List V} {l : List W}, RepWs G K d vs l → (!vs.isEmpty) = !l.isEmpty := fun {vs l} h => by cases h <;> rfl
  cases w with
  | d y =>
    have r : RepD G K d.hf x y := r
    cases r with
    | non => exact ⟨false, rfl, Lk.run h s rfl⟩
    | bl b => exact ⟨b, rfl, Lk.run h s rfl⟩
    | int i => exact ⟨i != 0, rfl, Lk.run h s rfl⟩
    | str z => exact h.elim
    | tup h1 h2 => exact ⟨_, .inr (.inl ⟨_, s.sub.st h1, (emp h2).symm⟩), Lk.run h s rfl⟩
    | lst h1 h2 => exact ⟨_, .inl ⟨_, s.sub.sl h1, (emp h2).symm⟩, Lk.run h s rfl⟩
    | fn h1 => exact h.elim
    | exc h1 h2 h3 => exact h.elim
  | ref k =>
    obtain ⟨a, rfl, ha⟩ := r
    unfold truW at h
    cases hc : st[k]? with
    | none => simp only [hc] at h; exact h.elim
    | some c =>
      obtain ⟨a', q1, q2⟩ := s.live k c hc
      rw [ha] at q1; cases q1
      cases c with
      | lst ws =>
        simp only [hc] at h
        obtain ⟨_, _, vs, hv, hr⟩ := q2
        exact ⟨_, .inl ⟨vs, SqL.of hv, (empW hr).symm⟩, Lk.run h s rfl⟩
      | dct kvs => simp only [hc] at h; exact h.elim
      | frz z =>
        simp only [hc] at h
        have q2 : RepD G K d.hf (.ref a) z := q2
        cases q2 with
        | lst h1 h2 => exact ⟨_, .inl ⟨_, s.sub.sl h1, (emp h2).symm⟩, Lk.run h s rfl⟩
        | tup h1 h2 => exact h.elim
        | fn h1 => exact h.elim
        | exc h1 h2 h3 => exact h.elim
/-- a plain expression as a test -/
theorem t_plain {e : E} {ee : Expr} (he : PE X ee (tE G X.K C Z e)) (hp : ∀ whole, isTrue ee X.env whole = (do let v ← whole; standAt ee.pos; holding [v] (truthy v)))
    (hv : ∀ env st, evT C e env st = (evE C e env st).bind truW) : PT X ee (tT G X.K C Z e) :=
  (pt_truth he hp).to fun σ H Q ⟨d, st, env, s, er, h⟩ => by
    rw [hv] at h
    exact ⟨d, st, env, s, er, h.bind.imp fun x H1 ⟨d1, st1, wa, l1, s1, ra, h1⟩ => tru_any s1 ra h1⟩
end
end Mi
namespace Mi
open PySem PySem.Spec PyProof.Rows L2
section
variable {G : Gd} {T : Nm} {X : Cx} {S : Sc} {C : Ctx} {n : Nat} {Z : WX}
/-! ### chains of comparisons -/
theorem lastM {c c' : Cmp} (h1 : c' ≠ .in_) (h2 : c' ≠ .notin) (b e : Expr) : lastMarks [cmpOf c, cmpOf c'] [b, e] = false := by
  show behindInMarks (cmpOf c') e = false
  exact nomk h1 h2 e
/-- the reading of a chain, at any end -/
theorem chain_read {c c' : Cmp} {a b e : E} {K : W.Frag} {σ : L2.St} {H : Hp} {Q : VK} {d : Wd} {st : Store} {env : Env} (s : SR G K d H st) (er : EnvR G K d σ env)
    (h : Lk G K (RepW G K) Z σ d ((evE C a env st).bind fun x st1 => (evE C b env st1).bind fun y st2 => (cmpW c x y st2).bind fun z st3 => match z with
      | .d (.bl true) => (evE C e env st3).bind fun u st4 => cmpW c' y u st4
      | .d (.bl false) => .ok (.d (.bl false)) st3
      | _ => .stuck) Q) : tChain (r2 G K (cmpW c)) (r2 G K (cmpW c')) (tE G K C Z a) (tE G K C Z b) (tE G K C Z e) σ H Q :=
  ⟨d, st, env, s, er, h.bind.imp fun x H1 ⟨d1, st1, wa, l1, s1, ra, h1⟩ => ⟨d1, st1, env, s1, er.mono l1, h1.bind.imp fun y H2 ⟨d2, st2, wb, l2, s2, rb, h2⟩ => ⟨d2, st2, wa, wb, s2, ra.mono l2, rb, by
    have q := Lk.bind (R := RepW G K) h2
    have tr := cmpW_truly c wa wb st2
    have ca := cmpW_calm c wa wb st2
    cases e1 : cmpW c wa wb st2 with
    | stuck => rw [e1] at q; exact q
    | exc c1 f1 s1 => rw [e1] at ca; exact ca.elim
    | ok z st3 =>
      rw [e1] at q tr
      cases z with
      | ref k => exact tr.elim
      | d z =>
      cases z with
      | bl k =>
        intro v H3 d3 l3 s3 rv
        obtain ⟨d4, st4, w4, l4, s4, r4, h4⟩ := q v H3 d3 l3 s3 rv
        have hv := repD_bl rv
        subst hv
        have hw : w4 = .d (.bl k) := by
          cases w4 with
          | ref j => obtain ⟨a, z, _⟩ := r4; cases z
          | d y => have r4 : RepD G K d4.hf (.bl k) y := r4
                   cases r4; rfl
        subst hw
        refine ⟨k, rfl, ?_⟩
        cases k with
        | true =>
          rw [if_pos rfl]
          exact ⟨d4, st4, env, s4, ((er.mono l1).mono l2).mono l4, h4.bind.imp fun u H5 ⟨d5, st5, wu, l5, s5, ru, h5⟩ => ⟨d5, st5, wb, wu, s5, rb.mono (l4.trans l5), ru, h5.calm (cmpW_calm _ _ _ _)⟩⟩
        | false =>
          rw [if_neg Bool.false_ne_true]
          exact Lk.run h4 s4 (RepD.bl false)
      | _ => exact tr.elim⟩⟩⟩
theorem e_chain (o : XOk G T X S C n Z) {c c' : Cmp} (h1 : c ≠ .in_) (h2 : c ≠ .notin) (h3 : c' ≠ .in_) (h4 : c' ≠ .notin) {a b e : E} {ea eb ee : Expr} {pos : Pos} (ha : PE X ea (tE G X.K C Z a)) (hb : PE X eb (tE G X.K C Z b)) (he : PE X ee (tE G X.K C Z e)) :
    PE X (.Compare ea [cmpOf c, cmpOf c'] [eb, ee] pos) (tE G X.K C Z (.chain c c' a b e)) :=
  (pe_chain (cmp_any o h1 h2) (cmp_any o h3 h4) ha hb he (lastM h3 h4 eb ee)).to fun σ H Q ⟨d, st, env, s, er, h⟩ => chain_read s er (by unfold evE at h; exact h)
theorem t_chain (o : XOk G T X S C n Z) {c c' : Cmp} (h1 : c ≠ .in_) (h2 : c ≠ .notin) (h3 : c' ≠ .in_) (h4 : c' ≠ .notin) {a b e : E} {ea eb ee : Expr} {pos : Pos} (ha : PE X ea (tE G X.K C Z a)) (hb : PE X eb (tE G X.K C Z b)) (he : PE X ee (tE G X.K C Z e)) :
    PT X (.Compare ea [cmpOf c, cmpOf c'] [eb, ee] pos) (tT G X.K C Z (.chain c c' a b e)) :=
  (pt_chain (cmp_any o h1 h2) (cmp_any o h3 h4) ha hb he (lastM h3 h4 eb ee)).to fun σ H Q ⟨d, st, env, s, er, h⟩ => by
    unfold evT at h
    refine chain_read s er ?_
    -- the chain as a value gives True or False
    cases q1 : evE C a env st with
    | stuck => rw [q1] at h; exact h
    | exc c1 f1 s1 => rw [q1] at h; exact h
    | ok x st1 =>
      rw [q1] at h
      simp only [Res.bind] at h ⊢
      cases q2 : evE C b env st1 with
      | stuck => rw [q2] at h; exact h
      | exc c1 f1 s1 => rw [q2] at h; exact h
      | ok y st2 =>
        rw [q2] at h
        simp only at h ⊢
        have tr := cmpW_truly c x y st2
        cases q3 : cmpW c x y st2 with
        | stuck => rw [q3] at h; exact h
        | exc c1 f1 s1 => rw [q3] at h; exact h
        | ok z st3 =>
          rw [q3] at h tr
          simp only at h ⊢
          cases z with
          | ref k => exact tr.elim
          | d z => cases z with
            | bl k => cases k with
              | true =>
                simp only at h ⊢
                cases q4 : evE C e env st3 with
                | stuck => rw [q4] at h; exact h
                | exc c1 f1 s1 => rw [q4] at h; exact h
                | ok u st4 =>
                  rw [q4] at h
                  exact Lk.tru (cmpW_truly _ _ _ _) h
              | false =>
                exact fun v H1 d1 l1 s1 r1 => ⟨false, repD_bl r1, h false H1 d1 l1 s1 rfl⟩
            | _ => exact tr.elim
/-! ### and, or, not, a conditional -/
def bopOf (k : Bool) : BoolOp := if k then .And else .Or
theorem repBl {K : W.Frag} {d : Wd} {v : V} {b : Bool} (h : RepW G K d v (.d (.bl b))) : v = .bl b := repD_bl h
theorem b_one {k : Bool} {a : E} {ea : Expr} {pos : Pos} (ha : PE X ea (tE G X.K C Z a)) : PE X (.BoolOp (bopOf k) [ea] pos) (tB' G X.K C Z k (.cons a .nil)) :=
  (pe_one ha).to fun σ H Q ⟨d, st, env, s, er, h⟩ => ⟨d, st, env, s, er, by unfold evB at h; exact h⟩
theorem b_more {k : Bool} {a b : E} {es : Es} {ea eb : Expr} {rest : List Expr} {pos : Pos} (ha : PE X ea (tE G X.K C Z a)) (hb : PE X (.BoolOp (bopOf k) (eb :: rest) pos) (tB' G X.K C Z k (.cons b es))) :
    PE X (.BoolOp (bopOf k) (ea :: eb :: rest) pos) (tB' G X.K C Z k (.cons a (.cons b es))) := by
  have key : ∀ σ H Q, tB' G X.K C Z k (.cons a (.cons b es)) σ H Q → tE G X.K C Z a σ H fun x H1 => ∃ c, x = .bl c ∧ if c = k then tB' G X.K C Z k (.cons b es) σ H1 Q else Q (.bl c) H1 := fun σ H Q ⟨d, st, env, s, er, h⟩ => by
    unfold evB at h
    refine ⟨d, st, env, s, er, h.bind.imp fun x H1 ⟨d1, st1, w, l1, s1, r1, h1⟩ => ?_⟩
    cases w with
    | ref j => exact h1.elim
    | d w => cases w with
      | bl c =>
        refine ⟨c, repD_bl r1, ?_⟩
        by_cases hc : c = k
        · simp only [if_pos hc] at h1 ⊢
          exact ⟨d1, st1, env, s1, er.mono l1, h1⟩
        · simp only [if_neg hc] at h1 ⊢
          exact Lk.run h1 s1 (RepD.bl c)
      | _ => exact h1.elim
  cases k with
  | true =>
    refine (pe_and ha hb).to fun σ H Q h => ?_
    obtain ⟨d, st, env, s, er, h⟩ := key σ H Q h
    refine ⟨d, st, env, s, er, h.imp fun x H1 ⟨c, e, q⟩ => ⟨c, e, ?_⟩⟩
    cases c with
    | true => exact q
    | false => exact q
  | false =>
    refine (pe_or ha hb).to fun σ H Q h => ?_
    obtain ⟨d, st, env, s, er, h⟩ := key σ H Q h
    refine ⟨d, st, env, s, er, h.imp fun x H1 ⟨c, e, q⟩ => ⟨c, e, ?_⟩⟩
    cases c with
    | true => exact q
    | false => exact q
theorem e_bool {k : Bool} {es : Es} {l : List Expr} {pos : Pos} (h : PE X (.BoolOp (bopOf k) l pos) (tB' G X.K C Z k es)) : PE X (.BoolOp (bopOf k) l pos) (tE G X.K C Z (.bool k es)) :=
  h.to fun σ H Q ⟨d, st, env, s, er, h⟩ => ⟨d, st, env, s, er, by unfold evE at h; exact h⟩
theorem ts_one {k : Bool} {a : E} {ea : Expr} {pos : Pos} (ha : PT X ea (tT G X.K C Z a)) : PW X (.BoolOp (bopOf k) [ea] pos) (tTs G X.K C Z k (.cons a .nil)) := by
  have key : ∀ σ H Q, tTs G X.K C Z k (.cons a .nil) σ H Q → tT G X.K C Z a σ H Q := fun σ H Q ⟨d, st, env, s, er, h⟩ => ⟨d, st, env, s, er, by unfold evTs at h; exact h⟩
  cases k with
  | true => exact (pw_and1 ha).to key
  | false => exact (pw_or1 ha).to key
theorem ts_more {k : Bool} {a b : E} {es : Es} {ea eb : Expr} {rest : List Expr} {pos : Pos} (ha : PT X ea (tT G X.K C Z a)) (hb : PW X (.BoolOp (bopOf k) (eb :: rest) pos) (tTs G X.K C Z k (.cons b es))) :
    PW X (.BoolOp (bopOf k) (ea :: eb :: rest) pos) (tTs G X.K C Z k (.cons a (.cons b es))) := by
  have key : ∀ σ H Q, tTs G X.K C Z k (.cons a (.cons b es)) σ H Q → tT G X.K C Z a σ H fun c H1 => if c = k then tTs G X.K C Z k (.cons b es) σ H1 Q else Q c H1 := fun σ H Q ⟨d, st, env, s, er, h⟩ => by
    unfold evTs at h
    refine ⟨d, st, env, s, er, h.bind.imp fun x H1 ⟨d1, st1, c, l1, s1, r1, h1⟩ => ?_⟩
    have r1 : x = c := r1
    subst r1
    by_cases hc : x = k
    · simp only [if_pos hc] at h1 ⊢
      exact ⟨d1, st1, env, s1, er.mono l1, h1⟩
    · simp only [if_neg hc] at h1 ⊢
      exact Lk.run h1 s1 rfl
  cases k with
  | true =>
    refine (pw_and ha hb).to fun σ H Q h => ?_
    obtain ⟨d, st, env, s, er, h⟩ := key σ H Q h
    refine ⟨d, st, env, s, er, h.imp fun c H1 q => ?_⟩
    cases c with
    | true => exact q
    | false => exact q
  | false =>
    refine (pw_or ha hb).to fun σ H Q h => ?_
    obtain ⟨d, st, env, s, er, h⟩ := key σ H Q h
    refine ⟨d, st, env, s, er, h.imp fun c H1 q => ?_⟩
    cases c with
    | true => exact q
    | false => exact q
theorem t_bool {k : Bool} {es : Es} {l : List Expr} {pos : Pos} (h : PW X (.BoolOp (bopOf k) l pos) (tTs G X.K C Z k es)) : PT X (.BoolOp (bopOf k) l pos) (tT G X.K C Z (.bool k es)) :=
  h.pt.to fun σ H Q ⟨d, st, env, s, er, h⟩ => ⟨d, st, env, s, er, by unfold evT at h; exact h⟩
theorem e_not {a : E} {ea : Expr} {pos : Pos} (ha : PE X ea (tE G X.K C Z a)) : PE X (.UnaryOp .Not ea pos) (tE G X.K C Z (.not a)) :=
  (pe_not ha).to fun σ H Q ⟨d, st, env, s, er, h⟩ => by
    unfold evE at h
    refine ⟨d, st, env, s, er, h.bind.imp fun x H1 ⟨d1, st1, w, l1, s1, r1, h1⟩ => ?_⟩
    cases w with
    | ref j => exact h1.elim
    | d w => cases w with
      | bl c => exact ⟨c, repD_bl r1, Lk.run h1 s1 (RepD.bl _)⟩
      | _ => exact h1.elim
theorem t_not {a : E} {ea : Expr} {pos : Pos} (ha : PT X ea (tT G X.K C Z a)) : PT X (.UnaryOp .Not ea pos) (tT G X.K C Z (.not a)) :=
  (pt_not ha).to fun σ H Q ⟨d, st, env, s, er, h⟩ => by
    unfold evT at h
    refine ⟨d, st, env, s, er, h.bind.imp fun x H1 ⟨d1, st1, w, l1, s1, r1, h1⟩ => ?_⟩
    have r1 : x = w := r1
    subst r1
    exact Lk.run h1 s1 rfl
theorem e_neg {a : E} {ea : Expr} {pos : Pos} (ha : PE X ea (tE G X.K C Z a)) : PE X (.UnaryOp .USub ea pos) (tE G X.K C Z (.neg a)) :=
  (pe_un un_neg ha).to fun σ H Q ⟨d, st, env, s, er, h⟩ => by
    unfold evE at h
    refine ⟨d, st, env, s, er, h.bind.imp fun x H1 ⟨d1, st1, w, l1, s1, r1, h1⟩ => ?_⟩
    cases w with
    | ref j => exact h1.elim
    | d w => cases w with
      | int i => exact ⟨i, repD_int r1, Lk.run h1 s1 (RepD.int _)⟩
      | _ => exact h1.elim
theorem e_ite {c a b : E} {ec ea eb : Expr} {pos : Pos} (hc : PT X ec (tT G X.K C Z c)) (ha : PE X ea (tE G X.K C Z a)) (hb : PE X eb (tE G X.K C Z b)) : PE X (.IfExp ec ea eb pos) (tE G X.K C Z (.ite c a b)) :=
  (pe_ifExp hc ha hb).to fun σ H Q ⟨d, st, env, s, er, h⟩ => by
    unfold evE at h
    refine ⟨d, st, env, s, er, h.bind.imp fun x H1 ⟨d1, st1, w, l1, s1, r1, h1⟩ => ?_⟩
    have r1 : x = w := r1
    subst r1
    cases x with
    | true => exact ⟨d1, st1, env, s1, er.mono l1, h1⟩
    | false => exact ⟨d1, st1, env, s1, er.mono l1, h1⟩
end
end Mi
namespace Mi
open PySem PySem.Spec PyProof.Rows L2
section
variable {G : Gd} {K : W.Frag} {d : Wd} {H : Hp} {st : Store}
/-! ### objects that are held while something is made -/
theorem ext_free {H : Hp} {d : Wd} (e : Ext d.hf H) {p : Addr} (h : H p = none) : d.hf p = none := by
  cases q : d.hf p with
  | none => rfl
  | some u => rw [e p u q] at h; cases h
/-- something new that SR does not speak of -/
theorem SR.plus (s : SR G K d H st) {p : Addr} {o : HO} (hp : H p = none) : SR G K d (upd H p o) st := by
  have ne : ∀ {a u}, H a = some u → a ≠ p := fun e => ne_of_none e hp
  refine ⟨fun a u e => by rw [upd_ne (ne (s.sub a u e))]; exact s.sub a u e, fun a u e => ?_, s.len, s.nd, fun a ha => (let ⟨u, e, e2⟩ := s.thr a ha; ⟨u, by rw [upd_ne (ne e)]; exact e, e2⟩), fun n c e => ?_, fun q hq => ?_, s.nt⟩
  · obtain ⟨h1, h2, h3⟩ := s.res a u e
    exact ⟨by rw [upd_ne (ne h1)]; exact h1, h2, h3⟩
  · obtain ⟨a, h1, h2⟩ := s.live n c e
    refine ⟨a, h1, h2.keep Le.rfl (fun hc => ?_) fun hc => h2.nohf hc⟩
    obtain ⟨u, hu⟩ := h2.there hc
    exact upd_ne (ne hu)
  · obtain ⟨h1, h2, h3, h4⟩ := s.tab q hq
    have hne : q.1 ≠ p := by obtain ⟨ps, h, _⟩ := h1; exact ne h
    exact ⟨tabKeep h1 (fun u e => by rw [upd_ne hne]; exact e) (fun c u e => by rw [upd_ne (ne e)]; exact e), h2, h3, h4⟩
/-- what SR does not speak of is changed -/
structure Loose (G : Gd) (d : Wd) (p : Addr) : Prop where
  hf : d.hf p = none
  rs : d.rs p = none
  m : p ∉ d.m
  tab : ∀ q ∈ G.T, q.1 ≠ p
theorem Loose.of (s : SR G K d H st) {p : Addr} (hp : H p = none) : Loose G d p :=
  { hf := ext_free s.sub hp
    rs := by
      cases q : d.rs p with
      | none => rfl
      | some u => rw [(s.res p u q).1] at hp; cases hp
    m := fun z => by
      obtain ⟨u, e, _⟩ := s.thr p z
      rw [hp] at e; cases e
    tab := fun q hq z => by
      obtain ⟨⟨ps, e, _⟩, _⟩ := s.tab q hq
      rw [z, hp] at e; cases e }
theorem cellAt_m (s : SR G K d H st) {n : Nat} {a : Addr} (h : d.m[n]? = some a) : a ∈ d.m := List.mem_of_getElem? h
theorem SR.loose (s : SR G K d H st) {p : Addr} {o : HO} (l : Loose G d p) (ho : ∀ φ, H p ≠ some (.ext φ)) : SR G K d (upd H p o) st := by
  have ne : ∀ {a u}, d.hf a = some u → a ≠ p := fun e z => by rw [z, l.hf] at e; cases e
  refine ⟨fun a u e => by rw [upd_ne (ne e)]; exact s.sub a u e, fun a u e => ?_, s.len, s.nd, fun a ha => ?_, fun n c e => ?_, fun q hq => ?_, s.nt⟩
  · obtain ⟨h1, h2, h3⟩ := s.res a u e
    have : a ≠ p := fun z => by rw [z, l.rs] at e; cases e
    exact ⟨by rw [upd_ne this]; exact h1, h2, h3⟩
  · have : a ≠ p := fun z => l.m (z ▸ ha)
    rw [upd_ne this]; exact s.thr a ha
  · obtain ⟨a, h1, h2⟩ := s.live n c e
    have : a ≠ p := fun z => l.m (z ▸ List.mem_of_getElem? h1)
    exact ⟨a, h1, h2.keep Le.rfl (fun hc => upd_ne this) fun hc => h2.nohf hc⟩
  · obtain ⟨h1, h2, h3, h4⟩ := s.tab q hq
    have hne := l.tab q hq
    exact ⟨tabKeep h1 (fun u e => by rw [upd_ne hne]; exact e) (fun c u e => by rw [upd_ne (fun z => ho u (by rw [← z]; exact e))]; exact e), h2, h3, h4⟩
/-- held: o stands at p, whatever comes between -/
def Wd.hold (d : Wd) (p : Addr) (o : HO) : Wd := { d with rs := upd d.rs p o }
theorem SR.hold (s : SR G K d H st) {p : Addr} {o : HO} (l : Loose G d p) (hp : H p = some o) (ho : ∀ ps, o ≠ .tbl ps := by intro ps z; cases z) : SR G K (d.hold p o) H st := by
  refine ⟨s.sub, fun a u e => ?_, s.len, s.nd, s.thr, fun n c e => ?_, fun q hq => ?_, fun a ps => ⟨(s.nt a ps).1, fun z => ?_⟩⟩
  rotate_right
  · by_cases h : a = p
    · have z' : upd d.rs p o a = some (.tbl ps) := z
      rw [h, upd_same] at z'; exact ho ps (Option.some.inj z')
    · have z' : upd d.rs p o a = some (.tbl ps) := z
      rw [upd_ne h] at z'; exact (s.nt a ps).2 z'
  · by_cases h : a = p
    · subst h
      have e' : upd d.rs a o a = some u := e
      rw [upd_same] at e'; cases e'
      exact ⟨hp, l.hf, l.m⟩
    · have e' : upd d.rs p o a = some u := e
      rw [upd_ne h] at e'
      exact s.res a u e'
  · obtain ⟨a, h1, h2⟩ := s.live n c e
    refine ⟨a, h1, ?_⟩
    cases c with
    | lst ws => exact h2
    | dct kvs => exact h2
    | frz x => exact h2
  · obtain ⟨h1, h2, h3, h4⟩ := s.tab q hq
    exact ⟨h1, h2, by show upd d.rs p o q.1 = none; rw [upd_ne (l.tab q hq)]; exact h3, h4⟩
/-- no longer held: the world d' of what came between, but for what d holds -/
def Wd.let (d' d : Wd) : Wd := { d' with rs := d.rs }
theorem SR.let {d d' : Wd} {p : Addr} {o : HO} (l : Loose G d p) (le : Le (d.hold p o) d') (s : SR G K d' H st) : SR G K (d'.let d) H st ∧ Le d (d'.let d) ∧ Loose G (d'.let d) p ∧ H p = some o := by
  have hp : d'.rs p = some o := by rw [le.rs]; exact upd_same
  obtain ⟨q1, q2, q3⟩ := s.res p o hp
  have sub : ∀ a u, d.rs a = some u → d'.rs a = some u := fun a u e => by
    rw [le.rs]
    show upd d.rs p o a = some u
    rw [upd_ne (fun z => by rw [z, l.rs] at e; cases e)]; exact e
  refine ⟨⟨s.sub, fun a u e => s.res a u (sub a u e), s.len, s.nd, s.thr, fun n c e => ?_, fun q hq => ?_, fun a ps => ⟨(s.nt a ps).1, fun z => (s.nt a ps).2 (sub a _ z)⟩⟩, ⟨le.hf, rfl, le.m⟩, ⟨q2, l.rs, q3, l.tab⟩, q1⟩
  · obtain ⟨a, h1, h2⟩ := s.live n c e
    refine ⟨a, h1, ?_⟩
    cases c with
    | lst ws => exact h2
    | dct kvs => exact h2
    | frz x => exact h2
  · obtain ⟨h1, h2, h3, h4⟩ := s.tab q hq
    refine ⟨h1, h2, ?_, h4⟩
    cases z : d.rs q.1 with
    | none => exact z
    | some u => rw [sub _ _ z] at h3; cases h3
/-- a new cell at a loose place -/
theorem SR.newL (s : SR G K d H st) {p : Addr} {o : HO} {c : Cell} (l : Loose G d p) (ho : ∀ φ, H p ≠ some (.ext φ))
    (hc : CellR G K { d with m := d.m ++ [p] } (upd H p o) st.length p c) (hcf : ∀ x, c ≠ .frz x) : SR G K { d with m := d.m ++ [p] } (upd H p o) (st ++ [c]) ∧ Le d { d with m := d.m ++ [p] } := by
  have le : Le d { d with m := d.m ++ [p] } := ⟨Ext.rfl, rfl, fun k a h => by
    show (d.m ++ [p])[k]? = some a
    rw [List.getElem?_append_left (List.getElem?_eq_some_iff.mp h).1]; exact h⟩
  have s' := s.loose (o := o) l ho
  refine ⟨⟨s'.sub, fun a u e => ?_, by simp [s.len], ?_, fun a ha => ?_, fun n c' e => ?_, fun q hq => ?_, s.nt⟩, le⟩
  · obtain ⟨h1, h2, h3⟩ := s'.res a u e
    refine ⟨h1, h2, fun hm => ?_⟩
    rcases List.mem_append.mp hm with h | h
    · exact h3 h
    · have : a = p := by simpa using h
      rw [this, l.rs] at e; cases e
  · refine List.nodup_append.mpr ⟨s.nd, by simp, fun a ha b hb => ?_⟩
    have : b = p := by simpa using hb
    subst this
    exact fun z => l.m (z ▸ ha)
  · rcases List.mem_append.mp ha with h | h
    · exact s'.thr a h
    · have : a = p := by simpa using h
      subst this
      exact hc.notbl hcf
  · by_cases hn : n < st.length
    · rw [List.getElem?_append_left hn] at e
      obtain ⟨a, h1, h2⟩ := s'.live n c' e
      exact ⟨a, le.m _ _ h1, h2.keep le (fun hx => rfl) fun hx => h2.nohf hx⟩
    · have hn' : n = st.length := by
        have := (List.getElem?_eq_some_iff.mp e).1
        simp at this; omega
      subst hn'
      have : c' = c := by simpa using e.symm
      subst this
      refine ⟨p, ?_, hc⟩
      show (d.m ++ [p])[st.length]? = some p
      rw [← s.len]; simp
  · obtain ⟨h1, h2, h3, h4⟩ := s'.tab q hq
    refine ⟨h1, h2, h3, fun hm => ?_⟩
    rcases List.mem_append.mp hm with h | h
    · exact h4 h
    · exact l.tab q hq (by simpa using h)
/-- something at a loose place that never changes from now on -/
theorem SR.fix (s : SR G K d H st) {p : Addr} {o : HO} (l : Loose G d p) (hp : H p = some o) (ho : ∀ ps, o ≠ .tbl ps := by intro ps z; cases z) : SR G K { d with hf := upd d.hf p o } H st ∧ Le d { d with hf := upd d.hf p o } := by
  have le : Le d { d with hf := upd d.hf p o } := ⟨Ext.upd l.hf, rfl, fun _ _ h => h⟩
  refine ⟨⟨fun a u e => ?_, fun a u e => ?_, s.len, s.nd, s.thr, fun n c e => ?_, fun q hq => ?_, fun a ps => ⟨fun z => ?_, (s.nt a ps).2⟩⟩, le⟩
  rotate_right
  · by_cases h : a = p
    · have z' : upd d.hf p o a = some (.tbl ps) := z
      rw [h, upd_same] at z'; exact ho ps (Option.some.inj z')
    · have z' : upd d.hf p o a = some (.tbl ps) := z
      rw [upd_ne h] at z'; exact (s.nt a ps).1 z'
  · by_cases h : a = p
    · subst h
      have e' : upd d.hf a o a = some u := e
      rw [upd_same] at e'; cases e'; exact hp
    · have e' : upd d.hf p o a = some u := e
      rw [upd_ne h] at e'
      exact s.sub a u e'
  · obtain ⟨h1, h2, h3⟩ := s.res a u e
    have : a ≠ p := fun z => by rw [z, l.rs] at e; cases e
    exact ⟨h1, by show upd d.hf p o a = none; rw [upd_ne this]; exact h2, h3⟩
  · obtain ⟨a, h1, h2⟩ := s.live n c e
    have : a ≠ p := fun z => l.m (z ▸ List.mem_of_getElem? h1)
    refine ⟨a, h1, h2.keep le (fun _ => rfl) fun hc => ?_⟩
    show upd d.hf p o a = none
    rw [upd_ne this]; exact h2.nohf hc
  · obtain ⟨h1, h2, h3, h4⟩ := s.tab q hq
    exact ⟨h1, by show upd d.hf p o q.1 = none; rw [upd_ne (l.tab q hq)]; exact h2, h3, h4⟩
theorem RepW.hold {p : Addr} {o : HO} {v : V} {w : W} (h : RepW G K d v w) : RepW G K (d.hold p o) v w := by
  cases w with
  | d x => exact h
  | ref k => exact h
theorem EnvR.hold {p : Addr} {o : HO} {σ : L2.St} {env : Env} (h : EnvR G K d σ env) : EnvR G K (d.hold p o) σ env := ⟨h.1, fun i w q => let ⟨v, a, b⟩ := h.2 i w q; ⟨v, a, b.hold⟩⟩
end

section
variable {G : Gd} {T : Nm} {X : Cx} {S : Sc} {C : Ctx} {n : Nat} {Z : WX}
/-! ### arguments -/
def notStar : Expr → Bool
  | .Starred _ _ => false
  | _ => true
theorem starEach_of {e : Expr} (h : notStar e = true) (es : List Expr) (env : PySem.Env) : starEach (e :: es) env = (false, eval e env) :: starEach es env := by
  cases e <;> first | rfl | (exact absurd h Bool.false_ne_true)
theorem a_nil : PA X [] (tA G X.K C Z .nil) := pa_nil.to fun σ H Q ⟨d, st, env, s, er, h⟩ => by
  unfold evEs at h
  exact Lk.run h s .nil
theorem a_cons {a : E} {es : Es} {ea : Expr} {l : List Expr} (hs : notStar ea = true) (ha : PE X ea (tE G X.K C Z a)) (hr : PA X l (tA G X.K C Z es)) : PA X (ea :: l) (tA G X.K C Z (.cons a es)) :=
  (pa_cons ha hr (starEach_of hs _ _)).to fun σ H Q ⟨d, st, env, s, er, h⟩ => by
    unfold evEs at h
    exact ⟨d, st, env, s, er, h.bind.imp fun x H1 ⟨d1, st1, w, l1, s1, r1, h1⟩ => ⟨d1, st1, env, s1, er.mono l1, h1.bind.imp fun xs H2 ⟨d2, st2, ws, l2, s2, r2, h2⟩ => Lk.run h2 s2 (.cons (r1.mono l2) r2)⟩⟩
/-- the items of a list or tuple, as they stand -/
theorem items_sq {K : W.Frag} {d : Wd} {H : Hp} {st : Store} (s : SR G K d H st) {v : V} {w : W} {us : List W} (r : RepW G K d v w) (e : itemsW w st = some us) :
    ∃ a vs, v = .ref a ∧ RepWs G K d vs us ∧ (SqT K H a vs ∨ SqL K H a vs) := by
  have up : ∀ {vs : List V} {l : List D}, RepDs G K d.hf vs l → RepWs G K d vs (l.map .d) := fun {vs l} h => by
    induction l generalizing vs with
    | nil => cases h; exact .nil
    | cons x l ih => cases h with | cons h1 h2 => exact .cons h1 (ih h2)
  cases w with
  | d x =>
    have r : RepD G K d.hf v x := r
    cases r with
    | lst h1 h2 => cases e; exact ⟨_, _, rfl, up h2, .inr (s.sub.sl h1)⟩
    | tup h1 h2 => cases e; exact ⟨_, _, rfl, up h2, .inl (s.sub.st h1)⟩
    | _ => cases e
  | ref k =>
    obtain ⟨a, rfl, ha⟩ := r
    unfold itemsW at e
    cases hc : st[k]? with
    | none => simp only [hc] at e; cases e
    | some c =>
      obtain ⟨a', q1, q2⟩ := s.live k c hc
      rw [ha] at q1; cases q1
      simp only [hc] at e
      cases c with
      | lst ws => cases e; obtain ⟨_, _, vs, hv, hr⟩ := q2; exact ⟨a, vs, rfl, hr, .inr (SqL.of hv)⟩
      | dct kvs => cases e
      | frz y =>
        have q2 : RepD G K d.hf (.ref a) y := q2
        cases q2 with
        | lst h1 h2 => cases e; exact ⟨_, _, rfl, up h2, .inr (s.sub.sl h1)⟩
        | _ => cases e
theorem RepWs.app {K : W.Frag} {d : Wd} {vs ws : List V} {us ys : List W} (h : RepWs G K d vs us) (g : RepWs G K d ws ys) : RepWs G K d (vs ++ ws) (us ++ ys) := by
  induction us generalizing vs with
  | nil => cases h; exact g
  | cons d ds ih => cases h with | cons a b => exact .cons a (ih b)
theorem RepWs.len {K : W.Frag} {d : Wd} {vs : List V} {us : List W} (h : RepWs G K d vs us) : vs.length = us.length := Paired.length h
theorem a_star {a : E} {es : Es} {ea : Expr} {p : Pos} {l : List Expr} (ha : PE X ea (tE G X.K C Z a)) (hr : PA X l (tA G X.K C Z es)) : PA X (.Starred ea p :: l) (tA G X.K C Z (.star a es)) :=
  (StX.pa_star ha hr).to fun σ H Q ⟨d, st, env, s, er, h⟩ => by
    unfold evEs at h
    refine ⟨d, st, env, s, er, h.bind.imp fun x H1 ⟨d1, st1, w, l1, s1, r1, h1⟩ => ?_⟩
    cases e : itemsW w st1 with
    | none => simp only [e] at h1; exact h1.elim
    | some us =>
      simp only [e] at h1
      obtain ⟨a, vs, rfl, rv, q⟩ := items_sq s1 r1 e
      exact ⟨a, vs, rfl, q, d1, st1, env, s1, er.mono l1, h1.bind.imp fun xs H2 ⟨d2, st2, ws, l2, s2, r2, h2⟩ => Lk.run h2 s2 ((rv.mono l2).app r2)⟩
/-! ### displays -/
theorem small_line {k : Nat} (h : small k = true) : k ≤ sizeLine := by
  have := of_decide_eq_true (p := k ≤ 1000000) h
  rw [sizeLine_eq]; omega
theorem fzs_calm (ws : List W) (st : Store) : Calm (fzs ws st) := by
  unfold fzs
  split <;> trivial
/-- a tuple is done -/
theorem mkTup_ok {K : W.Frag} {d : Wd} {H : Hp} {st : Store} {σ : L2.St} {vs : List V} {ws : List W} {Q : VK} (s : SR G K d H st) (r : RepWs G K d vs ws) (h : Lk G K (RepW G K) Z σ d (mkTup ws st) Q) : vs.length ≤ sizeLine ∧ ∀ p, H p = none → Q (.ref p) (upd H p (.tup vs)) := by
  unfold mkTup at h
  by_cases hs : small ws.length = true
  · rw [if_pos hs] at h
    refine ⟨by rw [r.len]; exact small_line hs, fun p hp => ?_⟩
    unfold fzs at h
    cases q : fzL (fzW st.length) ws st with
    | none => rw [q] at h; exact h.elim
    | some y =>
      obtain ⟨ds, st1⟩ := y
      rw [q] at h
      obtain ⟨d1, l1, s1, g1, _⟩ := fzs_ok st.length ws vs d st st1 ds s r q
      obtain ⟨s2, l2⟩ := s1.newF (o := .tup vs) hp
      exact h _ _ _ (l1.trans l2) s2 (RepD.tup (SqT.of upd_same) (g1.mono l2.hf))
  · rw [if_neg hs] at h; exact h.elim
theorem e_tup {es : Es} {l : List Expr} {k : Nat} {pos : Pos} (ha : PA X l (tA G X.K C Z es)) : PE X (.Tuple l k pos) (tE G X.K C Z (.tup es)) :=
  (pe_tup ha).to fun σ H Q ⟨d, st, env, s, er, h⟩ => by
    unfold evE at h
    exact ⟨d, st, env, s, er, h.bind.imp fun xs H1 ⟨d1, st1, ws, l1, s1, r1, h1⟩ => mkTup_ok s1 r1 h1⟩
theorem belowAll {K : W.Frag} {d : Wd} {H : Hp} {st : Store} (s : SR G K d H st) {vs : List V} {ws : List W} (r : RepWs G K d vs ws) : ∀ w ∈ ws, below st.length w = true := by
  intro w hw
  induction ws generalizing vs with
  | nil => cases hw
  | cons x xs ih => cases r with
    | cons a b =>
      rcases List.mem_cons.mp hw with rfl | hw
      · cases w with
        | d x => rfl
        | ref k => obtain ⟨_, _, q⟩ := a; simp [below, s.get_lt q]
      · exact ih b hw
/-- a list is done at a loose place -/
theorem lst_at {K : W.Frag} {d : Wd} {H : Hp} {st : Store} {σ : L2.St} {vs : List V} {ws : List W} {Q : VK} {cell : Bool} {p : Addr} (s : SR G K d H st) (r : RepWs G K d vs ws) (l : Loose G d p) (hp : H p = some (.lst vs)) (h : Lk G K (RepW G K) Z σ d (mkLst cell ws st) Q) : Q (.ref p) H := by
  unfold mkLst at h
  by_cases hs : small ws.length = true
  · rw [if_pos hs] at h
    cases cell with
    | true =>
      rw [if_pos rfl] at h
      have hu : upd H p (.lst vs) = H := by
        funext b
        by_cases e : b = p
        · rw [e, upd_same, hp]
        · rw [upd_ne e]
      have le : Le d { d with m := d.m ++ [p] } := ⟨Ext.rfl, rfl, fun k a h => by
        show (d.m ++ [p])[k]? = some a
        rw [List.getElem?_append_left (List.getElem?_eq_some_iff.mp h).1]; exact h⟩
      obtain ⟨s2, l2⟩ := s.newL (o := .lst vs) (c := .lst ws) l (fun φ z => by rw [hp] at z; cases z) ⟨l.hf, belowAll s r, vs, upd_same, r.mono le⟩ (fun x z => by cases z)
      rw [hu] at s2
      refine h _ _ _ l2 s2 ⟨p, rfl, ?_⟩
      show (d.m ++ [p])[st.length]? = some p
      rw [← s.len]; simp
    | false =>
      rw [if_neg Bool.false_ne_true] at h
      unfold fzs at h
      cases q : fzL (fzW st.length) ws st with
      | none => rw [q] at h; exact h.elim
      | some y =>
        obtain ⟨ds, st1⟩ := y
        rw [q] at h
        -- held while its items are frozen
        obtain ⟨d1, l1, s1, g1, _⟩ := fzs_ok st.length ws vs (d.hold p (.lst vs)) st st1 ds (s.hold l hp) (Paired.mapP r fun _ _ => RepW.hold) q
        obtain ⟨s2, l2, lo2, hp2⟩ := SR.let l l1 s1
        obtain ⟨s3, l3⟩ := s2.fix lo2 hp2
        exact h _ _ _ (l2.trans l3) s3 (RepD.lst (SqL.of upd_same) (g1.mono l3.hf))
  · rw [if_neg hs] at h; exact h.elim
theorem mkLst_line {K : W.Frag} {d : Wd} {st : Store} {σ : L2.St} {ws : List W} {Q : VK} {cell : Bool} (h : Lk G K (RepW G K) Z σ d (mkLst cell ws st) Q) : ws.length ≤ sizeLine := by
  unfold mkLst at h
  by_cases hs : small ws.length = true
  · exact small_line hs
  · rw [if_neg hs] at h; exact h.elim
theorem mkLst_ok {K : W.Frag} {d : Wd} {H : Hp} {st : Store} {σ : L2.St} {vs : List V} {ws : List W} {Q : VK} {cell : Bool} (s : SR G K d H st) (r : RepWs G K d vs ws) (h : Lk G K (RepW G K) Z σ d (mkLst cell ws st) Q) : vs.length ≤ sizeLine ∧ ∀ p, H p = none → Q (.ref p) (upd H p (.lst vs)) :=
  ⟨by rw [r.len]; exact mkLst_line h, fun p hp => lst_at (s.plus hp) r (Loose.of s hp) upd_same h⟩
theorem e_lst {cell : Bool} {es : Es} {l : List Expr} {pos : Pos} (ha : PA X l (tA G X.K C Z es)) : PE X (.List l pos) (tE G X.K C Z (.lst cell es)) :=
  (pe_lst ha).to fun σ H Q ⟨d, st, env, s, er, h⟩ => by
    unfold evE at h
    exact ⟨d, st, env, s, er, h.bind.imp fun xs H1 ⟨d1, st1, ws, l1, s1, r1, h1⟩ => mkLst_ok s1 r1 h1⟩
end
end Mi
namespace Mi
open PySem PySem.Spec PyProof.Rows L2
/-! ### subscripts -/
theorem paired_get {α β : Type} {F : α → β → Prop} : ∀ {xs : List α} {ys : List β} {i : Nat} {y : β}, Paired F xs ys → ys[i]? = some y → ∃ x, xs[i]? = some x ∧ F x y
  | _, _, _, _, .nil, e => by simp at e
  | _, _, 0, _, .cons r _, e => by simp at e; subst e; exact ⟨_, rfl, r⟩
  | _, _, i + 1, y, .cons _ t, e => by
    obtain ⟨u, h1, h2⟩ := paired_get (i := i) (y := y) t (by simpa using e)
    exact ⟨u, by simpa using h1, h2⟩
theorem paired_set {α β : Type} {F : α → β → Prop} {x : α} {y : β} (r : F x y) : ∀ {xs : List α} {ys : List β} (i : Nat), Paired F xs ys → Paired F (xs.set i x) (ys.set i y)
  | _, _, _, .nil => .nil
  | _, _, 0, .cons _ t => .cons r t
  | _, _, i + 1, .cons q t => .cons q (paired_set r i t)
theorem paired_app {α β : Type} {F : α → β → Prop} : ∀ {xs xs' : List α} {ys ys' : List β}, Paired F xs ys → Paired F xs' ys' → Paired F (xs ++ xs') (ys ++ ys')
  | _, _, _, _, .nil, h => h
  | _, _, _, _, .cons r t, h => .cons r (paired_app t h)
theorem paired_erase {α β : Type} {F : α → β → Prop} : ∀ {xs : List α} {ys : List β} (i : Nat), Paired F xs ys → Paired F (xs.eraseIdx i) (ys.eraseIdx i)
  | _, _, _, .nil => .nil
  | _, _, 0, .cons _ t => t
  | _, _, i + 1, .cons q t => .cons q (paired_erase i t)
theorem paired_map {α β γ δ : Type} {F : α → β → Prop} {E : γ → δ → Prop} {f : α → γ} {g : β → δ} (h : ∀ a b, F a b → E (f a) (g b)) : ∀ {xs : List α} {ys : List β}, Paired F xs ys → Paired E (xs.map f) (ys.map g)
  | _, _, .nil => .nil
  | _, _, .cons r t => .cons (h _ _ r) (paired_map h t)
theorem paired_mem {α β : Type} {F : α → β → Prop} : ∀ {xs : List α} {ys : List β} {y : β}, Paired F xs ys → y ∈ ys → ∃ x, x ∈ xs ∧ F x y
  | _, _, _, .nil, h => by cases h
  | _, _, y, .cons r t, h => by
    rcases List.mem_cons.mp h with rfl | h
    · exact ⟨_, List.mem_cons_self, r⟩
    · obtain ⟨x, h1, h2⟩ := paired_mem t h
      exact ⟨x, List.mem_cons_of_mem _ h1, h2⟩
theorem ixN_eq (n : Nat) (i : Int) : Mi.ixN n i = L2.ixN n i := rfl
theorem atI_rep {α β : Type} {F : α → β → Prop} {xs : List α} {ys : List β} {k : Int} {y : β} (r : Paired F xs ys) (h : Mi.atI ys k = some y) : ∃ x, L2.atI xs k = some x ∧ F x y := by
  unfold Mi.atI at h
  have hl := Paired.length r
  cases q : Mi.ixN ys.length k with
  | none => rw [q] at h; cases h
  | some j =>
    rw [q] at h
    obtain ⟨x, h1, h2⟩ := paired_get r h
    refine ⟨x, ?_, h2⟩
    unfold L2.atI
    rw [hl, ← ixN_eq, q]
    exact h1
section
variable {G : Gd} {K : W.Frag}
theorem RepDs.paired {hf : Hp} {vs : List V} {ds : List D} (h : RepDs G K hf vs ds) : Paired (RepD G K hf) vs ds := by
  induction ds generalizing vs with
  | nil => cases h; exact .nil
  | cons d ds ih => cases h with | cons a b => exact .cons a (ih b)
theorem RepDs.of_paired {hf : Hp} {vs : List V} {ds : List D} (h : Paired (RepD G K hf) vs ds) : RepDs G K hf vs ds := by
  induction ds generalizing vs with
  | nil => cases h; exact .nil
  | cons d ds ih => cases h with | cons a b => exact .cons a (ih b)
theorem key_rep {d : Wd} {v : V} {w : W} {k : Key} (r : RepW G K d v w) (h : keyOf w = some k) : v = kV k := by
  cases w with
  | ref n => cases h
  | d x => cases x with
    | int i => cases h; exact repD_int r
    | str i => cases h; exact repD_str r
    | _ => cases h
theorem val_rep {d : Wd} {k : Key} {x : W} : ∀ {ks : List (Key × V)} {kvs : List (Key × W)}, RepKs G K d ks kvs → getK kvs k = some x → ∃ v, valV ks k = some v ∧ RepW G K d v x
  | _, _, .nil, h => by cases h
  | p :: ks, q :: kvs, .cons r t, h => by
    obtain ⟨e1, e2⟩ := r
    unfold getK at h
    by_cases e : q.1 = k
    · rw [if_pos e] at h; cases h
      exact ⟨p.2, valV_pos (e1.trans e), e2⟩
    · rw [if_neg e] at h
      obtain ⟨v, h1, h2⟩ := val_rep t h
      exact ⟨v, by rw [valV_neg (fun z => e (e1.symm.trans z))]; exact h1, h2⟩
theorem any_rep {d : Wd} {k : Key} : ∀ {ks : List (Key × V)} {kvs : List (Key × W)}, RepKs G K d ks kvs → (ks.any fun kv => decide (kv.1 = k)) = (kvs.any fun kv => decide (kv.1 = k))
  | _, _, .nil => rfl
  | p :: ks, q :: kvs, .cons r t => by
    rw [List.any_cons, List.any_cons, any_rep t, r.1]
theorem put_rep {d : Wd} {k : Key} {v : V} {x : W} {ks : List (Key × V)} {kvs : List (Key × W)} (r : RepKs G K d ks kvs) (rv : RepW G K d v x) : RepKs G K d (putK ks k v) (putKey kvs k x) := by
  unfold putK putKey
  rw [any_rep r]
  by_cases e : (kvs.any fun kv => decide (kv.1 = k)) = true
  · rw [if_pos e, if_pos e]
    refine paired_map (fun a b h => ?_) r
    by_cases z : b.1 = k
    · rw [if_pos z, if_pos (h.1.trans z)]; exact ⟨h.1, rv⟩
    · rw [if_neg z, if_neg (fun q => z (h.1.symm.trans q))]; exact h
  · rw [if_neg e, if_neg e]
    exact paired_app r (.cons ⟨rfl, rv⟩ .nil)
theorem put_mem {k : Key} {x : W} {kvs : List (Key × W)} {p : Key × W} (h : p ∈ putKey kvs k x) : p ∈ kvs ∨ p.2 = x := by
  unfold putKey at h
  split at h
  · obtain ⟨q, h1, h2⟩ := List.mem_map.mp h
    split at h2
    · subst h2; exact .inr rfl
    · subst h2; exact .inl h1
  · rcases List.mem_append.mp h with h | h
    · exact .inl h
    · have : p = (k, x) := by simpa using h
      subst this; exact .inr rfl
end
section
variable {G : Gd} {T : Nm} {X : Cx} {S : Sc} {C : Ctx} {n : Nat} {Z : WX}
theorem ix_dict (hu : X.A.units + 1 < cLine) : IxR X (fun x y H Q => ∃ a v, x = .ref a ∧ DGet H a y (some v) ∧ Q v H) := by
  intro value slice pins s σ H x y v u Q I rx ry ⟨a, z, ex, g, q⟩ hs
  subst ex
  obtain rfl : v = Value.ref a := rx
  exact tail_any (dict_typeIs I g) PySem.F.slot_dict_getitem.lookup (d_getItem hu I g ry fun w' s3 I3 rw' => ⟨z, H, I3, rw', q⟩) hs
theorem idx_any (o : XOk G T X S C n Z) : IxR X (r2 G X.K idxW) := by
  intro value slice pins s σ H x y v u Q I rx ry ⟨d, st, a, b, sr, ra, rb, h⟩ hs
  have tupc : ∀ {p : Addr} {vs : List V} {l : List D} {k : Int} {z : D}, SqT X.K H p vs → RepDs G X.K d.hf vs l → y = .int k → x = .ref p → Mi.atI l k = some z → (∀ v, RepD G X.K d.hf v z → Q v H) →
      wpAny (model X.prog X.w) X.A (subscriptTail value slice v u) (EP X pins σ Q) X.xe s := fun {p vs l k z} h1 h2 ey ex ha hQ => by
    obtain ⟨v', e1, e2⟩ := atI_rep h2.paired ha
    exact ix_tup value slice pins s σ H x y v u Q I rx ry ⟨p, vs, k, v', ex, ey, h1, e1, hQ v' e2⟩ hs
  have lstc : ∀ {p : Addr} {vs : List V} {l : List D} {k : Int} {z : D}, SqL X.K H p vs → RepDs G X.K d.hf vs l → y = .int k → x = .ref p → Mi.atI l k = some z → (∀ v, RepD G X.K d.hf v z → Q v H) →
      wpAny (model X.prog X.w) X.A (subscriptTail value slice v u) (EP X pins σ Q) X.xe s := fun {p vs l k z} h1 h2 ey ex ha hQ => by
    obtain ⟨v', e1, e2⟩ := atI_rep h2.paired ha
    exact ix_list value slice pins s σ H x y v u Q I rx ry ⟨p, vs, k, v', ex, ey, h1, e1, hQ v' e2⟩ hs
  cases a with
  | d xa =>
    have ra : RepD G X.K d.hf x xa := ra
    cases b with
    | ref k => cases xa <;> exact h.elim
    | d xb => cases xb with
      | int k =>
        have ey := repD_int rb
        cases ra with
        | tup h1 h2 =>
          rename_i a vs l
          have h : Lk G X.K (RepW G X.K) (fun _ _ _ _ => False) [] d (match Mi.atI l k with | some x => .ok (.d x) st | none => .stuck) Q := h
          cases e : Mi.atI l k with
          | none => rw [e] at h; exact h.elim
          | some z => rw [e] at h; exact tupc (sr.sub.st h1) h2 ey rfl e fun v r => Lk.run h sr r
        | lst h1 h2 =>
          rename_i a vs l
          have h : Lk G X.K (RepW G X.K) (fun _ _ _ _ => False) [] d (match Mi.atI l k with | some x => .ok (.d x) st | none => .stuck) Q := h
          cases e : Mi.atI l k with
          | none => rw [e] at h; exact h.elim
          | some z => rw [e] at h; exact lstc (sr.sub.sl h1) h2 ey rfl e fun v r => Lk.run h sr r
        | _ => exact h.elim
      | _ => cases xa <;> exact h.elim
  | ref m =>
    obtain ⟨a, rfl, ha⟩ := ra
    unfold idxW at h
    cases hc : st[m]? with
    | none => simp only [hc] at h; exact h.elim
    | some c =>
      obtain ⟨a', q1, q2⟩ := sr.live m c hc
      rw [ha] at q1; cases q1
      cases c with
      | lst ws =>
        simp only [hc] at h
        obtain ⟨_, _, vs, hv, hr⟩ := q2
        cases b with
        | ref k => exact h.elim
        | d xb => cases xb with
          | int k =>
            simp only at h
            cases e : Mi.atI ws k with
            | none => rw [e] at h; exact h.elim
            | some z =>
              rw [e] at h
              obtain ⟨v', e1, e2⟩ := atI_rep hr e
              exact ix_list value slice pins s σ H _ y v u Q I rx ry ⟨a, vs, k, v', rfl, repD_int rb, SqL.of hv, e1, Lk.run h sr e2⟩ hs
          | _ => exact h.elim
      | frz z =>
        have q2 : RepD G X.K d.hf (.ref a) z := q2
        simp only [hc] at h
        cases q2 with
        | lst h1 h2 =>
          rename_i vs l
          cases b with
          | ref k => exact h.elim
          | d xb => cases xb with
            | int k =>
              have h : Lk G X.K (RepW G X.K) (fun _ _ _ _ => False) [] d (match Mi.atI l k with | some x => .ok (.d x) st | none => .stuck) Q := h
              cases e : Mi.atI l k with
              | none => rw [e] at h; exact h.elim
              | some z => rw [e] at h; exact lstc (sr.sub.sl h1) h2 (repD_int rb) rfl e fun v r => Lk.run h sr r
            | _ => exact h.elim
        | _ => exact h.elim
      | dct kvs =>
        simp only [hc] at h
        obtain ⟨_, _, ks, hv, hr⟩ := q2
        cases ek : keyOf b with
        | none => rw [ek] at h; exact h.elim
        | some k =>
          rw [ek] at h
          simp only at h
          cases e : getK kvs k with
          | none => rw [e] at h; exact h.elim
          | some z =>
            rw [e] at h
            obtain ⟨v', e1, e2⟩ := val_rep hr e
            have ey := key_rep rb ek
            subst ey
            exact ix_dict (hu_of o.rm) value slice pins s σ H _ _ v u Q I rx ry ⟨a, v', rfl, by rw [← e1]; exact DGet.k hv, Lk.run h sr e2⟩ hs
theorem idxW_calm (x y : W) (st : Store) : Calm (idxW x y st) := by
  unfold idxW
  repeat' split
  all_goals trivial
theorem plainIx_of {b : Expr} (h : (match b with | .Slice _ _ none _ => false | _ => true) = true) : PlainIx b := by
  intro o i
  unfold subscripted
  split
  · simp at h
  · rename_i z; cases z
  · rfl
theorem e_idx (o : XOk G T X S C n Z) {a b : E} {ea eb : Expr} {pos : Pos} (hp : PlainIx eb) (ha : PE X ea (tE G X.K C Z a)) (hb : PE X eb (tE G X.K C Z b)) : PE X (.Subscript ea eb pos) (tE G X.K C Z (.idx a b)) :=
  (pe_ix (idx_any o) ha hb hp).to fun σ H Q ⟨d, st, env, s, er, h⟩ => two idxW_calm s er (by unfold evE at h; exact h)
end
end Mi
namespace Mi
open PySem PySem.Spec PyProof.Rows L2
section
variable {G : Gd} {T : Nm} {X : Cx} {S : Sc} {C : Ctx} {n : Nat} {Z : WX}
/-! ### calls of defs -/
def noStars : List Expr → Bool
  | [] => true
  | e :: es => notStar e && noStars es
theorem noStars_any {pos : Pos} {env : PySem.Env} : ∀ {es : List Expr}, noStars es = true → (backTo pos (starEach es env)).any (·.1) = false
  | [], _ => rfl
  | e :: es, h => by
    obtain ⟨h1, h2⟩ := (Bool.and_eq_true _ _).mp h
    rw [starEach_of h1]
    show (false || (backTo pos (starEach es env)).any (·.1)) = false
    rw [noStars_any h2]; rfl
/-- the end of a def's run, seen by its caller -/
theorem ends_g {pins : List (Addr × Obj)} {σ : L2.St} {H : Hp} {s s' : Shared} {Q : VK} {r : Result} (tk : Takes X Z) (I : Inv X pins σ H s) (h : CR (L2.CX X.prog X.w) X.stack X.prog X.w H s Q (WE Z σ) r s') :
    (∃ u, r = .ok (.ret u) ∧ EP X pins σ Q u s') ∨ ∃ e, r = .error e ∧ X.xe e s' := by
  rcases r with e | fl
  · exact .inr ⟨e, rfl, passAt tk σ pins H s e s' I h⟩
  · cases fl <;> first | exact .inl ⟨_, rfl, I.after h⟩ | exact h.elim
theorem run_kw {ps : List Str} {fd : FuncData} {f : Addr} {sp : Sp} {pins : List (Addr × Obj)} {σ : L2.St} {H : Hp} {s : Shared} {Q : VK} {ar : Args} {us : List Value} {vs : List V} (tk : Takes X Z) (rm : RoomN n X.A) (gd : X.A.guards = some [])
    (F : FnG X.prog X.w X.K X.mg X.base n f fd ps sp) (I : Inv X pins σ H s) (b : BindsTo s fd ar (ps.zip us)) (r : Vals vs us) (h : sp vs H Q (WE Z σ)) : wpAny (model X.prog X.w) X.A (call (.ref f) ar.pos ar.kw) (EP X pins σ Q) X.xe s := by
  have go := F.run X.A X.stack s H ar us vs Q (WE Z σ) rm gd I.env0 b r h
  apply wpAny_call
  apply codeAny_mono go
  intro r2 s2 h2
  rcases ends_g tk I h2 with ⟨u, rfl, q⟩ | ⟨e, rfl, q⟩
  · exact q
  · exact q
theorem run_g {ps : List Str} {fd : FuncData} {f : Addr} {sp : Sp} {pins : List (Addr × Obj)} {σ : L2.St} {H : Hp} {s : Shared} {Q : VK} {us : List Value} {vs : List V} (tk : Takes X Z) (rm : RoomN n X.A) (gd : X.A.guards = some [])
    (F : FnG X.prog X.w X.K X.mg X.base n f fd ps sp) (hb : L2.Binds X.K fd ps []) (I : Inv X pins σ H s) (r : Vals vs us) (h : sp vs H Q (WE Z σ)) : wpAny (model X.prog X.w) X.A (call (.ref f) us) (EP X pins σ Q) X.xe s := by
  have b := hb s us I.kIn (by simp only [List.append_nil, ← r.length]; exact F.len _ _ _ _ h)
  simp only [List.append_nil] at b
  exact run_kw (ar := ⟨us, []⟩) tk rm gd F I b r h
/-- what a call asks: the promise of the def -/
theorem lk_sp {K : W.Frag} {call : Nat → List W → Store → Res W} {d : Wd} {H : Hp} {st : Store} {σ : L2.St} {f : Nat} {vs : List V} {ws : List W} {Q : VK} (s : SR G K d H st) (r : RepWs G K d vs ws) (h : Lk G K (RepW G K) Z σ d (call f ws st) Q) : spD G K call f vs H Q (WE Z σ) := by
  refine ⟨d, st, ws, s, r, ?_⟩
  cases e : call f ws st with
  | ok a st1 => rw [e] at h; exact h
  | exc c fs st1 => rw [e] at h; exact h
  | stuck => rw [e] at h; exact h
theorem e_call0 (o : XOk G T X S C n Z) {f : Nat} {x : Str} {p pos : Pos} (hf : T.fn f = some x) (hg : Gl X x) (hd : (x == ("__debug__" : Str)) = false) :
    PE X (.Call (.Name x p) [] [] pos) (tE G X.K C Z (.call f .nil)) := by
  obtain ⟨a, fd, as, h1, h2, h3, p1, p2, p3, p4, h5⟩ := o.g.fns f x hf
  have h4 : L2.Binds X.K fd (T.par f) [] := by rw [← p3]; exact binds_of p1 p2 (by rw [p3]; exact p4)
  refine ⟨fun pins s σ H Q I ⟨d, st, env, sr, er, h⟩ => ?_⟩
  unfold evE evEs at h
  refine wpAny_Call_Name_kw (ld_glob I hg h2 ?_ hd)
  exact PySem.W.callWith_K0 I.kIn h3 (run_g (us := []) o.tk o.rm o.gd h5 h4 I .nil (lk_sp (ws := []) sr .nil h))
theorem e_call (o : XOk G T X S C n Z) {f : Nat} {x : Str} {p pos : Pos} {es : Es} {e : Expr} {l : List Expr} (hf : T.fn f = some x) (hg : Gl X x) (hd : (x == ("__debug__" : Str)) = false) (hs : noStars (e :: l) = true) (ha : PA X (e :: l) (tA G X.K C Z es)) :
    PE X (.Call (.Name x p) (e :: l) [] pos) (tE G X.K C Z (.call f es)) := by
  obtain ⟨a, fd, as, h1, h2, h3, p1, p2, p3, p4, h5⟩ := o.g.fns f x hf
  have h4 : L2.Binds X.K fd (T.par f) [] := by rw [← p3]; exact binds_of p1 p2 (by rw [p3]; exact p4)
  refine ⟨fun pins s σ H Q I ⟨d, st, env, sr, er, h⟩ => ?_⟩
  unfold evE at h
  refine wpAny_Call_Name_kw (ld_glob I hg h2 ?_ hd)
  have go : tA G X.K C Z es σ H fun vs H1 => spD G X.K C.call f vs H1 Q (WE Z σ) := ⟨d, st, env, sr, er, h.bind.imp fun vs H1 ⟨d1, st1, ws, l1, s1, r1, h1⟩ => lk_sp s1 r1 h1⟩
  obtain ⟨q1, q2⟩ := (Bool.and_eq_true _ _).mp hs
  refine PySem.W.callWith_K (h₀ := X.base) I.ok.mod.kin h3 (thn (ha.run pos pins s σ H _ I go) fun us s1 ⟨vs, H1, I1, r, q⟩ => ⟨I1.kIn, ?_⟩) (starEach_of q1 _ _) (noStars_any q2)
  exact run_g o.tk o.rm o.gd h5 h4 I1 r q
/-- a call of a local name that holds a def -/
theorem e_callv (o : XOk G T X S C n Z) {i : Nat} {x : Str} {p pos : Pos} {es : Es} {e : Expr} {l : List Expr} (hN : X.N[i]? = some x) (hv : Vis X.env.scope x) (hd : (x == ("__debug__" : Str)) = false) (hcd : (x == ("__classdict__" : Str)) = false) (hs : noStars (e :: l) = true) (ha : PA X (e :: l) (tA G X.K C Z es)) :
    PE X (.Call (.Name x p) (e :: l) [] pos) (tE G X.K C Z (.callv i es)) := by
  refine ⟨fun pins s σ H Q I ⟨d, st, env, sr, er, h⟩ => ?_⟩
  unfold evE at h
  cases q : env[i]? with
  | none => simp only [q] at h; exact h.elim
  | some ow => cases ow with
    | none => simp only [q] at h; exact h.elim
    | some w => cases w with
      | ref k => simp only [q] at h; exact h.elim
      | d xd => cases xd with
        | fn f =>
          simp only [q] at h
          obtain ⟨v, hv1, hv2⟩ := er.2 i _ q
          have hv2 : RepD G X.K d.hf v (.fn f) := hv2
          cases hv2 with
          | fn hfa =>
            obtain ⟨y, hy⟩ := o.g.fas f _ hfa
            obtain ⟨a', fd, as, h1, h2, h3, p1, p2, p3, p4, h5⟩ := o.g.fns f y hy
            rw [hfa] at h1; cases h1
            have h4 : L2.Binds X.K fd (T.par f) [] := by rw [← p3]; exact binds_of p1 p2 (by rw [p3]; exact p4)
            rename_i a
            refine wpAny_Call_Name_kw (thn ((pe_var (pos := p) hN hv hd hcd).run pins s σ H (fun v H1 => v = .ref a ∧ H1 = H) I ⟨.ref a, hv1, rfl, rfl⟩) fun u s1 ⟨v, H1, I1, r1, q1⟩ => ?_)
            obtain ⟨rfl, rfl⟩ := q1
            cases r1
            have go : tA G X.K C Z es σ H1 fun vs H1 => spD G X.K C.call f vs H1 Q (WE Z σ) := ⟨d, st, env, sr, er, h.bind.imp fun vs H1 ⟨d1, st1, ws, l1, s1, r1, h1⟩ => lk_sp s1 r1 h1⟩
            obtain ⟨q1, q2⟩ := (Bool.and_eq_true _ _).mp hs
            refine PySem.W.callWith_K (h₀ := X.base) I.ok.mod.kin h3 (thn (ha.run pos pins s1 σ _ _ I1 go) fun us s2 ⟨vs, H2, I2, r, q⟩ => ⟨I2.kIn, ?_⟩) (starEach_of q1 _ _) (noStars_any q2)
            exact run_g o.tk o.rm o.gd h5 h4 I2 r q
        | _ => simp only [q] at h; exact h.elim
/-- the names of keywords -/
def kwNames : List Keyword → Option (List Str)
  | [] => some []
  | ⟨some x, _, _⟩ :: l => match kwNames l with | some xs => some (x :: xs) | none => none
  | ⟨none, _, _⟩ :: _ => none
def kwVals : List Keyword → List Expr
  | [] => []
  | ⟨_, e, _⟩ :: l => e :: kwVals l
theorem kw_all {pos : Pos} {env : PySem.Env} : ∀ {l : List Keyword} {ks : List Str}, kwNames l = some ks → (backToKw pos (keywordEach l env)).all (·.1.isSome) = true ∧ (backToKw pos (keywordEach l env)).filterMap (·.1) = ks ∧ (backToKw pos (keywordEach l env)).any (·.1.isNone) = false ∧ l.length = ks.length
  | [], ks, h => by cases h; exact ⟨rfl, rfl, rfl, rfl⟩
  | ⟨some x, e, p⟩ :: l, ks, h => by
    unfold kwNames at h
    cases q : kwNames l with
    | none => rw [q] at h; cases h
    | some xs =>
      rw [q] at h; cases h
      obtain ⟨h1, h2, h3, h4⟩ := kw_all (pos := pos) (env := env) q
      refine ⟨?_, ?_, ?_, by simp [h4]⟩
      · show (true && (backToKw pos (keywordEach l env)).all (·.1.isSome)) = true
        rw [h1]; rfl
      · show List.filterMap _ ((some x, _) :: backToKw pos (keywordEach l env)) = _
        rw [List.filterMap_cons]
        show x :: List.filterMap _ (backToKw pos (keywordEach l env)) = _
        rw [h2]
      · show (false || (backToKw pos (keywordEach l env)).any (·.1.isNone)) = false
        rw [h3]; rfl
  | ⟨none, e, p⟩ :: l, ks, h => by cases h
/-- values of keywords, from the left -/
def tK (G : Gd) (K : W.Frag) (C : Ctx) (Z : WX) (es : Es) : TA := tA G K C Z es
theorem k_nil : PK X [] (tA G X.K C Z .nil) := ⟨fun pos pins s σ H Q I ⟨d, st, env, sr, er, h⟩ => by
  unfold evEs at h
  exact wpAny_evalAll_nil ⟨[], H, I, .nil, Lk.run h sr .nil⟩⟩
theorem k_cons {nm : Option Str} {kp : Pos} {a : E} {es : Es} {ea : Expr} {l : List Keyword} (ha : PE X ea (tE G X.K C Z a)) (hr : PK X l (tA G X.K C Z es)) : PK X (⟨nm, ea, kp⟩ :: l) (tA G X.K C Z (.cons a es)) := ⟨fun pos pins s σ H Q I ⟨d, st, env, sr, er, h⟩ => by
  unfold evEs at h
  refine (pk_cons (nm := nm) (kpos := kp) ha hr).run pos pins s σ H Q I ?_
  exact ⟨d, st, env, sr, er, h.bind.imp fun x H1 ⟨d1, st1, w, l1, s1, r1, h1⟩ => ⟨d1, st1, env, s1, er.mono l1, h1.bind.imp fun xs H2 ⟨d2, st2, ws, l2, s2, r2, h2⟩ => Lk.run h2 s2 (.cons (r1.mono l2) r2)⟩⟩⟩
theorem mapM_rep {α β : Type} {F : α → β → Prop} {xs : List α} {ys : List β} (r : Paired F xs ys) : ∀ {p : List Nat} {zs : List β}, p.mapM (fun i => ys[i]?) = some zs → ∃ us, p.mapM (fun i => xs[i]?) = some us ∧ Paired F us zs
  | [], zs, h => by rw [List.mapM_nil] at h; cases h; exact ⟨[], rfl, .nil⟩
  | i :: p, zs, h => by
    obtain ⟨b, s', e1, e2, rfl⟩ := mapM_cons h
    obtain ⟨x, h1, h2⟩ := paired_get r e1
    obtain ⟨us, h3, h4⟩ := mapM_rep r e2
    exact ⟨x :: us, by rw [List.mapM_cons, h1, h3]; rfl, .cons h2 h4⟩
theorem lk_len {K : W.Frag} {d : Wd} {σ : L2.St} {r : Res (List W)} {k : Nat} {Q : List V → Hp → Prop} (hl : ∀ ws st', r = .ok ws st' → ws.length = k) (h : Lk G K (RepWs G K) Z σ d r fun vs H => vs.length = k → Q vs H) : Lk G K (RepWs G K) Z σ d r Q := by
  cases r with
  | ok ws st => exact fun vs H d1 l s q => h vs H d1 l s q (by rw [q.len]; exact hl ws st rfl)
  | exc c fs st => exact h
  | stuck => exact h
theorem e_callk (o : XOk G T X S C n Z) {f : Nat} {x : Str} {p pos : Pos} {es ks : Es} {perm : List Nat} {l : List Expr} {kws : List Keyword} {names : List Str} (hf : T.fn f = some x) (hg : Gl X x) (hd : (x == ("__debug__" : Str)) = false) (hs : noStars l = true) (hnil : l = [] → es = .nil) (hk : kwNames kws = some names)
    (hfit : kwFit (T.par f) l.length names = true) (hp : perm = permOf (T.par f) l.length names) (hlen : ∀ env st ws st', evEs C es env st = .ok ws st' → ws.length = l.length) (hlenk : ∀ env st ws st', evEs C ks env st = .ok ws st' → ws.length = names.length) (ha : PA X l (tA G X.K C Z es)) (hks : PK X kws (tA G X.K C Z ks)) :
    PE X (.Call (.Name x p) l kws pos) (tE G X.K C Z (.callk f es ks perm)) := by
  obtain ⟨a, fd, as, h1, h2, h3, p1, p2, p3, p4, h5⟩ := o.g.fns f x hf
  refine ⟨fun pins s σ H Q I ⟨d, st, env, sr, er, h⟩ => ?_⟩
  unfold evE at h
  refine wpAny_Call_Name_kw (ld_glob I hg h2 ?_ hd)
  -- what is asked behind the places and the keywords
  have go : tA G X.K C Z es σ H fun vs H1 => vs.length = l.length ∧ tA G X.K C Z ks σ H1 fun zs H2 => zs.length = names.length ∧ ∃ us, permOf (T.par f) l.length names = perm ∧ perm.mapM (fun i => (vs ++ zs)[i]?) = some us ∧ perm.length = (vs ++ zs).length ∧ spD G X.K C.call f us H2 Q (WE Z σ) := by
    refine ⟨d, st, env, sr, er, lk_len (hlen env st) (h.bind.imp fun vs H1 ⟨d1, st1, ws, l1, s1, r1, h1⟩ hvl => ⟨hvl, d1, st1, env, s1, er.mono l1, lk_len (hlenk env st1) (h1.bind.imp fun zs H2 ⟨d2, st2, ys, l2, s2, r2, h2⟩ hzl => ⟨hzl, ?_⟩)⟩)⟩
    have rr : RepWs G X.K d2 (vs ++ zs) (ws ++ ys) := (r1.mono l2).app r2
    cases e2 : permW perm (ws ++ ys) with
    | none => simp only [e2] at h2; exact h2.elim
    | some us' =>
      simp only [e2] at h2
      unfold permW at e2
      by_cases hpl : perm.length = (ws ++ ys).length
      · rw [if_pos hpl] at e2
        obtain ⟨us, h3, h4⟩ := mapM_rep rr e2
        exact ⟨us, hp.symm, h3, by rw [hpl, rr.len], lk_sp s2 h4 h2⟩
      · rw [if_neg hpl] at e2; cases e2
  obtain ⟨k1, k2, k3, k4⟩ := kw_all (pos := pos) (env := X.env) hk
  have fin : ∀ {pins : List (Addr × Obj)} {H2 : Hp} {s2 : Shared} {us ws : List Value} {vs zs : List V}, Inv X pins σ H2 s2 → Vals vs us → Vals zs ws → vs.length = l.length → ws.length = names.length →
      (∃ us, permOf (T.par f) l.length names = perm ∧ perm.mapM (fun i => (vs ++ zs)[i]?) = some us ∧ perm.length = (vs ++ zs).length ∧ spD G X.K C.call f us H2 Q (WE Z σ)) → wpAny (model X.prog X.w) X.A (call (.ref a) us (names.zip ws)) (EP X pins σ Q) X.xe s2 := fun {pins H2 s2 us ws vs zs} I2 rv rz hl hw ⟨xs, e1, e2, e3, e4⟩ => by
    have hul : us.length = l.length := by rw [← rv.length, hl]
    obtain ⟨us', u1, u2⟩ : ∃ us', perm.mapM (fun i => (us ++ ws)[i]?) = some us' ∧ Vals xs us' := by
      have r : Vals (vs ++ zs) (us ++ ws) := rv.append rz
      have gen : ∀ {p : List Nat} {xs : List V}, p.mapM (fun i => (vs ++ zs)[i]?) = some xs → ∃ us', p.mapM (fun i => (us ++ ws)[i]?) = some us' ∧ Vals xs us' := by
        intro p
        induction p with
        | nil => intro xs h; rw [List.mapM_nil] at h; cases h; exact ⟨[], rfl, .nil⟩
        | cons i p ih =>
          intro xs h
          obtain ⟨b, s', q1, q2, rfl⟩ := mapM_cons h
          obtain ⟨u, w1, w2⟩ := Vals.get r q1
          obtain ⟨us', w3, w4⟩ := ih q2
          exact ⟨u :: us', by rw [List.mapM_cons, w1, w3]; rfl, .cons w2 w4⟩
      exact gen e2
    have bnd : BindsTo s2 fd ⟨us, names.zip ws⟩ ((T.par f).zip us') := by
      rw [← p3]
      refine BindsTo.of_eq (bind_kw p1 p2 (by rw [p3, hul]; exact hfit) hw.symm ?_)
      rw [p3, hul, e1]; exact u1
    exact run_kw (ar := ⟨us, names.zip ws⟩) o.tk o.rm o.gd h5 I2 bnd u2 e4
  cases l with
  | nil =>
    obtain ⟨d, st, env, sr, er, hgo⟩ := go
    rw [hnil rfl] at hgo
    unfold evEs at hgo
    obtain ⟨hvl, q1⟩ := Lk.run hgo sr .nil
    refine PySem.W.callWith_KW0 (h₀ := X.base) I.ok.mod.kin h3 k1 (thn (hks.run pos pins s σ H _ I q1) fun ws s2 ⟨zs, H2, I2, rz, hzl, q2⟩ => ⟨I2.kIn, ?_⟩) (by show (false || _) = false; rw [k3]; rfl)
    rw [k2]
    exact fin (us := []) (vs := []) I2 .nil rz hvl (by rw [← rz.length, hzl]) q2
  | cons e l =>
    obtain ⟨q1, q2⟩ := (Bool.and_eq_true _ _).mp hs
    refine PySem.W.callWith_KW (h₀ := X.base) I.ok.mod.kin h3 k1 (thn (ha.run pos pins s σ H _ I go) fun us s1 ⟨vs, H1, I1, rv, hvl, q1⟩ => thn (hks.run pos pins s1 σ H1 _ I1 q1) fun ws s2 ⟨zs, H2, I2, rz, hzl, q2⟩ => ⟨I2.kIn, ?_⟩) (by rw [noStars_any hs, k3]; rfl) (starEach_of q1 _ _)
    rw [k2]
    exact fin I2 rv rz hvl (by rw [← rz.length, hzl]) q2
end
end Mi
namespace Mi
open PySem PySem.Spec PyProof.Rows L2
section
variable {G : Gd} {T : Nm} {X : Cx} {S : Sc} {C : Ctx} {n : Nat} {Z : WX}
/-! ### built-in functions -/
def rB (G : Gd) (K : W.Frag) (b : Blt) : List V → Hp → VK → Prop := fun vs H Q => ∃ d st ws, SR G K d H st ∧ RepWs G K d vs ws ∧ Lk G K (RepW G K) (fun _ _ _ _ => False) [] d (bltW b ws st) Q
theorem mkTup_calm (ws : List W) (st : Store) : Calm (mkTup ws st) := by
  unfold mkTup
  split
  · have := fzs_calm ws st
    cases h : fzs ws st with
    | ok a s => trivial
    | exc c fs s => rw [h] at this; exact this.elim
    | stuck => trivial
  · trivial
theorem bltW_calm (b : Blt) (ws : List W) (st : Store) : Calm (bltW b ws st) := by
  cases b with
  | len => show Calm (len1 ws st); unfold len1; split; (unfold lenW; repeat' split); all_goals trivial
  | abs => show Calm (abs1 ws st); unfold abs1; split <;> trivial
  | int => show Calm (int1 ws st); unfold int1; split <;> trivial
  | min => show Calm (min2 ws st); unfold min2; split <;> trivial
  | max => show Calm (max2 ws st); unfold max2; split <;> trivial
  | repr => show Calm (repr1 ws st); unfold repr1; split; (unfold reprW; repeat' split); all_goals trivial
  | sum => show Calm (sum1 ws st); unfold sum1; (repeat' split) <;> trivial
  | all => show Calm (all1 ws st); unfold all1; (repeat' split) <;> trivial
  | tuple =>
    show Calm (tuple1 ws st)
    unfold tuple1
    split
    · split
      · trivial
      · split
        · exact mkTup_calm _ _
        · trivial
    · trivial
  | any => show Calm (any1 ws st); unfold any1; (repeat' split) <;> trivial
theorem one_of {K : W.Frag} {d : Wd} {vs : List V} {w : W} (h : RepWs G K d vs [w]) : ∃ v, vs = [v] ∧ RepW G K d v w := by
  cases h with
  | cons a b => cases b; exact ⟨_, rfl, a⟩
theorem two_of {K : W.Frag} {d : Wd} {vs : List V} {w w' : W} (h : RepWs G K d vs [w, w']) : ∃ v v', vs = [v, v'] ∧ RepW G K d v w ∧ RepW G K d v' w' := by
  cases h with
  | cons a b =>
    obtain ⟨v', rfl, b'⟩ := one_of (G := G) (K := K) (d := d) b
    exact ⟨_, _, rfl, a, b'⟩
theorem len_rep {K : W.Frag} {d : Wd} {H : Hp} {st : Store} {v : V} {w : W} {Q : VK} {σ : L2.St} {Z : WX} (s : SR G K d H st) (r : RepW G K d v w) (h : Lk G K (RepW G K) Z σ d (lenW w st) Q) :
    ∃ p ys, v = .ref p ∧ (SqL K H p ys ∨ SqT K H p ys) ∧ Q (.int ys.length) H := by
  cases w with
  | d x =>
    have r : RepD G K d.hf v x := r
    cases r with
    | tup h1 h2 => exact ⟨_, _, rfl, .inr (s.sub.st h1), by rw [h2.len]; exact Lk.run h s (RepD.int _)⟩
    | lst h1 h2 => exact ⟨_, _, rfl, .inl (s.sub.sl h1), by rw [h2.len]; exact Lk.run h s (RepD.int _)⟩
    | _ => exact h.elim
  | ref k =>
    obtain ⟨a, rfl, ha⟩ := r
    unfold lenW at h
    cases hc : st[k]? with
    | none => simp only [hc] at h; exact h.elim
    | some c =>
      obtain ⟨a', q1, q2⟩ := s.live k c hc
      rw [ha] at q1; cases q1
      simp only [hc] at h
      cases c with
      | lst ws =>
        obtain ⟨_, _, vs, hv, hr⟩ := q2
        exact ⟨a, vs, rfl, .inl (SqL.of hv), by rw [hr.len]; exact Lk.run h s (RepD.int _)⟩
      | dct kvs => exact h.elim
      | frz y =>
        have q2 : RepD G K d.hf (.ref a) y := q2
        cases q2 with
        | lst h1 h2 => exact ⟨_, _, rfl, .inl (s.sub.sl h1), by rw [h2.len]; exact Lk.run h s (RepD.int _)⟩
        | _ => exact h.elim
theorem lst_sq {K : W.Frag} {d : Wd} {H : Hp} {st : Store} {v : V} {w : W} {us : List W} (s : SR G K d H st) (r : RepW G K d v w) (e : lstW w st = some us) : ∃ a vs, v = .ref a ∧ RepWs G K d vs us ∧ SqL K H a vs := by
  have up : ∀ {vs : List V} {l : List D}, RepDs G K d.hf vs l → RepWs G K d vs (l.map .d) := fun {vs l} h => by
    induction l generalizing vs with
    | nil => cases h; exact .nil
    | cons x l ih => cases h with | cons h1 h2 => exact .cons h1 (ih h2)
  cases w with
  | d x =>
    have r : RepD G K d.hf v x := r
    cases r with
    | lst h1 h2 => cases e; exact ⟨_, _, rfl, up h2, s.sub.sl h1⟩
    | _ => cases e
  | ref k =>
    obtain ⟨a, rfl, ha⟩ := r
    unfold lstW at e
    cases hc : st[k]? with
    | none => simp only [hc] at e; cases e
    | some c =>
      obtain ⟨a', q1, q2⟩ := s.live k c hc
      rw [ha] at q1; cases q1
      simp only [hc] at e
      cases c with
      | lst ws => cases e; obtain ⟨_, _, vs, hv, hr⟩ := q2; exact ⟨a, vs, rfl, hr, SqL.of hv⟩
      | dct kvs => cases e
      | frz y =>
        have q2 : RepD G K d.hf (.ref a) y := q2
        cases q2 with
        | lst h1 h2 => cases e; exact ⟨_, _, rfl, up h2, s.sub.sl h1⟩
        | _ => cases e
theorem ints_of {K : W.Frag} {d : Wd} : ∀ {vs : List V} {ws : List W} {ns : List Int}, RepWs G K d vs ws → intsW ws = some ns → vs = ns.map V.int
  | _, [], ns, r, e => by cases r; cases e; rfl
  | _, w :: ws, ns, r, e => by
    cases r with
    | cons a b =>
      unfold intsW at e
      cases e1 : intW w with
      | none => simp only [e1] at e; cases e
      | some i =>
        cases e2 : intsW ws with
        | none => simp only [e1, e2] at e; cases e
        | some is =>
          simp only [e1, e2] at e
          cases e
          rw [List.map_cons, ← ints_of b e2]
          unfold intW at e1
          split at e1
          · cases e1; rw [repD_int a]
          · cases e1
theorem bls_of {K : W.Frag} {d : Wd} : ∀ {vs : List V} {ws : List W} {ns : List Bool}, RepWs G K d vs ws → blsW ws = some ns → vs = ns.map V.bl
  | _, [], ns, r, e => by cases r; cases e; rfl
  | _, w :: ws, ns, r, e => by
    cases r with
    | cons a b =>
      unfold blsW at e
      cases e1 : blW w with
      | none => simp only [e1] at e; cases e
      | some i =>
        cases e2 : blsW ws with
        | none => simp only [e1, e2] at e; cases e
        | some is =>
          simp only [e1, e2] at e
          cases e
          rw [List.map_cons, ← bls_of b e2]
          unfold blW at e1
          split at e1
          · cases e1; rw [repD_bl a]
          · cases e1
/-- sum(t) of a tuple of ints -/
theorem cr_sumT {X : Cx} (hc : X.calm = true) : CallR X (.builtin "sum") (fun vs H Q => ∃ (a : Addr) (ns : List Int), vs = [V.ref a] ∧ SqT X.K H a (ns.map V.int) ∧ Q (.int ns.sum) H) := by
  intro pins s σ H vs us Q I r h
  obtain ⟨a, ns, rfl, hs, q⟩ := h
  obtain ⟨its, rv, hl, _⟩ := I.tuple hs
  rw [Vals.ref1 r]
  have hi := rv.ints
  obtain ⟨xs, e⟩ := hi.allInts.items
  have hn : numsOf (intItems xs).toList = ns := by rw [← e]; exact hi.numsOf
  rw [nums_intItems] at hn
  have hl' : s.heap.IsTuple a its.toArray := hl
  rw [e] at hl'
  refine W.ktm_sumG (I.ok.hd hc) hl' fun h' tk t' hk => ?_
  rw [preSum_eq, List.take_of_length_le (by simp), hn]
  exact ⟨.int _, H, I.kept hk, ⟨_, rfl⟩, q⟩
/-- min(t) of a tuple of two ints -/
theorem call_minP {X : Cx} (hc : X.calm = true) (hu : X.A.units + 1 < cLine) : CallR X (.builtin "min") (fun vs H Q => ∃ (a : Addr) (i j : Int), vs = [V.ref a] ∧ SqT X.K H a [V.int i, V.int j] ∧ Q (.int (if j < i then j else i)) H) := by
  intro pins s σ H vs us Q I r h
  obtain ⟨a, i, j, rfl, hs, q⟩ := h
  obtain ⟨its, rv, hl, _⟩ := I.tuple hs
  rw [Vals.ref1 r]
  cases rv with
  | cons r1 rv => cases rv with
    | cons r2 rv =>
      cases rv
      obtain ⟨t1, rfl⟩ := r1
      obtain ⟨t2, rfl⟩ := r2
      have rd : ReadsAll s.heap [Value.int i t1, Value.int j t2] (PyData.int i :: [PyData.int j]) [] := .cons (.int i t1) (.cons (.int j t2) .nil)
      have al : W.AlikeAll (PyData.int i :: [PyData.int j]) := ⟨fun x hx y hy => by
        simp at hx hy
        rcases hx with rfl | rfl <;> rcases hy with rfl | rfl <;> rfl, fun x hx => by
        simp at hx
        rcases hx with rfl | rfl <;> (intro z; cases z)⟩
      refine W.min_tuple_data (I.ok.hd hc) hl rd al (by show X.A.units + 1 + 0 < cLine; omega) fun k v h' tk bs _ rr hk => ?_
      rw [show [PyData.int j] = [j].map PyData.int from rfl, W.minD_ints] at rr
      have e : [j].foldl min i = if j < i then j else i := by
        show min i j = _
        by_cases h : j < i
        · rw [if_pos h]; omega
        · rw [if_neg h]; omega
      rw [e] at rr
      generalize (if j < i then j else i) = m at rr q
      cases rr with
      | int _ t => exact ⟨.int m, H, I.kept hk, ⟨t, rfl⟩, q⟩
theorem blt_any (o : XOk G T X S C n Z) (b : Blt) (id : String) (hb : b = .len ∧ id = "len" ∨ b = .abs ∧ id = "abs" ∨ b = .min ∧ id = "min" ∨ b = .max ∧ id = "max" ∨ b = .repr ∧ id = "repr" ∨ b = .sum ∧ id = "sum" ∨ b = .all ∧ id = "all" ∨ b = .any ∧ id = "any") : CallR X (.builtin id) (rB G X.K b) := by
  intro pins s σ H xs us Q I r ⟨d, st, ws, sr, rw_, h⟩
  rcases hb with ⟨rfl, rfl⟩ | ⟨rfl, rfl⟩ | ⟨rfl, rfl⟩ | ⟨rfl, rfl⟩ | ⟨rfl, rfl⟩ | ⟨rfl, rfl⟩ | ⟨rfl, rfl⟩ | ⟨rfl, rfl⟩
  · -- len
    replace h : Lk G X.K (RepW G X.K) (fun _ _ _ _ => False) [] d (len1 ws st) Q := h
    unfold len1 at h
    split at h
    rotate_left
    · exact h.elim
    obtain ⟨v, rfl, rv⟩ := one_of rw_
    obtain ⟨p, ys, rfl, q1, q2⟩ := len_rep sr rv h
    exact call_len_seq pins s σ H _ us Q I r ⟨p, ys, rfl, q1, q2⟩
  · replace h : Lk G X.K (RepW G X.K) (fun _ _ _ _ => False) [] d (abs1 ws st) Q := h
    unfold abs1 at h
    split at h
    rotate_left
    · exact h.elim
    obtain ⟨v, rfl, rv⟩ := one_of rw_
    have := repD_int rv
    subst this
    exact call_abs pins s σ H _ us Q I r ⟨_, rfl, Lk.run h sr (RepD.int _)⟩
  · replace h : Lk G X.K (RepW G X.K) (fun _ _ _ _ => False) [] d (min2 ws st) Q := h
    unfold min2 at h
    split at h
    rotate_right
    · exact h.elim
    · obtain ⟨v, v', rfl, rv, rv'⟩ := two_of rw_
      have e1 := repD_int rv
      have e2 := repD_int rv'
      subst e1 e2
      exact call_min2 o.calm pins s σ H _ us Q I r ⟨_, _, rfl, Lk.run h sr (RepD.int _)⟩
    · obtain ⟨v, rfl, rv⟩ := one_of rw_
      have rv : RepD G X.K d.hf v (.tup [.int _, .int _]) := rv
      cases rv with
      | tup h1 h2 => cases h2 with
        | cons a1 h2 => cases h2 with
          | cons a2 h2 =>
            cases h2
            have e1 := repD_int a1
            have e2 := repD_int a2
            subst e1 e2
            exact call_minP o.calm (by have := o.rm.units; omega) pins s σ H _ us Q I r ⟨_, _, _, rfl, sr.sub.st h1, Lk.run h sr (RepD.int _)⟩
  · replace h : Lk G X.K (RepW G X.K) (fun _ _ _ _ => False) [] d (max2 ws st) Q := h
    unfold max2 at h
    split at h
    rotate_left
    · exact h.elim
    obtain ⟨v, v', rfl, rv, rv'⟩ := two_of rw_
    have e1 := repD_int rv
    have e2 := repD_int rv'
    subst e1 e2
    exact call_max2 o.calm pins s σ H _ us Q I r ⟨_, _, rfl, Lk.run h sr (RepD.int _)⟩
  · replace h : Lk G X.K (RepW G X.K) (fun _ _ _ _ => False) [] d (repr1 ws st) Q := h
    unfold repr1 at h
    split at h
    rotate_left
    · exact h.elim
    obtain ⟨v, rfl, rv⟩ := one_of rw_
    unfold reprW at h
    rename_i a
    cases e1 : rd st a with
    | none => rw [e1] at h; exact h.elim
    | some x =>
      rw [e1] at h
      simp only at h
      have go : ∀ p : PyData, toP x = some p → showP p = true → (∃ ps, p = .list ps ∨ p = .tuple ps) → Q (.str p.shown) H → wpAny (model X.prog X.w) X.A (call (.builtin "repr") us) (EP X pins σ Q) X.xe s := fun p hp hs ⟨ps, hps⟩ hQ => by
        have dp := rd_dp sr _ a v x p rv e1 hp
        unfold showP at hs
        simp only [Bool.and_eq_true, decide_eq_true_eq] at hs
        obtain ⟨⟨s1, s2⟩, s3⟩ := hs
        have hd := PyData.hasDict_of_canLay p (SeqAt.canLay_of_shaped s1)
        have hdep := SeqAt.depth_of_shaped s1
        have hu := o.rm.un
        have hsz : p.shown.length ≤ sizeLine := by rw [sizeLine_eq]; unfold sizeTop at s3; omega
        have isref : ∃ b, v = .ref b := by
          rcases hps with rfl | rfl
          · cases dp; exact ⟨_, rfl⟩
          · cases dp; exact ⟨_, rfl⟩
        obtain ⟨b, rfl⟩ := isref
        obtain ⟨u, rfl, ru⟩ := vals1 r
        cases ru
        obtain ⟨as, rr⟩ := Dp.reads I p _ _ dp rfl
        exact repr_of_reads' rr s2 (fun z => by rw [hd] at z; cases z) o.gd (by omega) (fun _ _ e => e) (fun h' u tk hk => ⟨.str p.shown, H, I.kept hk, ⟨_, rfl⟩, hQ⟩) hsz
      cases e2 : toP x with
      | none => rw [e2] at h; exact h.elim
      | some p =>
        rw [e2] at h
        cases p with
        | list ps =>
          simp only at h
          by_cases hs : showP (.list ps) = true
          · rw [if_pos hs] at h; exact go _ e2 hs ⟨ps, .inl rfl⟩ (Lk.run h sr (RepD.str _))
          · rw [if_neg hs] at h; exact h.elim
        | tuple ps =>
          simp only at h
          by_cases hs : showP (.tuple ps) = true
          · rw [if_pos hs] at h; exact go _ e2 hs ⟨ps, .inr rfl⟩ (Lk.run h sr (RepD.str _))
          · rw [if_neg hs] at h; exact h.elim
        | _ => exact h.elim
  · replace h : Lk G X.K (RepW G X.K) (fun _ _ _ _ => False) [] d (sum1 ws st) Q := h
    unfold sum1 at h
    split at h
    rotate_left
    · exact h.elim
    obtain ⟨v, rfl, rv⟩ := one_of rw_
    split at h
    rotate_left
    · exact h.elim
    rename_i us1 e1
    split at h
    rotate_left
    · exact h.elim
    rename_i ns e2
    obtain ⟨p, vs, rfl, r1, q1⟩ := items_sq sr rv e1
    have := ints_of r1 e2
    subst this
    rcases q1 with q1 | q1
    · exact cr_sumT o.calm pins s σ H _ us Q I r ⟨_, _, rfl, q1, Lk.run h sr (RepD.int _)⟩
    · exact cr_sum o.calm pins s σ H _ us Q I r ⟨_, _, rfl, q1, Lk.run h sr (RepD.int _)⟩
  · replace h : Lk G X.K (RepW G X.K) (fun _ _ _ _ => False) [] d (all1 ws st) Q := h
    unfold all1 at h
    split at h
    rotate_left
    · exact h.elim
    obtain ⟨v, rfl, rv⟩ := one_of rw_
    split at h
    rotate_left
    · exact h.elim
    rename_i us1 e1
    split at h
    rotate_left
    · exact h.elim
    rename_i ns e2
    obtain ⟨p, vs, rfl, r1, q1⟩ := lst_sq sr rv e1
    have := bls_of r1 e2
    subst this
    exact cr_all o.calm pins s σ H _ us Q I r ⟨_, _, rfl, q1, Lk.run h sr (RepD.bl _)⟩
  · replace h : Lk G X.K (RepW G X.K) (fun _ _ _ _ => False) [] d (any1 ws st) Q := h
    unfold any1 at h
    split at h
    rotate_left
    · exact h.elim
    obtain ⟨v, rfl, rv⟩ := one_of rw_
    split at h
    rotate_left
    · exact h.elim
    rename_i us1 e1
    split at h
    rotate_left
    · exact h.elim
    rename_i ns e2
    obtain ⟨p, vs, rfl, r1, q1⟩ := lst_sq sr rv e1
    have := bls_of r1 e2
    subst this
    exact cr_any o.calm pins s σ H _ us Q I r ⟨_, _, rfl, q1, Lk.run h sr (RepD.bl _)⟩
theorem blt_read {b : Blt} {es : Es} {K : W.Frag} {σ : L2.St} {H : Hp} {Q : VK} (q : tE G K C Z (.blt b es) σ H Q) : tCB (rB G K b) (tA G K C Z es) σ H Q := by
  obtain ⟨d, st, env, s, er, h⟩ := q
  unfold evE at h
  exact ⟨d, st, env, s, er, h.bind.imp fun vs H1 ⟨d1, st1, ws, l1, s1, r1, h1⟩ => ⟨d1, st1, ws, s1, r1, h1.calm (bltW_calm _ _ _)⟩⟩
/-- which name is which function -/
def bltN : Blt → Option String
  | .len => some "len" | .abs => some "abs" | .min => some "min" | .max => some "max" | .repr => some "repr" | .sum => some "sum" | .all => some "all" | .any => some "any" | _ => none
theorem blt_boot {b : Blt} {id : String} (h : bltN b = some id) : bootBuiltins id = some (.builtin id) ∧ (Str.ofString id ≠ "__name__") ∧ ((Str.ofString id == ("__debug__" : Str)) = false) ∧ Str.ofString id ∈ blts := by
  cases b <;> cases h <;> exact ⟨by decide +kernel, by decide +kernel, by decide +kernel, by decide +kernel⟩
theorem e_blt (o : XOk G T X S C n Z) {b : Blt} {id : String} {es : Es} {e : Expr} {l : List Expr} {p pos : Pos} (hb : bltN b = some id) (hg : Gl X id) (hs : noStars (e :: l) = true) (ha : PA X (e :: l) (tA G X.K C Z es)) : PE X (.Call (.Name id p) (e :: l) [] pos) (tE G X.K C Z (.blt b es)) := by
  obtain ⟨q1, q2⟩ := (Bool.and_eq_true _ _).mp hs
  obtain ⟨b1, b2, b3, b4⟩ := blt_boot hb
  have hc : CallR X (.builtin id) (rB G X.K b) := blt_any o b id (by cases b <;> cases hb <;> simp)
  exact (pe_callB hc hg (o.g.blt _ b4) b1 ha b2 b3 (starEach_of q1 _ _) (noStars_any q2)).to fun σ H Q q => blt_read q
theorem int_any (o : XOk G T X S C n Z) : CallR X (.type "int") (rB G X.K .int) := by
  intro pins s σ H xs us Q I r ⟨d, st, ws, sr, rw_, h⟩
  replace h : Lk G X.K (RepW G X.K) (fun _ _ _ _ => False) [] d (int1 ws st) Q := h
  unfold int1 at h
  split at h
  · obtain ⟨v, rfl, rv⟩ := one_of rw_
    have := repD_int rv
    subst this
    exact call_int1 pins s σ H _ us Q I r (.inl ⟨_, rfl, Lk.run h sr (RepD.int _)⟩)
  · obtain ⟨v, rfl, rv⟩ := one_of rw_
    have := repD_bl rv
    subst this
    exact call_int1 pins s σ H _ us Q I r (.inr ⟨_, rfl, Lk.run h sr (RepD.int _)⟩)
  · exact h.elim
theorem e_int_ (o : XOk G T X S C n Z) {es : Es} {e : Expr} {l : List Expr} {p pos : Pos} (hg : Gl X "int") (hs : noStars (e :: l) = true) (ha : PA X (e :: l) (tA G X.K C Z es)) : PE X (.Call (.Name "int" p) (e :: l) [] pos) (tE G X.K C Z (.blt .int es)) := by
  obtain ⟨q1, q2⟩ := (Bool.and_eq_true _ _).mp hs
  exact (pe_callTy (int_any o) hg (o.g.blt _ (by decide +kernel)) (by decide +kernel) ha (by decide +kernel) (by decide +kernel) (starEach_of q1 _ _) (noStars_any q2)).to fun σ H Q q => blt_read q
theorem tuple_any (o : XOk G T X S C n Z) : CallR X (.type "tuple") (rB G X.K .tuple) := by
  intro pins s σ H xs us Q I r ⟨d, st, ws, sr, rw_, h⟩
  replace h : Lk G X.K (RepW G X.K) (fun _ _ _ _ => False) [] d (tuple1 ws st) Q := h
  unfold tuple1 at h
  split at h
  rotate_left
  · exact h.elim
  obtain ⟨v, rfl, rv⟩ := one_of rw_
  split at h
  · have rv : RepD G X.K d.hf v _ := rv
    have rv' := rv
    cases rv with
    | tup h1 h2 => exact call_tuple_of pins s σ H _ us Q I r ⟨_, _, rfl, .inr ⟨sr.sub.st h1, Lk.run h sr rv'⟩⟩
  · split at h
    rotate_left
    · exact h.elim
    rename_i us1 e1
    obtain ⟨p, vs, rfl, r1, q1⟩ := lst_sq sr rv e1
    have k := mkTup_ok sr r1 h
    exact call_tuple_of pins s σ H _ us Q I r ⟨_, _, rfl, .inl ⟨q1, k.2⟩⟩
theorem e_tuple_ (o : XOk G T X S C n Z) {es : Es} {e : Expr} {l : List Expr} {p pos : Pos} (hg : Gl X "tuple") (hs : noStars (e :: l) = true) (ha : PA X (e :: l) (tA G X.K C Z es)) : PE X (.Call (.Name "tuple" p) (e :: l) [] pos) (tE G X.K C Z (.blt .tuple es)) := by
  obtain ⟨q1, q2⟩ := (Bool.and_eq_true _ _).mp hs
  exact (pe_callTy (tuple_any o) hg (o.g.blt _ (by decide +kernel)) (by decide +kernel) ha (by decide +kernel) (by decide +kernel) (starEach_of q1 _ _) (noStars_any q2)).to fun σ H Q q => blt_read q
end
end Mi
namespace Mi
open PySem PySem.Spec PyProof.Rows L2
/-! ### targets -/
section
variable {G : Gd} {K : W.Frag} {d : Wd}
theorem EnvR.set {σ : L2.St} {env : Env} {i : Nat} {v : V} {w : W} (er : EnvR G K d σ env) (r : RepW G K d v w) : EnvR G K d (σ.set i (some v)) (env.set i (some w)) := by
  refine ⟨by simp [er.1], fun j w' h => ?_⟩
  by_cases e : i = j
  · subst e
    by_cases hl : i < env.length
    · rw [List.getElem?_set_self hl] at h
      cases h
      exact ⟨v, List.getElem?_set_self (er.1 ▸ hl), r⟩
    · rw [List.getElem?_eq_none (by simpa using hl)] at h; cases h
  · rw [List.getElem?_set_ne e] at h
    obtain ⟨v', h1, h2⟩ := er.2 j w' h
    exact ⟨v', by rw [List.getElem?_set_ne e]; exact h1, h2⟩
theorem EnvR.gone {σ : L2.St} {env : Env} {i : Nat} (er : EnvR G K d σ env) : EnvR G K d (σ.set i none) (env.set i none) := by
  refine ⟨by simp [er.1], fun j w' h => ?_⟩
  by_cases e : i = j
  · subst e
    by_cases hl : i < env.length
    · rw [List.getElem?_set_self hl] at h; cases h
    · rw [List.getElem?_eq_none (by simpa using hl)] at h; cases h
  · rw [List.getElem?_set_ne e] at h
    obtain ⟨v', h1, h2⟩ := er.2 j w' h
    exact ⟨v', by rw [List.getElem?_set_ne e]; exact h1, h2⟩
theorem EnvR.wipe {σ : L2.St} {env : Env} (er : EnvR G K d σ env) : ∀ vs : List Nat, EnvR G K d (L2.wipe σ vs) (wipeE env vs)
  | [] => er
  | v :: vs => (EnvR.wipe er vs).gone
end
def RepI (G : Gd) (K : W.Frag) (d : Wd) (H : Hp) (v : V) : Item → Prop
  | .one w => RepW G K d v w
  | .two x y => ∃ T a b, v = .ref T ∧ SqT K H T [a, b] ∧ RepW G K d a x ∧ RepW G K d b y
def gW (G : Gd) (K : W.Frag) (tg : Tg) : TG := fun v σ H Q => ∃ d st env w env1, SR G K d H st ∧ EnvR G K d σ env ∧ RepW G K d v w ∧ asgT tg w env st = some env1 ∧ ∀ σ', EnvR G K d σ' env1 → (∀ vs, (∀ i ∈ tgVars tg, i ∈ vs) → L2.wipe σ' vs = L2.wipe σ vs) → Q σ' H
def gWs (G : Gd) (K : W.Frag) (ts : List Tg) : TGs := fun vs σ H Q => ∃ d st env ws env1, SR G K d H st ∧ EnvR G K d σ env ∧ RepWs G K d vs ws ∧ asgTs ts ws env st = some env1 ∧ ∀ σ', EnvR G K d σ' env1 → (∀ vs, (∀ i ∈ tgsVars ts, i ∈ vs) → L2.wipe σ' vs = L2.wipe σ vs) → Q σ' H
def gI (G : Gd) (K : W.Frag) (tg : Tg) : TG := fun v σ H Q => ∃ d st env it env1, SR G K d H st ∧ EnvR G K d σ env ∧ RepI G K d H v it ∧ asgI tg it env st = some env1 ∧ ∀ σ', EnvR G K d σ' env1 → (∀ vs, (∀ i ∈ tgVars tg, i ∈ vs) → L2.wipe σ' vs = L2.wipe σ vs) → Q σ' H
theorem _root_.L2.PG.to {X : Cx} {e : Expr} {t t' : TG} (h : PG X e t) (k : ∀ v σ H Q, t' v σ H Q → t v σ H Q) : PG X e t' := ⟨fun pins s σ H v u Q I r q => h.run pins s σ H v u Q I r (k v σ H Q q)⟩
theorem _root_.L2.PGs.to {X : Cx} {e : List Expr} {t t' : TGs} (h : PGs X e t) (k : ∀ v σ H Q, t' v σ H Q → t v σ H Q) : PGs X e t' := ⟨fun pins s σ H v u Q I r q => h.run pins s σ H v u Q I r (k v σ H Q q)⟩
theorem wipe_set {σ : L2.St} {i : Nat} {v : V} : ∀ {vs : List Nat}, i ∈ vs → L2.wipe (σ.set i (some v)) vs = L2.wipe σ vs
  | [], h => by cases h
  | j :: vs, h => by
    show (L2.wipe (σ.set i (some v)) vs).set j none = (L2.wipe σ vs).set j none
    by_cases e : i ∈ vs
    · rw [wipe_set e]
    · have : j = i := by
        rcases List.mem_cons.mp h with z | z
        · exact z.symm
        · exact absurd z e
      subst this
      have gen : ∀ vs : List Nat, j ∉ vs → L2.wipe (σ.set j (some v)) vs = (L2.wipe σ vs).set j (some v) := by
        intro vs
        induction vs with
        | nil => intro _; rfl
        | cons k vs ih =>
          intro hn
          show (L2.wipe (σ.set j (some v)) vs).set k none = ((L2.wipe σ vs).set k none).set j (some v)
          rw [ih fun z => hn (List.mem_cons_of_mem _ z), List.set_comm _ _ (fun z => hn (by rw [z]; exact List.mem_cons_self))]
      rw [gen vs e, List.set_set]
section
variable {G : Gd} {T : Nm} {X : Cx} {S : Sc} {C : Ctx} {n : Nat} {Z : WX}
theorem g_name {i : Nat} {x : Str} {pos : Pos} (hN : X.N.Nodup) (hi : X.N[i]? = some x) (hx : Loc X.env.scope x) (hf : X.fn x = true ∨ X.env.scope.names.lookup x = some .local) : PG X (.Name x pos) (gW G X.K (.v i)) :=
  (pg_name hN hi hx hf).to fun v σ H Q ⟨d, st, env, w, env1, s, er, r, e, h⟩ => by
    unfold asgT at e
    cases e
    exact h _ (er.set r) fun vs hm => wipe_set (hm i (by simp [tgVars]))
theorem gs_nil : PGs X [] (gWs G X.K []) := pgs_nil.to fun vs σ H Q ⟨d, st, env, ws, env1, s, er, r, e, h⟩ => by
  cases ws with
  | nil => cases r; unfold asgTs at e; cases e; exact ⟨rfl, h _ er fun _ _ => rfl⟩
  | cons w ws => unfold asgTs at e; cases e
/-- a target that is no starred one -/
def notStarT : Expr → Bool
  | .Starred _ _ => false
  | _ => true
theorem assignEach_of {e : Expr} (h : notStarT e = true) (es : List Expr) (env : PySem.Env) : assignEach (e :: es) env = (false, assign e env) :: assignEach es env := by
  cases e <;> first | rfl | (exact absurd h Bool.false_ne_true)
theorem gs_cons {t : Tg} {ts : List Tg} {e : Expr} {es : List Expr} (hs : notStarT e = true) (h1 : PG X e (gW G X.K t)) (h2 : PGs X es (gWs G X.K ts)) : PGs X (e :: es) (gWs G X.K (t :: ts)) :=
  (pgs_cons h1 h2 (by rw [assignEach_of hs]; rfl)).to fun vs σ H Q ⟨d, st, env, ws, env1, s, er, r, e, h⟩ => by
    cases ws with
    | nil => unfold asgTs at e; cases e
    | cons w ws =>
      cases r with
      | cons r1 r2 =>
        unfold asgTs at e
        cases q : asgT t w env st with
        | none => rw [q] at e; cases e
        | some env0 =>
          rw [q] at e
          refine ⟨_, _, rfl, d, st, env, w, env0, s, er, r1, q, fun σ' er' hw' => ⟨d, st, env0, ws, env1, s, er', r2, e, fun σ2 er2 hw2 => h σ2 er2 fun vs hm => ?_⟩⟩
          have hm : ∀ i ∈ tgVars t ++ tgsVars ts, i ∈ vs := hm
          rw [hw2 vs fun i hi => hm i (List.mem_append_right _ hi), hw' vs fun i hi => hm i (List.mem_append_left _ hi)]
/-- a tuple of targets -/
def noStarsT : List Expr → Bool
  | [] => true
  | e :: es => notStarT e && noStarsT es
theorem noStarsT_len : ∀ {es : List Expr} (env : PySem.Env), noStarsT es = true → (assignEach es env).length = es.length ∧ (assignEach es env).findIdx? (·.1) = none
  | [], _, _ => ⟨rfl, rfl⟩
  | e :: es, env, h => by
    obtain ⟨h1, h2⟩ := (Bool.and_eq_true _ _).mp h
    obtain ⟨q1, q2⟩ := noStarsT_len env h2
    rw [assignEach_of h1]
    refine ⟨by simp [q1], ?_⟩
    rw [List.findIdx?_cons]
    simp [q2]
theorem pg_or {e : Expr} {t t' : TG} (h : PG X e t) (h' : PG X e t') : PG X e (fun v σ H Q => t v σ H Q ∨ t' v σ H Q) := ⟨fun pins s σ H v u Q I r q => q.elim (fun z => h.run pins s σ H v u Q I r z) (fun z => h'.run pins s σ H v u Q I r z)⟩
theorem g_tupW {ts : List Tg} {es : List Expr} {k : Nat} {pos : Pos} (hc : X.calm = true) (hs : noStarsT es = true) (hl : es.length = ts.length) (h : PGs X es (gWs G X.K ts)) : PG X (.Tuple es k pos) (gW G X.K (.t ts)) := by
  obtain ⟨q1, q2⟩ := noStarsT_len X.env hs
  refine (pg_or (pg_tup hc h q1 q2) (pg_lst hc h q1 q2)).to fun v σ H Q ⟨d, st, env, w, env1, s, er, r, e, hq⟩ => ?_
  have up : ∀ {vs : List V} {l : List D}, RepDs G X.K d.hf vs l → RepWs G X.K d vs (l.map .d) := fun {vs l} h => by
    induction l generalizing vs with
    | nil => cases h; exact .nil
    | cons x l ih => cases h with | cons h1 h2 => exact .cons h1 (ih h2)
  cases w with
  | ref m => unfold asgT at e; cases e
  | d x =>
    have r : RepD G X.K d.hf v x := r
    cases r with
    | @tup a vs ds h1 h2 =>
      unfold asgT at e
      simp only at e
      by_cases hl2 : ds.length = ts.length
      · rw [if_pos hl2] at e
        exact .inl ⟨a, vs, rfl, s.sub.st h1, by rw [h2.len, hl2, hl], d, st, env, _, env1, s, er, up h2, e, fun σ' e1 hw => hq σ' e1 hw⟩
      · rw [if_neg hl2] at e; cases e
    | @lst a vs ds h1 h2 =>
      unfold asgT at e
      simp only at e
      by_cases hl2 : ds.length = ts.length
      · rw [if_pos hl2] at e
        exact .inr ⟨a, vs, rfl, s.sub.sl h1, by rw [h2.len, hl2, hl], d, st, env, _, env1, s, er, up h2, e, fun σ' e1 hw => hq σ' e1 hw⟩
      · rw [if_neg hl2] at e; cases e
    | _ => unfold asgT at e; cases e
theorem asgI_two {ts : List Tg} {x y : W} {env env1 : Env} {st : Store} (e : asgI (.t ts) (.two x y) env st = some env1) : [V.non, V.non].length = ts.length ∧ asgTs ts [x, y] env st = some env1 := by
  match ts, e with
  | [], e => cases e
  | [a], e => cases e
  | [a, b], e =>
    refine ⟨rfl, ?_⟩
    have e : (match asgT a x env st with | some env1 => asgT b y env1 st | none => none) = some env1 := e
    unfold asgTs
    cases q : asgT a x env st with
    | none => rw [q] at e; cases e
    | some env0 =>
      rw [q] at e
      simp only at e ⊢
      unfold asgTs
      rw [e]
      rfl
  | a :: b :: c :: r, e => cases e
/-- a target of a loop -/
theorem g_nameI {i : Nat} {x : Str} {pos : Pos} (h : PG X (.Name x pos) (gW G X.K (.v i))) : PG X (.Name x pos) (gI G X.K (.v i)) := h.to fun v σ H Q ⟨d, st, env, it, env1, s, er, r, e, hq⟩ => by
  cases it with
  | one w => exact ⟨d, st, env, w, env1, s, er, r, e, hq⟩
  | two x y => unfold asgI at e; cases e
theorem g_tupI {ts : List Tg} {es : List Expr} {k : Nat} {pos : Pos} (hc : X.calm = true) (hs : noStarsT es = true) (hl : es.length = ts.length) (h : PGs X es (gWs G X.K ts)) : PG X (.Tuple es k pos) (gI G X.K (.t ts)) := by
  obtain ⟨q1, q2⟩ := noStarsT_len X.env hs
  refine (pg_or (g_tupW hc hs hl h) (pg_tup hc h q1 q2)).to fun v σ H Q ⟨d, st, env, it, env1, s, er, r, e, hq⟩ => ?_
  cases it with
  | one w => exact .inl ⟨d, st, env, w, env1, s, er, r, e, hq⟩
  | two x y =>
    obtain ⟨T, a, b, rfl, h1, h2, h3⟩ := r
    exact .inr ⟨T, [a, b], rfl, h1, by rw [hl]; exact (asgI_two e).1, d, st, env, [x, y], env1, s, er, .cons h2 (.cons h3 .nil), (asgI_two e).2, fun σ' e1 hw => hq σ' e1 hw⟩
end
end Mi
namespace Mi
open PySem PySem.Spec PyProof.Rows L2
/-! ### what is walked -/
section
variable {G : Gd} {K : W.Frag}
/-- the list, the tuple at a -/
def Sqq (K : W.Frag) (isL : Bool) (H : Hp) (a : Addr) (xs : List V) : Prop := if isL then SqL K H a xs else SqT K H a xs
/-- worlds that grow, whatever is held -/
structure Le0 (d d' : Wd) : Prop where
  hf : Ext d.hf d'.hf
  m : ∀ (k : Nat) (a : Addr), d.m[k]? = some a → d'.m[k]? = some a
theorem Le.le0 {d d' : Wd} (h : Le d d') : Le0 d d' := ⟨h.hf, h.m⟩
theorem Le0.trans {d d1 d2 : Wd} (a : Le0 d d1) (b : Le0 d1 d2) : Le0 d d2 := ⟨a.hf.trans b.hf, fun k x h => b.m k x (a.m k x h)⟩
theorem Le0.hold {d : Wd} {p : Addr} {o : HO} : Le0 d (d.hold p o) := ⟨Ext.rfl, fun _ _ h => h⟩
theorem RepW.mono0 {d d' : Wd} (e : Le0 d d') {v : V} {w : W} (h : RepW G K d v w) : RepW G K d' v w := by
  cases w with
  | d x => exact RepD.mono e.hf h
  | ref k => obtain ⟨a, h1, h2⟩ := h; exact ⟨a, h1, e.m _ _ h2⟩
theorem EnvR.mono0 {d d' : Wd} {σ : L2.St} {env : Env} (e : Le0 d d') (h : EnvR G K d σ env) : EnvR G K d' σ env := ⟨h.1, fun i w q => let ⟨v, a, b⟩ := h.2 i w q; ⟨v, a, b.mono0 e⟩⟩
inductive SqOk (G : Gd) (K : W.Frag) (d : Wd) (a : Addr) : Bool → Sq → Prop where
  | dat {isL : Bool} {vs : List V} {ws : List W} : (∀ H, Ext d.hf H → Sqq K isL H a vs) → RepWs G K d vs ws → SqOk G K d a isL (.dat ws)
  | cell {n l : Nat} : d.m[n]? = some a → SqOk G K d a true (.cell n l)
theorem SqOk.at {d d' : Wd} {a : Addr} {isL : Bool} {s : Sq} {H : Hp} {st : Store} {i : Nat} {w : W} (o : SqOk G K d a isL s) (le : Le0 d d') (sr : SR G K d' H st) (e : s.at st i = some w) :
    ∃ vs v, Sqq K isL H a vs ∧ vs[i]? = some v ∧ RepW G K d' v w := by
  cases o with
  | dat h1 h2 =>
    obtain ⟨v, e1, e2⟩ := paired_get h2 e
    exact ⟨_, v, h1 H fun a o h => sr.sub a o (le.hf a o h), e1, e2.mono0 le⟩
  | @cell n l hm =>
    unfold Sq.at at e
    have ha := le.m _ _ hm
    cases hc : st[n]? with
    | none => simp only [hc] at e; cases e
    | some c =>
      obtain ⟨a', q1, q2⟩ := sr.live n c hc
      rw [ha] at q1; cases q1
      simp only [hc] at e
      cases c with
      | lst ws =>
        simp only at e
        split at e
        · obtain ⟨_, _, vs, hv, hr⟩ := q2
          obtain ⟨v, e1, e2⟩ := paired_get hr e
          exact ⟨vs, v, SqL.of hv, e1, e2⟩
        · cases e
      | dct kvs => cases e
      | frz y =>
        have q2 : RepD G K d'.hf (.ref a) y := q2
        cases q2 with
        | lst h1 h2 =>
          rename_i vs ds
          simp only at e
          split at e
          · cases hd : ds[i]? with
            | none => rw [List.getElem?_map, hd] at e; cases e
            | some x =>
              rw [List.getElem?_map, hd] at e; cases e
              obtain ⟨v, e1, e2⟩ := h2.get hd
              exact ⟨vs, v, sr.sub.sl h1, e1, e2⟩
          · cases e
        | _ => cases e
theorem SqOk.over {d d' : Wd} {a : Addr} {isL : Bool} {s : Sq} {H : Hp} {st : Store} {i : Nat} (o : SqOk G K d a isL s) (le : Le0 d d') (sr : SR G K d' H st) (e : s.over st = true) (hi : s.len ≤ i) :
    ∃ vs, Sqq K isL H a vs ∧ vs.length ≤ i := by
  cases o with
  | dat h1 h2 => exact ⟨_, h1 H fun a o h => sr.sub a o (le.hf a o h), by rw [h2.len]; exact hi⟩
  | @cell n l hm =>
    unfold Sq.over at e
    have ha := le.m _ _ hm
    cases hc : st[n]? with
    | none => simp only [hc] at e; cases e
    | some c =>
      obtain ⟨a', q1, q2⟩ := sr.live n c hc
      rw [ha] at q1; cases q1
      simp only [hc] at e
      cases c with
      | lst ws =>
        obtain ⟨_, _, vs, hv, hr⟩ := q2
        exact ⟨vs, SqL.of hv, by rw [hr.len, of_decide_eq_true e]; exact hi⟩
      | dct kvs => cases e
      | frz y =>
        have q2 : RepD G K d'.hf (.ref a) y := q2
        cases q2 with
        | lst h1 h2 => exact ⟨_, sr.sub.sl h1, by rw [h2.len, of_decide_eq_true e]; exact hi⟩
        | _ => cases e
theorem rds_ws {d : Wd} {vs : List V} {l : List D} (h : RepDs G K d.hf vs l) : RepWs G K d vs (l.map .d) := by
  induction l generalizing vs with
  | nil => cases h; exact .nil
  | cons x l ih => cases h with | cons h1 h2 => exact .cons h1 (ih h2)
/-- the value whose items are walked -/
theorem sq_of {d : Wd} {H : Hp} {st st' : Store} {v : V} {w : W} {s : Sq} (sr : SR G K d H st) (r : RepW G K d v w) (e : sqW w st = .ok s st') : st' = st ∧ ∃ a isL vs, v = .ref a ∧ sqK w st = some isL ∧ Sqq K isL H a vs ∧ SqOk G K d a isL s := by
  cases w with
  | d x =>
    have r : RepD G K d.hf v x := r
    cases r with
    | tup h1 h2 => cases e; exact ⟨rfl, _, false, _, rfl, rfl, sr.sub.st h1, .dat (fun H e => Ext.st e h1) (rds_ws h2)⟩
    | lst h1 h2 => cases e; exact ⟨rfl, _, true, _, rfl, rfl, sr.sub.sl h1, .dat (fun H e => Ext.sl e h1) (rds_ws h2)⟩
    | _ => cases e
  | ref k =>
    obtain ⟨a, rfl, ha⟩ := r
    unfold sqW at e
    cases hc : st[k]? with
    | none => simp only [hc] at e; cases e
    | some c =>
      obtain ⟨a', q1, q2⟩ := sr.live k c hc
      rw [ha] at q1; cases q1
      simp only [hc] at e
      cases c with
      | lst ws =>
        cases e
        obtain ⟨_, _, vs, hv, hr⟩ := q2
        exact ⟨rfl, a, true, vs, rfl, by simp [sqK, hc], SqL.of hv, .cell ha⟩
      | dct kvs => cases e
      | frz y =>
        have q2 : RepD G K d.hf (.ref a) y := q2
        cases q2 with
        | lst h1 h2 => cases e; exact ⟨rfl, a, true, _, rfl, by simp [sqK, hc], sr.sub.sl h1, .dat (fun H e => Ext.sl e h1) (rds_ws h2)⟩
        | _ => cases e
/-- an iterator that walks what the text's walk walks -/
structure WalkR (G : Gd) (K : W.Frag) (d : Wd) (J : L2.It) (src : Src) : Prop where
  go : ∀ d' H st i x, Le0 d d' → SR G K d' H st → src.at i st = some x → J.go i H ∧ ∀ v H', J.yld i H v H' → ∃ d'', Le d' d'' ∧ SR G K d'' H' st ∧ RepI G K d'' H' v x
  stop : ∀ d' H st i, Le0 d d' → SR G K d' H st → src.over st = true → src.len ≤ i → J.stop i H
theorem walks_l {d : Wd} {a : Addr} {s : Sq} (o : SqOk G K d a true s) : WalkR G K d (Itl K a) (.one s) where
  go := fun d' H st i x le sr e => by
    unfold Src.at at e
    cases q : s.at st i with
    | none => simp only [q] at e; cases e
    | some w =>
      simp only [q] at e; cases e
      obtain ⟨vs, v, h1, h2, h3⟩ := o.at le sr q
      refine ⟨⟨vs, v, h1, h2⟩, fun v' H' ⟨e1, e2⟩ => ?_⟩
      subst e1
      have e3 := e2 vs h1
      rw [h2] at e3; cases e3
      exact ⟨d', Le.rfl, sr, h3⟩
  stop := fun d' H st i le sr e hi => by
    obtain ⟨vs, h1, h2⟩ := o.over le sr e hi
    exact ⟨vs, h1, h2⟩
theorem walks_t {d : Wd} {a : Addr} {s : Sq} (o : SqOk G K d a false s) : WalkR G K d (Itt K a) (.one s) where
  go := fun d' H st i x le sr e => by
    unfold Src.at at e
    cases q : s.at st i with
    | none => simp only [q] at e; cases e
    | some w =>
      simp only [q] at e; cases e
      obtain ⟨vs, v, h1, h2, h3⟩ := o.at le sr q
      refine ⟨⟨vs, v, h1, h2⟩, fun v' H' ⟨e1, e2⟩ => ?_⟩
      subst e1
      have e3 := e2 vs h1
      rw [h2] at e3; cases e3
      exact ⟨d', Le.rfl, sr, h3⟩
  stop := fun d' H st i le sr e hi => by
    obtain ⟨vs, h1, h2⟩ := o.over le sr e hi
    exact ⟨vs, h1, h2⟩
theorem walks_r {d : Wd} {lo : Int} {n : Nat} : WalkR G K d (Itr lo n) (.one (.rng lo n)) where
  go := fun d' H st i x le sr e => by
    unfold Src.at Sq.at at e
    by_cases h : i < n
    · simp only [if_pos h] at e; cases e
      refine ⟨h, fun v' H' ⟨e1, e2⟩ => ?_⟩
      subst e1 e2
      exact ⟨d', Le.rfl, sr, RepD.int _⟩
    · simp only [if_neg h] at e; cases e
  stop := fun d' H st i le sr e hi => hi
/-- a new pair -/
theorem pair_rep {d : Wd} {H : Hp} {st : Store} {p : Addr} {a b : V} {x y : W} (sr : SR G K d H st) (hp : H p = none) (ra : RepW G K d a x) (rb : RepW G K d b y) : ∃ d', Le d d' ∧ SR G K d' (upd H p (.tup [a, b])) st ∧ RepI G K d' (upd H p (.tup [a, b])) (.ref p) (pairI x y) := by
  have two : ∀ it, it = Item.two x y → ∃ d', Le d d' ∧ SR G K d' (upd H p (.tup [a, b])) st ∧ RepI G K d' (upd H p (.tup [a, b])) (.ref p) it := fun it e => by
    subst e
    exact ⟨d, Le.rfl, sr.plus hp, p, a, b, rfl, SqT.of upd_same, ra, rb⟩
  cases x with
  | ref k => exact two _ rfl
  | d x => cases y with
    | ref k => exact two _ rfl
    | d y =>
      obtain ⟨s2, l2⟩ := sr.newF (o := .tup [a, b]) hp
      exact ⟨_, l2, s2, RepD.tup (SqT.of upd_same) (.cons (RepD.mono l2.hf ra) (.cons (RepD.mono l2.hf rb) .nil))⟩
theorem walks_zl {d : Wd} {a b : Addr} {s t : Sq} (o : SqOk G K d a true s) (o2 : SqOk G K d b true t) : WalkR G K d (Itz K a b) (.zip s t) where
  go := fun d' H st i x le sr e => by
    unfold Src.at at e
    cases q : s.at st i with
    | none => simp only [q] at e; cases e
    | some w => cases q2 : t.at st i with
      | none => simp only [q, q2] at e; cases e
      | some w2 =>
        simp only [q, q2] at e; cases e
        obtain ⟨vs, v, h1, h2, h3⟩ := o.at le sr q
        obtain ⟨us, u, g1, g2, g3⟩ := o2.at le sr q2
        refine ⟨⟨vs, us, v, u, h1, g1, h2, g2⟩, fun v' H' ⟨T, a', b', e1, e2, e3, e4, e5⟩ => ?_⟩
        subst e1 e3
        have z1 := e4 vs h1
        have z2 := e5 us g1
        rw [h2] at z1; cases z1
        rw [g2] at z2; cases z2
        exact pair_rep sr e2 h3 g3
  stop := fun d' H st i le sr e hi => by
    obtain ⟨e1, e2⟩ := (Bool.and_eq_true _ _).mp e
    have hi : min s.len t.len ≤ i := hi
    by_cases h : s.len ≤ i
    · obtain ⟨vs, h1, h2⟩ := o.over le sr e1 h
      obtain ⟨us, g1, _⟩ := o2.over le sr e2 (Nat.le_max_left t.len 0)
      exact ⟨vs, us, h1, g1, .inl h2⟩
    · obtain ⟨vs, h1, _⟩ := o.over le sr e1 (Nat.le_max_left s.len 0)
      obtain ⟨us, g1, g2⟩ := o2.over le sr e2 (show t.len ≤ i by omega)
      exact ⟨vs, us, h1, g1, .inr g2⟩
theorem walks_zt {d : Wd} {a b : Addr} {s t : Sq} (o : SqOk G K d a false s) (o2 : SqOk G K d b false t) : WalkR G K d (RZ.ItzT K a b) (.zip s t) where
  go := fun d' H st i x le sr e => by
    unfold Src.at at e
    cases q : s.at st i with
    | none => simp only [q] at e; cases e
    | some w => cases q2 : t.at st i with
      | none => simp only [q, q2] at e; cases e
      | some w2 =>
        simp only [q, q2] at e; cases e
        obtain ⟨vs, v, h1, h2, h3⟩ := o.at le sr q
        obtain ⟨us, u, g1, g2, g3⟩ := o2.at le sr q2
        refine ⟨⟨vs, us, v, u, h1, g1, h2, g2⟩, fun v' H' ⟨T, a', b', e1, e2, e3, e4, e5⟩ => ?_⟩
        subst e1 e3
        have z1 := e4 vs h1
        have z2 := e5 us g1
        rw [h2] at z1; cases z1
        rw [g2] at z2; cases z2
        exact pair_rep sr e2 h3 g3
  stop := fun d' H st i le sr e hi => by
    obtain ⟨e1, e2⟩ := (Bool.and_eq_true _ _).mp e
    have hi : min s.len t.len ≤ i := hi
    by_cases h : s.len ≤ i
    · obtain ⟨vs, h1, h2⟩ := o.over le sr e1 h
      obtain ⟨us, g1, _⟩ := o2.over le sr e2 (Nat.le_max_left t.len 0)
      exact ⟨vs, us, h1, g1, .inl h2⟩
    · obtain ⟨vs, h1, _⟩ := o.over le sr e1 (Nat.le_max_left s.len 0)
      obtain ⟨us, g1, g2⟩ := o2.over le sr e2 (show t.len ≤ i by omega)
      exact ⟨vs, us, h1, g1, .inr g2⟩
theorem walks_e {d : Wd} {a : Addr} {s : Sq} (o : SqOk G K d a true s) : WalkR G K d (Ite K a) (.enum s) where
  go := fun d' H st i x le sr e => by
    unfold Src.at at e
    cases q : s.at st i with
    | none => simp only [q] at e; cases e
    | some w =>
      simp only [q] at e; cases e
      obtain ⟨vs, v, h1, h2, h3⟩ := o.at le sr q
      refine ⟨⟨vs, v, h1, h2⟩, fun v' H' ⟨T, x', e1, e2, e3, e4⟩ => ?_⟩
      subst e1 e3
      have z1 := e4 vs h1
      rw [h2] at z1; cases z1
      exact pair_rep (x := .d (.int i)) sr e2 (RepD.int _) h3
  stop := fun d' H st i le sr e hi => by
    obtain ⟨vs, h1, h2⟩ := o.over le sr e hi
    exact ⟨vs, h1, h2⟩
end
section
variable {G : Gd} {T : Nm} {X : Cx} {S : Sc} {C : Ctx} {n : Nat} {Z : WX}
def iI (G : Gd) (K : W.Frag) (C : Ctx) (Z : WX) (it : It) : TI := fun σ H R => ∃ d st env, SR G K d H st ∧ EnvR G K d σ env ∧ Lk G K (WalkR G K) Z σ d (evI C it env st) R
theorem _root_.L2.PI.to {X : Cx} {tg e : Expr} {t t' : TI} (h : PI X tg e t) (k : ∀ σ H R, t' σ H R → t σ H R) : PI X tg e t' := ⟨fun pins s σ H R I q => h.run pins s σ H R I (k σ H R q)⟩
theorem sqW_cases {w : W} {st : Store} : sqW w st = .stuck ∨ ∃ s, sqW w st = .ok s st := by
  unfold sqW
  repeat' split
  all_goals first | exact .inl rfl | exact .inr ⟨_, rfl⟩
/-- what comes is told by the text's own walk, so it is known beforehand whether a list or a tuple comes -/
theorem i_seq {tg ea : Expr} {a : E} (ha : PE X ea (tE G X.K C Z a)) : PI X tg ea (iI G X.K C Z (.seq a)) := by
  constructor
  intro pins s σ H R I q
  obtain ⟨d, st, env, sr, er, h⟩ := q
  unfold evI at h
  cases e : evE C a env st with
  | stuck => rw [e] at h; exact h.elim
  | exc c fs st1 =>
    refine (pi_list ha).run pins s σ H R I ⟨d, st, env, sr, er, ?_⟩
    rw [e] at h ⊢
    exact h
  | ok w st1 =>
    rw [e] at h
    have h : Lk G X.K (WalkR G X.K) Z σ d ((sqW w st1).bind fun q st2 => .ok (.one q) st2) R := h
    rcases sqW_cases (w := w) (st := st1) with e1 | ⟨sq, e1⟩
    · rw [e1] at h; exact h.elim
    · rw [e1] at h
      by_cases hk : sqK w st1 = some true
      · refine (pi_list ha).run pins s σ H R I ⟨d, st, env, sr, er, ?_⟩
        rw [e]
        intro v H1 d1 l1 s1 r1
        obtain ⟨_, b, isL, vs, hv, k1, hq, ok⟩ := sq_of s1 r1 e1
        rw [k1] at hk; cases hk
        exact ⟨b, hv, ⟨vs, hq⟩, h _ H1 d1 l1 s1 (walks_l ok)⟩
      · refine (pi_tup ha).run pins s σ H R I ⟨d, st, env, sr, er, ?_⟩
        rw [e]
        intro v H1 d1 l1 s1 r1
        obtain ⟨_, b, isL, vs, hv, k1, hq, ok⟩ := sq_of s1 r1 e1
        cases isL with
        | true => exact absurd k1 hk
        | false => exact ⟨b, hv, ⟨vs, hq⟩, h _ H1 d1 l1 s1 (walks_t ok)⟩
theorem rng_ok {i : Int} (h : rngOk i = true) : -(2 ^ 62) ≤ i ∧ i < 2 ^ 62 := of_decide_eq_true (p := -(2 ^ 62) ≤ i ∧ i < 2 ^ 62) h
theorem i_rng1 (o : XOk G T X S C n Z) {tg e : Expr} {es : Es} {p pos : Pos} (h1e : ∀ env st ws st', evEs C es env st = .ok ws st' → ws.length = 1) (hg : Gl X "range") (hs : notStar e = true) (ha : PA X [e] (tA G X.K C Z es)) : PI X tg (.Call (.Name "range" p) [e] [] pos) (iI G X.K C Z (.rng es)) :=
  (pi_range1 hg (o.g.blt _ (by decide +kernel)) ha (by rw [starEach_of hs]; rfl)).to fun σ H R ⟨d, st, env, s, er, h⟩ => by
    unfold evI at h
    refine ⟨d, st, env, s, er, lk_len (h1e env st) (h.bind.imp fun vs H1 ⟨d1, st1, ws, l1, s1, r1, hq⟩ hl => ?_)⟩
    have hl : ws.length = 1 := by rw [← r1.len, hl]
    match ws, hl with
    | [w], _ =>
      obtain ⟨v, rfl, rv⟩ := one_of r1
      cases w with
      | ref k => exact hq.elim
      | d x => cases x with
        | int j =>
          have hq : Lk G X.K (WalkR G X.K) Z σ d1 ((if rngOk j then Res.ok (Sq.rng 0 j.toNat) st1 else .stuck).bind fun q st2 => .ok (.one q) st2) R := hq
          by_cases hr : rngOk j = true
          · rw [if_pos hr] at hq
            obtain ⟨q1, q2⟩ := rng_ok hr
            exact ⟨j, by rw [repD_int rv], q1, q2, Lk.run hq s1 walks_r⟩
          · rw [if_neg hr] at hq; exact hq.elim
        | _ => exact hq.elim
theorem i_rng2 (o : XOk G T X S C n Z) {tg e e2 : Expr} {es : Es} {p pos : Pos} (h1e : ∀ env st ws st', evEs C es env st = .ok ws st' → ws.length = 2) (hg : Gl X "range") (hs : noStars [e, e2] = true) (ha : PA X [e, e2] (tA G X.K C Z es)) : PI X tg (.Call (.Name "range" p) [e, e2] [] pos) (iI G X.K C Z (.rng es)) := by
  obtain ⟨hs1, hs2⟩ := (Bool.and_eq_true _ _).mp hs
  obtain ⟨hs2, _⟩ := (Bool.and_eq_true _ _).mp hs2
  exact (pi_range2 hg (o.g.blt _ (by decide +kernel)) ha (by rw [starEach_of hs1, starEach_of hs2]; rfl) (by rw [starEach_of hs2]; rfl)).to fun σ H R ⟨d, st, env, s, er, h⟩ => by
    unfold evI at h
    refine ⟨d, st, env, s, er, lk_len (h1e env st) (h.bind.imp fun vs H1 ⟨d1, st1, ws, l1, s1, r1, hq⟩ hl => ?_)⟩
    have hl : ws.length = 2 := by rw [← r1.len, hl]
    match ws, hl with
    | [w, w2], _ =>
      obtain ⟨v, v2, rfl, rv, rv2⟩ := two_of r1
      cases w with
      | ref k => cases w2 <;> exact hq.elim
      | d x => cases w2 with
        | ref k => cases x <;> exact hq.elim
        | d y => cases x with
          | int i => cases y with
            | int j =>
              have hq : Lk G X.K (WalkR G X.K) Z σ d1 ((if rngOk i && rngOk j then Res.ok (Sq.rng i (j - i).toNat) st1 else .stuck).bind fun q st2 => .ok (.one q) st2) R := hq
              by_cases hr : (rngOk i && rngOk j) = true
              · rw [if_pos hr] at hq
                obtain ⟨hr1, hr2⟩ := (Bool.and_eq_true _ _).mp hr
                obtain ⟨q1, q2⟩ := rng_ok hr1
                obtain ⟨q3, q4⟩ := rng_ok hr2
                exact ⟨i, j, by rw [repD_int rv, repD_int rv2], ⟨q1, q2, q3, q4⟩, Lk.run hq s1 walks_r⟩
              · rw [if_neg hr] at hq; exact hq.elim
            | _ => exact hq.elim
          | _ => exact hq.elim
theorem i_zip (o : XOk G T X S C n Z) {ea eb : Expr} {a b : E} {elts : List Expr} {kk : Nat} {tpos p pos : Pos} (hg : Gl X "zip") (hs : noStars [ea, eb] = true) (ha : PE X ea (tE G X.K C Z a)) (hb : PE X eb (tE G X.K C Z b)) : PI X (.Tuple elts kk tpos) (.Call (.Name "zip" p) [ea, eb] [] pos) (iI G X.K C Z (.zip a b)) := by
  obtain ⟨hs1, hs2⟩ := (Bool.and_eq_true _ _).mp hs
  obtain ⟨hs3, _⟩ := (Bool.and_eq_true _ _).mp hs2
  exact (RZ.pi_zipA hg (o.g.blt _ (by decide +kernel)) (pa_cons ha (pa_cons hb pa_nil (starEach_of hs3 _ _)) (starEach_of hs1 _ _)) (starEach_of hs1 _ _) (noStars_any hs2)).to fun σ H R ⟨d, st, env, s, er, h⟩ => by
    unfold evI at h
    -- the two values
    have key : Lk G X.K (RepW G X.K) Z σ d (evE C a env st) fun x H1 => tE G X.K C Z b σ H1 fun y H2 => ∃ a b xs ys, x = .ref a ∧ y = .ref b ∧ ((SqL X.K H2 a xs ∧ SqL X.K H2 b ys ∧ R (Itz X.K a b) H2) ∨ (SqT X.K H2 a xs ∧ SqT X.K H2 b ys ∧ R (RZ.ItzT X.K a b) H2)) :=
      h.bind.imp fun x H1 ⟨d1, st1, w, l1, s1, r1, h1⟩ => ⟨d1, st1, env, s1, er.mono l1, h1.bind.imp fun y H2 ⟨d2, st2, w2, l2, s2, r2, h2⟩ => by
        by_cases hk : sqK w st2 = sqK w2 st2
        · rw [if_pos hk] at h2
          have r1 := r1.mono l2
          rcases sqW_cases (w := w) (st := st2) with e | ⟨q, e⟩
          · rw [e] at h2; exact h2.elim
          · rcases sqW_cases (w := w2) (st := st2) with e2 | ⟨q2, e2⟩
            · rw [e] at h2; simp only [Res.bind, e2] at h2; exact h2.elim
            · rw [e] at h2; simp only [Res.bind, e2] at h2
              obtain ⟨_, a1, isL, vs, rfl, k1, hq, ok⟩ := sq_of s2 r1 e
              obtain ⟨_, a2, isL2, us, rfl, k2, hq2, ok2⟩ := sq_of s2 r2 e2
              rw [k1, k2] at hk
              cases hk
              cases isL with
              | true => exact ⟨a1, a2, vs, us, rfl, rfl, .inl ⟨hq, hq2, Lk.run h2 s2 (walks_zl ok ok2)⟩⟩
              | false => exact ⟨a1, a2, vs, us, rfl, rfl, .inr ⟨hq, hq2, Lk.run h2 s2 (walks_zt ok ok2)⟩⟩
        · rw [if_neg hk] at h2; exact h2.elim⟩
    refine ⟨d, st, env, s, er, key.imp fun x H1 ⟨d1, st1, env1, s1, er1, h1⟩ => ⟨d1, st1, env1, s1, er1, h1.imp fun y H2 ⟨a, b, xs, ys, e1, e2, q⟩ => ?_⟩⟩
    subst e1 e2
    exact ⟨a, b, xs, ys, rfl, q⟩
theorem i_enum (o : XOk G T X S C n Z) {ea : Expr} {a : E} {elts : List Expr} {kk : Nat} {tpos p pos : Pos} (hg : Gl X "enumerate") (hs : notStar ea = true) (ha : PE X ea (tE G X.K C Z a)) : PI X (.Tuple elts kk tpos) (.Call (.Name "enumerate" p) [ea] [] pos) (iI G X.K C Z (.enum a)) :=
  (pi_enum hg (o.g.blt _ (by decide +kernel)) (pa_cons ha pa_nil (starEach_of hs _ _)) (by rw [starEach_of hs]; rfl)).to fun σ H R ⟨d, st, env, s, er, h⟩ => by
    unfold evI at h
    refine ⟨d, st, env, s, er, h.bind.imp fun x H1 ⟨d1, st1, w, l1, s1, r1, h1⟩ => ?_⟩
    by_cases hk : sqK w st1 = some true
    · rw [if_pos hk] at h1
      rcases sqW_cases (w := w) (st := st1) with e | ⟨q, e⟩
      · rw [e] at h1; exact h1.elim
      · rw [e] at h1
        obtain ⟨_, a, isL, vs, rfl, k1, hq, ok⟩ := sq_of s1 r1 e
        rw [k1] at hk; cases hk
        exact ⟨a, vs, rfl, hq, Lk.run h1 s1 (walks_e ok)⟩
    · rw [if_neg hk] at h1; exact h1.elim
end
end Mi
namespace Mi
open PySem PySem.Spec PyProof.Rows L2
section
variable {G : Gd} {T : Nm} {X : Cx} {S : Sc} {C : Ctx} {n : Nat} {Z : WX}
/-! ### comprehensions -/
def tC' (G : Gd) (K : W.Frag) (C : Ctx) (Z : WX) (cs : Es) : TT := fun σ H Q => ∃ d st env, SR G K d H st ∧ EnvR G K d σ env ∧ Lk G K RT Z σ d (evC C cs env st) Q
theorem _root_.L2.PTs.to {X : Cx} {e : List Expr} {t t' : TT} (h : PTs X e t) (k : ∀ σ H Q, t' σ H Q → t σ H Q) : PTs X e t' := ⟨fun pins s σ H Q I q => h.run pins s σ H Q I (k σ H Q q)⟩
theorem c_nil : PTs X [] (tC' G X.K C Z .nil) := pts_nil.to fun σ H Q ⟨d, st, env, s, er, h⟩ => by
  unfold evC at h
  exact Lk.run h s rfl
theorem c_one {a : E} {ea : Expr} (ha : PT X ea (tT G X.K C Z a)) : PTs X [ea] (tC' G X.K C Z (.cons a .nil)) := (pts_one ha).to fun σ H Q ⟨d, st, env, s, er, h⟩ => ⟨d, st, env, s, er, by unfold evC at h; exact h⟩
theorem lk_noexc {α γ δ ε ζ : Type} {K : W.Frag} {R' : Wd → δ → γ → Prop} {R2 : Wd → ζ → ε → Prop} {σ σ' : L2.St} {Z Z' : WX} {d d2 : Wd} {r : Res γ} {g : γ → Store → Res α} {k : α → Store → Res ε} {Q : ζ → Hp → Prop}
    (h : Lk G K R2 Z σ d ((noexc (r.bind g)).bind k) Q) : Lk G K R' Z' σ' d2 r fun b H => ∃ d' st a, Le d2 d' ∧ SR G K d' H st ∧ R' d' b a ∧ Lk G K R2 Z σ d ((noexc (g a st)).bind k) Q := by
  cases r with
  | ok a st => exact fun b H d1 l s q => ⟨d1, st, a, l, s, q, h⟩
  | exc c fs st => exact h.elim
  | stuck => exact h
theorem fz_read {K : W.Frag} {d : Wd} {H : Hp} {st : Store} {v : V} {w : W} (s : SR G K d H st) (r : RepW G K d v w) : fz w st = .stuck ∨ ∃ x st1, fz w st = .ok x st1 ∧ ∃ d', Le d d' ∧ SR G K d' H st1 ∧ RepD G K d'.hf v x := by
  unfold fz
  cases e : fzW st.length w st with
  | none => exact .inl rfl
  | some y =>
    obtain ⟨x, st1⟩ := y
    obtain ⟨d', l, s', q, _⟩ := fz_ok st.length w d st st1 v x s r e
    exact .inr ⟨x, st1, rfl, d', l, s', q⟩
theorem keep_read {K : W.Frag} {d : Wd} {H : Hp} {st : Store} {v : V} {w : W} {cell : Bool} (s : SR G K d H st) (r : RepW G K d v w) : keepOf cell w st = .stuck ∨ ∃ y st1, keepOf cell w st = .ok (some y) st1 ∧ ∃ d', Le d d' ∧ SR G K d' H st1 ∧ RepW G K d' v y := by
  unfold keepOf
  cases cell with
  | true => exact .inr ⟨w, st, rfl, d, Le.rfl, s, r⟩
  | false =>
    rw [if_neg Bool.false_ne_true]
    rcases fz_read s r with e | ⟨x, st1, e, d', l, s', q⟩
    · rw [e]; exact .inl rfl
    · rw [e]; exact .inr ⟨.d x, st1, rfl, d', l, s', q⟩
theorem wipe_wipe {σ : L2.St} : ∀ vs : List Nat, L2.wipe (L2.wipe σ vs) vs = L2.wipe σ vs := by
  have comm : ∀ (vs : List Nat) (σ : L2.St) (j : Nat), L2.wipe (σ.set j none) vs = (L2.wipe σ vs).set j none := by
    intro vs
    induction vs with
    | nil => intro σ j; rfl
    | cons k vs ih =>
      intro σ j
      show (L2.wipe (σ.set j none) vs).set k none = ((L2.wipe σ vs).set k none).set j none
      rw [ih]
      by_cases e : j = k
      · subst e; rfl
      · rw [List.set_comm _ _ e]
  intro vs
  induction vs with
  | nil => rfl
  | cons k vs ih =>
    show (L2.wipe ((L2.wipe σ vs).set k none) vs).set k none = (L2.wipe σ vs).set k none
    rw [comm, ih, List.set_set]
/-- a comprehension's reading -/
theorem lc_read {cell : Bool} {elt : E} {tg : Tg} {it : Mi.It} {cond : Es} {K : W.Frag} {σ : L2.St} {H : Hp} {Q : VK} (q : tE G K C Z (.comp cell elt tg it cond) σ H Q) :
    tLc (iI G K C Z it) (gI G K tg) (tC' G K C (fun _ _ _ _ => False) cond) (tE G K C (fun _ _ _ _ => False) elt) (tgVars tg) σ H Q := by
  obtain ⟨d, st, env, s, er, h⟩ := q
  unfold evE at h
  refine ⟨d, st, env, s, er, h.bind.imp fun J H1 ⟨d0, st0, src, l0, s0, wk, h0⟩ => ?_⟩
  intro D hD
  generalize hf : turnOf cell (fun w s => asgI tg w (wipeE env (tgVars tg)) s) (evC C cond) (evE C elt) = f at h0
  refine ⟨fun i m H => i + m = src.len ∧ ∃ d1 st1 vs acc, Le d0 d1 ∧ Loose G d1 D ∧ SR G K (d1.hold D (.lst vs)) H st1 ∧ RepWs G K d1 vs acc ∧ Lk G K (RepW G K) Z σ d1 ((comps src.at src.over f m i acc st1).bind (mkLst cell)) Q,
    ⟨src.len, by omega, d0, st0, [], [], Le.rfl, Loose.of s0 hD, (s0.plus hD).hold (Loose.of s0 hD) upd_same, .nil, h0⟩, ?_⟩
  rintro i m H ⟨him, d1, st1, vs, acc, l1, lo, s1, ra, h1⟩
  obtain ⟨s1', _, _, hDv⟩ := SR.let lo (Le.rfl) s1
  cases m with
  | zero =>
    left
    unfold comps at h1
    by_cases hov : src.over st1 = true
    · rw [if_pos hov] at h1
      exact ⟨wk.stop _ H st1 i (l1.le0.trans Le0.hold) s1 hov (by omega), lst_at s1' ra lo hDv h1⟩
    · rw [if_neg hov] at h1; exact h1.elim
  | succ m =>
    right
    unfold comps at h1
    cases hx : src.at i st1 with
    | none => rw [hx] at h1; exact h1.elim
    | some x =>
      rw [hx] at h1
      obtain ⟨go, yl⟩ := wk.go _ H st1 i x (l1.le0.trans Le0.hold) s1 hx
      refine ⟨go, fun H' => (i + 1) + m = src.len ∧ ∃ d1 st1 vs acc, Le d0 d1 ∧ Loose G d1 D ∧ SR G K (d1.hold D (.lst vs)) H' st1 ∧ RepWs G K d1 vs acc ∧ Lk G K (RepW G K) Z σ d1 ((comps src.at src.over f m (i + 1) acc st1).bind (mkLst cell)) Q,
        fun H' hN => ⟨m, by omega, hN⟩, fun v H' hy => ?_⟩
      obtain ⟨d2, l2, s2, r2⟩ := yl v H' hy
      -- the item goes to the target
      have h2 : Lk G K (RepW G K) Z σ d1 ((f x st1).bind fun o st1 => (match o with
              | some y => if small acc.length then comps src.at src.over f m (i + 1) (acc ++ [y]) st1 else .stuck
              | none => comps src.at src.over f m (i + 1) acc st1).bind (mkLst cell)) Q := by
        cases hq : f x st1 with
        | ok o s' => simp only [hq] at h1; exact h1
        | exc c fs s' => simp only [hq] at h1; exact h1
        | stuck => simp only [hq] at h1; exact h1
      have hfx : f x st1 = turnOf cell (fun w s => asgI tg w (wipeE env (tgVars tg)) s) (evC C cond) (evE C elt) x st1 := by rw [← hf]
      unfold turnOf at hfx
      rw [hfx] at h2
      cases ha : asgI tg x (wipeE env (tgVars tg)) st1 with
      | none => simp only [ha] at h2; exact h2.elim
      | some env1 =>
        simp only [ha] at h2
        have er2 : EnvR G K d2 (L2.wipe σ (tgVars tg)) (wipeE env (tgVars tg)) := (((er.mono l0).mono l1).hold.mono l2).wipe _
        refine ⟨d2, st1, _, x, env1, s2, er2, r2, ha, fun σ2 e2 hw2 => ⟨?_, ?_⟩⟩
        · rw [hw2 (tgVars tg) fun i hi => hi]
          exact wipe_wipe _
        · refine ⟨d2, st1, env1, s2, e2, (lk_noexc h2).imp fun b H3 ⟨d3, st3, k, l3, s3, hb, h3⟩ => ?_⟩
          have hb : b = k := hb
          subst hb
          -- what is reached
          have fin : ∀ {d4 : Wd} {st4 : Store} {H4 : Hp}, Le (d1.hold D (.lst vs)) d4 → SR G K d4 H4 st4 → Lk G K (RepW G K) Z σ d1 ((comps src.at src.over f m (i + 1) acc st4).bind (mkLst cell)) Q →
              (i + 1) + m = src.len ∧ ∃ d1 st1 vs acc, Le d0 d1 ∧ Loose G d1 D ∧ SR G K (d1.hold D (.lst vs)) H4 st1 ∧ RepWs G K d1 vs acc ∧ Lk G K (RepW G K) Z σ d1 ((comps src.at src.over f m (i + 1) acc st1).bind (mkLst cell)) Q := fun {d4 st4 H4} le s4 h4 => by
            obtain ⟨q1, q2, q3, q4⟩ := SR.let lo le s4
            exact ⟨by omega, _, st4, vs, acc, l1.trans q2, q3, q1.hold q3 q4, ra.mono q2, h4.mono q2⟩
          cases b with
          | false =>
            rw [if_neg Bool.false_ne_true] at h3 ⊢
            exact fin (l2.trans l3) s3 h3
          | true =>
            rw [if_pos rfl] at h3 ⊢
            refine ⟨d3, st3, env1, s3, e2.mono l3, (lk_noexc h3).imp fun y H4 ⟨d4, st4, yw, l4, s4, ry, h4⟩ => ?_⟩
            rcases keep_read (cell := cell) s4 ry with e | ⟨y', st5, e, d5, l5, s5, r5⟩
            · rw [e] at h4; exact h4.elim
            · rw [e] at h4
              have h4 : Lk G K (RepW G K) Z σ d1 ((if small acc.length then comps src.at src.over f m (i + 1) (acc ++ [y']) st5 else .stuck).bind (mkLst cell)) Q := h4
              by_cases hsm : small acc.length = true
              · rw [if_pos hsm] at h4
                obtain ⟨q1, q2, q3, q4⟩ := SR.let lo (l2.trans (l3.trans (l4.trans l5))) s5
                refine ⟨vs, q4, ?_, by omega, d5.let d1, st5, vs ++ [y], acc ++ [y'], l1.trans q2, q3, ?_, ?_, h4.mono q2⟩
                · have hl := of_decide_eq_true (p := acc.length ≤ 1000000) hsm
                  rw [ra.len, sizeLine_eq]; omega
                · exact (q1.loose q3 (fun φ z => by rw [q4] at z; cases z)).hold q3 upd_same
                · refine (ra.mono q2).app (.cons ?_ .nil)
                  cases y' with
                  | d x => exact r5
                  | ref k => exact r5
              · rw [if_neg hsm] at h4; exact h4.elim
theorem e_comp {cell : Bool} {elt : E} {tg : Tg} {it : Mi.It} {cond : Es} {eelt etg eit : Expr} {ifs : List Expr} {scope : Scope} {own : List (Str × Nat)} {pos : Pos} (hc : X.calm = true) (hN : X.N.Nodup) (hi : PI X etg eit (iI G X.K C Z it)) (ok : BlkOk X.N X.env.scope scope own) (hown : own.map (·.2) = tgVars tg)
    (hg : ∀ (s : Shared) (H : Hp) (c : Addr) (cl : List (Str × Addr)) (fp : List Addr), PG (X.blk s H scope (compEnvC scope cl c X.env) fp) etg (gI G X.K tg))
    (ht : ∀ (s : Shared) (H : Hp) (c : Addr) (cl : List (Str × Addr)) (fp : List Addr), PTs (X.blk s H scope (compEnvC scope cl c X.env) fp) ifs (tC' G X.K C (fun _ _ _ _ => False) cond))
    (he : ∀ (s : Shared) (H : Hp) (c : Addr) (cl : List (Str × Addr)) (fp : List Addr), PE (X.blk s H scope (compEnvC scope cl c X.env) fp) eelt (tE G X.K C (fun _ _ _ _ => False) elt)) (hs : ∀ x, foldedSetIterable eit X.env x = pure x) :
    PE X (.ListComp eelt [⟨etg, eit, ifs, 0⟩] scope pos) (tE G X.K C Z (.comp cell elt tg it cond)) :=
  (pe_lc hc hN hi ok hg ht he hs).to fun σ H Q q => by rw [hown]; exact lc_read q
end
end Mi
namespace Mi
open PySem PySem.Spec PyProof.Rows L2
/-! ### statements -/
def LkS (G : Gd) (K : W.Frag) (Z : WX) (d : Wd) (r : RS) (D : Ends) : Prop := match r with
  | .ok (.nx env) st => ∀ σ H d', Le d d' → SR G K d' H st → EnvR G K d' σ env → D.nx σ H
  | .ok (.ret w) st => ∀ v H d', Le d d' → SR G K d' H st → RepW G K d' v w → D.rt v H
  | .ok (.bk env) st => ∀ σ H d', Le d d' → SR G K d' H st → EnvR G K d' σ env → D.bk σ H
  | .ok (.ct env) st => ∀ σ H d', Le d d' → SR G K d' H st → EnvR G K d' σ env → D.ct σ H
  | .exc c fs env st => ∀ cls dd σ H d', Le d d' → SR G K d' H st → EnvR G K d' σ env → RepE G K d' cls dd c fs → Z cls dd σ H
  | .stuck => False
def tS (G : Gd) (K : W.Frag) (C : Ctx) (Z : WX) (s : S) : TS := fun D σ H => ∃ d st env, SR G K d H st ∧ EnvR G K d σ env ∧ LkS G K Z d (evS C s env st) D
def tSs (G : Gd) (K : W.Frag) (C : Ctx) (Z : WX) (s : Ss) : TS := fun D σ H => ∃ d st env, SR G K d H st ∧ EnvR G K d σ env ∧ LkS G K Z d (evSs C s env st) D
section
variable {G : Gd} {K : W.Frag} {Z : WX} {d d' : Wd} {D : Ends}
theorem LkS.mono {r : RS} (e : Le d d') (h : LkS G K Z d r D) : LkS G K Z d' r D := by
  cases r with
  | ok o st => cases o with
    | nx env => exact fun σ H d1 l s q => h σ H d1 (e.trans l) s q
    | ret w => exact fun v H d1 l s q => h v H d1 (e.trans l) s q
    | bk env => exact fun σ H d1 l s q => h σ H d1 (e.trans l) s q
    | ct env => exact fun σ H d1 l s q => h σ H d1 (e.trans l) s q
  | exc c fs env st => exact fun cls dd σ H d1 l s q => h cls dd σ H d1 (e.trans l) s q
  | stuck => exact h
/-- an expression, and what follows -/
theorem LkS.then {α β : Type} {R : Wd → β → α → Prop} {r : Res α} {f : α → Store → RS} {env : Env} {σ : L2.St} (er : EnvR G K d σ env) (h : LkS G K Z d (r.then env f) D) :
    Lk G K R Z σ d r fun b H => ∃ d' st a, Le d d' ∧ SR G K d' H st ∧ R d' b a ∧ LkS G K Z d' (f a st) D := by
  cases r with
  | ok a st => exact fun b H d1 l s q => ⟨d1, st, a, l, s, q, LkS.mono l h⟩
  | exc c fs st => exact fun cls dd H d1 l s q => h cls dd σ H d1 l s (er.mono l) q
  | stuck => exact h
/-- a statement, and what follows -/
theorem LkS.next {r : RS} {f : Env → Store → RS} (h : LkS G K Z d (r.then f) D) : LkS G K Z d r { D with nx := fun σ H => ∃ d' st env, SR G K d' H st ∧ EnvR G K d' σ env ∧ LkS G K Z d' (f env st) D } := by
  cases r with
  | ok o st => cases o with
    | nx env => exact fun σ H d1 l s q => ⟨d1, st, env, s, q, LkS.mono l h⟩
    | ret w => exact h
    | bk env => exact h
    | ct env => exact h
  | exc c fs env st => exact h
  | stuck => exact h
end
section
variable {G : Gd} {T : Nm} {X : Cx} {S : Sc} {C : Ctx} {n : Nat} {Z : WX}
theorem ss_nil : PSs X [] (tSs G X.K C Z .nil) := pss_nil.to fun D σ H ⟨d, st, env, s, er, h⟩ => by
  unfold evSs at h
  exact h σ H d Le.rfl s er
theorem ss_cons {s : Mi.S} {ss : Ss} {es : Stmt} {l : List Stmt} (h1 : PS X es (tS G X.K C Z s)) (h2 : PSs X l (tSs G X.K C Z ss)) : PSs X (es :: l) (tSs G X.K C Z (.cons s ss)) :=
  (pss_cons h1 h2).to fun D σ H ⟨d, st, env, s, er, h⟩ => by
    unfold evSs at h
    exact ⟨d, st, env, s, er, h.next⟩
/-! ### plain ones -/
theorem s_doc {x j pos pos'} : PS X (.Expr (.Constant (.str x) j pos) pos') (tS G X.K C Z .doc) := ps_doc.to fun D σ H ⟨d, st, env, s, er, h⟩ => by
  unfold evS at h
  exact h σ H d Le.rfl s er
theorem s_brk {pos : Pos} : PS X (.Break pos) (tS G X.K C Z .brk) := ps_break.to fun D σ H ⟨d, st, env, s, er, h⟩ => by
  unfold evS at h
  exact h σ H d Le.rfl s er
theorem s_cont {pos : Pos} : PS X (.Continue pos) (tS G X.K C Z .cont) := ps_continue.to fun D σ H ⟨d, st, env, s, er, h⟩ => by
  unfold evS at h
  exact h σ H d Le.rfl s er
theorem s_retN {pos : Pos} : PS X (.Return none pos) (tS G X.K C Z .retN) := ps_retN.to fun D σ H ⟨d, st, env, s, er, h⟩ => by
  unfold evS at h
  exact h _ H d Le.rfl s RepD.non
theorem s_ret {e : E} {ee : Expr} {pos : Pos} (he : PE X ee (tE G X.K C Z e)) : PS X (.Return (some ee) pos) (tS G X.K C Z (.ret e)) := (ps_ret he).to fun D σ H ⟨d, st, env, s, er, h⟩ => by
  unfold evS at h
  exact ⟨d, st, env, s, er, (LkS.then er h).imp fun x H1 ⟨d1, st1, w, l1, s1, r1, h1⟩ => h1 x H1 d1 Le.rfl s1 r1⟩
def isComp : Expr → Bool
  | .ListComp _ _ _ _ => true
  | .SetComp _ _ _ _ => true
  | .DictComp _ _ _ _ _ => true
  | _ => false
theorem swaps_not {e : Expr} (h : isComp e = false) (t : Option Expr) (l : Nat) (env : PySem.Env) : swapsWith e t l env = pure false := by
  cases e <;> first | rfl | (exact absurd h.symm Bool.false_ne_true)
theorem s_expr {e : E} {ee : Expr} {pos : Pos} (hs : isComp ee = false) (he : PE X ee (tE G X.K C Z e)) : PS X (.Expr ee pos) (tS G X.K C Z (.expr e)) := (ps_expr he (swaps_not hs _ _ _)).to fun D σ H ⟨d, st, env, s, er, h⟩ => by
  unfold evS at h
  exact ⟨d, st, env, s, er, (LkS.then er h).imp fun x H1 ⟨d1, st1, w, l1, s1, r1, h1⟩ => h1 σ H1 d1 Le.rfl s1 (er.mono l1)⟩
theorem s_ifs {c : E} {a b : Ss} {ec : Expr} {la lb : List Stmt} {pos : Pos} (hc : PT X ec (tT G X.K C Z c)) (ha : PSs X la (tSs G X.K C Z a)) (hb : PSs X lb (tSs G X.K C Z b)) : PS X (.If ec la lb pos) (tS G X.K C Z (.ifs c a b)) := (ps_if hc ha hb).to fun D σ H ⟨d, st, env, s, er, h⟩ => by
  unfold evS at h
  refine ⟨d, st, env, s, er, (LkS.then er h).imp fun x H1 ⟨d1, st1, w, l1, s1, r1, h1⟩ => ?_⟩
  have r1 : x = w := r1
  subst r1
  cases x with
  | true => exact ⟨d1, st1, env, s1, er.mono l1, h1⟩
  | false => exact ⟨d1, st1, env, s1, er.mono l1, h1⟩
/-! ### stores -/
theorem s_set {i : Nat} {x : Str} {e : E} {ee : Expr} {pos pos' : Pos} (hN : X.N.Nodup) (hi : X.N[i]? = some x) (hx : Loc X.env.scope x) (hf : X.fn x = true ∨ X.env.scope.names.lookup x = some .local) (hs : isComp ee = false) (he : PE X ee (tE G X.K C Z e)) : PS X (.Assign [.Name x pos'] ee pos) (tS G X.K C Z (.set i e)) :=
  (ps_set hN hi hx he (swaps_not hs _ _ _) hf).to fun D σ H ⟨d, st, env, s, er, h⟩ => by
    unfold evS at h
    exact ⟨d, st, env, s, er, (LkS.then er h).imp fun x H1 ⟨d1, st1, w, l1, s1, r1, h1⟩ => h1 _ H1 d1 Le.rfl s1 ((er.mono l1).set r1)⟩
/-- a name takes a comprehension's list on its own line -/
theorem s_setLc {i : Nat} {x : Str} {cell : Bool} {elt : E} {tg : Tg} {it : Mi.It} {cond : Es} {eelt etg eit : Expr} {ifs : List Expr} {scope : Scope} {own : List (Str × Nat)} {pos pos' cpos : Pos} (hc : X.calm = true) (hN : X.N.Nodup) (hy : X.N[i]? = some x) (hyl : X.env.scope.names.lookup x = some .local)
    (hsw : swapsWith (.ListComp eelt [⟨etg, eit, ifs, 0⟩] scope cpos) (some (.Name x pos')) pos.line X.env = pure true) (hi : PI X etg eit (iI G X.K C Z it)) (ok : BlkOk X.N X.env.scope scope own) (hown : own.map (·.2) = tgVars tg)
    (hg : ∀ (s : Shared) (H : Hp) (c : Addr) (cl : List (Str × Addr)) (fp : List Addr), PG (X.blk s H scope (compEnvC scope cl c X.env) fp) etg (gI G X.K tg))
    (ht : ∀ (s : Shared) (H : Hp) (c : Addr) (cl : List (Str × Addr)) (fp : List Addr), PTs (X.blk s H scope (compEnvC scope cl c X.env) fp) ifs (tC' G X.K C (fun _ _ _ _ => False) cond))
    (he : ∀ (s : Shared) (H : Hp) (c : Addr) (cl : List (Str × Addr)) (fp : List Addr), PE (X.blk s H scope (compEnvC scope cl c X.env) fp) eelt (tE G X.K C (fun _ _ _ _ => False) elt)) (hs : ∀ x, foldedSetIterable eit X.env x = pure x) :
    PS X (.Assign [.Name x pos'] (.ListComp eelt [⟨etg, eit, ifs, 0⟩] scope cpos) pos) (tS G X.K C Z (.set i (.comp cell elt tg it cond))) :=
  (ps_setLc hc hN hy hyl hsw hi ok hg ht he hs).to fun D σ H ⟨d, st, env, s, er, h⟩ => by
    unfold evS at h
    show tLc _ _ _ _ _ σ H _
    rw [hown]
    exact lc_read ⟨d, st, env, s, er, (LkS.then er h).imp fun x H1 ⟨d1, st1, w, l1, s1, r1, h1⟩ => h1 _ H1 d1 Le.rfl s1 ((er.mono l1).set r1)⟩
def isTupE : Expr → Bool
  | .Tuple _ _ _ => true
  | _ => false
theorem swapped_none {tg e : Expr} (h : isTupE e = false) (env : PySem.Env) : swappedStores [tg] e env = pure none := by
  unfold swappedStores
  cases e <;> first | (cases tg <;> rfl) | (exact absurd h.symm Bool.false_ne_true)
def isNameE : Expr → Bool
  | .Name _ _ => true
  | _ => false
theorem swapsSole_of {tg e : Expr} (h : isNameE tg = false) (l : Nat) (env : PySem.Env) : swapsWithSole [tg] e l env = pure false := by
  show swapsWith e (some tg) l env = pure false
  unfold swapsWith
  cases e <;> cases tg <;> first | rfl | (exact absurd h.symm Bool.false_ne_true)
theorem s_setT {tg : Tg} {e : E} {etg ee : Expr} {pos : Pos} (h1 : isNameE etg = false) (h2 : swappedStores [etg] ee X.env = pure none) (h3 : notStarT etg = true) (he : PE X ee (tE G X.K C Z e)) (hg : PG X etg (gW G X.K tg)) : PS X (.Assign [etg] ee pos) (tS G X.K C Z (.setT tg e)) :=
  (ps_asg he hg (swapsSole_of h1 _ _) h2 (by rw [assignEach_of h3]; rfl)).to fun D σ H ⟨d, st, env, s, er, h⟩ => by
    unfold evS at h
    refine ⟨d, st, env, s, er, (LkS.then er h).imp fun x H1 ⟨d1, st1, w, l1, s1, r1, h1⟩ => ?_⟩
    cases q : asgT tg w env st1 with
    | none => simp only [q] at h1; exact h1.elim
    | some env1 =>
      simp only [q] at h1
      exact ⟨d1, st1, env, w, env1, s1, er.mono l1, r1, q, fun σ' er' _ => h1 σ' H1 d1 Le.rfl s1 er'⟩
/-- a, b = x, y -/
theorem s_par {i j : Nat} {x y : Str} {a b : Expr} {es : Es} {px py pt : Pos} {kt k2 : Nat} {pt2 pos : Pos} (hc : X.calm = true) (hN : X.N.Nodup) (hi : X.N[i]? = some x) (hj : X.N[j]? = some y) (hij : i ≠ j)
    (hx : X.env.scope.names.lookup x = some .local) (hy : X.env.scope.names.lookup y = some .local) (hl : ∀ env st ws st', evEs C es env st = .ok ws st' → ws.length = 2) (ha : PA X [a, b] (tA G X.K C Z es))
    (hw : swappedStores [.Tuple [.Name x px, .Name y py] kt pt] (.Tuple [a, b] k2 pt2) X.env = pure (some [x, y])) :
    PS X (.Assign [.Tuple [.Name x px, .Name y py] kt pt] (.Tuple [a, b] k2 pt2) pos) (tS G X.K C Z (.par [i, j] es)) :=
  (ps_par hc hN hi hj hij hx hy ha hw (swapsSole_of rfl _ _)).to fun D σ H ⟨d, st, env, s, er, h⟩ => by
    unfold evS at h
    refine ⟨d, st, env, s, er, lk_len (hl env st) ((LkS.then er h).imp fun vs H1 ⟨d1, st1, ws, l1, s1, r1, h1⟩ hv => ?_)⟩
    have hv : ws.length = 2 := by rw [← r1.len, hv]
    match ws, hv with
    | [w, w2], _ =>
      obtain ⟨v, v2, rfl, rv, rv2⟩ := two_of r1
      exact ⟨v, v2, rfl, h1 _ H1 d1 Le.rfl s1 (((er.mono l1).set rv).set rv2)⟩
/-! ### loops -/
theorem s_whl (o : XOk G T X S C n Z) (hp : PassesOwn (model X.prog X.w) X.A X.env X.xe) {c : E} {b : Ss} {ec : Expr} {lb : List Stmt} {pos : Pos} (hc : PT X ec (tT G X.K C Z c)) (hb : PSs X lb (tSs G X.K C Z b)) : PS X (.While ec lb [] pos) (tS G X.K C Z (.whl c b)) :=
  (ps_while hp hc hb).to fun D σ H ⟨d, st, env, s, er, h⟩ => by
    unfold evS at h
    refine ⟨fun m σ H => ∃ d st env, SR G X.K d H st ∧ EnvR G X.K d σ env ∧ LkS G X.K Z d (whls (evT C c) (evSs C b) m env st) D, ⟨C.turns, d, st, env, s, er, h⟩, ?_⟩
    rintro m σ H ⟨d, st, env, s, er, h⟩
    cases m with
    | zero => unfold whls at h; exact h.elim
    | succ m =>
      unfold whls at h
      refine ⟨d, st, env, s, er, (LkS.then er h).imp fun k H1 ⟨d1, st1, k', l1, s1, r1, h1⟩ => ?_⟩
      have r1 : k = k' := r1
      subst r1
      cases k with
      | false =>
        rw [if_neg Bool.false_ne_true] at h1 ⊢
        exact h1 σ H1 d1 Le.rfl s1 (er.mono l1)
      | true =>
        rw [if_pos rfl] at h1 ⊢
        refine ⟨fun σ H => ∃ d st env, SR G X.K d H st ∧ EnvR G X.K d σ env ∧ LkS G X.K Z d (whls (evT C c) (evSs C b) m env st) D, fun σ' H' q => ⟨m, by omega, q⟩, d1, st1, env, s1, er.mono l1, ?_⟩
        cases e : evSs C b env st1 with
        | stuck => rw [e] at h1; exact h1
        | exc c fs env1 st2 => rw [e] at h1; exact h1
        | ok o st2 =>
          rw [e] at h1
          cases o with
          | nx env1 => exact fun σ H d2 l2 s2 er2 => ⟨d2, st2, env1, s2, er2, h1.mono l2⟩
          | ct env1 => exact fun σ H d2 l2 s2 er2 => ⟨d2, st2, env1, s2, er2, h1.mono l2⟩
          | bk env1 => exact h1
          | ret w => exact h1
theorem s_for (o : XOk G T X S C n Z) (hp : PassesOwn (model X.prog X.w) X.A X.env X.xe) {tg : Tg} {it : Mi.It} {b : Ss} {etg eit : Expr} {lb : List Stmt} {pos : Pos} (hi : PI X etg eit (iI G X.K C Z it)) (hg : PG X etg (gI G X.K tg)) (hb : PSs X lb (tSs G X.K C Z b))
    (hs : ∀ x, foldedSetIterable eit X.env x = pure x) : PS X (.For etg eit lb [] pos) (tS G X.K C Z (.for_ tg it b)) :=
  (ps_for hp o.calm hi hg hb hs).to fun D σ H ⟨d, st, env, s, er, h⟩ => by
    unfold evS at h
    refine ⟨d, st, env, s, er, (LkS.then er h).imp fun J H1 ⟨d0, st0, src, l0, s0, wk, h0⟩ => ?_⟩
    generalize hf : (fun (w : Item) (env : Env) (s : Store) => match asgI tg w env s with
      | some env1 => evSs C b env1 s
      | none => RS.stuck) = f at h0
    refine ⟨fun i m σ H => i + m = src.len ∧ ∃ d st env, Le d0 d ∧ SR G X.K d H st ∧ EnvR G X.K d σ env ∧ LkS G X.K Z d (fors src.at src.over f m i env st) D, ⟨src.len, by omega, d0, st0, env, Le.rfl, s0, er.mono l0, h0⟩, ?_⟩
    rintro i m σ H ⟨him, d1, st1, env, l1, s1, er, h1⟩
    cases m with
    | zero =>
      left
      unfold fors at h1
      by_cases hov : src.over st1 = true
      · rw [if_pos hov] at h1
        exact ⟨wk.stop d1 H st1 i l1.le0 s1 hov (by omega), h1 σ H d1 Le.rfl s1 er⟩
      · rw [if_neg hov] at h1; exact h1.elim
    | succ m =>
      right
      unfold fors at h1
      cases hx : src.at i st1 with
      | none => simp only [hx] at h1; exact h1.elim
      | some x =>
        simp only [hx] at h1
        obtain ⟨go, yl⟩ := wk.go d1 H st1 i x l1.le0 s1 hx
        refine ⟨go, fun σ H => (i + 1) + m = src.len ∧ ∃ d st env, Le d0 d ∧ SR G X.K d H st ∧ EnvR G X.K d σ env ∧ LkS G X.K Z d (fors src.at src.over f m (i + 1) env st) D, fun σ' H' q => ⟨m, by omega, q⟩, fun v H' hy => ?_⟩
        obtain ⟨d2, l2, s2, r2⟩ := yl v H' hy
        have hfx : f x env st1 = match asgI tg x env st1 with | some env1 => evSs C b env1 st1 | none => RS.stuck := by rw [← hf]
        cases ha : asgI tg x env st1 with
        | none => rw [ha] at hfx; rw [hfx] at h1; exact h1.elim
        | some env1 =>
          rw [ha] at hfx
          rw [hfx] at h1
          refine ⟨d2, st1, env, x, env1, s2, er.mono l2, r2, ha, fun σ2 er2 _ => ⟨d2, st1, env1, s2, er2, ?_⟩⟩
          have h1 := h1.mono l2
          cases e : evSs C b env1 st1 with
          | stuck => simp only [e] at h1; exact h1
          | exc c fs env2 st2 => simp only [e] at h1; exact h1
          | ok o st2 =>
            simp only [e] at h1
            cases o with
            | nx env2 => exact fun σ H d3 l3 s3 er3 => ⟨by omega, d3, st2, env2, l1.trans (l2.trans l3), s3, er3, h1.mono l3⟩
            | ct env2 => exact fun σ H d3 l3 s3 er3 => ⟨by omega, d3, st2, env2, l1.trans (l2.trans l3), s3, er3, h1.mono l3⟩
            | bk env2 => exact h1
            | ret w => exact h1
end
end Mi
namespace Mi
open PySem PySem.Spec PyProof.Rows L2
section
variable {G : Gd} {T : Nm} {X : Cx} {S : Sc} {C : Ctx} {n : Nat} {Z : WX}
/-! ### stores at a place -/
theorem low_read {K : W.Frag} {d : Wd} {H : Hp} {st : Store} {v : V} {w a : W} (s : SR G K d H st) (r : RepW G K d v w) : lowW a w st = .stuck ∨ ∃ w' st1, lowW a w st = .ok w' st1 ∧ ∃ d', Le d d' ∧ SR G K d' H st1 ∧ RepW G K d' v w' := by
  unfold lowW
  cases a with
  | d x => exact .inr ⟨w, st, rfl, d, Le.rfl, s, r⟩
  | ref n =>
    simp only
    by_cases hb : below n w = true
    · rw [if_pos hb]; exact .inr ⟨w, st, rfl, d, Le.rfl, s, r⟩
    · rw [if_neg hb]
      rcases fz_read s r with e | ⟨x, st1, e, d', l, s', q⟩
      · rw [e]; exact .inl rfl
      · rw [e]; exact .inr ⟨.d x, st1, rfl, d', l, s', q⟩
theorem set_dict (hu : X.A.units + 1 < cLine) : PSet X (fun o i v H Q => ∃ a H4, o = .ref a ∧ DPut H a i v H4 ∧ Q H4) := by
  intro pins s σ H o i v ov iv u Q I ro ri rv ⟨a, H4, eo, g, q⟩
  subst eo
  obtain rfl : ov = Value.ref a := ro
  exact d_setItem hu I g ri rv fun s4 I4 => ⟨H4, I4, q⟩
def rSetW (G : Gd) (K : W.Frag) : TSet := fun o i v H Q => ∃ d st a b w st', SR G K d H st ∧ RepW G K d o a ∧ RepW G K d i b ∧ RepW G K d v w ∧ setW a b w st = some st' ∧ ∀ H', SR G K d H' st' → Q H'
theorem set_any (o : XOk G T X S C n Z) : PSet X (rSetW G X.K) := by
  intro pins s σ H ov i v ov' iv u Q I ro ri rv ⟨d, st, a, b, w, st', sr, ra, rb, rw_, e, q⟩
  cases a with
  | d x => cases e
  | ref m =>
    obtain ⟨p, rfl, hp⟩ := ra
    unfold setW at e
    by_cases hb : below m w = true
    · simp only [if_pos hb] at e
      cases hc : st[m]? with
      | none => simp only [hc] at e; cases e
      | some c =>
        obtain ⟨a', q1, q2⟩ := sr.live m c hc
        rw [hp] at q1; cases q1
        simp only [hc] at e
        cases c with
        | frz y => cases e
        | lst ws =>
          obtain ⟨hf, hbl, vs, hv, hr⟩ := q2
          cases b with
          | ref k => cases e
          | d xb => cases xb with
            | int k =>
              simp only at e
              cases hj : Mi.ixN ws.length k with
              | none => rw [hj] at e; cases e
              | some j =>
                rw [hj] at e; cases e
                refine set_list pins s σ H _ i v ov' iv u Q I ro ri rv ⟨p, vs, k, j, rfl, repD_int rb, hv, by rw [hr.len]; exact hj, q _ ?_⟩
                refine sr.write hc (fun x z => by cases z) hp (fun φ z => by rw [hv] at z; cases z) ⟨hf, fun w' hw => ?_, vs.set j v, upd_same, paired_set rw_ j hr⟩ (fun x z => by cases z)
                rcases List.mem_or_eq_of_mem_set hw with z | z
                · exact hbl _ z
                · rw [z]; exact hb
            | _ => cases e
        | dct kvs =>
          obtain ⟨hf, hbl, ks, hv, hr⟩ := q2
          simp only at e
          cases ek : keyOf b with
          | none => rw [ek] at e; cases e
          | some k =>
            rw [ek] at e
            simp only at e
            by_cases hs : small kvs.length = true
            · rw [if_pos hs] at e; cases e
              have ey := key_rep rb ek
              subst ey
              have hl := of_decide_eq_true (p := kvs.length ≤ 1000000) hs
              have hl2 : ks.length = kvs.length := Paired.length hr
              refine set_dict (hu_of o.rm) pins s σ H _ _ v ov' iv u Q I ro ri rv ⟨p, _, rfl, DPut.k hv (by rw [hl2, sizeLine_eq]; omega), q _ ?_⟩
              refine sr.write hc (fun x z => by cases z) hp (fun φ z => by rw [hv] at z; cases z) ⟨hf, fun p' hw => ?_, _, upd_same, put_rep hr rw_⟩ (fun x z => by cases z)
              rcases put_mem hw with z | z
              · exact hbl _ z
              · rw [z]; exact hb
            · rw [if_neg hs] at e; cases e
    · simp only [if_neg hb] at e; cases e
theorem swapped_sub {o i e : Expr} {p : Pos} (env : PySem.Env) : swappedStores [.Subscript o i p] e env = pure none := by
  unfold swappedStores
  cases e <;> rfl
def isSliceE : Expr → Bool
  | .Slice _ _ _ _ => true
  | _ => false
theorem s_setIx (ok : XOk G T X S C n Z) {a i e : E} {ea ei ee : Expr} {p pos : Pos} (hns : isSliceE ei = false) (ha : PE X ea (tE G X.K C Z a)) (hi : PE X ei (tE G X.K C Z i)) (he : PE X ee (tE G X.K C Z e)) : PS X (.Assign [.Subscript ea ei p] ee pos) (tS G X.K C Z (.setIx a i e)) :=
  (ps_asg he (pg_sub ha hi (set_any ok) (fun v => by cases ei <;> first | rfl | (exact absurd hns.symm Bool.false_ne_true))) (swapsSole_of rfl _ _) (swapped_sub _) rfl).to fun D σ H ⟨d, st, env, s, er, h⟩ => by
    unfold evS at h
    refine ⟨d, st, env, s, er, (LkS.then er h).imp fun v H1 ⟨d1, st1, w, l1, s1, r1, h1⟩ => ⟨d1, st1, env, s1, er.mono l1, (LkS.then (er.mono l1) h1).imp fun x H2 ⟨d2, st2, wa, l2, s2, r2, h2⟩ =>
      ⟨d2, st2, env, s2, (er.mono l1).mono l2, (LkS.then ((er.mono l1).mono l2) h2).imp fun y H3 ⟨d3, st3, wi, l3, s3, r3, h3⟩ => ?_⟩⟩⟩
    rcases low_read (a := wa) s3 (r1.mono (l2.trans l3)) with e | ⟨w', st4, e, d4, l4, s4, r4⟩
    · rw [e] at h3; exact h3.elim
    · rw [e] at h3
      have h3 : LkS G X.K Z d3 (match setW wa wi w' st4 with | some st4 => .ok (.nx env) st4 | none => .stuck) D := h3
      cases hs : setW wa wi w' st4 with
      | none => rw [hs] at h3; exact h3.elim
      | some st5 =>
        rw [hs] at h3
        exact ⟨d4, st4, wa, wi, w', st5, s4, r2.mono (l3.trans l4), r3.mono l4, r4, hs, fun H' s5 => h3 σ H' d4 l4 s5 ((((er.mono l1).mono l2).mono l3).mono l4)⟩
/-! ### methods of lists -/
def plainBase : Expr → Bool
  | .Name _ _ => true
  | .Subscript _ _ _ => true
  | .Attribute _ _ _ => true
  | _ => false
theorem base_of {o : Expr} (h : plainBase o = true) (m : Str) (env : PySem.Env) (wh : Sem Value) : attributeBase o m env wh = wh := by
  cases o <;> first | rfl | (exact absurd h Bool.false_ne_true)
theorem few_of {e : Expr} (h : notStar e = true) (pos : Pos) (env : PySem.Env) : ((backTo pos (starEach [e] env)).all (fun x => !x.1) && (backToKw pos (keywordEach [] env)).all (fun x => x.1.isSome)
      && decide (([e] : List Expr).length + ([] : List Keyword).length + (if ([] : List Keyword).isEmpty then 0 else 1) < 30)) = true := by
  rw [starEach_of h]; rfl
theorem lst_read {K : W.Frag} {d : Wd} {H : Hp} {st : Store} {v : V} {w : W} {us : List W} (s : SR G K d H st) (r : RepW G K d v w) (e : lstW w st = some us) : ∃ a vs, v = .ref a ∧ RepWs G K d vs us ∧ SqL K H a vs := by
  cases w with
  | d x =>
    have r : RepD G K d.hf v x := r
    cases r with
    | lst h1 h2 => cases e; exact ⟨_, _, rfl, rds_ws h2, s.sub.sl h1⟩
    | _ => cases e
  | ref k =>
    obtain ⟨a, rfl, ha⟩ := r
    unfold lstW at e
    cases hc : st[k]? with
    | none => simp only [hc] at e; cases e
    | some c =>
      obtain ⟨a', q1, q2⟩ := s.live k c hc
      rw [ha] at q1; cases q1
      simp only [hc] at e
      cases c with
      | lst ws => cases e; obtain ⟨_, _, vs, hv, hr⟩ := q2; exact ⟨a, vs, rfl, hr, SqL.of hv⟩
      | dct kvs => cases e
      | frz y =>
        have q2 : RepD G K d.hf (.ref a) y := q2
        cases q2 with
        | lst h1 h2 => cases e; exact ⟨_, _, rfl, rds_ws h2, s.sub.sl h1⟩
        | _ => cases e
theorem ty_list {K : W.Frag} {d : Wd} {H : Hp} {st : Store} {v : V} {w : W} (s : SR G K d H st) (r : RepW G K d v w) (e : (lstW w st).isSome = true) : tyV K "list" v H := by
  obtain ⟨us, e⟩ := Option.isSome_iff_exists.mp e
  obtain ⟨a, vs, rfl, _, q⟩ := lst_read s r e
  exact .inl ⟨rfl, vs, q⟩
theorem s_app (ok : XOk G T X S C n Z) {a e : E} {ea ee : Expr} {apos cpos pos : Pos} (hb : plainBase ea = true) (hline : (apos.endLine == cpos.line) = true) (hst : notStar ee = true) (ha : PE X ea (tE G X.K C Z a)) (he : PE X ee (tE G X.K C Z e)) :
    PS X (.Expr (.Call (.Attribute ea "append" apos) [ee] [] cpos) pos) (tS G X.K C Z (.app a e)) :=
  (ps_expr (pe_bm PySem.F.plainAttrs_list PySem.F.slot_list_append PySem.F.type_list_append mt_append ha (pa_cons he pa_nil (starEach_of hst _ _)) (base_of hb _ _ _) (few_of hst _ _) hline (starEach_of hst _ _)) rfl).to fun D σ H ⟨d, st, env, s, er, h⟩ => by
    unfold evS at h
    refine ⟨d, st, env, s, er, (LkS.then er h).imp fun x H1 ⟨d1, st1, wa, l1, s1, r1, h1⟩ => ?_⟩
    by_cases hl : (lstW wa st1).isSome = true
    · rw [if_pos hl] at h1
      refine ⟨ty_list s1 r1 hl, d1, st1, env, s1, er.mono l1, (LkS.then (er.mono l1) h1).imp fun y H2 ⟨d2, st2, w, l2, s2, r2, h2⟩ => ?_⟩
      rcases low_read (a := wa) s2 r2 with e | ⟨w', st3, e, d3, l3, s3, r3⟩
      · rw [e] at h2; exact h2.elim
      · rw [e] at h2
        have h2 : LkS G X.K Z d2 (match appW wa w' st3 with | some st3 => .ok (.nx env) st3 | none => .stuck) D := h2
        have ra := r1.mono (l2.trans l3)
        cases wa with
        | d x => exact h2.elim
        | ref m =>
          obtain ⟨p, rfl, hp⟩ := ra
          unfold appW at h2
          simp only at h2
          by_cases hbl : below m w' = true
          · rw [if_pos hbl] at h2
            cases hc : st3[m]? with
            | none => simp only [hc] at h2; exact h2.elim
            | some c =>
              obtain ⟨a', q1, q2⟩ := s3.live m c hc
              rw [hp] at q1; cases q1
              simp only [hc] at h2
              cases c with
              | lst ws =>
                obtain ⟨hf, hb2, vs, hv, hr⟩ := q2
                simp only at h2
                by_cases hs : small ws.length = true
                · rw [if_pos hs] at h2
                  have hlen := of_decide_eq_true (p := ws.length ≤ 1000000) hs
                  refine ⟨p, vs, y, rfl, rfl, hv, by rw [hr.len, sizeLine_eq]; omega, h2 σ _ d3 l3 ?_ (((er.mono l1).mono l2).mono l3)⟩
                  refine s3.write hc (fun x z => by cases z) hp (fun φ z => by rw [hv] at z; cases z) ⟨hf, fun w2 hw => ?_, vs ++ [y], upd_same, hr.app (.cons r3 .nil)⟩ (fun x z => by cases z)
                  rcases List.mem_append.mp hw with z | z
                  · exact hb2 _ z
                  · rw [List.mem_singleton.mp z]; exact hbl
                · rw [if_neg hs] at h2; exact h2.elim
              | dct kvs => exact h2.elim
              | frz y => exact h2.elim
          · rw [if_neg hbl] at h2; exact h2.elim
    · rw [if_neg hl] at h1; exact h1.elim
theorem seqIx_of {n : Nat} {k : Int} {j : Nat} (h : Mi.ixN n k = some j) : seqIndex? k n = some j ∧ j < n ∧ -(n : Int) ≤ k ∧ k < n := ixN_seq h
theorem e_pop (ok : XOk G T X S C n Z) {a i : E} {ea ei : Expr} {apos cpos : Pos} (hb : plainBase ea = true) (hline : (apos.endLine == cpos.line) = true) (hst : notStar ei = true) (ha : PE X ea (tE G X.K C Z a)) (hi : PE X ei (tE G X.K C Z i)) :
    PE X (.Call (.Attribute ea "pop" apos) [ei] [] cpos) (tE G X.K C Z (.popm a i)) :=
  (pe_bm PySem.F.plainAttrs_list PySem.F.slot_list_pop PySem.F.type_list_pop mt_popAt ha (pa_cons hi pa_nil (starEach_of hst _ _)) (base_of hb _ _ _) (few_of hst _ _) hline (starEach_of hst _ _)).to fun σ H Q ⟨d, st, env, s, er, h⟩ => by
    unfold evE at h
    refine ⟨d, st, env, s, er, h.bind.imp fun x H1 ⟨d1, st1, wa, l1, s1, r1, h1⟩ => ?_⟩
    by_cases hl : (lstW wa st1).isSome = true
    · rw [if_pos hl] at h1
      refine ⟨ty_list s1 r1 hl, d1, st1, env, s1, er.mono l1, h1.bind.imp fun y H2 ⟨d2, st2, wi, l2, s2, r2, h2⟩ => ?_⟩
      have ra := r1.mono l2
      cases wa with
      | d x => exact h2.elim
      | ref m =>
        obtain ⟨p, rfl, hp⟩ := ra
        cases wi with
        | ref k => exact h2.elim
        | d xi => cases xi with
          | int k =>
            unfold popW at h2
            simp only at h2
            cases hc : st2[m]? with
            | none => simp only [hc] at h2; exact h2.elim
            | some c =>
              obtain ⟨a', q1, q2⟩ := s2.live m c hc
              rw [hp] at q1; cases q1
              simp only [hc] at h2
              cases c with
              | lst ws =>
                obtain ⟨hf, hb2, vs, hv, hr⟩ := q2
                simp only at h2
                cases hj : Mi.ixN ws.length k with
                | none => rw [hj] at h2; exact h2.elim
                | some j =>
                  rw [hj] at h2
                  simp only at h2
                  cases hx : ws[j]? with
                  | none => rw [hx] at h2; exact h2.elim
                  | some w =>
                    rw [hx] at h2
                    simp only at h2
                    by_cases hs : small ws.length = true
                    · rw [if_pos hs] at h2
                      have hlen := of_decide_eq_true (p := ws.length ≤ 1000000) hs
                      obtain ⟨k1, k2, k3, k4⟩ := seqIx_of hj
                      obtain ⟨v, e1, e2⟩ := paired_get hr hx
                      have hvl := hr.len
                      refine ⟨p, vs, k, j, v, rfl, by rw [repD_int r2], hv, by omega, by omega, by rw [hvl]; exact k1, e1, ?_⟩
                      refine Lk.run h2 (s2.write hc (fun x z => by cases z) hp (fun φ z => by rw [hv] at z; cases z) ⟨hf, fun w2 hw => hb2 _ (List.mem_of_mem_eraseIdx hw), vs.eraseIdx j, upd_same, paired_erase j hr⟩ (fun x z => by cases z)) e2
                    · rw [if_neg hs] at h2; exact h2.elim
              | dct kvs => exact h2.elim
              | frz y => exact h2.elim
          | _ => exact h2.elim
    · rw [if_neg hl] at h1; exact h1.elim
/-! ### dict displays -/
theorem lk_hold {α γ δ ζ : Type} {K : W.Frag} {R' : Wd → δ → γ → Prop} {R2 : Wd → ζ → α → Prop} {σ : L2.St} {d : Wd} {p : Addr} {o : HO} {r : Res γ} {g : γ → Store → Res α} {Q : ζ → Hp → Prop} (lo : Loose G d p)
    (h : Lk G K R2 Z σ d (r.bind g) Q) : Lk G K R' Z σ (d.hold p o) r fun b H => ∃ d' st a, Le (d.hold p o) d' ∧ SR G K d' H st ∧ R' d' b a ∧ Lk G K R2 Z σ d (g a st) Q := by
  cases r with
  | ok a st => exact fun b H d1 l s q => ⟨d1, st, a, l, s, q, h⟩
  | exc c fs st =>
    intro cls dd H d1 l s q
    obtain ⟨q1, q2, _, _⟩ := SR.let lo l s
    exact h cls dd H _ q2 q1 q
  | stuck => exact h
theorem lk_hold' {γ δ : Type} {K : W.Frag} {R' : Wd → δ → γ → Prop} {σ : L2.St} {d : Wd} {r : Res γ} {Q Q' : δ → Hp → Prop} (h : Lk G K R' Z σ d r Q) (k : ∀ b H, Q b H → Q' b H) : Lk G K R' Z σ d r Q' := h.imp k
/-- keys written as constants -/
def keyE : Expr → Option Key
  | .Constant (.int i) _ _ => some (.inl i)
  | .Constant (.str x) _ _ => some (.inr x)
  | _ => none
def tPs (G : Gd) (K : W.Frag) (C : Ctx) (Z : WX) (ks : List Key) (es : Es) : L2.St → Hp → (List (V × V) → Hp → Prop) → Prop := fun σ H Q => ∃ d st env, SR G K d H st ∧ EnvR G K d σ env ∧ Lk G K (RepWs G K) Z σ d (evEs C es env st) fun vs H' => Q ((ks.map kV).zip vs) H'
structure DctP (G : Gd) (X : Cx) (C : Ctx) (Z : WX) (pos : Pos) (keys : List (Option Expr)) (vals : List Expr) (ks : List Key) (es : Es) : Prop where
  ex : ∃ trs, PPs X pos keys vals trs ∧ ∀ σ H Q, tPs G X.K C Z ks es σ H Q → tPairs trs σ H Q
  l1 : keys.length = ks.length
  l2 : vals.length = ks.length
  al : keys.all (·.isSome) = true
theorem d_nil {pos : Pos} : DctP G X C Z pos [] [] [] .nil := ⟨⟨[], pps_nil, fun σ H Q ⟨d, st, env, s, er, h⟩ => by
  unfold evEs at h
  exact Lk.run h s .nil⟩, rfl, rfl, rfl⟩
theorem d_cons {pos : Pos} {ek ev : Expr} {k : Key} {a : E} {ks : List Key} {es : Es} {keys : List (Option Expr)} {vals : List Expr} (hk : keyE ek = some k) (ha : PE X ev (tE G X.K C Z a)) (hr : DctP G X C Z pos keys vals ks es) : DctP G X C Z pos (some ek :: keys) (ev :: vals) (k :: ks) (.cons a es) := by
  obtain ⟨⟨trs, h1, h2⟩, l1, l2, al⟩ := hr
  have hek : PE X ek (tC (kV k)) := by
    unfold keyE at hk
    split at hk
    · cases hk; exact pe_int
    · cases hk; exact pe_str
    · cases hk
  refine ⟨⟨_, pps_cons hek ha h1, fun σ H Q ⟨d, st, env, s, er, h⟩ => ?_⟩, by simp [l1], by simp [l2], by simp [al]⟩
  unfold evEs at h
  exact ⟨d, st, env, s, er, h.bind.imp fun x H1 ⟨d1, st1, w, l1, s1, r1, h1⟩ => h2 _ _ _ ⟨d1, st1, env, s1, er.mono l1, h1.bind.imp fun xs H2 ⟨d2, st2, ws, l2, s2, r2, h2⟩ => Lk.run h2 s2 (.cons (r1.mono l2) r2)⟩⟩
theorem merge_rep {K : W.Frag} {d : Wd} : ∀ {ks : List Key} {vs : List V} {ws : List W} {kvs : List (Key × V)} {kws : List (Key × W)}, RepWs G K d vs ws → RepKs G K d kvs kws → RepKs G K d (mergeK kvs (ks.zip vs)) ((ks.zip ws).foldl (fun acc p => putKey acc p.1 p.2) kws)
  | [], _, _, _, _, _, r => r
  | k :: ks, _, _, _, _, .nil, r => r
  | k :: ks, _, _, _, _, .cons h t, r => by
    rw [List.zip_cons_cons, List.zip_cons_cons, List.foldl_cons]
    exact merge_rep (ks := ks) t (put_rep r h)
theorem merge_below {b : Nat} : ∀ {ks : List Key} {ws : List W} {kws : List (Key × W)}, (∀ w ∈ ws, below b w = true) → (∀ p ∈ kws, below b p.2 = true) → ∀ p ∈ (ks.zip ws).foldl (fun acc p => putKey acc p.1 p.2) kws, below b p.2 = true
  | [], _, _, _, h => by simpa using h
  | k :: ks, [], _, _, h => by simpa using h
  | k :: ks, w :: ws, kws, hw, h => by
    rw [List.zip_cons_cons, List.foldl_cons]
    refine merge_below (ks := ks) (fun w' q => hw w' (List.mem_cons_of_mem _ q)) fun p hp => ?_
    rcases put_mem hp with z | z
    · exact h p z
    · rw [z]; exact hw w List.mem_cons_self
theorem e_dct {keys : List (Option Expr)} {vals : List Expr} {pos : Pos} {ks : List Key} {es : Es} (h0 : keys ≠ []) (hp : DctP G X C Z pos keys vals ks es) (h15 : ks.length ≤ 15) : PE X (.Dict keys vals pos) (tE G X.K C Z (.dct ks es)) := by
  obtain ⟨⟨trs, h1, h2⟩, l1, l2, al⟩ := hp
  refine (pe_disp h1 al (by rw [l1, l2]) h0 (by rw [l1]; exact h15)).to fun σ H Q ⟨d, st, env, s, er, h⟩ => ?_
  unfold evE at h
  intro p hpn
  have lo := Loose.of s hpn
  refine h2 _ _ _ ⟨d.hold p (.dK []), st, env, (s.plus hpn).hold lo upd_same, er.hold, (lk_hold lo h).imp fun vs H2 ⟨d2, st2, ws, l2', s2, r2, hq⟩ => ?_⟩
  obtain ⟨q1, q2, q3, q4⟩ := SR.let lo l2' s2
  unfold mkDct at hq
  by_cases hc : ks.length = ws.length ∧ 0 < ks.length ∧ ks.length ≤ 15
  · rw [if_pos hc] at hq
    have hvl : vs.length = ks.length := by rw [r2.len, hc.1]
    have hzip : (ks.map kV).zip vs = (ks.zip vs).map fun kv => (kV kv.1, kv.2) := by
      rw [List.zip_map_left]; rfl
    refine ⟨q4, ks.zip vs, hzip, by rw [List.length_zip, hvl]; simp; omega, ?_⟩
    have r2' : RepWs G X.K (d2.let d) vs ws := Paired.mapP r2 fun v w h => by cases w <;> exact h
    have le : Le (d2.let d) { d2.let d with m := (d2.let d).m ++ [p] } := ⟨Ext.rfl, rfl, fun k a h => by
      show ((d2.let d).m ++ [p])[k]? = some a
      rw [List.getElem?_append_left (List.getElem?_eq_some_iff.mp h).1]; exact h⟩
    obtain ⟨s3, l3⟩ := q1.newL (o := .dK (mergeK [] (ks.zip vs))) (c := .dct ((ks.zip ws).foldl (fun acc p => putKey acc p.1 p.2) [])) q3 (fun φ z => by rw [q4] at z; cases z)
      ⟨q3.hf, merge_below (belowAll q1 r2') (fun p h => by cases h), _, upd_same, merge_rep (RepWs.mono le r2') .nil⟩ (fun x z => by cases z)
    refine hq _ _ _ (q2.trans l3) s3 ⟨p, rfl, ?_⟩
    show ((d2.let d).m ++ [p])[st2.length]? = some p
    rw [← q1.len]; simp
  · rw [if_neg hc] at hq; exact hq.elim
end
end Mi
namespace Mi
open PySem PySem.Spec PyProof.Rows L2
section
variable {G : Gd} {T : Nm} {X : Cx} {S : Sc} {C : Ctx} {n : Nat} {Z : WX}
/-! ### plain expressions as tests -/
def plainT : Expr → Bool
  | .UnaryOp _ _ _ => false
  | .BoolOp _ _ _ => false
  | .IfExp _ _ _ _ => false
  | .Compare _ _ _ _ => false
  | _ => true
theorem isTrue_of {e : Expr} (h : plainT e = true) (env : PySem.Env) (whole : Sem Bool → Sem Bool) (wh : Sem Value) : isTrue e env wh = (do let v ← wh; standAt e.pos; holding [v] (truthy v)) := by
  cases e <;> first | rfl | (exact absurd h Bool.false_ne_true)
theorem t_of {e : E} {ee : Expr} (h : plainT ee = true) (he : PE X ee (tE G X.K C Z e)) (hv : ∀ env st, evT C e env st = (evE C e env st).bind truW) : PT X ee (tT G X.K C Z e) := t_plain he (fun wh => isTrue_of h _ id wh) hv
theorem tv_var {i : Nat} (env : Env) (st : Store) : evT C (.var i) env st = (evE C (.var i) env st).bind truW := by
  unfold evT evE
  cases env[i]? with
  | none => rfl
  | some o => cases o <;> rfl
theorem tv_bl {b : Bool} (env : Env) (st : Store) : evT C (.bl b) env st = (evE C (.bl b) env st).bind truW := by unfold evT evE; rfl
theorem bind_assoc' {α β γ : Type} (r : Res α) (f : α → Store → Res β) (g : β → Store → Res γ) : (r.bind f).bind g = r.bind fun a st => (f a st).bind g := by cases r <;> rfl
theorem tv_idx {a i : E} (env : Env) (st : Store) : evT C (.idx a i) env st = (evE C (.idx a i) env st).bind truW := by
  show ((evE C a env st).bind fun x st1 => (evE C i env st1).bind fun y st2 => (idxW x y st2).bind truW) = ((evE C a env st).bind fun x st1 => (evE C i env st1).bind fun y st2 => idxW x y st2).bind truW
  rw [bind_assoc']
  congr 1
  funext x st1
  rw [bind_assoc']
theorem tv_call {f : Nat} {es : Es} (env : Env) (st : Store) : evT C (.call f es) env st = (evE C (.call f es) env st).bind truW := rfl
theorem tv_callk {f : Nat} {es ks : Es} {p : List Nat} (env : Env) (st : Store) : evT C (.callk f es ks p) env st = (evE C (.callk f es ks p) env st).bind truW := rfl
theorem tv_blt {b : Blt} {es : Es} (env : Env) (st : Store) : evT C (.blt b es) env st = (evE C (.blt b es) env st).bind truW := rfl
theorem tv_isin {a : E} {ts : List Ty} (env : Env) (st : Store) : evT C (.isin a ts) env st = (evE C (.isin a ts) env st).bind truW := rfl
/-! ### isinstance by built-in classes -/
def tyStr : Ty → Option String
  | .int => some "int" | .bool => some "bool" | .tup => some "tuple" | .lst => some "list" | .str => some "str" | .exc _ => none
def tyD : D → String
  | .non => "NoneType" | .bl _ => "bool" | .int _ => "int" | .str _ => "str" | .tup _ => "tuple" | .lst _ => "list" | _ => "object"
theorem tyx_rep {K : W.Frag} {d : Wd} {H : Hp} {st : Store} {v : V} {x : D} (s : SR G K d H st) (r : RepD G K d.hf v x) (h : plainD x = true) : TyX K H v (.type (tyD x)) := by
  have lst : ∀ {a : Addr} {vs : List V}, SqL K H a vs → TyX K H (.ref a) (.type "list") := fun {a vs} h => by
    rcases h with (h | ⟨o, h⟩) | ⟨o, its, n, h1, h2, _⟩
    · exact .base (.lst h)
    · exact .base (.frz h)
    · exact .kList h1 h2
  have tup : ∀ {a : Addr} {vs : List V}, SqT K H a vs → TyX K H (.ref a) (.type "tuple") := fun {a vs} h => by
    rcases h with (h | ⟨o, h⟩) | ⟨o, its, n, h1, h2, _⟩
    · exact .base (.tup h)
    · exact .fTuple h
    · exact .kTuple h1 h2
  cases r with
  | non => exact .base .non
  | bl b => exact .base (.bl b)
  | int i => exact .base (.int i)
  | str z => exact .base (.str z)
  | tup h1 h2 => exact tup (s.sub.st h1)
  | lst h1 h2 => exact lst (s.sub.sl h1)
  | fn _ => cases h
  | exc _ _ _ => cases h
theorem tyl_rep {K : W.Frag} {H : Hp} {a : Addr} {vs : List V} (h : SqL K H a vs) : TyX K H (.ref a) (.type "list") := by
  rcases h with (h | ⟨o, h⟩) | ⟨o, its, n, h1, h2, _⟩
  · exact .base (.lst h)
  · exact .base (.frz h)
  · exact .kList h1 h2
def isTyS (t : Ty) (s : String) : Bool := match t with
  | .int => s == "int" || s == "bool"
  | .bool => s == "bool"
  | .tup => s == "tuple"
  | .lst => s == "list"
  | .str => s == "str"
  | .exc _ => false
theorem kit_tab : ∀ s ∈ ["NoneType", "bool", "int", "str", "tuple", "list"], ∀ t ∈ [Ty.int, Ty.bool, Ty.tup, Ty.lst, Ty.str], (tyStr t).bind (kitB s) = some (isTyS t s) := by decide +kernel
theorem isTy_S (t : Ty) (x : D) (h : plainD x = true) : isTy t x = isTyS t (tyD x) ∧ tyD x ∈ ["NoneType", "bool", "int", "str", "tuple", "list"] := by
  cases x with
  | fn f => cases h
  | exc c fs => cases h
  | _ => exact ⟨by cases t <;> rfl, by simp [tyD]⟩
theorem kit_is {K : W.Frag} {x : D} {t : Ty} {ty : String} (hp : plainD x = true) (ht : tyStr t = some ty) : PySem.W.kitOne K (.type (tyD x)) (.type ty) = some (isTy t x) := by
  refine kit_ty ?_
  obtain ⟨e1, e2⟩ := isTy_S t x hp
  have := kit_tab _ e2 t (by cases t <;> cases ht <;> simp)
  rw [ht] at this
  rw [e1]
  exact this
theorem kit_lst {K : W.Frag} {t : Ty} {ty : String} (ht : tyStr t = some ty) : PySem.W.kitOne K (.type "list") (.type ty) = some (decide (t = .lst)) := by
  refine kit_ty ?_
  have := kit_tab "list" (by simp) t (by cases t <;> cases ht <;> simp)
  rw [ht] at this
  rw [show decide (t = .lst) = isTyS t "list" by cases t <;> cases ht <;> rfl]
  exact this
theorem kit_any {K : W.Frag} {tv : Value} {f : Ty → Bool} (h : ∀ t ty, tyStr t = some ty → PySem.W.kitOne K tv (.type ty) = some (f t)) : ∀ {ts : List Ty} {tys : List String}, Paired (fun t ty => tyStr t = some ty) ts tys → PySem.W.kitAny K tv (tys.map Value.type) = some (ts.any f)
  | _, _, .nil => rfl
  | t :: ts, ty :: tys, .cons r q => by
    refine kitAny_cons (h t ty r) (fun e => ?_) fun e => ?_
    · rw [List.any_cons, e, Bool.false_or]; exact kit_any h q
    · rw [List.any_cons, e, Bool.true_or]
theorem ty_boot {t : Ty} {ty : String} (h : tyStr t = some ty) : bootBuiltins ty = some (.type ty) ∧ Str.ofString ty ≠ "__name__" ∧ (Str.ofString ty == ("__debug__" : Str)) = false ∧ Str.ofString ty ∈ blts := by
  cases t <;> cases h <;> exact ⟨by decide +kernel, by decide +kernel, by decide +kernel, by decide +kernel⟩
theorem isW_calm (ts : List Ty) (a : W) (st : Store) : Calm (isW C ts a st) := by
  unfold isW
  repeat' split
  all_goals trivial
/-- what is asked of a plain value -/
theorem is_read {K : W.Frag} {d : Wd} {H : Hp} {st : Store} {σ : L2.St} {v : V} {w : W} {ts : List Ty} {Q : VK} (hpl : ts.all plainTy = true) (s : SR G K d H st) (r : RepW G K d v w) (h : Lk G K (RepW G K) Z σ d (isW C ts w st) Q) :
    ∃ (tv : Value) (f : Ty → Bool), TyX K H v tv ∧ (∀ t ty, tyStr t = some ty → PySem.W.kitOne K tv (.type ty) = some (f t)) ∧ ∀ H', SR G K d H' st → Q (.bl (ts.any f)) H' := by
  cases w with
  | d x =>
    have r : RepD G K d.hf v x := r
    have plain : plainD x = true → Lk G K (RepW G K) Z σ d (if plainD x && ts.all plainTy then .ok (.d (.bl (ts.any fun t => isTy t x))) st else .stuck) Q → ∃ (tv : Value) (f : Ty → Bool), TyX K H v tv ∧ (∀ t ty, tyStr t = some ty → PySem.W.kitOne K tv (.type ty) = some (f t)) ∧ ∀ H', SR G K d H' st → Q (.bl (ts.any f)) H' := fun hx h => by
      rw [if_pos (by rw [hx, hpl]; rfl)] at h
      exact ⟨_, fun t => isTy t x, tyx_rep s r hx, fun t ty ht => kit_is hx ht, fun H' s' => Lk.run h s' (RepD.bl _)⟩
    cases x with
    | exc c fs =>
      clear plain
      rcases ts with _ | ⟨t, _ | ⟨t2, ts⟩⟩
      · exact h.elim
      · cases t <;> first | exact h.elim | (exact absurd (show (false && true) = true from hpl) Bool.false_ne_true)
      · cases t <;> exact h.elim
    | fn f =>
      have h : Lk G K (RepW G K) Z σ d (if plainD (.fn f) && ts.all plainTy then .ok (.d (.bl (ts.any fun t => isTy t (.fn f)))) st else .stuck) Q := h
      rw [if_neg (by show ¬ (false && _) = true; exact Bool.false_ne_true)] at h
      exact h.elim
    | _ => exact plain rfl h
  | ref k =>
    obtain ⟨a, rfl, ha⟩ := r
    unfold isW at h
    cases hc : st[k]? with
    | none => simp only [hc] at h; exact h.elim
    | some c =>
      obtain ⟨a', q1, q2⟩ := s.live k c hc
      rw [ha] at q1; cases q1
      simp only [hc] at h
      cases c with
      | lst ws =>
        obtain ⟨_, _, vs, hv, hr⟩ := q2
        simp only [if_pos hpl] at h
        exact ⟨_, fun t => decide (t = .lst), tyl_rep (SqL.of hv), fun t ty ht => kit_lst ht, fun H' s' => Lk.run h s' (RepD.bl _)⟩
      | dct kvs => exact h.elim
      | frz y =>
        have q2 : RepD G K d.hf (.ref a) y := q2
        cases q2 with
        | lst h1 h2 =>
          simp only [if_pos hpl] at h
          exact ⟨_, fun t => decide (t = .lst), tyl_rep (s.sub.sl h1), fun t ty ht => kit_lst ht, fun H' s' => Lk.run h s' (RepD.bl _)⟩
        | _ => exact h.elim
theorem plain_of {t : Ty} {ty : String} (h : tyStr t = some ty) : plainTy t = true := by cases t <;> cases h <;> rfl
theorem e_isin1 (o : XOk G T X S C n Z) {a : E} {ea : Expr} {t : Ty} {ty : String} {p p2 pos : Pos} (ht : tyStr t = some ty) (hg : Gl X "isinstance") (hg2 : Gl X ty) (hs : notStar ea = true) (ha : PE X ea (tE G X.K C Z a)) :
    PE X (.Call (.Name "isinstance" p) [ea, .Name ty p2] [] pos) (tE G X.K C Z (.isin a [t])) := by
  obtain ⟨b1, b2, b3, b4⟩ := ty_boot ht
  refine (pe_callB call_isi hg (o.g.blt _ (by decide +kernel)) (by decide +kernel) (pa_cons ha (pa_cons (pe_bltn (v := .ty ty) hg2 (o.g.blt _ b4) b1 rfl b2 b3) pa_nil rfl) (starEach_of hs _ _)) (by decide +kernel) (by decide +kernel) (starEach_of hs _ _) rfl).to fun σ H Q ⟨d, st, env, s, er, h⟩ => ?_
  unfold evE at h
  refine ⟨d, st, env, s, er, h.bind.imp fun x H1 ⟨d1, st1, w, l1, s1, r1, h1⟩ => ?_⟩
  obtain ⟨tv, f, q1, q2, q3⟩ := is_read (by show (plainTy t && true) = true; rw [plain_of ht]; rfl) s1 r1 h1
  refine ⟨x, .ty ty, tv, .type ty, f t, rfl, .ty ty, q1, q2 t ty ht, ?_⟩
  have := q3 H1 s1
  rw [List.any_cons, List.any_nil, Bool.or_false] at this
  exact this
/-- a tuple of built-in classes -/
def tyNames : List Expr → Option (List String) := fun _ => none
theorem pa_tys (o : XOk G T X S C n Z) : ∀ {ts : List Ty} {tys : List String} {l : List Expr}, Paired (fun t ty => tyStr t = some ty) ts tys → Paired (fun (e : Expr) (ty : String) => ∃ p, e = .Name ty p ∧ Gl X ty) l tys → PA X l (fun σ H Q => Q (tys.map V.ty) H)
  | _, _, _, .nil, .nil => pa_nil
  | _, _, _, .cons r q, .cons ⟨p, e, hg⟩ g => by
    subst e
    obtain ⟨b1, b2, b3, b4⟩ := ty_boot r
    exact (pa_cons (pe_bltn (v := .ty _) hg (o.g.blt _ b4) b1 rfl b2 b3) (pa_tys o q g) rfl).to fun σ H Q h => h
theorem cls_all : ∀ tys : List String, Paired ClsV (tys.map V.ty) (tys.map Value.type)
  | [] => .nil
  | t :: ts => .cons (.ty t) (cls_all ts)
theorem all_plain : ∀ {ts : List Ty} {tys : List String}, Paired (fun t ty => tyStr t = some ty) ts tys → ts.all plainTy = true
  | _, _, .nil => rfl
  | _, _, .cons r q => by rw [List.all_cons, plain_of r, all_plain q]; rfl
theorem e_isinT (o : XOk G T X S C n Z) {a : E} {ea : Expr} {ts : List Ty} {tys : List String} {l : List Expr} {k : Nat} {p p2 pos : Pos} (h15 : tys.length ≤ 1000) (ht : Paired (fun t ty => tyStr t = some ty) ts tys) (hl : Paired (fun (e : Expr) (ty : String) => ∃ p, e = .Name ty p ∧ Gl X ty) l tys) (hg : Gl X "isinstance") (hs : notStar ea = true) (ha : PE X ea (tE G X.K C Z a)) :
    PE X (.Call (.Name "isinstance" p) [ea, .Tuple l k p2] [] pos) (tE G X.K C Z (.isin a ts)) := by
  refine (pe_callB call_isiT hg (o.g.blt _ (by decide +kernel)) (by decide +kernel) (pa_cons ha (pa_cons (pe_tup (pa_tys o ht hl)) pa_nil rfl) (starEach_of hs _ _)) (by decide +kernel) (by decide +kernel) (starEach_of hs _ _) rfl).to fun σ H Q ⟨d, st, env, s, er, h⟩ => ?_
  unfold evE at h
  refine ⟨d, st, env, s, er, h.bind.imp fun x H1 ⟨d1, st1, w, l1, s1, r1, h1⟩ => ?_⟩
  refine ⟨by rw [List.length_map, sizeLine_eq]; omega, fun tp hp => ?_⟩
  have s2 := s1.plus (o := .tup (tys.map V.ty)) hp
  obtain ⟨tv, f, q1, q2, q3⟩ := is_read (all_plain ht) s2 r1 h1
  exact ⟨x, tp, tys.map V.ty, tv, tys.map Value.type, ts.any f, rfl, upd_same, cls_all tys, q1, kit_any q2 ht, q3 _ s2⟩
end
end Mi
namespace Mi
open PySem PySem.Spec PyProof.Rows L2
/-! ### an exception that is caught, and kept as a value -/
section
variable {X : Cx} {pins : List (Addr × Obj)} {σ : L2.St} {H : Hp} {s : Shared} {a : Addr} {cls : Value} {d : Option Addr}
/-- an object that came after the entry, and that nobody spoke of, is told from now on -/
theorem tell (I : Inv X pins σ H s) {oe : Obj} {vs : Array Value} (ho : s.heap.get? a = some oe) (hz : Zc cls d oe) (hd : oe.data = .fields vs) (na : H a = none) (n0 : X.s_0.heap.get? a = none) (nL : a ≠ X.env.locals) (np : ∀ p ∈ X.pn ++ pins, p.1 ≠ a) : Inv X pins σ (upd H a (ExH cls d a)) s := by
  have other : ∀ {b : Addr} {u : HO}, H b = some u → b ≠ a := fun e => ne_of_none e na
  have older : ∀ {b : Addr} {o : Obj}, X.s_0.heap.get? b = some o → b ≠ a := fun {b o} e z => by rw [z, n0] at e; cases e
  have nocell : ∀ y c, X.env.cells.lookup y = some c → c ≠ a := fun y c e z => by
    obtain ⟨v, o, h1, h2⟩ := I.cell y c e
    rw [z, ho] at h1; cases h1
    rw [hd] at h2; cases h2
  have told : ObjOk X.prog X.w (upd H a (ExH cls d a)) s.heap a (ExH cls d a) := ⟨⟨oe, vs, ho, hz, hd⟩, ⟨oe, ho⟩, fun h1 h2 ⟨o, w, e1, e2⟩ k => ⟨o, w, k o e1, e2⟩⟩
  have base : Un X.fs X.ex X.H_0 (upd H a (ExH cls d a)) X.s_0.heap s.heap := {
    keep := I.base.keep
    slot := I.base.slot
    free := fun b o e n hx => by rw [upd_ne (older e)]; exact I.base.free b o e n hx
    there := I.base.there
    tups := fun b xs e => by
      have := I.base.tups b xs e
      rw [upd_ne (other this)]; exact this
    frzs := fun b o u e => by
      have := I.base.frzs b o u e
      rw [upd_ne (other this)]; exact this
    tbls := fun b ps e => by
      obtain ⟨m, this⟩ := I.base.tbls b ps e
      exact ⟨m, by rw [upd_ne (other this)]; exact this⟩ }
  refine ⟨I.ok, I.os, I.bare, base, I.loc, I.cell, by rw [upd_ne nL.symm]; exact I.free, fun y c e => by rw [upd_ne (nocell y c e)]; exact I.freeC y c e, fun p hp => ?_, fun b u e => ?_, I.len⟩
  · obtain ⟨e1, e2, e3⟩ := I.pin p hp
    exact ⟨e1, by rw [upd_ne (np p hp)]; exact e2, e3⟩
  · by_cases hb : b = a
    · subst hb
      rw [upd_same] at e; cases e
      exact told
    · rw [upd_ne hb] at e
      exact (I.hok b u e).stay (fun _ _ _ q => q) (fun c q => by rw [upd_ne (other q)]; exact q) fun c xs q => by rw [upd_ne (other q)]; exact q
/-- within an except suite, nothing pinned but what was -/
theorem intoSuite (I : Inv X pins σ H s) (a : Addr) : Inv (X.suite a (X.pn ++ pins)) [] σ H s :=
  { ok := I.ok.suite _ _, os := I.os, bare := I.bare, base := I.base, loc := I.loc, cell := I.cell, free := I.free, freeC := I.freeC, pin := fun p hp => I.pin p (by rw [List.append_nil] at hp; exact hp), hok := I.hok, len := I.len }
theorem outOfSuite {a : Addr} (I : Inv (X.suite a (X.pn ++ pins)) [] σ H s) (ok : X.Ok) : Inv X pins σ H s :=
  { ok := ok, os := I.os, bare := I.bare, base := I.base, loc := I.loc, cell := I.cell, free := I.free, freeC := I.freeC, pin := fun p hp => I.pin p (List.mem_append_left _ hp), hok := I.hok, len := I.len }
/-- what is wished of an exception that the body lets out: it is of the class c, and is kept in slot j -/
def wKeep (K : W.Frag) (c : Value) (i j : Nat) (D : Ends) : WX := fun cls d σ H =>
  PySem.W.exmOne K cls c = some true ∧ ∀ a, H a = none → D.nx (((σ.set i (some (.ref a))).set j (some (.ref a))).set i none) (upd H a (ExH cls d a))
end
section
variable {X : Cx} {x n y : Str} {c : Value} {i j : Nat} {body : List Stmt} {np py pn' pa pos pos' : Pos} {tb : WX → TS}
/-- the clause takes it -/
theorem takenBy {pins : List (Addr × Obj)} {σ : L2.St} {H : Hp} {sI s' : Shared} {B : Heap} {a : Addr} {cls : Value} {d : Option Addr} {D : Ends} (hs : X.stack = X.env :: X.outer) (hf : X.env.frame = some X.env.locals) (hex : X.ex = []) (hN : X.N.Nodup) (hi : X.N[i]? = some n) (hln : X.env.kindOf n = some .local)
    (hj : X.N[j]? = some y) (hlj : X.env.scope.names.lookup y = some .local) (hdn : (n == ("__debug__" : Str)) = false) (hcn : (n == ("__classdict__" : Str)) = false) (hc : Names X x c)
    (J : Inv X pins σ H sI) (nb : ∀ b o, sI.heap.get? b = some o → b ∉ frs X.stack → B.get? b = some o) (up : sI.heap.UpToSlots s'.heap) (sky : Sky B (X.env :: X.outer) a (Zc cls d) X.env.locals s'.heap) (na : H a = none) (os : s'.os = sI.os) (ag : AllBare s'.gens)
    (hw : wKeep X.K c i j D cls d σ H) :
    wpAny (model X.prog X.w) X.A (noteFrame (.ref a) X.env) (fun _ s₂ => wpAny (model X.prog X.w) X.A (setFlight (.ref a) none) (fun _ s₃ =>
      wpAny (model X.prog X.w) X.A (handleBy (.ref a) X.env [.ExceptHandler (some (.Name x np)) (some n) [.Assign [.Name y py] (.Name n pn') pa] pos']) (SP X pins D) X.xe s₃) X.xe s₂) X.xe s' := by
  obtain ⟨hcl, hend⟩ := hw
  have ok := J.ok
  refine Sky.land Zc.steady (by rw [ok.frames, hs]) hf sky fun hA flA upA => ?_
  have bare : B.get? a = none := flA.2.1
  obtain ⟨oA, vA, eA, zA, dA⟩ := flA.there
  have outside : a ∉ frs (X.env :: X.outer) := fun hm => by
    obtain ⟨_, o, e, hnf⟩ := flA.2.2.1.mem hm
    rw [eA] at e; cases e
    exact hnf _ dA
  have nL : a ≠ X.env.locals := fun z => outside (List.mem_filterMap.mpr ⟨X.env, List.mem_cons_self, by rw [hf, z]⟩)
  have nI : sI.heap.get? a = none := by
    cases e : sI.heap.get? a with
    | none => rfl
    | some o => rw [nb a o e (by rw [hs]; exact outside)] at bare; cases bare
  have n0 : X.s_0.heap.get? a = none := by
    cases e : X.s_0.heap.get? a with
    | none => rfl
    | some o =>
      obtain ⟨o', q⟩ := J.base.there a o e (by rw [hex]; exact fun z => nomatch z)
      rw [nI] at q; cases q
  have npin : ∀ p ∈ X.pn ++ pins, p.1 ≠ a := fun p hp z => by
    have := (J.pin p hp).1
    rw [z, nI] at this; cases this
  have JA : Inv X pins σ H { s' with heap := hA } := J.landed nb flA.1 (up.trans upA) os ag
  -- the clause's class
  refine wpAny_handleBy_cons (codeAny_handlers_test ?_) (by intro q; cases q)
  have looks := PySem.W.exm_one (M := model X.prog X.w) JA.kIn (show PySem.W.Looks (model X.prog X.w) hA (typeOf (.ref a)) cls from fun A Q E s k q => wpAny_typeOf_ref (k _ _ eA) (by rw [zA.1]; exact q)) hcl
  have JS := intoSuite JA a
  have clause : ∀ {Q E : Value → Shared → Prop}, Q c { s' with heap := hA } → wpAny (model X.prog X.w) (X.A.mark (some (.ref a))) (eval (.Name x np) X.env) Q E { s' with heap := hA } := fun {Q E} q => by
    obtain ⟨g, nd, here⟩ := hc
    rcases here with h1 | ⟨h1, h2, h3⟩
    · exact ld_glob (X := X.suite a (X.pn ++ pins)) JS g h1 q nd
    · exact ld_blt (X := X.suite a (X.pn ++ pins)) JS g h1 h2 q h3 nd
  refine clause (looks.here ?_)
  -- its suite
  refine codeAny_handlers_suite_as (HandSPX.lands_againZ flA fun hB flB upB => ?_)
  obtain ⟨oB, vB, eB, zB, dB⟩ := flB.there
  have JB : Inv X pins σ H { s' with heap := hB } := J.landed nb flB.1 ((up.trans upA).trans upB) os ag
  have JT := tell JB eB zB dB na n0 nL npin
  refine store_ok (v := V.ref a) JT hN hi (.inl hln) rfl (fun sC JC => ?_) (.inr hln)
  have run : PSs (X.suite a (X.pn ++ pins)) [.Assign [.Name y py] (.Name n pn') pa] _ := pss_one (ps_set (X := X.suite a (X.pn ++ pins)) (i := j) hN hj (.inl hlj) (pe_var (i := i) hi (.inl hln) hdn hcn) rfl (.inr hlj))
  have hlen : i < (σ.set i (some (V.ref a))).length := by
    rw [List.length_set, J.len]
    exact (List.getElem?_eq_some_iff.mp hi).1
  refine wpAny_mono (run.run [] sC _ _ { nx := fun σ6 H6 => σ6 = (σ.set i (some (.ref a))).set j (some (.ref a)) ∧ H6 = upd H a (ExH cls d a), rt := fun _ _ => False } (intoSuite JC a) ?_) (fun f sD g => ?_) fun _ _ z => z.elim
  · refine ⟨V.ref a, ?_, rfl, rfl⟩
    rw [List.getElem?_set_self (by simpa using hlen)]
  · cases f with
    | next =>
      obtain ⟨σ6, H6, JD, rfl, rfl⟩ := g
      exact gone_ok (outOfSuite JD ok) hN hi hln fun sE JE => ⟨_, _, JE, hend a na⟩
    | brk => obtain ⟨_, _, _, z⟩ := g; exact z.elim
    | cont => obtain ⟨_, _, _, z⟩ := g; exact z.elim
    | ret u => obtain ⟨_, _, _, _, _, z⟩ := g; exact z.elim
theorem ps_keep (hs : X.stack = X.env :: X.outer) (hf : X.env.frame = some X.env.locals) (hex : X.ex = []) (hN : X.N.Nodup) (hi : X.N[i]? = some n) (hln : X.env.kindOf n = some .local)
    (hj : X.N[j]? = some y) (hlj : X.env.scope.names.lookup y = some .local) (hdn : (n == ("__debug__" : Str)) = false) (hcn : (n == ("__classdict__" : Str)) = false) (hc : Names X x c)
    (hb : ∀ (W : WX) (pn : List (Addr × Obj)) (xe : Value → Shared → Prop), Takes (X.tr pn xe) W → PSs (X.tr pn xe) body (tb W)) :
    PS X (.Try body [.ExceptHandler (some (.Name x np)) (some n) [.Assign [.Name y py] (.Name n pn') pa] pos'] [] [] pos) (fun D σ H => tb (wKeep X.K c i j D) D σ H) := by
  refine ⟨fun pins s σ H D I h => wpAny_Try_except (wpAny_mono ((hb _ (X.pn ++ pins) _ ?_).run [] s σ H D (I.toTry _) h) (fun f s1 g => ?_) fun _ _ z => z)⟩
  · rintro u s' ⟨a, B, sI, pins', σ', H', cls, d, rfl, J', nb, up, sky, na, os, ag, hw⟩
    exact takenBy hs hf hex hN hi hln hj hlj hdn hcn hc (J'.ofTry I.ok) nb up (by rw [← hs]; exact sky) na os ag hw
  · cases f with
    | next =>
      obtain ⟨σ', H', J, q⟩ := g
      exact wpAny_execs_nil ⟨σ', H', J.ofTry I.ok, q⟩
    | brk => obtain ⟨σ', H', J, q⟩ := g; exact ⟨σ', H', J.ofTry I.ok, q⟩
    | cont => obtain ⟨σ', H', J, q⟩ := g; exact ⟨σ', H', J.ofTry I.ok, q⟩
    | ret u => obtain ⟨v, σ', H', J, r, q⟩ := g; exact ⟨v, σ', H', J.ofTry I.ok, r, q⟩
end
end Mi
namespace Mi
open PySem PySem.Spec PyProof.Rows L2
/-! ### _law_caught(lambda: e) -/
abbrev lamArgs : Arguments := ⟨[], [], none, [], [], none, []⟩
section
variable {G : Gd} {T : Nm} {X : Cx} {S : Sc} {C : Ctx} {n : Nat} {Z : WX}
/-- tables may grow, new things may come -/
theorem SR.grown {K : W.Frag} {d : Wd} {H H1 : Hp} {st : Store} (s : SR G K d H st) (e : LamX.ExtN H H1) (t : LamX.Tabs G.T H1) : SR G K d H1 st := by
  refine ⟨fun a o h => e a o (s.sub a o h) fun ps z => (s.nt a ps).1 (by rw [h, z]), fun a o h => ?_, s.len, s.nd, fun a h => ?_, fun k c h => ?_, fun p hp => ?_, s.nt⟩
  · obtain ⟨h1, h2⟩ := s.res a o h
    exact ⟨e a o h1 fun ps z => (s.nt a ps).2 (by rw [h, z]), h2⟩
  · obtain ⟨o, h1, h2⟩ := s.thr a h
    exact ⟨o, e a o h1 h2, h2⟩
  · obtain ⟨a, h1, h2⟩ := s.live k c h
    refine ⟨a, h1, h2.keep Le.rfl (fun hc => ?_) fun hc => h2.nohf hc⟩
    obtain ⟨o, h3, h4⟩ := h2.notbl hc
    rw [h3]; exact e a o h3 h4
  · obtain ⟨_, h2⟩ := s.tab p hp
    exact ⟨t p hp, h2⟩
theorem exH_ne {cls : Value} {dd : Option Addr} {a : Addr} (ps : Array Value) : ExH cls dd a ≠ .tbl ps := fun z => by
  unfold ExH at z; cases z
/-- the lambda's own body, run for the def that got it: f the lambda, cc its code object; Xz the def's context -/
theorem lam_go {Xz : Cx} {scope : Scope} {s0 : Shared} {σ : L2.St} {H0 : Hp} {pins0 : List (Addr × Obj)} {f cc : Addr} {pm ctv : Value} {ea : Expr} {i : Nat} {w : Str} {W : WX} {tb : L2.St → TE} {p1 p2 : Pos}
    (I0 : Inv X pins0 σ H0 s0) (L : LamX.LamS X.env.scope scope) (hf : s0.heap.get? f = some (PySem.W.kla_obj "<lambda>" (X.env.qual ++ "<lambda>") lamArgs ea scope (cloFrom X.env.cells scope.names []) pm cc ctv)) (hfn : H0 f = none) (hfr : f ∉ frs X.stack)
    (zp : Xz.prog = X.prog) (zw : Xz.w = X.w) (zK : Xz.K = X.K) (zmg : Xz.mg = X.mg) (zb : Xz.base = X.base) (zs : Xz.s_0 = s0) (zH : Xz.H_0 = H0) (zo : Xz.outer = X.stack) (zx : Xz.ex = []) (hr : Room (3 * n + 4) Xz.A) (tk : Takes Xz W)
    (hw : Xz.N[i]? = some w) (hv : Vis Xz.env.scope w) (hdw : (w == ("__debug__" : Str)) = false) (hcw : (w == ("__classdict__" : Str)) = false)
    (hbody : ∀ (s : Shared) (H : Hp) (σz : L2.St), PE (LamX.lamCx X Xz.A Xz.stack s H (WE W σz) scope f cc) ea (tb σz)) :
    PE Xz (.Call (.Name w p1) [] [] p2) (fun σz H Q => σz[i]? = some (some (.ref f)) ∧ H cc = some (LamX.CodeO cc (X.env.qual ++ "<lambda>")) ∧ tb σz σ H Q) := by
  obtain ⟨prog, ww, K, mg, base, A, N, s_0, H_0, env, outer, stack, ex, fn, calm, pn, xe⟩ := Xz
  dsimp only at zp zw zK zmg zb zs zH zo zx hr
  subst zp zw zK zmg zb zs zH zo zx
  refine ⟨fun pz sz σz Hz Q Iz ⟨g1, g2, g3⟩ => wpAny_Call_Name_kw (thn ((pe_var (pos := p1) hw hv hdw hcw).run pz sz σz Hz (fun v H1 => v = .ref f ∧ H1 = Hz) Iz ⟨.ref f, g1, rfl, rfl⟩) fun u s1 ⟨v, H1, I1, r1, e1, e2⟩ => ?_)⟩
  subst e1 e2
  cases r1
  have stays : s1.heap.get? f = some (PySem.W.kla_obj "<lambda>" (X.env.qual ++ "<lambda>") lamArgs ea scope (cloFrom X.env.cells scope.names []) pm cc ctv) := I1.base.keep f _ hf hfn hfr fun z => nomatch z
  refine PySem.W.callWith_F0 ⟨_, _, _, _, stays⟩ (wpAny_call (codeAny_mono (?_ : codeAny (model X.prog X.w) A (.call (.ref f) ⟨[], []⟩) (CR (L2.CX X.prog X.w) stack X.prog X.w H1 s1 Q (WE W σz)) s1) fun r s2 h2 => ?_))
  · obtain ⟨⟨oc, vs, tt, k1, k2, k3⟩, _, _⟩ := I1.hok cc _ g2
    refine PySem.W.kla_callFunE hr.depth stays rfl L.co L.gen rfl ⟨cc, oc, vs, tt, rfl, k1, k2, k3⟩ (wpAny_of_eq (a := ([] : List (Str × Value))) rfl ?_)
    refine wpAny_newFunctionEnv (fun y hy => (L.own y hy).2) (fun y hy => nomatch hy) (fun h₁ hns hsb => ⟨I1.nolimit.fresh _ hsb, PySem.W.kla_codeExpr ?_⟩) L.kind
    have keeps : ∀ b o, s1.heap.get? b = some o → h₁.get? b = some o := fun b o q => hsb.extBut b o (Nat.ne_of_lt (Heap.lt_size q)) (Heap.get?_push_of_some _ q)
    have J : Inv (LamX.lamCx X A stack s1 H1 (WE W σz) scope f cc) [] σ H1 { s1 with heap := h₁, toks := s1.toks + ([] : List (Str × Value)).length } := LamX.lam_start2 I0 L I1.env0 hr.hd I1.base hns keeps
    refine wpAny_mono ((hbody s1 H1 σz).run [] _ _ H1 Q J g3) (fun u s3 ⟨v, H3, J3, r3, q3⟩ => ?_) fun _ _ z => z
    exact ⟨v, H3, J3.os, J3.bare, J3.base, J3.hok, r3, q3⟩
  · rcases ends_g tk I1 h2 with ⟨u, rfl, q⟩ | ⟨e, rfl, q⟩
    · exact q
    · exact q
end
end Mi
namespace Mi
open PySem PySem.Spec PyProof.Rows L2
theorem ba2 {a b : Bool} (h : (a && b) = true) : a = true ∧ b = true := (Bool.and_eq_true _ _).mp h
section
variable {G : Gd} {T : Nm} {X : Cx} {S : Sc} {C : Ctx} {n : Nat} {Z : WX}
/-- a lambda's body in the text's own words -/
def lamSc (S : Sc) (scope : Scope) : Sc := ⟨S.N, scope, fun _ => false, false⟩
theorem lam_ok (o : XOk G T X S C n Z) {A : Around} {outer : List PySem.Env} {s : Shared} {H : Hp} {E : XK} {scope : Scope} {f c' : Addr} (hr : Room (3 * n + 4) A) (gd : A.guards = some []) : XOk G T (LamX.lamCx X A outer s H E scope f c') (lamSc S scope) C n (fun cls d _ H => E cls d H) where
  N := o.N
  sc := rfl
  nd := o.nd
  calm := rfl
  tk := takes_of rfl rfl rfl rfl
  rm := hr.deeper _
  la := fun z => nomatch z
  gd := gd
  fn := rfl
  g := o.g
/-- what a caught error tells -/
theorem caught_read {K : W.Frag} {P : Program} {w : World} {mg : Str → Option Value} {base : Heap} {CS : Addr} {d : Wd} {H : Hp} {st : Store} {env : Env} {σ : L2.St} {a : E} {Q : VK} {W : L2.St → Prop} (g : GOk G T P w K mg base n C) (hCS : G.ca 0 = some CS)
    (s : SR G K d H st) (h : Lk G K (RepW G K) Z σ d (evE C (.caught a) env st) Q) :
    Lk G K (RepW G K) (fun cls dd _ H2 => PySem.W.exmOne K cls (.ref CS) = some true ∧ ∀ b, H2 b = none → Q (.ref b) (upd H2 b (ExH cls dd b))) σ d (evE C a env st) fun _ H2 => Q .non H2 := by
  unfold evE at h
  cases q : evE C a env st with
  | stuck => rw [q] at h; exact h.elim
  | ok w st1 =>
    rw [q] at h
    exact fun v H2 d1 l1 s1 r1 => h .non H2 d1 l1 s1 RepD.non
  | exc c fs st1 =>
    rw [q] at h
    intro cls dd H2 d1 l1 s1 re
    obtain ⟨Ca, e1, rfl, rx⟩ := re
    have h : Lk G K (RepW G K) Z σ d (if C.sub c 0 = true then .ok (.d (.exc c fs)) st1 else .stuck) Q := h
    by_cases hb : C.sub c 0 = true
    · rw [if_pos hb] at h
      refine ⟨by rw [(g.sub c 0 Ca CS e1 hCS).1, hb], fun b nb => ?_⟩
      obtain ⟨s2, l2⟩ := s1.newF (o := ExH (.ref Ca) dd b) nb exH_ne
      exact h (.ref b) _ _ (l1.trans l2) s2 (RepD.exc e1 upd_same (rx.mono l2.hf))
    · rw [if_neg hb] at h; exact h.elim
theorem e_caught (o : XOk G T X S C n Z) (hl : S.lam = true) {t : TxD} (ht : T.cau = some t) (hg : Gl X "_law_caught") {a : E} {ea : Expr} {scope : Scope} {p lp pos : Pos} (hL : LamX.lamSB S.sc scope = true)
    (hbody : ∀ (X' : Cx) (Z' : WX), X'.K = X.K → XOk G T X' (lamSc S scope) C n Z' → PE X' ea (tE G X'.K C Z' a)) : PE X (.Call (.Name "_law_caught" p) [.Lambda lamArgs ea scope lp] [] pos) (tE G X.K C Z (.caught a)) := by
  obtain ⟨hcl, hcb, g, dV, kV, doc, pm, cdv, ct, oc, an, od, osl, hmg, hkp, lk, hcd, hdf⟩ := o.g.cau t ht
  obtain ⟨CS, hCS, CF⟩ := o.g.cla 0 _ hcl
  obtain ⟨room, c, P, hcode, TB, hmT, hu⟩ := o.la hl
  have L : LamX.LamS X.env.scope scope := by rw [o.sc]; exact LamX.lamS_by hL
  obtain ⟨as, body, tsc, tN⟩ := t
  unfold cauB at hcb
  dsimp only at hcb lk hdf
  split at hcb
  · rename_i arg h1 q1 q2 q3 q4 wn q5 q6 q7 x q8 e h2 q9 e2 q10 q11 q12 q13 h3 q14 q15
    obtain ⟨hcb, z11⟩ := ba2 hcb
    obtain ⟨hcb, z10⟩ := ba2 hcb
    obtain ⟨hcb, z9⟩ := ba2 hcb
    obtain ⟨hcb, z8⟩ := ba2 hcb
    obtain ⟨hcb, z7⟩ := ba2 hcb
    obtain ⟨hcb, z6⟩ := ba2 hcb
    obtain ⟨hcb, z5⟩ := ba2 hcb
    obtain ⟨hcb, z4⟩ := ba2 hcb
    obtain ⟨hcb, z3⟩ := ba2 hcb
    obtain ⟨z1, z2⟩ := ba2 hcb
    have y1 := of_decide_eq_true z1
    have y2 := of_decide_eq_true z2
    have y3 := of_decide_eq_true z3
    have y4 := of_decide_eq_true z4
    have y5 := of_decide_eq_true z5
    have y7 := of_decide_eq_true z7
    have y8 := of_decide_eq_true z8
    have y9 := of_decide_eq_true z9
    have y10 := of_decide_eq_true z10
    subst y1 y2 y3 y4 y5
    have FS := C8.fnScope_by z6
    simp only [List.all_cons, List.all_nil, Bool.and_true, Bool.and_eq_true, Bool.not_eq_true'] at z11
    obtain ⟨⟨d1, d2⟩, ⟨d3, d4⟩, d5, d6⟩ := z11
    refine ⟨fun pins s σ H Q I ⟨d, st, env, sr, er, h⟩ => ?_⟩
    refine wpAny_Call_Name_kw (ld_glob I hg hmg (PySem.W.callWith_K (h₀ := X.base) I.ok.mod.kin hkp ?_ rfl rfl))
    show wpAny _ _ (spliced ((false, eval (.Lambda lamArgs ea scope lp) X.env) :: backTo pos (starEach [] X.env))) _ _ s
    refine Calls.spliced_cons (LamX.lam_make2 (T := G.T) I TB hcode hmT hu (fun q hq => (sr.tab q hq).1) rfl (L.has I.ok) fun f cc pm' ctv H1 s' I1 eN T1 hf hfn hfr hco => Calls.spliced_nil ⟨I1.kIn, ?_⟩)
    have sr1 := sr.grown eN T1
    refine wpAny_call (codeAny_mono (?_ : codeAny (model X.prog X.w) X.A (.call (.ref g) ⟨[.ref f], []⟩) (CR (L2.CX X.prog X.w) X.stack X.prog X.w H1 s' Q (WE Z σ)) s') fun r s2 hq => ?_)
    · refine LamX.run_ofS (N := [arg.arg, h3, e2]) (ps := [arg.arg]) (us := [.ref f]) (vs := [.ref f]) lk hcd FS room I1.env0 ?_ (.cons rfl .nil) rfl fun hr' => ?_
      · exact binds_of (K := X.K) (as := [arg]) rfl hdf (by simp) s' [.ref f] I1.kIn rfl
      have nd := FS.nd
      refine ⟨_, pss_cons (ps_set (i := 1) nd rfl (.inl y8) pe_non rfl (.inr y8)) (pss_cons (ps_keep (i := 2) (j := 1) (c := .ref CS) (tb := fun W D σz Hz => (σz[0]? = some (some (.ref f)) ∧ Hz cc = some (LamX.CodeO cc (X.env.qual ++ "<lambda>")) ∧ tE G X.K C (fun cls dd _ H2 => W cls dd σz H2) a σ Hz fun _ H2 => D.nx σz H2))
        rfl rfl rfl nd rfl y9 rfl y8 d5 d6 ⟨y10, by decide, .inl CF.mgc⟩ fun W pn xe tk => ?_) (pss_one (ps_ret (pe_var (i := 1) rfl (.inl y8) d3 d4)))), ?_⟩
      · refine PSs.to (pss_one (ps_expr (lam_go (i := 0) (tb := fun σz => tE G X.K C (fun cls dd _ H2 => W cls dd σz H2) a) I1 L hf hfn hfr rfl rfl rfl rfl rfl rfl rfl rfl rfl hr' tk rfl (.inl y7) d1 d2 fun s3 H3 σz => ?_) rfl)) fun D σz Hz q => q
        exact hbody _ _ rfl (lam_ok o hr' o.gd)
      · refine ⟨rfl, hco, d, st, env, sr1, er, ?_⟩
        have key := caught_read (W := fun _ => True) o.g hCS sr1 h
        cases q : evE C a env st with
        | stuck => rw [q] at key; exact key.elim
        | ok w st1 =>
          rw [q] at key
          exact fun v H2 d1 l1 s1 r1 => ⟨.non, rfl, key v H2 d1 l1 s1 r1⟩
        | exc c' fs st1 =>
          rw [q] at key
          intro cls dd H2 d1 l1 s1 re
          obtain ⟨k1, k2⟩ := key cls dd H2 d1 l1 s1 re
          exact ⟨k1, fun b nb => ⟨.ref b, rfl, k2 b nb⟩⟩
    · rcases ends_g o.tk I1 hq with ⟨u, rfl, q⟩ | ⟨e, rfl, q⟩
      · exact q
      · exact q
  · exact absurd hcb Bool.false_ne_true
end
end Mi
namespace Mi
open PySem PySem.Spec PyProof.Rows L2
section
variable {G : Gd} {T : Nm} {X : Cx} {S : Sc} {C : Ctx} {n : Nat} {Z : WX}
/-! ### isinstance of an error that is held -/
theorem call_isx : CallR X (.builtin "isinstance") (fun xs H Q => ∃ (a D Cc : Addr) (dd : Option Addr) (b : Bool), xs = [.ref a, .ref Cc] ∧ L2.ExcC X.K D ∧ H a = some (ExH (.ref D) dd a) ∧ (∀ dx, dd = some dx → ∃ vs, H dx = some (.xd vs)) ∧ PySem.W.kitOne X.K (.ref D) (.ref Cc) = some b ∧ Q (.bl b) H) := by
  intro pins s σ H xs us Q I r ⟨a, D, Cc, dd, b, hx, hD, hH, hdd, hk, hQ⟩
  subst hx
  obtain ⟨u1, u2, rfl, r1, r2⟩ := vals2 r
  cases r1
  cases r2
  obtain ⟨⟨oe, vs, e1, ⟨e2, e3⟩, e4⟩, _, _⟩ := I.hok a _ hH
  obtain ⟨oc, od, oda, osl⟩ := oe
  dsimp only at e2 e3 e4
  subst e2 e3 e4
  cases od with
  | none =>
    have J : PySem.W.InstAt s.heap a ({ cls := .ref D, dict := none, data := .fields vs, slots := osl } : Obj) D none := ⟨e1, rfl, rfl, trivial⟩
    exact PySem.W.kia_one (PySem.W.handS_kitx_exc hD.hg hD.hk hD.hs hD.hd hD.ha hD.hn hD.ht hD.hm) I.kIn J hk (fun z => nomatch z) fun tk => ⟨.bl b, H, I.tok tk, rfl, hQ⟩
  | some dx =>
    obtain ⟨fs, hfs⟩ := hdd dx rfl
    obtain ⟨mA, ⟨o, es, ep, ho, _⟩, _⟩ := I.hok dx _ hfs
    have J : PySem.W.InstAt s.heap a ({ cls := .ref D, dict := some dx, data := .fields vs, slots := osl } : Obj) D (some o) := ⟨e1, rfl, rfl, ho⟩
    exact PySem.W.kia_one (PySem.W.kitx_exc (by obtain ⟨cd, hc, _⟩ := PySem.W.any_some hD.hd; rw [hc]; rfl) hD.hg hD.hk hD.hs hD.ha hD.hn hD.ht hD.hm) I.kIn J hk (fun z => nomatch z) fun tk => ⟨.bl b, H, I.tok tk, rfl, hQ⟩
theorem e_isinE (o : XOk G T X S C n Z) {a : E} {ea : Expr} {c : Nat} {y : Str} {p p2 pos : Pos} (hc : T.cl c = some y) (hg : Gl X "isinstance") (hg2 : Gl X y) (hd2 : (y == ("__debug__" : Str)) = false) (hs : notStar ea = true) (ha : PE X ea (tE G X.K C Z a)) :
    PE X (.Call (.Name "isinstance" p) [ea, .Name y p2] [] pos) (tE G X.K C Z (.isin a [.exc c])) := by
  obtain ⟨Cc, hCc, CF⟩ := o.g.cla c y hc
  refine (pe_callB call_isx hg (o.g.blt _ (by decide +kernel)) (by decide +kernel) (pa_cons ha (pa_cons (C8.pe_gc (v := .ref Cc) hg2 ⟨_, CF.mgc, rfl⟩ hd2) pa_nil rfl) (starEach_of hs _ _)) (by decide +kernel) (by decide +kernel) (starEach_of hs _ _) rfl).to fun σ H Q ⟨d, st, env, s, er, h⟩ => ?_
  unfold evE at h
  refine ⟨d, st, env, s, er, h.bind.imp fun x H1 ⟨d1, st1, w, l1, s1, r1, h1⟩ => ?_⟩
  cases w with
  | ref k =>
    unfold isW at h1
    cases hk : st1[k]? with
    | none => simp only [hk] at h1; exact h1.elim
    | some cl =>
      simp only [hk] at h1
      cases cl with
      | lst ws => exact h1.elim
      | dct kvs => exact h1.elim
      | frz y => cases y <;> exact h1.elim
  | d x' =>
    cases x' with
    | exc c' fs =>
      have r1 : RepD G X.K d1.hf x (.exc c' fs) := r1
      cases r1 with
      | @exc b D _ dd _ g1 g2 g3 =>
        obtain ⟨y', hy'⟩ := o.g.cls c' D g1
        obtain ⟨D', hD', CF'⟩ := o.g.cla c' y' hy'
        rw [g1] at hD'; cases hD'
        refine ⟨b, D, Cc, dd, C.sub c' c, rfl, CF'.is, s1.sub _ _ g2, fun dx hdx => ?_, (o.g.sub c' c D Cc g1 hCc).2, Lk.run h1 s1 (RepD.bl _)⟩
        subst hdx
        cases g3 with
        | some q1 q2 => exact ⟨_, s1.sub _ _ q1⟩
    | fn f => exact h1.elim
    | _ => exact h1.elim
/-! ### raise -/
theorem raise_eq {c : Nat} {m : Str} {env : Env} {st : Store} (hf : C.flds c = []) : evS C (.raise c (.cons (.str m) .nil)) env st = .exc c [] env st := by
  unfold evS evEs evE evEs
  show (fzs [.d (.str m)] st).then env _ = _
  unfold fzs fzL
  rw [fzW_d]
  show RS.exc c ((C.flds c).zip _) env st = _
  rw [hf]; rfl
theorem s_raise (o : XOk G T X S C n Z) {c : Nat} {x m : Str} {j : Nat} {p p2 pos pos' : Pos} (hc : T.cl c = some x) (hp : T.pln c = true) (hg : Gl X x) (hd : (x == ("__debug__" : Str)) = false) :
    PS X (.Raise (some (.Call (.Name x p) [.Constant (.str m) j p2] [] pos)) none pos') (tS G X.K C Z (.raise c (.cons (.str m) .nil))) := by
  obtain ⟨Ca, hCa, CF⟩ := o.g.cla c x hc
  obtain ⟨hf, hq⟩ := o.g.pln c Ca hCa hp
  refine (ps_raise o.calm o.tk (pmk_own PySem.F.excBase_ValueError hq CF.mgc CF.kp (raises_own CF.bx CF.ty) hg hd)).to fun D σ H ⟨d, st, env, s, er, h⟩ => ?_
  rw [raise_eq hf] at h
  exact h _ _ σ H d Le.rfl s er ⟨Ca, hCa, rfl, .none⟩
end
end Mi
namespace Mi
open PySem PySem.Spec PyProof.Rows L2
/-! ### an error's class with fields: def __init__(self, part): super().__init__('..'); self.part = part -/
abbrev rawE (C t : Addr) : Obj := { cls := .ref C, dict := none, data := .fields #[.ref t, .none, .none, .none, .bool false, .none] }
section
variable {prog : Program} {w : World} {A : Around} {E : Value → Shared → Prop} {h : Heap} {g : Array GenState} {d : Drawn} {t : Nat} {os : OsState}
/-- ValueError.__init__, bound to the new error e, called -/
theorem bound_go {nm q : Str} {C N e u t0 : Addr} {bs bm : List Value} {hdct : Bool} {sn : List Str} {sub : List Value} {ab : Bool} {col : Option Bool} {dd : Option Addr} {k0 k1 k2 k3 k5 : Option Value} {rest : List Value} {Q : Value → Shared → Prop}
    (hC : h.get? C = some (excClassObj nm q C N bs bm hdct sn sub ab col dd k0 k1 k2 k3 k5 "ValueError.__new__")) (he : h.get? e = some (rawE C t0)) (hu : h.get? u = some (PySem.W.kxs_mw "ValueError.__init__" e)) (hl : rest.length ≤ sizeLine)
    (hq : ∀ h' t1, (∀ b o, b ≠ e → h.get? b = some o → h'.get? b = some o) → h'.get? e = some (rawE C t1) → Q .none ⟨h', g, d, t, os⟩) :
    wpAny (model prog w) A (call (.ref u) rest) Q E ⟨h, g, d, t, os⟩ := by
  have FB := PySem.F.excBase_ValueError
  refine wpAny_call (codeAny_of_tree ?_)
  show wpAny _ A.in1 (callAny (.ref u) ⟨rest, []⟩) _ _ _
  simp only [callAny]
  refine wpAny_bind (wpAny_load hu ?_)
  have isw : (Value.type "method-wrapper" == Value.type "method" || Value.type "method-wrapper" == Value.type "builtin_function_or_method" || Value.type "method-wrapper" == Value.type "method-wrapper") = true := by decide
  simp only [PySem.W.kxs_mw, isw, if_true]
  refine PySem.W.KFB.if_so (by decide) (wpAny_bind (PySem.W.check_bound_init FB.toExcCallFacts hC he rfl (wpAny_bind (wpAny_pure (wpAny_pure ⟨plainId_quiet FB.init.plain _, codeAny_builtin FB.initEntry ?_⟩)))))
  exact PySem.W.exc_init_tree (cls := .ref C) (t0 := t0) (dv := none) (c2 := .none) (c3 := .none) (b4 := .bool false) he hl fun h' k1 k2 k3 => hq h' _ k1 k2
end
def spIni (Ca : Addr) (fld : Str) : Sp := fun vs H Q _ => ∃ (a : Addr) (y : V), vs = [.ref a, y] ∧ H a = some (exo a Ca none) ∧ ∀ dx, H dx = none → dx ≠ a → Q .non (upd (upd H dx (exd dx [(fld, y)])) a (exo a Ca (some dx)))
section
variable {P : Program} {w : World} {K : W.Frag} {mg : Str → Option Value} {base : Heap} {Ca fI : Addr} {F : NdefX.NF} {sv pv fld : Str} {k : Nat}
theorem ini_ok (f : IniF P K mg Ca fI F sv pv fld) : ∃ fd, FnOk P w K mg base (L2.CX P w) (k + 1) fI fd [sv, pv] (spIni Ca fld) ∧ L2.Binds K fd [sv, pv] [] := by
  obtain ⟨oc, doc, pm, ct, dV, kV, od, an, osl, lk, hdV⟩ := f.lk
  obtain ⟨co, cvs, fl, tf, lkc, dco, hfl, hmf⟩ := f.file
  obtain ⟨cc, cob, hcl, lkcc, dcc⟩ := f.cl
  obtain ⟨a1, a2, hpar, ha1, ha2⟩ := f.par
  obtain ⟨p0, p1, p2, p3, p4, p5, p6, p7, p8, p9, j, msg, hline, hbody⟩ := f.body
  have hbinds : L2.Binds K (PySem.W.fnX F.name F.qual F.params F.body F.scope F.cl dV kV doc pm an (.ref F.c) ct) [sv, pv] [] := by
    have nd := f.sc.nd
    have := binds_of (K := K) (fd := PySem.W.fnX F.name F.qual F.params F.body F.scope F.cl dV kV doc pm an (.ref F.c) ct) (as := [a1, a2]) hpar hdV (by
      simp only [List.map_cons, List.map_nil, ha1, ha2]
      exact (List.nodup_cons.mpr ⟨fun z => (List.nodup_cons.mp nd).1 (by simp at z; simp [z]), by simp⟩))
    simpa only [List.map_cons, List.map_nil, ha1, ha2] using this
  refine ⟨_, ⟨fun vs H Q E ⟨a, y, e, _⟩ => by rw [e]; rfl, fun A outer s H args us vs Q E hr e0 hb r hsp => ?_⟩, hbinds⟩
  obtain ⟨a, y, rfl, hH, hQ⟩ := hsp
  have KX : K.In s.heap := e0.mod.kin.keeps fun b o e => (e0.bs b o e).1
  have lim : s.heap.NoLimit := e0.mod.nolimit.keeps fun b o e => (e0.bs b o e).1
  have untold : ∀ {b : Addr} {o : Obj}, K.lookup b = some o → H b = none := fun e => (e0.bs _ _ (e0.mod.kin _ _ e)).2
  obtain ⟨u1, u2, rfl, r1, r2⟩ := vals2 r
  obtain rfl : u1 = Value.ref a := r1
  refine PySem.ks_codeAny_call_defAt (binds := [sv, pv].zip [Value.ref a, u2]) hr.depth (KX _ _ lk) rfl lim (PySem.W.codeRec_of KX f.code) rfl hb f.sc.nocell (fun z hz => f.sc.par z.1 (List.of_mem_zip hz).1) (fun h0 hns keep => ?_) f.sc.co f.sc.gen f.sc.kind
  show PySem.wpAt (model P w) (A.deeper (NdefX.envF F fI s.heap.objs.size)) (.func F.body (NdefX.envF F fI s.heap.objs.size)) (execs F.body (NdefX.envF F fI s.heap.objs.size)) _ _ _
  have cells : NdefX.CellsAt F.cl ["__class__"] [none] s.heap H := by
    have look : ∀ {z : Str} {c : Addr}, F.cl.lookup z = some c → z = "__class__" ∧ c = cc := fun {z c} e => by
      rw [hcl, List.lookup_cons] at e
      by_cases hz : (z == ("__class__" : Str)) = true
      · rw [hz] at e; cases e; exact ⟨eq_of_beq hz, rfl⟩
      · rw [Bool.not_eq_true] at hz; rw [hz] at e; cases e
    refine ⟨rfl, fun z c e => ?_, fun z z' c e1 e2 => by rw [(look e1).1, (look e2).1], fun i z e => ?_⟩
    · obtain ⟨_, rfl⟩ := look e
      exact ⟨untold lkcc, _, cob, KX _ _ lkcc, dcc⟩
    · cases i with
      | zero =>
        cases e
        exact ⟨cc, by rw [hcl]; rfl, fun v hv => by cases hv⟩
      | succ i => simp at e
  have I0 := NdefX.inv_startN (CX := L2.CX P w) (E := E) (tk := s.toks + ([sv, pv].zip [Value.ref a, u2]).length) (f := fI) f.sc hr.hd e0 rfl r cells hns keep
  obtain ⟨X, hX⟩ : ∃ X, X = NdefX.ncx (L2.CX P w) P w K mg base [sv, pv, "__class__"] F fI A outer s H E := ⟨_, rfl⟩
  obtain ⟨t1, ho⟩ := exo_at e0.hok hH
  -- the heap in which the body begins
  have KX0 : K.In h0 := KX.keeps keep
  have ho0 := keep _ _ ho
  obtain ⟨nm, qn, N, bs, bm, sn, sub, ab, col, dd, k0, k1, k2, k3, k5, lkC, hbm⟩ := f.oex.cls
  have hC0 := KX0 _ _ lkC
  have aC : a ≠ Ca := fun z => by
    have := untold lkC
    rw [← z, hH] at this; cases this
  have KF := PySem.W.kxs_ValueError
  have hcd : PySem.W.clsIn K Ca = some { name := nm, bases := bs, mro := .ref Ca :: bm, ns := N, qualname := qn, hasDict := true, slotNames := sn, subclasses := sub, abstract := ab, collection := col, hasDel := false } := by unfold PySem.W.clsIn; rw [lkC] <;> rfl
  have I0s : Inv (NdefX.ncx (L2.CX P w) P w K mg base [sv, pv, "__class__"] F fI A outer s H E) [] (NdefX.startF [sv, pv, "__class__"] [.ref a, y] [none]) H { s with heap := h0, toks := s.toks + ([sv, pv].zip [Value.ref a, u2]).length } := I0
  rw [hbody]
  refine PySem.ks_wpAt_execs_cons (PySem.ks_wpAt_Expr_any (PySem.ks_wpAt_MethodCall (pl := plainOf (.Call (.Name "super" p0) [] [] p1) (NdefX.envF F fI s.heap.objs.size)) ?_ ?_) I0s.quiet rfl)
  · refine PySem.ks_wpAt_super_base (env := NdefX.envF F fI s.heap.objs.size) (ar := a1) f.ksup (f.sc.frk _ (by simp)) rfl rfl (KX0 _ _ lk) rfl (by rw [show (PySem.W.fnX F.name F.qual F.params F.body F.scope F.cl dV kV doc pm an (.ref F.c) ct).params = F.params from rfl, hpar]; rfl) rfl (KX0 _ _ lkc) dco hfl hmf f.top ?_
    obtain ⟨mb, hnb, hmb⟩ := I0s.mod.blt
    refine PySem.W.ks_loadName_global f.sc.kind f.ksup (Calls.loadGlobal_builtin (env := NdefX.envF F fI s.heap.objs.size) (I0s.mod.glob.keeps I0s.bk) f.msup (hnb.keeps I0s.bk) ((hmb _ (by decide +kernel)).trans (show bootBuiltins "super" = some (.type "super") by first | rfl | kernel_rfl)) ⟨rfl, ?_⟩)
    refine wpAny_loadName_free f.sc.kind (f.sc.frk _ (by simp)) (show F.cl.lookup _ = some cc by rw [hcl]; rfl) ⟨cob, KX0 _ _ lkcc, dcc⟩ ?_
    refine wpAny_loadName_local f.sc.kind (by rw [ha1]; exact f.sc.par _ (by simp)) hns (v := .ref a) (by
      rw [ha1]
      have hne : (sv == pv) = false := beq_eq_false_iff_ne.mpr fun z => (List.nodup_cons.mp f.sc.nd).1 (by rw [z]; simp)
      show List.lookup sv [(pv, u2), (sv, Value.ref a)] = _
      rw [List.lookup_cons, hne, List.lookup_cons, beq_self_eq_true]) ?_
    refine PySem.ks_wpAny_isType_cls hC0 rfl ⟨rfl, ?_⟩
    refine PySem.ks_wpAny_call_super hC0 rfl ho0 rfl (fun c e => by cases e) (PySem.W.looks_mroIn KX0 f.mro) fun h1 e1 keep1 => ?_
    have KX1 := KX0.keeps keep1
    have J : PySem.W.InstAt h1 a (rawE Ca t1) Ca none := ⟨keep1 _ _ ho0, rfl, rfl, trivial⟩
    have hm := f.sup
    unfold PySem.W.ks_superIn at hm
    rw [hcd] at hm
    refine PySem.W.kxs_getMethod KF e1 (PySem.W.looks_opaque KX1 f.opq) (l₀ := .ref Ca :: bm) (fun A Q E s k q => wpAny_bind ((PySem.W.looks_clsIn KX1 hcd) A _ E s k (wpAny_pure q))) rfl KX1 hm (J.type.andThen (PySem.W.looks_subIn KX1 f.isV)) aC (by decide) ?_
    obtain ⟨u, hu⟩ : ∃ u, u = h1.objs.size := ⟨_, rfl⟩
    have keep2 : ∀ b o, h1.get? b = some o → (h1.push (PySem.W.kxs_mw "ValueError.__init__" a)).get? b = some o := fun b o e => Heap.get?_push_of_some _ e
    have atU : (h1.push (PySem.W.kxs_mw "ValueError.__init__" a)).get? h1.objs.size = some (PySem.W.kxs_mw "ValueError.__init__" a) := Heap.get?_push_at rfl rfl
    refine PySem.W.kxs_callWith (i := "ValueError.__init__") (x := a) rfl (Calls.evalArgs_plain ?_)
    show wpAny _ _ (spliced ((false, eval (.Constant (.str msg) j p3) (NdefX.envF F fI s.heap.objs.size)) :: backTo p4 (starEach [] (NdefX.envF F fI s.heap.objs.size)))) _ _ _
    refine Calls.spliced_cons (Calls.Constant_str (Calls.spliced_nil ⟨atU, ?_⟩))
    refine bound_go (KX1.keeps keep2 _ _ lkC) (keep2 _ _ (keep1 _ _ ho0)) atU (by rw [sizeLine_eq]; simp) fun h3 t3 keep3 e3 => ?_
    have all : ∀ b o, b ≠ a → h0.get? b = some o → h3.get? b = some o := fun b o hb e => keep3 b o hb (keep2 _ _ (keep1 _ _ e))
    have I3 := I0s.write (h' := h3) (t' := s.toks + ([sv, pv].zip [Value.ref a, u2]).length) (x := a) (e := a) (o := exo a Ca none) (by rw [hH]; trivial) (.inl rfl) all ⟨_, e3⟩ (exo_ok e3)
    have same : upd H a (exo a Ca none) = H := by
      funext b
      by_cases hb : b = a
      · rw [hb, upd_same, hH]
      · rw [upd_ne hb]
    rw [same] at I3
    refine wpAt_of_wpAny ?_
    have ps := ps_ost (X := NdefX.ncx (L2.CX P w) P w K mg base [sv, pv, "__class__"] F fI A outer s H E) (f := fld) (p' := p7) (pos := p9) (pe_var (i := 0) (x := sv) (pos := p6) rfl (.inl (f.sc.par _ (by simp))) f.dsv.1 f.dsv.2) (pe_var (i := 1) (x := pv) (pos := p8) rfl (.inl (f.sc.par _ (by simp))) f.dpv.1 f.dpv.2) rfl
    refine wpAny_mono ((pss_one ps).run [] _ _ H { nx := fun _ H' => Q .non H', rt := Q } (I3.tok _) ?_) (fun fl s' hs => ?_) fun e s' hs => hs
    · exact ⟨y, rfl, .ref a, rfl, a, Ca, rfl, f.oex, f.nofld, .inl ⟨hH, fun dx n ne => hQ dx n ne⟩⟩
    · cases fl with
      | next =>
        obtain ⟨σ', H', J, q⟩ := hs
        exact ⟨.non, H', J.os, J.bare, J.base, J.hok, rfl, q⟩
      | ret u =>
        obtain ⟨v, σ', H', J, rv, q⟩ := hs
        exact ⟨v, H', J.os, J.bare, J.base, J.hok, rv, q⟩
      | brk => obtain ⟨_, _, _, q⟩ := hs; exact q.elim
      | cont => obtain ⟨_, _, _, q⟩ := hs; exact q.elim
  · show (attributeBase _ _ _ _ >>= fun ov => standAt p2.atName >>= fun _ => methodCall _ _ _ _ _ _ _ _ _) = _
    refine congrArg (Bind.bind _) (funext fun ov => congrArg (Bind.bind _) (funext fun _ => ?_))
    exact mcall_line rfl hline
end
end Mi
namespace Mi
open PySem PySem.Spec PyProof.Rows L2
section
variable {G : Gd} {T : Nm} {X : Cx} {S : Sc} {C : Ctx} {n : Nat} {Z : WX}
/-- the fields of an error, as they are told and as they stand -/
theorem fs_look {K : W.Frag} {hf : Hp} : ∀ {fs : List (Str × D)} {vs : List (Str × V)} {f : Str} {x : D}, RepFs G K hf vs fs → fs.lookup f = some x → ∃ v, vs.lookup f = some v ∧ RepD G K hf v x
  | [], vs, f, x, r, h => by cases h
  | (g, y) :: fs, _, f, x, .cons r q, h => by
    rw [List.lookup_cons] at h
    cases e : (f == g) with
    | true =>
      rw [e] at h; cases h
      exact ⟨_, by rw [List.lookup_cons, e], r⟩
    | false =>
      rw [e] at h
      obtain ⟨v, h1, h2⟩ := fs_look q h
      exact ⟨v, by rw [List.lookup_cons, e]; exact h1, h2⟩
theorem e_fld (o : XOk G T X S C n Z) {a : E} {ea : Expr} {f : Str} {pos : Pos} (hf : f ∈ T.fl) (hb : plainBase ea = true) (ha : PE X ea (tE G X.K C Z a)) : PE X (.Attribute ea f pos) (tE G X.K C Z (.fld a f)) := by
  refine ⟨fun pins s σ H Q I ⟨d, st, env, sr, er, h⟩ => attr_of (base_of hb _ _ _) (thn (ha.run pins s σ H (fun v H1 => ∃ d1 st1 w, Le d d1 ∧ SR G X.K d1 H1 st1 ∧ RepW G X.K d1 v w ∧ Lk G X.K (RepW G X.K) Z σ d1 (fldW f w st1) Q) I ⟨d, st, env, sr, er, ?_⟩) fun u s1 hu => ?_)⟩
  · unfold evE at h
    exact h.bind
  · obtain ⟨v, H1, I1, ru, d1, st1, w, l1, s1', r1, h1⟩ := hu
    cases w with
    | ref k => exact h1.elim
    | d y =>
      cases y with
      | exc c fs =>
        have r1 : RepD G X.K d1.hf v (.exc c fs) := r1
        unfold fldW at h1
        cases q : fs.lookup f with
        | none => simp only [q] at h1; exact h1.elim
        | some x =>
          simp only [q] at h1
          cases r1 with
          | @exc b Ca _ dd _ g1 g2 g3 =>
            obtain ⟨x', hx'⟩ := o.g.cls c Ca g1
            obtain ⟨Ca', hCa', CF⟩ := o.g.cla c x' hx'
            rw [g1] at hCa'; cases hCa'
            cases g3 with
            | none => cases q
            | @some dx _ vs k1 k2 =>
              obtain ⟨v', e1, e2⟩ := fs_look k2 q
              cases ru
              obtain ⟨⟨oe, ws, o1, ⟨o2, o3⟩, o4⟩, _, _⟩ := I1.hok b _ (s1'.sub _ _ g2)
              obtain ⟨mA, hns, hr⟩ := I1.hok dx _ (s1'.sub _ _ k1)
              obtain ⟨od, ho, hl⟩ := lookIn_ns hns
              obtain ⟨u', hu', ru'⟩ := RelO.some_of (v := v') (o := mA f) (by rw [← e1]; exact hr f)
              have J : PySem.W.InstAt _ b oe Ca (some od) := ⟨o1, o2, by unfold PySem.W.notCls; rw [o4] <;> rfl, by rw [o3]; exact ho⟩
              exact HandSPX.exc_get I1.kIn J CF.is.hg CF.is.hk CF.is.hs (PySem.W.findObj_own CF.is.hd (o.g.nof c Ca f g1 hf) rfl (by rw [hl, hu'])) (handed_of ru') ⟨v', H1, I1.tok _, ru', Lk.run h1 s1' e2⟩
      | _ => exact h1.elim
theorem s_raiseI (o : XOk G T X S C n Z) {c : Nat} {x fld : Str} {a : E} {ea : Expr} {p pos pos' : Pos} (hc : T.cl c = some x) (hi : T.ini c = some fld) (hg : Gl X x) (hd : (x == ("__debug__" : Str)) = false) (hs : notStar ea = true) (ha : PE X ea (tE G X.K C Z a)) :
    PS X (.Raise (some (.Call (.Name x p) [ea] [] pos)) none pos') (tS G X.K C Z (.raise c (.cons a .nil))) := by
  obtain ⟨Ca, hCa, CF⟩ := o.g.cla c x hc
  obtain ⟨hfl, fI, F, sv, pv, FI⟩ := o.g.ini c Ca fld hCa hi
  obtain ⟨fd, FO, hbd⟩ := ini_ok (P := X.prog) (w := X.w) (base := X.base) (k := 0) FI
  refine (ps_raise o.calm o.tk (pmk_oex (k := 1) (ds := []) (dvs := []) FI.oex FI.find FI.fty FO (o.rm.mono (by omega)) hbd .nil (fun _ _ _ _ _ _ _ ⟨_, _, _, _, _, _, _, _, _, _, _, _, z⟩ => z.elim) hg CF.mgc (a_cons hs ha a_nil) hd (starEach_of hs _ _) rfl)).to fun D σ H ⟨d, st, env, s, er, h⟩ => ?_
  unfold evS at h
  have one : ∀ ws st', evEs C (.cons a .nil) env st = .ok ws st' → ws.length = 1 := fun ws st' e => by
    unfold evEs evEs at e
    cases q : evE C a env st with
    | stuck => rw [q] at e; cases e
    | exc c fs s => rw [q] at e; cases e
    | ok w s => rw [q] at e; cases e; rfl
  refine ⟨d, st, env, s, er, lk_len one ((LkS.then er h).imp fun vs H1 ⟨d1, st1, ws, l1, s1, r1, h1⟩ hv => ?_)⟩
  have hw : ws.length = 1 := by rw [← r1.len, hv]
  -- the value, frozen
  unfold fzs at h1
  cases q : fzL (fzW st1.length) ws st1 with
  | none => rw [q] at h1; exact h1.elim
  | some y =>
    obtain ⟨ds, st2⟩ := y
    rw [q] at h1
    have h1 : LkS G X.K Z d1 (.exc c ((C.flds c).zip ds) env st2) D := h1
    obtain ⟨d2, l2, s2, g2, _⟩ := fzs_ok _ ws vs d1 st1 st2 ds s1 r1 q
    match vs, ds, hv, g2 with
    | [v], [x'], _, .cons rx .nil =>
      rw [hfl] at h1
      refine ⟨by simp, fun b hb => ⟨b, v, rfl, upd_same, fun dx hn hne => ?_⟩⟩
      have hdx : H1 dx = none := by rw [upd_ne hne] at hn; exact hn
      refine ⟨rfl, dx, [(fld, v)], upd_same, by rw [upd_ne hne, upd_same], hdx, ?_⟩
      have same : upd (L2.del (upd (upd (upd H1 b (exo b Ca none)) dx (exd dx [(fld, v)])) b (exo b Ca (some dx))) b) dx (.xd [(fld, v)]) = upd H1 dx (.xd [(fld, v)]) := by
        funext z
        by_cases hz : z = dx
        · rw [hz, upd_same, upd_same]
        · rw [upd_ne hz, upd_ne hz]
          by_cases hzb : z = b
          · rw [hzb, del_same, hb]
          · rw [del_ne hzb, upd_ne hzb, upd_ne hz, upd_ne hzb]
      rw [same]
      obtain ⟨s3, l3⟩ := s2.newF (o := .xd [(fld, v)]) hdx
      exact h1 _ _ σ _ _ (l2.trans l3) s3 (er.mono (l1.trans (l2.trans l3))) ⟨Ca, hCa, rfl, .some upd_same (.cons (rx.mono l3.hf) .nil)⟩
end
end Mi
namespace Mi
open PySem PySem.Spec PyProof.Rows L2
section
variable {G : Gd} {T : Nm} {X : Cx} {S : Sc} {C : Ctx} {n : Nat} {Z : WX}
/-! ### list(x) of a list or a tuple -/
theorem e_list_ (o : XOk G T X S C n Z) {cell : Bool} {a : E} {ea : Expr} {p pos : Pos} (hg : Gl X "list") (hs : notStar ea = true) (ha : PE X ea (tE G X.K C Z a)) : PE X (.Call (.Name "list" p) [ea] [] pos) (tE G X.K C Z (.lstOf cell a)) := by
  refine (pe_callTy call_list_of hg (o.g.blt _ (by decide +kernel)) (by decide +kernel) (pa_cons ha pa_nil (starEach_of hs _ _)) (by decide +kernel) (by decide +kernel) (starEach_of hs _ _) rfl).to fun σ H Q ⟨d, st, env, s, er, h⟩ => ?_
  unfold evE at h
  refine ⟨d, st, env, s, er, h.bind.imp fun x H1 ⟨d1, st1, w, l1, s1, r1, h1⟩ => ?_⟩
  cases e : itemsW w st1 with
  | none => rw [e] at h1; exact h1.elim
  | some us =>
    rw [e] at h1
    obtain ⟨b, vs, rfl, r2, q⟩ := items_sq s1 r1 e
    have k := mkLst_ok s1 r2 h1
    exact ⟨b, vs, rfl, q.symm, k.2⟩
end
end Mi
namespace Mi
open PySem PySem.Spec PyProof.Rows L2
/-! ### list + list, list * number of any plain lists -/
section
variable {X : Cx}
def rCatL (K : W.Frag) : R2 := fun x y H Q => ∃ a b xs ys, x = .ref a ∧ y = .ref b ∧ SqL K H a xs ∧ SqL K H b ys ∧ xs.length + ys.length ≤ sizeLine ∧ ∀ p, H p = none → Q (.ref p) (upd H p (.lst (xs ++ ys)))
theorem op_catL : OpR X (binaryOp .Add) (rCatL X.K) := by
  intro pins s σ H x y v u Q I rx ry ⟨a, b, xs, ys, ea, eb, ha, hb, hz, q⟩
  subst ea eb
  cases rx
  cases ry
  obtain ⟨us, r1, ⟨⟨k1, d1, t1, sl1⟩, n1, o1, e1, e2, e3⟩, _⟩ := I.list ha
  obtain ⟨vs, r2, ⟨⟨k2, d2, t2, sl2⟩, n2, o2, g1, g2, g3⟩, _⟩ := I.list hb
  simp only at e1 e2 e3 g1 g2 g3
  subst e1 e2 e3 g1 g2 g3
  have hs : us.toArray.size + vs.toArray.size ≤ sizeLine := by
    rw [List.size_toArray, List.size_toArray, ← r1.length, ← r2.length]; exact hz
  refine concat_meets ⟨_, o1, rfl⟩ ⟨_, o2, rfl⟩ noFill_list_add seq_list_add PySem.F.slot_list_add PySem.F.entry_list_add (PySem.F.args_list_add_2 _ _) (list_addW a b us.toArray vs.toArray n1 n2 none none sl1 sl2 hs) ⟨o1, o2, ?_⟩
  rw [show us.toArray ++ vs.toArray = (us ++ vs).toArray by simp]
  exact ⟨.ref _, _, I.lnew (t' := s.toks) (r1.append r2) (by rw [List.length_append]; exact hz), rfl, q _ I.fresh⟩
def rRepL (K : W.Frag) : R2 := fun x y H Q => ∃ a k xs, x = .ref a ∧ y = .int k ∧ SqL K H a xs ∧ -(2 ^ 63) ≤ k ∧ k < 2 ^ 63 ∧ (List.replicate k.toNat xs).flatten.length ≤ sizeLine ∧ ∀ p, H p = none → Q (.ref p) (upd H p (.lst (List.replicate k.toNat xs).flatten))
theorem op_repL : OpR X (binaryOp .Mult) (rRepL X.K) := by
  intro pins s σ H x y v u Q I rx ry ⟨a, k, xs, ea, eb, ha, lo, hi, hz, q⟩
  subst ea eb
  cases rx
  obtain ⟨t, rfl⟩ := ry
  obtain ⟨us, r1, ⟨⟨k1, d1, t1, sl1⟩, n1, o1, e1, e2, e3⟩, _⟩ := I.list ha
  simp only at e1 e2 e3
  subst e1 e2 e3
  have sz : us.toArray.size * k.toNat ≤ 2 ^ 24 := by
    rw [List.size_toArray, ← r1.length, Nat.mul_comm, ← lm_len_rep_flat]; exact hz
  refine wpAny_binaryOp_repeat_ref (T := "list") (U := "int") (by decide) ⟨_, o1, rfl⟩ (fun z => typeIs_int z k t) noFill_list_mul PySem.F.fills_int_mul PySem.F.slot_int_rmul repeat_list PySem.F.slot_int_index.lookup
    (call_meets PySem.F.slot_int_rmul (typeIs_int s k t) PySem.F.entry_int_rmul (PySem.F.args_int_rmul_2 _ _) (lm_int_rmul_list_any k t a us.toArray n1 none sl1) ⟨o1, rfl, ⟨_, o1, rfl⟩, ?_⟩)
  refine call_meets PySem.F.slot_list_mul ⟨_, o1, rfl⟩ PySem.F.entry_list_mul (PySem.F.args_list_mul_2 _ _)
    (lm_list_mul_any a us.toArray n1 none sl1 k t (by simp [Builtin.List.listFitsIndex]; omega) (by omega) (by simp [Builtin.List.listTooLong, sizeLine]; simpa using sz)) ⟨o1, ?_⟩
  rw [listMul_foldl_if]
  exact ⟨.ref _, _, I.lnew (t' := s.toks) (r1.rep k.toNat) hz, rfl, q _ I.fresh⟩
end
section
variable {G : Gd} {T : Nm} {X : Cx} {S : Sc} {C : Ctx} {n : Nat} {Z : WX}
theorem mkLst_calm (cell : Bool) (ws : List W) (st : Store) : Calm (mkLst cell ws st) := by
  unfold mkLst
  split
  · split
    · trivial
    · have := fzs_calm ws st
      cases h : fzs ws st with
      | ok a s => trivial
      | exc c fs s => rw [h] at this; exact this.elim
      | stuck => trivial
  · trivial
theorem catW_calm (cell : Bool) (a b : W) (st : Store) : Calm (catW cell a b st) := by
  unfold catW
  split
  · exact mkLst_calm _ _ _
  · split
    · split <;> trivial
    · trivial
theorem repW_calm (cell : Bool) (a b : W) (st : Store) : Calm (repW cell a b st) := by
  unfold repW
  split
  · split
    · exact mkLst_calm _ _ _
    · trivial
  · trivial
theorem op_catAny (cell : Bool) : OpR X (binaryOp .Add) (r2 G X.K (catW cell)) := by
  intro pins s σ H x y v u Q I rx ry ⟨d, st, a, b, sr, ra, rb, h⟩
  unfold catW at h
  split at h
  · rename_i xs ys e1 e2
    obtain ⟨p, vs, rfl, r1, q1⟩ := lst_sq sr ra e1
    obtain ⟨p2, us, rfl, r2, q2⟩ := lst_sq sr rb e2
    obtain ⟨k1, k2⟩ := mkLst_ok sr (r1.app r2) h
    exact op_catL pins s σ H _ _ v u Q I rx ry ⟨p, p2, vs, us, rfl, rfl, q1, q2, by rw [← List.length_append]; exact k1, k2⟩
  · split at h
    rotate_left
    · exact h.elim
    rename_i xs ys hn
    by_cases hs : small (xs.length + ys.length) = true
    rotate_left
    · rw [if_neg hs] at h; exact h.elim
    rw [if_pos hs] at h
    have ra : RepD G X.K d.hf x (.tup xs) := ra
    have rb : RepD G X.K d.hf y (.tup ys) := rb
    cases ra with
    | @tup a1 vs _ h1 h2 => cases rb with
      | @tup a2 us _ g1 g2 =>
        have b1 : vs.length = xs.length := h2.len
        have b2 : us.length = ys.length := g2.len
        have both : RepDs G X.K d.hf (vs ++ us) (xs ++ ys) := RepDs.of_paired (paired_app h2.paired g2.paired)
        refine op_catA pins s σ H _ _ v u Q I rx ry ⟨a1, a2, vs, us, rfl, rfl, sr.sub.st h1, sr.sub.st g1, by rw [b1, b2]; exact small_line hs, fun z => ?_, fun z z2 => ?_, fun z z2 p hp => ?_⟩
        · subst z
          cases xs with
          | nil => exact Lk.run h sr (RepD.tup g1 g2)
          | cons _ _ => simp at b1
        · subst z2
          cases ys with
          | nil => rw [List.append_nil] at h; exact Lk.run h sr (RepD.tup h1 h2)
          | cons _ _ => simp at b2
        · obtain ⟨s2, l2⟩ := sr.newF (o := .tup (vs ++ us)) hp
          exact h _ _ _ l2 s2 (RepD.tup (SqT.of upd_same) (both.mono l2.hf))
theorem RepWs.rep {K : W.Frag} {d : Wd} {vs : List V} {us : List W} (h : RepWs G K d vs us) : ∀ k : Nat, RepWs G K d (List.replicate k vs).flatten (List.replicate k us).flatten
  | 0 => .nil
  | k + 1 => by
    rw [List.replicate_succ, List.replicate_succ, List.flatten_cons, List.flatten_cons]
    exact h.app (RepWs.rep h k)
theorem op_repAny (cell : Bool) : OpR X (binaryOp .Mult) (r2 G X.K (repW cell)) := by
  intro pins s σ H x y v u Q I rx ry ⟨d, st, a, b, sr, ra, rb, h⟩
  unfold repW at h
  split at h
  rotate_left
  · exact h.elim
  rename_i xs k e1
  by_cases hk : repOk k = true
  rotate_left
  · rw [if_neg hk] at h; exact h.elim
  rw [if_pos hk] at h
  obtain ⟨k1, k2⟩ := of_decide_eq_true (p := -1000000 ≤ k ∧ k ≤ 1000000) hk
  obtain ⟨p, vs, rfl, r1, q1⟩ := lst_sq sr ra e1
  obtain ⟨m1, m2⟩ := mkLst_ok sr (r1.rep k.toNat) h
  have := repD_int rb
  subst this
  exact op_repL pins s σ H _ _ v u Q I rx ry ⟨p, k, vs, rfl, rfl, q1, by omega, by omega, m1, m2⟩
theorem e_cat {cell : Bool} {a b : E} {ea eb : Expr} {pos : Pos} (ha : PE X ea (tE G X.K C Z a)) (hb : PE X eb (tE G X.K C Z b)) : PE X (.BinOp ea .Add eb pos) (tE G X.K C Z (.cat cell a b)) :=
  (pe_op (op_catAny cell) ha hb).to fun σ H Q ⟨d, st, env, s, er, h⟩ => two (catW_calm cell) s er (by unfold evE at h; exact h)
theorem e_rep {cell : Bool} {a b : E} {ea eb : Expr} {pos : Pos} (ha : PE X ea (tE G X.K C Z a)) (hb : PE X eb (tE G X.K C Z b)) : PE X (.BinOp ea .Mult eb pos) (tE G X.K C Z (.rep cell a b)) :=
  (pe_op (op_repAny cell) ha hb).to fun σ H Q ⟨d, st, env, s, er, h⟩ => two (repW_calm cell) s er (by unfold evE at h; exact h)
/-! ### t[i:j] of a tuple -/
theorem cutAt_eq (n dflt : Nat) (o : Option Int) : cutAt n dflt o = HT.sIx n dflt o := by cases o <;> rfl
theorem paired_drop {α β : Type} {F : α → β → Prop} : ∀ {xs : List α} {ys : List β} (i : Nat), Paired F xs ys → Paired F (xs.drop i) (ys.drop i)
  | _, _, 0, h => h
  | _, _, i + 1, .nil => .nil
  | _, _, i + 1, .cons a h => paired_drop i h
theorem paired_take {α β : Type} {F : α → β → Prop} : ∀ {xs : List α} {ys : List β} (i : Nat), Paired F xs ys → Paired F (xs.take i) (ys.take i)
  | _, _, 0, _ => .nil
  | _, _, i + 1, .nil => .nil
  | _, _, i + 1, .cons a h => .cons a (paired_take i h)
def partV (no : Bool) (v : V) : Option (Option Int) := if no then some none else match v with
  | .int i => some (some i)
  | _ => none
def tPo (G : Gd) (K : W.Frag) (C : Ctx) (Z : WX) (i : E) : TO := fun σ H Q => ∃ d st env, SR G K d H st ∧ EnvR G K d σ env ∧ Lk G K (RepW G K) Z σ d (evE C i env st) fun v H1 => ∃ o, partV i.isNon v = some o ∧ Q o H1
theorem _root_.L2.PO.to {e : Option Expr} {t t' : TO} (h : PO X e t) (k : ∀ σ H Q, t' σ H Q → t σ H Q) : PO X e t' := ⟨fun pins s σ H Q I q => h.run pins s σ H Q I (k σ H Q q)⟩
theorem po_no {i : E} (h : i.isNon = true) : PO X none (tPo G X.K C Z i) := po_none.to fun σ H Q ⟨d, st, env, s, er, q⟩ => by
  cases i <;> first | (exact absurd h Bool.false_ne_true) | skip
  unfold evE at q
  obtain ⟨o, e, q⟩ := Lk.run q s (RepD.non)
  cases e
  exact q
theorem po_so {i : E} {e : Expr} (h : i.isNon = false) (he : PE X e (tE G X.K C Z i)) : PO X (some e) (tPo G X.K C Z i) := (po_some he).to fun σ H Q ⟨d, st, env, s, er, q⟩ => by
  refine ⟨d, st, env, s, er, q.imp fun v H1 ⟨o, e1, q⟩ => ?_⟩
  unfold partV at e1
  rw [h, if_neg Bool.false_ne_true] at e1
  split at e1
  · cases e1; exact ⟨_, rfl, q⟩
  · cases e1
theorem part_rep {K : W.Frag} {d : Wd} {no : Bool} {v : V} {w : W} {o : Option Int} (r : RepW G K d v w) (e : partW no w = some o) : partV no v = some o := by
  unfold partW at e
  unfold partV
  cases no with
  | true => exact e
  | false =>
    rw [if_neg Bool.false_ne_true] at e ⊢
    split at e
    · cases e; rw [repD_int r]
    · cases e
theorem e_slc {a i j : E} {ea : Expr} {lo hi : Option Expr} {p2 pos : Pos} (ha : PE X ea (tE G X.K C Z a)) (hl : PO X lo (tPo G X.K C Z i)) (hh : PO X hi (tPo G X.K C Z j)) : PE X (.Subscript ea (.Slice lo hi none p2) pos) (tE G X.K C Z (.slc a i j)) :=
  (pe_slice sl_tupA ha hl hh).to fun σ H Q ⟨d, st, env, s, er, h⟩ => by
    unfold evE at h
    refine ⟨d, st, env, s, er, h.bind.imp fun x H1 ⟨d1, st1, wa, l1, s1, ra, h1⟩ => ⟨d1, st1, env, s1, er.mono l1, h1.bind.imp fun y H2 ⟨d2, st2, wb, l2, s2, rb, h2⟩ => ?_⟩⟩
    cases e1 : partW i.isNon wb with
    | none => rw [e1] at h2; exact h2.elim
    | some p =>
      simp only [e1] at h2
      refine ⟨p, part_rep rb e1, d2, st2, env, s2, (er.mono l1).mono l2, h2.bind.imp fun z H3 ⟨d3, st3, wc, l3, s3, rc, h3⟩ => ?_⟩
      cases e2 : partW j.isNon wc with
      | none => rw [e2] at h3; exact h3.elim
      | some q =>
        simp only [e2] at h3
        refine ⟨q, part_rep rc e2, ?_⟩
        have ra := (ra.mono l2).mono l3
        cases wa with
        | ref k => exact h3.elim
        | d xx => cases xx with
          | tup l =>
            have h3 : Lk G X.K (RepW G X.K) Z σ d3 (.ok (.d (.tup (cutD l p q))) st3) Q := h3
            have ra : RepD G X.K d3.hf x (.tup l) := ra
            cases ra with
            | @tup a1 vs _ g1 g2 =>
              have len : vs.length = l.length := g2.len
              have cut : RepDs G X.K d3.hf (cutV vs p q) (cutD l p q) := by
                unfold cutV cutD
                rw [cutAt_eq, cutAt_eq, ← len]
                exact RepDs.of_paired (paired_take _ (paired_drop _ g2.paired))
              refine ⟨a1, vs, rfl, s3.sub.st g1, fun ⟨z1, z2⟩ => ?_, fun _ p' hp => ?_⟩
              · have same : cutD l p q = l := by
                  unfold cutD
                  rw [cutAt_eq, cutAt_eq, ← len, z1, z2]
                  simp [len]
                rw [same] at h3
                exact Lk.run h3 s3 (RepD.tup g1 g2)
              · obtain ⟨s4, l4⟩ := s3.newF (o := .tup (cutV vs p q)) hp
                exact h3 _ _ _ l4 s4 (RepD.tup (SqT.of upd_same) (cut.mono l4.hf))
          | _ => exact h3.elim
/-! ### zip to one name -/
theorem i_zipN (o : XOk G T X S C n Z) {ea eb : Expr} {a b : E} {x : Str} {tpos p pos : Pos} (hg : Gl X "zip") (hs : noStars [ea, eb] = true) (ha : PE X ea (tE G X.K C Z a)) (hb : PE X eb (tE G X.K C Z b)) : PI X (.Name x tpos) (.Call (.Name "zip" p) [ea, eb] [] pos) (iI G X.K C Z (.zipL a b)) := by
  obtain ⟨hs1, hs2⟩ := (Bool.and_eq_true _ _).mp hs
  obtain ⟨hs3, _⟩ := (Bool.and_eq_true _ _).mp hs2
  exact (pi_zipN hg (o.g.blt _ (by decide +kernel)) (pa_cons ha (pa_cons hb pa_nil (starEach_of hs3 _ _)) (starEach_of hs1 _ _)) (starEach_of hs1 _ _) (noStars_any hs2)).to fun σ H R ⟨d, st, env, s, er, h⟩ => by
    unfold evI at h
    have key : Lk G X.K (RepW G X.K) Z σ d (evE C a env st) fun x H1 => tE G X.K C Z b σ H1 fun y H2 => ∃ a b xs ys, x = .ref a ∧ y = .ref b ∧ SqL X.K H2 a xs ∧ SqL X.K H2 b ys ∧ R (Itz X.K a b) H2 :=
      h.bind.imp fun x H1 ⟨d1, st1, w, l1, s1, r1, h1⟩ => ⟨d1, st1, env, s1, er.mono l1, h1.bind.imp fun y H2 ⟨d2, st2, w2, l2, s2, r2, h2⟩ => by
        by_cases hk : sqK w st2 = some true ∧ sqK w2 st2 = some true
        · rw [if_pos hk] at h2
          have r1 := r1.mono l2
          rcases sqW_cases (w := w) (st := st2) with e | ⟨q, e⟩
          · rw [e] at h2; exact h2.elim
          · rcases sqW_cases (w := w2) (st := st2) with e2 | ⟨q2, e2⟩
            · rw [e] at h2; simp only [Res.bind, e2] at h2; exact h2.elim
            · rw [e] at h2; simp only [Res.bind, e2] at h2
              obtain ⟨_, a1, isL, vs, rfl, k1, hq, ok⟩ := sq_of s2 r1 e
              obtain ⟨_, a2, isL2, us, rfl, k2, hq2, ok2⟩ := sq_of s2 r2 e2
              rw [k1, k2] at hk
              obtain ⟨z1, z2⟩ := hk
              cases z1
              cases z2
              exact ⟨a1, a2, vs, us, rfl, rfl, hq, hq2, Lk.run h2 s2 (walks_zl ok ok2)⟩
        · rw [if_neg hk] at h2; exact h2.elim⟩
    refine ⟨d, st, env, s, er, key.imp fun x H1 ⟨d1, st1, env1, s1, er1, h1⟩ => ⟨d1, st1, env1, s1, er1, h1.imp fun y H2 ⟨a, b, xs, ys, e1, e2, q⟩ => ?_⟩⟩
    subst e1 e2
    exact ⟨a, b, xs, ys, rfl, q⟩
end
end Mi
namespace Mi
open PySem PySem.Spec PyProof.Rows L2
/-! ### the checker: does my text say what the row's text says -/
def kindIs (S : Sc) (x : Str) (ks : List NameKind) : Bool := match S.sc.names.lookup x with
  | some k => ks.contains k
  | none => false
def visB (S : Sc) (x : Str) : Bool := kindIs S x [.local, .cell, .free]
def locB (S : Sc) (x : Str) : Bool := kindIs S x [.local, .cell]
def lclB (S : Sc) (x : Str) : Bool := kindIs S x [.local]
def glB (S : Sc) (x : Str) : Bool := kindIs S x [.globalImplicit]
def okN (x : Str) : Bool := !(x == ("__debug__" : Str)) && !(x == ("__classdict__" : Str))
def slotB (S : Sc) (i : Nat) (x : Str) : Bool := decide (S.N[i]? = some x)
def opB : Op → Operator → Bool
  | .add, .Add => true | .sub, .Sub => true | .mul, .Mult => true | .fdiv, .FloorDiv => true | .mod, .Mod => true | .pow, .Pow => true | _, _ => false
def cmpB : Cmp → CmpOp → Bool
  | .lt, .Lt => true | .le, .LtE => true | .gt, .Gt => true | .ge, .GtE => true | .eq, .Eq => true | .ne, .NotEq => true | .is_, .Is => true | .isnot, .IsNot => true | _, _ => false
def bopB : Bool → BoolOp → Bool
  | true, .And => true | false, .Or => true | _, _ => false
def plainIxB : Expr → Bool
  | .Slice _ _ none _ => false
  | _ => true
def isSetE : Expr → Bool
  | .Set _ _ _ => true
  | _ => false
def fnB (S : Sc) (x : Str) : Bool := S.fn x || lclB S x
/-- the names of classes in a tuple -/
def tysB (S : Sc) : List Ty → List Expr → Bool
  | [], [] => true
  | t :: ts, .Name x _ :: es => (match tyStr t with | some ty => decide (x = Str.ofString ty) | none => false) && glB S x && tysB S ts es
  | _, _ => false
mutual
def Es.flat : Es → Bool
  | .nil => true
  | .cons _ es => es.flat
  | .star _ _ => false
end
def Es.len : Es → Nat
  | .nil => 0
  | .cons _ es => es.len + 1
  | .star _ es => es.len
mutual
def chkTg (S : Sc) : Tg → Expr → Bool
  | .v i, .Name x _ => slotB S i x && locB S x && fnB S x
  | .t l, .Tuple es _ _ => noStarsT es && decide (es.length = l.length) && chkTgs S l es
  | _, _ => false
def chkTgs (S : Sc) : List Tg → List Expr → Bool
  | [], [] => true
  | t :: ts, e :: es => notStarT e && chkTg S t e && chkTgs S ts es
  | _, _ => false
end
def noArgs : Arguments → Bool
  | ⟨[], [], none, [], [], none, []⟩ => true
  | _ => false
theorem noArgs_of {a : Arguments} (h : noArgs a = true) : a = lamArgs := by
  unfold noArgs at h
  split at h
  · rfl
  · exact absurd h Bool.false_ne_true
def ownOf (S : Sc) (tg : Tg) : List (Str × Nat) := (tgVars tg).filterMap fun i => (S.N[i]?).map fun x => (x, i)
def blkS (S : Sc) (scope : Scope) : Sc := ⟨S.N, relS scope S.sc, fun x => scope.names.lookup x == some .cell, false⟩
mutual
def chkE (T : Nm) (S : Sc) (t : Bool) : E → Expr → Bool
  | .stuck, _ => true
  | .var i, .Name x _ => slotB S i x && visB S x && okN x
  | .non, .Constant .none _ _ => !t
  | .bl b, .Constant (.bool b') _ _ => decide (b = b')
  | .int i, .Constant (.int j) _ _ => !t && decide (i = j)
  | .str s, .Constant (.str s') _ _ => !t && decide (s = s')
  | .fnv f, .Name x _ => !t && decide (T.fn f = some x) && glB S x && okN x
  | .op o a b, .BinOp l op r _ => !t && opB o op && chkE T S false a l && chkE T S false b r
  | .neg a, .UnaryOp .USub x _ => !t && chkE T S false a x
  | .cmp c a b, .Compare l [op] [r] _ => cmpB c op && chkE T S false a l && chkE T S false b r
  | .chain c c' a b e, .Compare l [op, op'] [m, r] _ => cmpB c op && cmpB c' op' && chkE T S false a l && chkE T S false b m && chkE T S false e r
  | .bool k es, .BoolOp op l _ => bopB k op && chkB T S t es l
  | .not a, .UnaryOp .Not x _ => chkE T S t a x
  | .ite c a b, .IfExp x y z _ => !t && chkE T S true c x && chkE T S false a y && chkE T S false b z
  | .tup es, .Tuple l _ _ => !t && chkEs T S es l
  | .lst _ es, .List l _ => !t && chkEs T S es l
  | .dct ks es, .Dict keys vals _ => !t && decide (0 < ks.length) && decide (ks.length ≤ 15) && chkD T S ks es keys vals
  | .idx a i, .Subscript x y _ => plainIxB y && chkE T S false a x && chkE T S false i y
  | .call f es, .Call (.Name x _) l [] _ => decide (T.fn f = some x) && glB S x && okN x && noStars l && chkEs T S es l
  | .callk f es ks p, .Call (.Name x _) l kws _ => decide (T.fn f = some x) && glB S x && okN x && noStars l && es.flat && ks.flat && (match kwNames kws with
      | some names => kwFit (T.par f) l.length names && decide (p = permOf (T.par f) l.length names)
      | none => false) && chkEs T S es l && chkK T S ks kws
  | .callv i es, .Call (.Name x _) (e :: l) [] _ => !t && slotB S i x && visB S x && okN x && noStars (e :: l) && chkEs T S es (e :: l)
  | .blt b es, .Call (.Name x _) (e :: l) [] _ => (match bltN b with
      | some id => decide (x = Str.ofString id)
      | none => (decide (b = .int) && decide (x = Str.ofString "int") || decide (b = .tuple) && decide (x = Str.ofString "tuple"))) && glB S x && noStars (e :: l) && chkEs T S es (e :: l)
  | .isin a ts, .Call (.Name x _) [e, y] [] _ => decide (x = Str.ofString "isinstance") && glB S x && notStar e && (match y with
      | .Name z _ => (match ts with
        | [.exc c] => decide (T.cl c = some z) && glB S z && okN z
        | [ty] => tysB S [ty] [y]
        | _ => false)
      | .Tuple l _ _ => decide (ts.length ≤ 1000) && tysB S ts l
      | _ => false) && chkE T S false a e
  | .caught a, .Call (.Name x _) [.Lambda args body scope _] [] _ => !t && S.lam && decide (x = Str.ofString "_law_caught") && T.cau.isSome && glB S x && noArgs args && (LamX.lamSB S.sc scope && chkE T (lamSc S scope) false a body)
  | .lstOf _ a, .Call (.Name x _) [e] [] _ => !t && decide (x = Str.ofString "list") && glB S x && notStar e && chkE T S false a e
  | .cat _ a b, .BinOp l .Add r _ => !t && chkE T S false a l && chkE T S false b r
  | .rep _ a b, .BinOp l .Mult r _ => !t && chkE T S false a l && chkE T S false b r
  | .slc a i j, .Subscript x (.Slice lo hi none _) _ => !t && chkE T S false a x && (match lo with
      | none => i.isNon
      | some e => !i.isNon && chkE T S false i e) && (match hi with
      | none => j.isNon
      | some e => !j.isNon && chkE T S false j e)
  | .fld a f, .Attribute x y _ => !t && decide (f = y) && T.fl.contains f && plainBase x && chkE T S false a x
  | .comp _ elt tg it cond, .ListComp e [⟨et, ei, ifs, as⟩] scope _ => !t && decide (as = 0) && blkC S.N S.sc scope (ownOf S tg) && decide ((ownOf S tg).map (·.2) = tgVars tg) && !isSetE ei && chkI T S it et ei && chkTg (blkS S scope) tg et && chkC T (blkS S scope) cond ifs && chkE T (blkS S scope) false elt e
  | .popm a i, .Call (.Attribute o m ap) [e] [] cp => !t && decide (m = Str.ofString "pop") && plainBase o && (ap.endLine == cp.line) && notStar e && chkE T S false a o && chkE T S false i e
  | _, _ => false
/-- the parts of an and, an or -/
def chkB (T : Nm) (S : Sc) (t : Bool) : Es → List Expr → Bool
  | .cons e es, x :: l => chkE T S t e x && (match es with
    | .nil => (match l with | [] => true | _ => false)
    | .star _ _ => false
    | .cons _ _ => chkB T S t es l)
  | _, _ => false
def chkC (T : Nm) (S : Sc) : Es → List Expr → Bool
  | .nil, [] => true
  | .cons e es, [x] => chkE T S true e x && (match es with | .nil => true | _ => false)
  | _, _ => false
def chkEs (T : Nm) (S : Sc) : Es → List Expr → Bool
  | .nil, [] => true
  | .star e es, .Starred x _ :: l => chkE T S false e x && chkEs T S es l
  | .cons e es, x :: l => notStar x && chkE T S false e x && chkEs T S es l
  | _, _ => false
def chkK (T : Nm) (S : Sc) : Es → List Keyword → Bool
  | .nil, [] => true
  | .cons e es, ⟨_, x, _⟩ :: l => chkE T S false e x && chkK T S es l
  | _, _ => false
def chkD (T : Nm) (S : Sc) : List Key → Es → List (Option Expr) → List Expr → Bool
  | [], .nil, [], [] => true
  | k :: ks, .cons e es, some ek :: keys, v :: vals => decide (keyE ek = some k) && chkE T S false e v && chkD T S ks es keys vals
  | _, _, _, _ => false
def chkI (T : Nm) (S : Sc) : It → Expr → Expr → Bool
  | .seq a, _, e => chkE T S false a e
  | .rng es, _, .Call (.Name x _) l [] _ => decide (x = Str.ofString "range") && glB S x && es.flat && noStars l && (decide (l.length = 1) || decide (l.length = 2)) && chkEs T S es l
  | .zip a b, .Tuple _ _ _, .Call (.Name x _) [e, e2] [] _ => decide (x = Str.ofString "zip") && glB S x && noStars [e, e2] && chkE T S false a e && chkE T S false b e2
  | .zipL a b, .Name _ _, .Call (.Name x _) [e, e2] [] _ => decide (x = Str.ofString "zip") && glB S x && noStars [e, e2] && chkE T S false a e && chkE T S false b e2
  | .enum a, .Tuple _ _ _, .Call (.Name x _) [e] [] _ => decide (x = Str.ofString "enumerate") && glB S x && notStar e && chkE T S false a e
  | _, _, _ => false
end
end Mi
namespace Mi
open PySem PySem.Spec PyProof.Rows L2
section
variable {G : Gd} {T : Nm} {X : Cx} {S : Sc} {C : Ctx} {n : Nat} {Z : WX}
theorem kind_of {x : Str} {ks : List NameKind} (h : kindIs S x ks = true) : ∃ k ∈ ks, S.sc.names.lookup x = some k := by
  unfold kindIs at h
  cases q : S.sc.names.lookup x with
  | none => rw [q] at h; cases h
  | some k => rw [q] at h; exact ⟨k, by simpa using h, rfl⟩
theorem vis_of (o : XOk G T X S C n Z) {x : Str} (h : visB S x = true) : Vis X.env.scope x := by
  obtain ⟨k, hk, e⟩ := kind_of h
  rw [o.sc]
  simp only [List.mem_cons, List.not_mem_nil, or_false] at hk
  rcases hk with rfl | rfl | rfl
  · exact .inl e
  · exact .inr (.inl e)
  · exact .inr (.inr e)
theorem loc_of (o : XOk G T X S C n Z) {x : Str} (h : locB S x = true) : Loc X.env.scope x := by
  obtain ⟨k, hk, e⟩ := kind_of h
  rw [o.sc]
  simp only [List.mem_cons, List.not_mem_nil, or_false] at hk
  rcases hk with rfl | rfl
  · exact .inl e
  · exact .inr e
theorem lcl_of (o : XOk G T X S C n Z) {x : Str} (h : lclB S x = true) : X.env.scope.names.lookup x = some .local := by
  obtain ⟨k, hk, e⟩ := kind_of h
  rw [o.sc]
  simp only [List.mem_cons, List.not_mem_nil, or_false] at hk
  rw [← hk]; exact e
theorem gl_of (o : XOk G T X S C n Z) {x : Str} (h : glB S x = true) : Gl X x := by
  obtain ⟨k, hk, e⟩ := kind_of h
  simp only [List.mem_cons, List.not_mem_nil, or_false] at hk
  show X.env.scope.names.lookup x = some .globalImplicit
  rw [o.sc, ← hk]; exact e
theorem fn_ofB (o : XOk G T X S C n Z) {x : Str} (h : fnB S x = true) : X.fn x = true ∨ X.env.scope.names.lookup x = some .local := by
  unfold fnB at h
  rcases (Bool.or_eq_true _ _).mp h with q | q
  · exact .inl (by rw [o.fn]; exact q)
  · exact .inr (lcl_of o q)
theorem okN_of {x : Str} (h : okN x = true) : (x == ("__debug__" : Str)) = false ∧ (x == ("__classdict__" : Str)) = false := by
  unfold okN at h
  simp only [Bool.and_eq_true, Bool.not_eq_true'] at h
  exact h
theorem slot_of (o : XOk G T X S C n Z) {i : Nat} {x : Str} (h : slotB S i x = true) : X.N[i]? = some x := by rw [o.N]; exact of_decide_eq_true h
theorem opB_of {o : Op} {p : Operator} (h : opB o p = true) : p = opOf o := by cases o <;> cases p <;> first | rfl | (exact absurd h Bool.false_ne_true)
theorem cmpB_of {o : Cmp} {p : CmpOp} (h : cmpB o p = true) : p = cmpOf o ∧ o ≠ .in_ ∧ o ≠ .notin := by cases o <;> cases p <;> first | (exact absurd h Bool.false_ne_true) | exact ⟨rfl, by decide, by decide⟩
theorem bopB_of {k : Bool} {p : BoolOp} (h : bopB k p = true) : p = bopOf k := by cases k <;> cases p <;> first | rfl | (exact absurd h Bool.false_ne_true)
/-! ### targets -/
mutual
theorem sndTg (o : XOk G T X S C n Z) : ∀ (t : Tg) (e : Expr), chkTg S t e = true → PG X e (gW G X.K t) ∧ PG X e (gI G X.K t)
  | .v i, e, h => by
    cases e with
    | Name x p =>
      obtain ⟨h1, h3⟩ := ba2 h
      obtain ⟨h1, h2⟩ := ba2 h1
      have := g_name (pos := p) (G := G) o.nd (slot_of o h1) (loc_of o h2) (fn_ofB o h3)
      exact ⟨this, g_nameI this⟩
    | _ => exact absurd h Bool.false_ne_true
  | .t l, e, h => by
    cases e with
    | Tuple es k p =>
      obtain ⟨h1, h3⟩ := ba2 h
      obtain ⟨h1, h2⟩ := ba2 h1
      have := sndTgs o l es h3
      exact ⟨g_tupW o.calm h1 (of_decide_eq_true h2) this, g_tupI o.calm h1 (of_decide_eq_true h2) this⟩
    | _ => exact absurd h Bool.false_ne_true
theorem sndTgs (o : XOk G T X S C n Z) : ∀ (ts : List Tg) (es : List Expr), chkTgs S ts es = true → PGs X es (gWs G X.K ts)
  | [], es, h => by
    cases es with
    | nil => exact gs_nil
    | cons e es => exact absurd h Bool.false_ne_true
  | t :: ts, es, h => by
    cases es with
    | nil => exact absurd h Bool.false_ne_true
    | cons e es =>
      obtain ⟨h1, h3⟩ := ba2 h
      obtain ⟨h1, h2⟩ := ba2 h1
      exact gs_cons h1 (sndTg o t e h2).1 (sndTgs o ts es h3)
end
/-! ### how many values come -/
theorem flat_len : ∀ (es : Es) (env : Env) (st : Store) (ws : List W) (st' : Store), es.flat = true → evEs C es env st = .ok ws st' → ws.length = es.len
  | .nil, env, st, ws, st', _, h => by unfold evEs at h; cases h; rfl
  | .star _ _, env, st, ws, st', h, _ => by cases h
  | .cons e es, env, st, ws, st', hf, h => by
    have h : ((evE C e env st).bind fun w st1 => (evEs C es env st1).bind fun ws st2 => .ok (w :: ws) st2) = .ok ws st' := h
    cases e1 : evE C e env st with
    | stuck => rw [e1] at h; cases h
    | exc c fs s => rw [e1] at h; cases h
    | ok w s1 =>
      rw [e1] at h
      have h : ((evEs C es env s1).bind fun ws st2 => .ok (w :: ws) st2) = .ok ws st' := h
      cases e2 : evEs C es env s1 with
      | stuck => rw [e2] at h; cases h
      | exc c fs s => rw [e2] at h; cases h
      | ok us s2 =>
        rw [e2] at h
        have hl := flat_len es env s1 us s2 hf e2
        have h : Res.ok (w :: us) s2 = Res.ok ws st' := h
        injection h with hA hB
        rw [← hA, List.length_cons, hl]; rfl
theorem chk_len : ∀ (es : Es) (l : List Expr), es.flat = true → chkEs T S es l = true → es.len = l.length
  | .nil, [], _, _ => rfl
  | .nil, _ :: _, _, h => absurd h Bool.false_ne_true
  | .star _ _, _, h, _ => absurd h Bool.false_ne_true
  | .cons e es, [], _, h => absurd h Bool.false_ne_true
  | .cons e es, x :: l, hf, h => by
    have h : (notStar x && chkE T S false e x && chkEs T S es l) = true := by
      cases x <;> exact h
    simp [Es.len, chk_len es l hf (ba2 h).2]
theorem chk_nil {es : Es} (h : chkEs T S es [] = true) : es = .nil := by
  cases es with
  | nil => rfl
  | cons e es => exact absurd h Bool.false_ne_true
  | star e es => exact absurd h Bool.false_ne_true
theorem chk_lenK : ∀ (es : Es) (l : List Keyword), chkK T S es l = true → es.flat = true ∧ es.len = l.length
  | .nil, [], _ => ⟨rfl, rfl⟩
  | .nil, _ :: _, h => absurd h Bool.false_ne_true
  | .star _ _, [], h => absurd h Bool.false_ne_true
  | .star _ _, _ :: _, h => absurd h Bool.false_ne_true
  | .cons e es, [], h => absurd h Bool.false_ne_true
  | .cons e es, ⟨_, x, _⟩ :: l, h => by
    have h : (chkE T S false e x && chkK T S es l) = true := h
    obtain ⟨q1, q2⟩ := chk_lenK es l (ba2 h).2
    exact ⟨q1, by simp [Es.len, q2]⟩
theorem tys_of (o : XOk G T X S C n Z) : ∀ {ts : List Ty} {l : List Expr}, tysB S ts l = true → ∃ tys, Paired (fun t ty => tyStr t = some ty) ts tys ∧ Paired (fun (e : Expr) (ty : String) => ∃ p, e = .Name ty p ∧ Gl X ty) l tys
  | [], [], _ => ⟨[], .nil, .nil⟩
  | [], _ :: _, h => absurd h Bool.false_ne_true
  | t :: ts, [], h => absurd h Bool.false_ne_true
  | t :: ts, e :: l, h => by
    cases e with
    | Name x p =>
      obtain ⟨h1, h3⟩ := ba2 h
      obtain ⟨h1, h2⟩ := ba2 h1
      cases q : tyStr t with
      | none => rw [q] at h1; exact absurd h1 Bool.false_ne_true
      | some ty =>
        rw [q] at h1
        have e : x = Str.ofString ty := of_decide_eq_true h1
        subst e
        obtain ⟨tys, g1, g2⟩ := tys_of o h3
        exact ⟨ty :: tys, .cons q g1, .cons ⟨p, rfl, gl_of o h2⟩ g2⟩
    | _ => exact absurd h Bool.false_ne_true
theorem set_of {e : Expr} (h : isSetE e = false) (env : PySem.Env) : ∀ x, foldedSetIterable e env x = pure x := by
  intro x
  cases e <;> first | rfl | (exact absurd h.symm Bool.false_ne_true)
/-- inside a comprehension -/
theorem blk_ok (o : XOk G T X S C n Z) {scope : Scope} (s : Shared) (H : Hp) (c : Addr) (cl : List (Str × Addr)) (fp : List Addr) : XOk G T (X.blk s H scope (compEnvC scope cl c X.env) fp) (blkS S scope) C n (fun _ _ _ _ => False) where
  N := o.N
  sc := by show relS scope X.env.scope = relS scope S.sc; rw [o.sc]
  nd := o.nd
  calm := o.calm
  tk := LamX.takes0
  rm := o.rm
  la := fun z => nomatch z
  gd := o.gd
  fn := rfl
  g := o.g
def Snd (G : Gd) (C : Ctx) (t : Bool) (X : Cx) (Z : WX) (e : E) (ee : Expr) : Prop := match t with
  | true => PT X ee (tT G X.K C Z e)
  | false => PE X ee (tE G X.K C Z e)
def SndB (G : Gd) (C : Ctx) (t : Bool) (X : Cx) (Z : WX) (k : Bool) (es : Es) (l : List Expr) : Prop := ∀ pos, match t with
  | true => PW X (.BoolOp (bopOf k) l pos) (tTs G X.K C Z k es)
  | false => PE X (.BoolOp (bopOf k) l pos) (tB' G X.K C Z k es)
/-- a plain expression, as a value or as a test -/
theorem both {t : Bool} {e : E} {ee : Expr} (hp : plainT ee = true) (he : PE X ee (tE G X.K C Z e)) (hv : ∀ env st, evT C e env st = (evE C e env st).bind truW) : Snd G C t X Z e ee := by
  cases t with
  | false => exact he
  | true => exact t_of hp he hv
theorem val {t : Bool} {e : E} {ee : Expr} (ht : (!t) = true) (he : PE X ee (tE G X.K C Z e)) : Snd G C t X Z e ee := by
  cases t with
  | false => exact he
  | true => cases ht
theorem never {t : Bool} {ee : Expr} : Snd G C t X Z .stuck ee := by
  cases t with
  | false => exact ⟨fun pins s σ H Q I ⟨d, st, env, sr, er, h⟩ => h.elim⟩
  | true => exact ⟨fun pins s σ H Q I ⟨d, st, env, sr, er, h⟩ => h.elim⟩
mutual
theorem sndE : ∀ (e : E) (ee : Expr) (t : Bool) (X : Cx) (S : Sc) (Z : WX), XOk G T X S C n Z → chkE T S t e ee = true → Snd G C t X Z e ee
  | .stuck, ee, t, X, S, Z, o, h => never
  | .var i, ee, t, X, S, Z, o, h => by
    cases ee with
    | Name x p =>
      obtain ⟨h1, h3⟩ := ba2 h
      obtain ⟨h1, h2⟩ := ba2 h1
      obtain ⟨q1, q2⟩ := okN_of h3
      exact both rfl (e_var (slot_of o h1) (vis_of o h2) q1 q2) tv_var
    | _ => exact absurd h Bool.false_ne_true
  | .non, ee, t, X, S, Z, o, h => by
    cases ee with
    | Constant c k p => cases c with
      | none => exact val h e_non
      | _ => exact absurd h Bool.false_ne_true
    | _ => exact absurd h Bool.false_ne_true
  | .bl b, ee, t, X, S, Z, o, h => by
    cases ee with
    | Constant c k p => cases c with
      | bool b' =>
        have e : b = b' := of_decide_eq_true h
        subst e
        exact both rfl e_bl tv_bl
      | _ => exact absurd h Bool.false_ne_true
    | _ => exact absurd h Bool.false_ne_true
  | .int i, ee, t, X, S, Z, o, h => by
    cases ee with
    | Constant c k p => cases c with
      | int j =>
        obtain ⟨h1, h2⟩ := ba2 h
        have e : i = j := of_decide_eq_true h2
        subst e
        exact val h1 e_int
      | _ => exact absurd h Bool.false_ne_true
    | _ => exact absurd h Bool.false_ne_true
  | .str i, ee, t, X, S, Z, o, h => by
    cases ee with
    | Constant c k p => cases c with
      | str j =>
        obtain ⟨h1, h2⟩ := ba2 h
        have e : i = j := of_decide_eq_true h2
        subst e
        exact val h1 e_str
      | _ => exact absurd h Bool.false_ne_true
    | _ => exact absurd h Bool.false_ne_true
  | .fnv f, ee, t, X, S, Z, o, h => by
    cases ee with
    | Name x p =>
      obtain ⟨h1, h4⟩ := ba2 h
      obtain ⟨h1, h3⟩ := ba2 h1
      obtain ⟨h1, h2⟩ := ba2 h1
      exact val h1 (e_fnv o (of_decide_eq_true h2) (gl_of o h3) (okN_of h4).1)
    | _ => exact absurd h Bool.false_ne_true
  | .op c a b, ee, t, X, S, Z, o, h => by
    cases ee with
    | BinOp l p r pos =>
      obtain ⟨h1, h4⟩ := ba2 h
      obtain ⟨h1, h3⟩ := ba2 h1
      obtain ⟨h0, h2⟩ := ba2 h1
      have e := opB_of h2
      subst e
      exact val h0 (e_op (sndE a l false X S Z o h3) (sndE b r false X S Z o h4))
    | _ => exact absurd h Bool.false_ne_true
  | .neg a, ee, t, X, S, Z, o, h => by
    cases ee with
    | UnaryOp p x pos => cases p with
      | USub =>
        obtain ⟨h1, h2⟩ := ba2 h
        exact val h1 (e_neg (sndE a x false X S Z o h2))
      | _ => exact absurd h Bool.false_ne_true
    | _ => exact absurd h Bool.false_ne_true
  | .cmp c a b, ee, t, X, S, Z, o, h => by
    cases ee with
    | Compare l ops rs pos =>
      rcases ops with _ | ⟨p, _ | ⟨p2, ops⟩⟩
      · exact absurd h Bool.false_ne_true
      · rcases rs with _ | ⟨r, _ | ⟨r2, rs⟩⟩
        · exact absurd h Bool.false_ne_true
        · have h : (cmpB c p && chkE T S false a l && chkE T S false b r) = true := h
          obtain ⟨h1, h3⟩ := ba2 h
          obtain ⟨h1, h2⟩ := ba2 h1
          obtain ⟨e, q1, q2⟩ := cmpB_of h1
          subst e
          have ha := sndE a l false X S Z o h2
          have hb := sndE b r false X S Z o h3
          cases t with
          | false => exact e_cmp o q1 q2 ha hb
          | true => exact t_cmp o q1 q2 ha hb
        · exact absurd h Bool.false_ne_true
      · exact absurd (show false = true by
          rcases rs with _ | ⟨r, _ | ⟨r2, rs⟩⟩ <;> rcases ops with _ | ⟨p3, ops⟩ <;> first | exact h | (cases rs <;> exact h)) Bool.false_ne_true
    | _ => exact absurd h Bool.false_ne_true
  | .chain c c' a b d, ee, t, X, S, Z, o, h => by
    cases ee with
    | Compare l ops rs pos =>
      rcases ops with _ | ⟨p, _ | ⟨p2, _ | ⟨p3, ops⟩⟩⟩
      · exact absurd h Bool.false_ne_true
      · exact absurd h Bool.false_ne_true
      · rcases rs with _ | ⟨r, _ | ⟨r2, _ | ⟨r3, rs⟩⟩⟩
        · exact absurd h Bool.false_ne_true
        · exact absurd h Bool.false_ne_true
        · have h : (cmpB c p && cmpB c' p2 && chkE T S false a l && chkE T S false b r && chkE T S false d r2) = true := h
          obtain ⟨h1, h5⟩ := ba2 h
          obtain ⟨h1, h4⟩ := ba2 h1
          obtain ⟨h1, h3⟩ := ba2 h1
          obtain ⟨h1, h2⟩ := ba2 h1
          obtain ⟨e, q1, q2⟩ := cmpB_of h1
          obtain ⟨e', q3, q4⟩ := cmpB_of h2
          subst e e'
          have ha := sndE a l false X S Z o h3
          have hb := sndE b r false X S Z o h4
          have hd := sndE d r2 false X S Z o h5
          cases t with
          | false => exact e_chain o q1 q2 q3 q4 ha hb hd
          | true => exact t_chain o q1 q2 q3 q4 ha hb hd
        · exact absurd h Bool.false_ne_true
      · exact absurd h Bool.false_ne_true
    | _ => exact absurd h Bool.false_ne_true
  | .bool k es, ee, t, X, S, Z, o, h => by
    cases ee with
    | BoolOp p l pos =>
      obtain ⟨h1, h2⟩ := ba2 h
      have e := bopB_of h1
      subst e
      have := sndB es l t k X S Z o h2 pos
      cases t with
      | false => exact e_bool this
      | true => exact t_bool this
    | _ => exact absurd h Bool.false_ne_true
  | .not a, ee, t, X, S, Z, o, h => by
    cases ee with
    | UnaryOp p x pos => cases p with
      | Not =>
        have := sndE a x t X S Z o h
        cases t with
        | false => exact e_not this
        | true => exact t_not this
      | _ => exact absurd h Bool.false_ne_true
    | _ => exact absurd h Bool.false_ne_true
  | .ite c a b, ee, t, X, S, Z, o, h => by
    cases ee with
    | IfExp x y z pos =>
      obtain ⟨h1, h4⟩ := ba2 h
      obtain ⟨h1, h3⟩ := ba2 h1
      obtain ⟨h1, h2⟩ := ba2 h1
      exact val h1 (e_ite (sndE c x true X S Z o h2) (sndE a y false X S Z o h3) (sndE b z false X S Z o h4))
    | _ => exact absurd h Bool.false_ne_true
  | .tup es, ee, t, X, S, Z, o, h => by
    cases ee with
    | Tuple l k pos =>
      obtain ⟨h1, h2⟩ := ba2 h
      exact val h1 (e_tup (sndEs es l X S Z o h2))
    | _ => exact absurd h Bool.false_ne_true
  | .lst cell es, ee, t, X, S, Z, o, h => by
    cases ee with
    | List l pos =>
      obtain ⟨h1, h2⟩ := ba2 h
      exact val h1 (e_lst (sndEs es l X S Z o h2))
    | _ => exact absurd h Bool.false_ne_true
  | .dct ks es, ee, t, X, S, Z, o, h => by
    cases ee with
    | Dict keys vals pos =>
      obtain ⟨h1, h4⟩ := ba2 h
      obtain ⟨h1, h3⟩ := ba2 h1
      obtain ⟨h1, h2⟩ := ba2 h1
      have hd := sndD ks es keys vals X S Z o h4 pos
      refine val h1 (e_dct (fun z => ?_) hd (of_decide_eq_true h3))
      have := hd.l1
      have h0 := of_decide_eq_true h2
      rw [z] at this
      simp at this
      omega
    | _ => exact absurd h Bool.false_ne_true
  | .idx a i, ee, t, X, S, Z, o, h => by
    cases ee with
    | Subscript x y pos =>
      obtain ⟨h1, h3⟩ := ba2 h
      obtain ⟨h1, h2⟩ := ba2 h1
      exact both rfl (e_idx o (plainIx_of (by cases y <;> first | rfl | exact h1)) (sndE a x false X S Z o h2) (sndE i y false X S Z o h3)) tv_idx
    | _ => exact absurd h Bool.false_ne_true
  | .call f es, ee, t, X, S, Z, o, h => by
    cases ee with
    | Call fx l kws pos => cases fx with
      | Name x p =>
        cases kws with
        | nil =>
          obtain ⟨h1, h5⟩ := ba2 h
          obtain ⟨h1, h4⟩ := ba2 h1
          obtain ⟨h1, h3⟩ := ba2 h1
          obtain ⟨h1, h2⟩ := ba2 h1
          have hf : T.fn f = some x := of_decide_eq_true h1
          cases l with
          | nil =>
            have e := chk_nil h5
            subst e
            exact both rfl (e_call0 o hf (gl_of o h2) (okN_of h3).1) tv_call
          | cons e l => exact both rfl (e_call o hf (gl_of o h2) (okN_of h3).1 h4 (sndEs es (e :: l) X S Z o h5)) tv_call
        | cons k kws => exact absurd h Bool.false_ne_true
      | _ => exact absurd h Bool.false_ne_true
    | _ => exact absurd h Bool.false_ne_true
  | .callk f es ks p, ee, t, X, S, Z, o, h => by
    cases ee with
    | Call fx l kws pos => cases fx with
      | Name x px =>
        obtain ⟨h1, h9⟩ := ba2 h
        obtain ⟨h1, h8⟩ := ba2 h1
        obtain ⟨h1, h7⟩ := ba2 h1
        obtain ⟨h1, h6⟩ := ba2 h1
        obtain ⟨h1, h5⟩ := ba2 h1
        obtain ⟨h1, h4⟩ := ba2 h1
        obtain ⟨h1, h3⟩ := ba2 h1
        obtain ⟨h1, h2⟩ := ba2 h1
        cases q : kwNames kws with
        | none => rw [q] at h7; exact absurd h7 Bool.false_ne_true
        | some names =>
          rw [q] at h7
          obtain ⟨h7, h10⟩ := ba2 h7
          have hkl := (kw_all (pos := pos) (env := X.env) q).2.2.2
          refine both rfl (e_callk o (of_decide_eq_true h1) (gl_of o h2) (okN_of h3).1 h4 (fun z => ?_) q h7 (of_decide_eq_true h10) (fun env st ws st' e => ?_) (fun env st ws st' e => ?_) (sndEs es l X S Z o h8) (sndK ks kws X S Z o h9)) tv_callk
          · subst z; exact chk_nil h8
          · rw [flat_len es env st ws st' h5 e, chk_len es l h5 h8]
          · rw [flat_len ks env st ws st' h6 e, (chk_lenK ks kws h9).2, hkl]
      | _ => exact absurd h Bool.false_ne_true
    | _ => exact absurd h Bool.false_ne_true
  | .callv i es, ee, t, X, S, Z, o, h => by
    cases ee with
    | Call fx l kws pos => cases fx with
      | Name x px =>
        cases l with
        | nil => exact absurd h Bool.false_ne_true
        | cons e l => cases kws with
          | nil =>
            obtain ⟨h1, h6⟩ := ba2 h
            obtain ⟨h1, h5⟩ := ba2 h1
            obtain ⟨h1, h4⟩ := ba2 h1
            obtain ⟨h1, h3⟩ := ba2 h1
            obtain ⟨h1, h2⟩ := ba2 h1
            exact val h1 (e_callv o (slot_of o h2) (vis_of o h3) (okN_of h4).1 (okN_of h4).2 h5 (sndEs es (e :: l) X S Z o h6))
          | cons k kws => exact absurd h Bool.false_ne_true
      | _ => exact absurd h Bool.false_ne_true
    | _ => exact absurd h Bool.false_ne_true
  | .blt b es, ee, t, X, S, Z, o, h => by
    cases ee with
    | Call fx l kws pos => cases fx with
      | Name x px =>
        cases l with
        | nil => exact absurd h Bool.false_ne_true
        | cons e l => cases kws with
          | nil =>
            obtain ⟨h1, h4⟩ := ba2 h
            obtain ⟨h1, h3⟩ := ba2 h1
            obtain ⟨h1, h2⟩ := ba2 h1
            cases q : bltN b with
            | none =>
              rw [q] at h1
              rcases (Bool.or_eq_true _ _).mp h1 with h1 | h1
              · obtain ⟨e1, e2⟩ := ba2 h1
                have e1 : b = .int := of_decide_eq_true e1
                have e2 : x = Str.ofString "int" := of_decide_eq_true e2
                subst e1 e2
                exact both rfl (e_int_ o (gl_of o h2) h3 (sndEs es (e :: l) X S Z o h4)) tv_blt
              · obtain ⟨e1, e2⟩ := ba2 h1
                have e1 : b = .tuple := of_decide_eq_true e1
                have e2 : x = Str.ofString "tuple" := of_decide_eq_true e2
                subst e1 e2
                exact both rfl (e_tuple_ o (gl_of o h2) h3 (sndEs es (e :: l) X S Z o h4)) tv_blt
            | some id =>
              rw [q] at h1
              have e2 : x = Str.ofString id := of_decide_eq_true h1
              subst e2
              exact both rfl (e_blt o q (gl_of o h2) h3 (sndEs es (e :: l) X S Z o h4)) tv_blt
          | cons k kws => exact absurd h Bool.false_ne_true
      | _ => exact absurd h Bool.false_ne_true
    | _ => exact absurd h Bool.false_ne_true
  | .isin a ts, ee, t, X, S, Z, o, h => by
    cases ee with
    | Call fx l kws pos => cases fx with
      | Name x px =>
        rcases l with _ | ⟨e, _ | ⟨y, _ | ⟨y2, l⟩⟩⟩
        · exact absurd h Bool.false_ne_true
        · exact absurd h Bool.false_ne_true
        · cases kws with
          | cons k kws => exact absurd h Bool.false_ne_true
          | nil =>
            obtain ⟨h1, h5⟩ := ba2 h
            obtain ⟨h1, h4⟩ := ba2 h1
            obtain ⟨h1, h3⟩ := ba2 h1
            obtain ⟨h1, h2⟩ := ba2 h1
            have e2 : x = Str.ofString "isinstance" := of_decide_eq_true h1
            subst e2
            have ha := sndE a e false X S Z o h5
            cases y with
            | Name z pz =>
              rcases ts with _ | ⟨ty, _ | ⟨ty2, ts⟩⟩
              · exact absurd h4 Bool.false_ne_true
              · by_cases hty : ∃ c, ty = .exc c
                · obtain ⟨c, rfl⟩ := hty
                  obtain ⟨k1, k3⟩ := ba2 h4
                  obtain ⟨k1, k2⟩ := ba2 k1
                  exact both rfl (e_isinE o (of_decide_eq_true k1) (gl_of o h2) (gl_of o k2) (okN_of k3).1 h3 ha) tv_isin
                have h4 : tysB S [ty] [.Name z pz] = true := by
                  cases ty with
                  | exc c => exact absurd ⟨c, rfl⟩ hty
                  | _ => exact h4
                obtain ⟨tys, g1, g2⟩ := tys_of o (ts := [ty]) (l := [.Name z pz]) h4
                cases g1 with
                | cons q1 q2 => cases q2; cases g2 with
                  | cons q3 q4 =>
                    obtain ⟨p', e3, hg⟩ := q3
                    cases e3
                    exact both rfl (e_isin1 o q1 (gl_of o h2) hg h3 ha) tv_isin
              · cases ty <;> exact absurd h4 Bool.false_ne_true
            | Tuple l k pt =>
              obtain ⟨h4, h6⟩ := ba2 h4
              obtain ⟨tys, g1, g2⟩ := tys_of o h6
              have hl := Paired.length g1
              exact both rfl (e_isinT o (by rw [← hl]; exact of_decide_eq_true h4) g1 g2 (gl_of o h2) h3 ha) tv_isin
            | _ => exact absurd h4 Bool.false_ne_true
        · exact absurd h Bool.false_ne_true
      | _ => exact absurd h Bool.false_ne_true
    | _ => exact absurd h Bool.false_ne_true
  | .comp cell elt tg it cond, ee, t, X, S, Z, o, h => by
    cases ee with
    | ListComp e gs scope pos =>
      rcases gs with _ | ⟨⟨et, ei, ifs, as⟩, _ | ⟨g2, gs⟩⟩
      · exact absurd h Bool.false_ne_true
      · obtain ⟨h1, h8⟩ := ba2 h
        obtain ⟨h1, h7⟩ := ba2 h1
        obtain ⟨h1, h6⟩ := ba2 h1
        obtain ⟨h1, h5⟩ := ba2 h1
        obtain ⟨h1, h4⟩ := ba2 h1
        obtain ⟨h1, h3⟩ := ba2 h1
        obtain ⟨h1, h2⟩ := ba2 h1
        obtain ⟨hz, h0⟩ := ba2 h1
        have has : as = 0 := of_decide_eq_true h0
        subst has
        refine val hz (e_comp (own := ownOf S tg) o.calm o.nd (sndI it et ei X S Z o h5) ?_ (of_decide_eq_true h3) (fun s H c cl fp => (sndTg (blk_ok o s H c cl fp) tg et h6).2) (fun s H c cl fp => sndC cond ifs _ _ _ (blk_ok o s H c cl fp) h7) (fun s H c cl fp => sndE elt e false _ _ _ (blk_ok o s H c cl fp) h8) (set_of (by simpa using h4) _))
        rw [o.N, o.sc]; exact blkOk_by h2
      · exact absurd h Bool.false_ne_true
    | _ => exact absurd h Bool.false_ne_true
  | .popm a i, ee, t, X, S, Z, o, h => by
    cases ee with
    | Call fx l kws pos => cases fx with
      | Attribute b m ap =>
        rcases l with _ | ⟨e, _ | ⟨e2, l⟩⟩
        · exact absurd h Bool.false_ne_true
        · cases kws with
          | nil =>
            obtain ⟨h1, h7⟩ := ba2 h
            obtain ⟨h1, h6⟩ := ba2 h1
            obtain ⟨h1, h5⟩ := ba2 h1
            obtain ⟨h1, h4⟩ := ba2 h1
            obtain ⟨h1, h3⟩ := ba2 h1
            obtain ⟨hz, h2⟩ := ba2 h1
            have em : m = Str.ofString "pop" := of_decide_eq_true h2
            subst em
            exact val hz (e_pop o h3 h4 h5 (sndE a b false X S Z o h6) (sndE i e false X S Z o h7))
          | cons k kws => exact absurd h Bool.false_ne_true
        · exact absurd h Bool.false_ne_true
      | _ => exact absurd h Bool.false_ne_true
    | _ => exact absurd h Bool.false_ne_true
  | .lstOf c a, ee, t, X, S, Z, o, h => by
    cases ee with
    | Call fx l kws pos => cases fx with
      | Name x px =>
        rcases l with _ | ⟨e, _ | ⟨e2, l⟩⟩
        · exact absurd h Bool.false_ne_true
        · cases kws with
          | nil =>
            obtain ⟨h1, h5⟩ := ba2 h
            obtain ⟨h1, h4⟩ := ba2 h1
            obtain ⟨h1, h3⟩ := ba2 h1
            obtain ⟨hz, h2⟩ := ba2 h1
            have em : x = Str.ofString "list" := of_decide_eq_true h2
            subst em
            exact val hz (e_list_ o (gl_of o h3) h4 (sndE a e false X S Z o h5))
          | cons k kws => exact absurd h Bool.false_ne_true
        · exact absurd h Bool.false_ne_true
      | _ => exact absurd h Bool.false_ne_true
    | _ => exact absurd h Bool.false_ne_true
  | .caught a, ee, t, X, S, Z, o, h => by
    cases ee with
    | Call fx l kws pos => cases fx with
      | Name x px =>
        rcases l with _ | ⟨e, _ | ⟨e2, l⟩⟩
        · exact absurd h Bool.false_ne_true
        · cases e with
          | Lambda args body scope lp => cases kws with
            | nil =>
              obtain ⟨h1, h7⟩ := ba2 h
              obtain ⟨h1, h6⟩ := ba2 h1
              obtain ⟨h1, h5⟩ := ba2 h1
              obtain ⟨h1, h4⟩ := ba2 h1
              obtain ⟨h1, h3⟩ := ba2 h1
              obtain ⟨h1, h2⟩ := ba2 h1
              have ex : x = Str.ofString "_law_caught" := of_decide_eq_true h3
              have ea := noArgs_of h6
              obtain ⟨tx, htx⟩ := Option.isSome_iff_exists.mp h4
              subst ex ea
              exact val (ba2 (ba2 (ba2 (ba2 (ba2 (ba2 h).1).1).1).1).1).1 (e_caught o h2 htx (gl_of o h5) (ba2 h7).1 fun X' Z' e' o' => sndE a body false X' _ Z' o' (ba2 h7).2)
            | cons k kws => exact absurd h Bool.false_ne_true
          | _ => cases kws <;> exact absurd h Bool.false_ne_true
        · cases e <;> exact absurd h Bool.false_ne_true
      | _ => rcases l with _ | ⟨e, _ | ⟨e2, l⟩⟩ <;> exact absurd h Bool.false_ne_true
    | _ => exact absurd h Bool.false_ne_true
  | .fld a f, ee, t, X, S, Z, o, h => by
    cases ee with
    | Attribute x y pos =>
      obtain ⟨h1, h5⟩ := ba2 h
      obtain ⟨h1, h4⟩ := ba2 h1
      obtain ⟨h1, h3⟩ := ba2 h1
      obtain ⟨h0, h2⟩ := ba2 h1
      have e := of_decide_eq_true h2
      subst e
      exact val h0 (e_fld o (by simpa using h3) h4 (sndE a x false X S Z o h5))
    | _ => exact absurd h Bool.false_ne_true
  | .cat c a b, ee, t, X, S, Z, o, h => by
    cases ee with
    | BinOp l op r pos => cases op with
      | Add =>
        obtain ⟨h1, h3⟩ := ba2 h
        obtain ⟨h1, h2⟩ := ba2 h1
        exact val h1 (e_cat (sndE a l false X S Z o h2) (sndE b r false X S Z o h3))
      | _ => exact absurd h Bool.false_ne_true
    | _ => exact absurd h Bool.false_ne_true
  | .rep c a b, ee, t, X, S, Z, o, h => by
    cases ee with
    | BinOp l op r pos => cases op with
      | Mult =>
        obtain ⟨h1, h3⟩ := ba2 h
        obtain ⟨h1, h2⟩ := ba2 h1
        exact val h1 (e_rep (sndE a l false X S Z o h2) (sndE b r false X S Z o h3))
      | _ => exact absurd h Bool.false_ne_true
    | _ => exact absurd h Bool.false_ne_true
  | .slc a i j, ee, t, X, S, Z, o, h => by
    cases ee with
    | Subscript x y pos => cases y with
      | Slice lo hi step p2 => cases step with
        | some z => exact absurd h Bool.false_ne_true
        | none =>
          obtain ⟨h1, h4⟩ := ba2 h
          obtain ⟨h1, h3⟩ := ba2 h1
          obtain ⟨h1, h2⟩ := ba2 h1
          have p1 : PO X lo (tPo G X.K C Z i) := by
            cases lo with
            | none => exact po_no h3
            | some e =>
              obtain ⟨q1, q2⟩ := ba2 h3
              exact po_so (by simpa using q1) (sndE i e false X S Z o q2)
          have p3 : PO X hi (tPo G X.K C Z j) := by
            cases hi with
            | none => exact po_no h4
            | some e =>
              obtain ⟨q1, q2⟩ := ba2 h4
              exact po_so (by simpa using q1) (sndE j e false X S Z o q2)
          exact val h1 (e_slc (sndE a x false X S Z o h2) p1 p3)
      | _ => exact absurd h Bool.false_ne_true
    | _ => exact absurd h Bool.false_ne_true
  | .inn k a b, ee, t, X, S, Z, o, h => by cases ee <;> exact absurd h Bool.false_ne_true
theorem sndB : ∀ (es : Es) (l : List Expr) (t k : Bool) (X : Cx) (S : Sc) (Z : WX), XOk G T X S C n Z → chkB T S t es l = true → SndB G C t X Z k es l
  | .nil, l, t, k, X, S, Z, o, h => by cases l <;> exact absurd h Bool.false_ne_true
  | .star _ _, l, t, k, X, S, Z, o, h => by cases l <;> exact absurd h Bool.false_ne_true
  | .cons e .nil, l, t, k, X, S, Z, o, h => by
    rcases l with _ | ⟨x, _ | ⟨y, l⟩⟩
    · exact absurd h Bool.false_ne_true
    · have h : (chkE T S t e x && true) = true := h
      have := sndE e x t X S Z o (ba2 h).1
      intro pos
      cases t with
      | false => exact b_one this
      | true => exact ts_one this
    · have h : (chkE T S t e x && false) = true := h
      exact absurd (ba2 h).2 Bool.false_ne_true
  | .cons e (.star _ _), l, t, k, X, S, Z, o, h => by
    cases l with
    | nil => exact absurd h Bool.false_ne_true
    | cons x l =>
      have h : (chkE T S t e x && false) = true := h
      exact absurd (ba2 h).2 Bool.false_ne_true
  | .cons e (.cons e2 es), l, t, k, X, S, Z, o, h => by
    cases l with
    | nil => exact absurd h Bool.false_ne_true
    | cons x l =>
      have h : (chkE T S t e x && chkB T S t (.cons e2 es) l) = true := h
      have h1 := sndE e x t X S Z o (ba2 h).1
      have h2 := sndB (.cons e2 es) l t k X S Z o (ba2 h).2
      cases l with
      | nil => exact absurd (ba2 h).2 Bool.false_ne_true
      | cons y l =>
        intro pos
        cases t with
        | false => exact b_more h1 (h2 pos)
        | true => exact ts_more h1 (h2 pos)
theorem sndC : ∀ (es : Es) (l : List Expr) (X : Cx) (S : Sc) (Z : WX), XOk G T X S C n Z → chkC T S es l = true → PTs X l (tC' G X.K C Z es)
  | .nil, l, X, S, Z, o, h => by
    cases l with
    | nil => exact c_nil
    | cons x l => exact absurd h Bool.false_ne_true
  | .star _ _, l, X, S, Z, o, h => by cases l <;> exact absurd h Bool.false_ne_true
  | .cons e es, l, X, S, Z, o, h => by
    rcases l with _ | ⟨x, _ | ⟨y, l⟩⟩
    · exact absurd h Bool.false_ne_true
    · cases es with
      | nil => exact c_one (sndE e x true X S Z o (ba2 (show (chkE T S true e x && true) = true from h)).1)
      | cons _ _ => exact absurd (ba2 (show (chkE T S true e x && false) = true from h)).2 Bool.false_ne_true
      | star _ _ => exact absurd (ba2 (show (chkE T S true e x && false) = true from h)).2 Bool.false_ne_true
    · exact absurd h Bool.false_ne_true
theorem sndEs : ∀ (es : Es) (l : List Expr) (X : Cx) (S : Sc) (Z : WX), XOk G T X S C n Z → chkEs T S es l = true → PA X l (tA G X.K C Z es)
  | .nil, l, X, S, Z, o, h => by
    cases l with
    | nil => exact a_nil
    | cons x l => exact absurd h Bool.false_ne_true
  | .star e es, l, X, S, Z, o, h => by
    cases l with
    | nil => exact absurd h Bool.false_ne_true
    | cons x l => cases x with
      | Starred y p =>
        have h : (chkE T S false e y && chkEs T S es l) = true := h
        exact a_star (sndE e y false X S Z o (ba2 h).1) (sndEs es l X S Z o (ba2 h).2)
      | _ => exact absurd h Bool.false_ne_true
  | .cons e es, l, X, S, Z, o, h => by
    cases l with
    | nil => exact absurd h Bool.false_ne_true
    | cons x l =>
      have h : (notStar x && chkE T S false e x && chkEs T S es l) = true := by cases x <;> exact h
      obtain ⟨h1, h3⟩ := ba2 h
      obtain ⟨h1, h2⟩ := ba2 h1
      exact a_cons h1 (sndE e x false X S Z o h2) (sndEs es l X S Z o h3)
theorem sndK : ∀ (es : Es) (l : List Keyword) (X : Cx) (S : Sc) (Z : WX), XOk G T X S C n Z → chkK T S es l = true → PK X l (tA G X.K C Z es)
  | .nil, l, X, S, Z, o, h => by
    cases l with
    | nil => exact k_nil
    | cons x l => exact absurd h Bool.false_ne_true
  | .star e es, l, X, S, Z, o, h => by cases l <;> exact absurd h Bool.false_ne_true
  | .cons e es, l, X, S, Z, o, h => by
    cases l with
    | nil => exact absurd h Bool.false_ne_true
    | cons k l =>
      obtain ⟨nm, x, p⟩ := k
      have h : (chkE T S false e x && chkK T S es l) = true := h
      exact k_cons (sndE e x false X S Z o (ba2 h).1) (sndK es l X S Z o (ba2 h).2)
theorem sndD : ∀ (ks : List Key) (es : Es) (keys : List (Option Expr)) (vals : List Expr) (X : Cx) (S : Sc) (Z : WX), XOk G T X S C n Z → chkD T S ks es keys vals = true → ∀ pos, DctP G X C Z pos keys vals ks es
  | ks, .nil, keys, vals, X, S, Z, o, h => by
    intro pos
    cases ks <;> cases keys <;> cases vals <;> first | exact d_nil | exact absurd h Bool.false_ne_true
  | ks, .star e es, keys, vals, X, S, Z, o, h => by
    exact absurd (show false = true by cases ks <;> cases keys <;> cases vals <;> exact h) Bool.false_ne_true
  | ks, .cons e es, keys, vals, X, S, Z, o, h => by
    intro pos
    cases ks with
    | nil => exact absurd h Bool.false_ne_true
    | cons k ks => cases keys with
      | nil => exact absurd h Bool.false_ne_true
      | cons ok keys => cases ok with
        | none => exact absurd h Bool.false_ne_true
        | some ek => cases vals with
          | nil => exact absurd h Bool.false_ne_true
          | cons v vals =>
            have h : (decide (keyE ek = some k) && chkE T S false e v && chkD T S ks es keys vals) = true := h
            obtain ⟨h1, h3⟩ := ba2 h
            obtain ⟨h1, h2⟩ := ba2 h1
            exact d_cons (of_decide_eq_true h1) (sndE e v false X S Z o h2) (sndD ks es keys vals X S Z o h3 pos)
theorem sndI : ∀ (it : Mi.It) (tg ei : Expr) (X : Cx) (S : Sc) (Z : WX), XOk G T X S C n Z → chkI T S it tg ei = true → PI X tg ei (iI G X.K C Z it)
  | .seq a, tg, ei, X, S, Z, o, h => i_seq (sndE a ei false X S Z o h)
  | .rng es, tg, ei, X, S, Z, o, h => by
    cases ei with
    | Call fx l kws pos => cases fx with
      | Name x px =>
        cases kws with
        | cons k kws => exact absurd h Bool.false_ne_true
        | nil =>
          obtain ⟨h1, h6⟩ := ba2 h
          obtain ⟨h1, h5⟩ := ba2 h1
          obtain ⟨h1, h4⟩ := ba2 h1
          obtain ⟨h1, h3⟩ := ba2 h1
          obtain ⟨h1, h2⟩ := ba2 h1
          have e2 : x = Str.ofString "range" := of_decide_eq_true h1
          subst e2
          have ha := sndEs es l X S Z o h6
          have hl := chk_len es l h3 h6
          rcases l with _ | ⟨e, _ | ⟨e2, _ | ⟨e3, l⟩⟩⟩
          · simp at h5
          · exact i_rng1 o (fun env st ws st' q => by rw [flat_len es env st ws st' h3 q, hl]; rfl) (gl_of o h2) (ba2 h4).1 ha
          · exact i_rng2 o (fun env st ws st' q => by rw [flat_len es env st ws st' h3 q, hl]; rfl) (gl_of o h2) h4 ha
          · simp at h5
      | _ => exact absurd h Bool.false_ne_true
    | _ => exact absurd h Bool.false_ne_true
  | .zip a b, tg, ei, X, S, Z, o, h => by
    cases tg with
    | Tuple el k tp => cases ei with
      | Call fx l kws pos => cases fx with
        | Name x px =>
          rcases l with _ | ⟨e, _ | ⟨e2, _ | ⟨e3, l⟩⟩⟩
          · exact absurd h Bool.false_ne_true
          · exact absurd h Bool.false_ne_true
          · cases kws with
            | cons k kws => exact absurd h Bool.false_ne_true
            | nil =>
              obtain ⟨h1, h5⟩ := ba2 h
              obtain ⟨h1, h4⟩ := ba2 h1
              obtain ⟨h1, h3⟩ := ba2 h1
              obtain ⟨h1, h2⟩ := ba2 h1
              have ex : x = Str.ofString "zip" := of_decide_eq_true h1
              subst ex
              exact i_zip o (gl_of o h2) h3 (sndE a e false X S Z o h4) (sndE b e2 false X S Z o h5)
          · exact absurd h Bool.false_ne_true
        | _ => exact absurd h Bool.false_ne_true
      | _ => exact absurd h Bool.false_ne_true
    | _ => exact absurd h Bool.false_ne_true
  | .zipL a b, tg, ei, X, S, Z, o, h => by
    cases tg with
    | Name tx tp => cases ei with
      | Call fx l kws pos => cases fx with
        | Name x px =>
          rcases l with _ | ⟨e, _ | ⟨e2, _ | ⟨e3, l⟩⟩⟩
          · exact absurd h Bool.false_ne_true
          · exact absurd h Bool.false_ne_true
          · cases kws with
            | cons k kws => exact absurd h Bool.false_ne_true
            | nil =>
              obtain ⟨h1, h5⟩ := ba2 h
              obtain ⟨h1, h4⟩ := ba2 h1
              obtain ⟨h1, h3⟩ := ba2 h1
              obtain ⟨h1, h2⟩ := ba2 h1
              have ex : x = Str.ofString "zip" := of_decide_eq_true h1
              subst ex
              exact i_zipN o (gl_of o h2) h3 (sndE a e false X S Z o h4) (sndE b e2 false X S Z o h5)
          · exact absurd h Bool.false_ne_true
        | _ => exact absurd h Bool.false_ne_true
      | _ => exact absurd h Bool.false_ne_true
    | _ => exact absurd h Bool.false_ne_true
  | .enum a, tg, ei, X, S, Z, o, h => by
    cases tg with
    | Tuple el k tp => cases ei with
      | Call fx l kws pos => cases fx with
        | Name x px =>
          rcases l with _ | ⟨e, _ | ⟨e2, l⟩⟩
          · exact absurd h Bool.false_ne_true
          · cases kws with
            | cons k kws => exact absurd h Bool.false_ne_true
            | nil =>
              obtain ⟨h1, h4⟩ := ba2 h
              obtain ⟨h1, h3⟩ := ba2 h1
              obtain ⟨h1, h2⟩ := ba2 h1
              have ex : x = Str.ofString "enumerate" := of_decide_eq_true h1
              subst ex
              exact i_enum o (gl_of o h2) h3 (sndE a e false X S Z o h4)
          · exact absurd h Bool.false_ne_true
        | _ => exact absurd h Bool.false_ne_true
      | _ => exact absurd h Bool.false_ne_true
    | _ => exact absurd h Bool.false_ne_true
end
end
end Mi
namespace Mi
open PySem PySem.Spec PyProof.Rows L2
/-! ### the checker for statements -/
def fnKind (S : Sc) : Bool := decide (S.sc.kind = .function)
/-- the row's name takes the comprehension's list within the same move -/
def swapOn (S : Sc) (x : Str) (p : Pos) (scope : Scope) (cpos : Pos) : Bool := lclB S x && (p.line == cpos.line) && !(scope.names.any fun (n, k) => n == x && (k == .local || k == .cell))
def rawStr : E → Expr → Bool
  | .str m', .Constant (.str m) _ _ => decide (m = m')
  | _, _ => false
def isCompE : E → Bool
  | .comp _ _ _ _ _ => true
  | _ => false
def setB (S : Sc) (x : Str) (p : Pos) (e : E) : Expr → Bool
  | .ListComp _ _ scope cpos => fnKind S && isCompE e && (swapOn S x p scope cpos || !(swapOn S x p scope cpos))
  | ee => !isComp ee
def parB (S : Sc) (x y : Str) (px py : Pos) (a b : Expr) : Bool :=
  fnKind S && lclB S x && lclB S y && (py.line == px.line) && !(x == y) && notStar a && notStar b && !(foldedForSure 8 a && foldedForSure 8 b) && !(constantsAlone 8 a && constantsAlone 8 b)
/-- a tuple is built: one of its names is no plain local -/
def noSwap (S : Sc) : Expr → Expr → Bool
  | .Tuple ts _ _, .Tuple _ _ _ => ts.any fun t => match t with
    | .Name x _ => !lclB S x
    | _ => true
  | _, ee => !isTupE ee
mutual
def chkS (T : Nm) (S : Sc) : Mi.S → Stmt → Bool
  | .stuck, _ => true
  | .doc, .Expr (.Constant (.str _) _ _) _ => true
  | .brk, .Break _ => true
  | .cont, .Continue _ => true
  | .retN, .Return none _ => true
  | .ret e, .Return (some ee) _ => chkE T S false e ee
  | .expr e, .Expr ee _ => !isComp ee && chkE T S false e ee
  | .app a e, .Expr (.Call (.Attribute ea m ap) [ee] [] cp) _ => decide (m = Str.ofString "append") && plainBase ea && (ap.endLine == cp.line) && notStar ee && chkE T S false a ea && chkE T S false e ee
  | .set i e, .Assign [.Name x p] ee _ => slotB S i x && locB S x && fnB S x && setB S x p e ee && chkE T S false e ee
  | .setT tg e, .Assign [etg] ee _ => !isNameE etg && noSwap S etg ee && notStarT etg && chkTg S tg etg && chkE T S false e ee
  | .setIx a i e, .Assign [.Subscript ea ei _] ee _ => !isSliceE ei && chkE T S false a ea && chkE T S false i ei && chkE T S false e ee
  | .par [i, j] es, .Assign [.Tuple [.Name x px, .Name y py] _ _] (.Tuple [a, b] _ _) _ => slotB S i x && slotB S j y && decide (i ≠ j) && es.flat && parB S x y px py a b && chkEs T S es [a, b]
  | .ifs c a b, .If ec la lb _ => chkE T S true c ec && chkSs T S a la && chkSs T S b lb
  | .for_ tg it b, .For etg eit lb [] _ => !isSetE eit && chkI T S it etg eit && chkTg S tg etg && chkSs T S b lb
  | .raise c es, .Raise (some (.Call (.Name x _) [ee] [] _)) none _ => decide (T.cl c = some x) && glB S x && okN x && (match es with
    | .cons e .nil => if T.pln c then rawStr e ee else (T.ini c).isSome && notStar ee && chkE T S false e ee
    | _ => false)
  | .whl c b, .While ec lb [] _ => chkE T S true c ec && chkSs T S b lb
  | _, _ => false
def chkSs (T : Nm) (S : Sc) : Ss → List Stmt → Bool
  | .nil, [] => true
  | .cons s ss, x :: l => chkS T S s x && chkSs T S ss l
  | _, _ => false
end
section
variable {G : Gd} {T : Nm} {X : Cx} {S : Sc} {C : Ctx} {n : Nat} {Z : WX}
theorem lcl_eq (S : Sc) (x : Str) : lclB S x = (S.sc.names.lookup x == some .local) := by
  unfold lclB kindIs
  cases S.sc.names.lookup x with
  | none => rfl
  | some k => cases k <;> rfl
theorem sw_eq (o : XOk G T X S C n Z) (hk : fnKind S = true) {elt : Expr} {gs : List Comprehension} {scope : Scope} {pos p : Pos} {x : Str} {l : Nat} : swapsWith (.ListComp elt gs scope pos) (some (.Name x p)) l X.env = pure (swapOn S x p scope pos) := by
  have hb : X.env.blockKind = .function := by
    unfold PySem.Env.blockKind
    rw [o.sc, show S.sc.kind = .function from of_decide_eq_true hk]; rfl
  have hx : X.env.kindOf x = S.sc.names.lookup x := by rw [← o.sc]; rfl
  unfold swapsWith swapOn
  simp only [hb, hx, lcl_eq, Expr.pos]
  rfl
theorem short {f : Expr → Option Str} {ts : List Expr} {t : Expr} (ht : t ∈ ts) (hf : f t = none) : ((ts.filterMap f).length != ts.length) = true := by
  rw [bne_iff_ne]
  intro e
  have := List.filterMap_length_eq_length.mp e t ht
  rw [hf] at this
  cases this
theorem sw_none (o : XOk G T X S C n Z) {etg ee : Expr} (h : noSwap S etg ee = true) : swappedStores [etg] ee X.env = pure none := by
  by_cases ht : isTupE ee = false
  · exact swapped_none ht _
  cases ee with
  | Tuple vs k2 p2 => cases etg with
    | Tuple ts k p =>
      have h : (ts.any fun t => match t with | .Name x _ => !lclB S x | _ => true) = true := h
      unfold swappedStores
      simp only
      split
      · rfl
      split
      · rfl
      obtain ⟨t, ht, hb⟩ := List.any_eq_true.mp h
      rw [if_pos ((Bool.or_eq_true _ _).mpr (.inl (short ht ?_)))]
      · cases t with
        | Name id pos =>
          have hx : X.env.kindOf id = S.sc.names.lookup id := by rw [← o.sc]; rfl
          have hb : (!lclB S id) = true := hb
          rw [lcl_eq] at hb
          simp only [hx]
          rw [if_neg]
          intro z
          rw [(Bool.and_eq_true _ _).mp z |>.1] at hb
          exact Bool.false_ne_true hb
        | _ => rfl
    | _ => exact absurd (by cases h : isTupE (.Tuple vs k2 p2) <;> simp_all [noSwap]) ht
  | _ => exact absurd rfl ht
theorem star_not : ∀ {a : Expr}, notStar a = true → (match a with | .Starred _ _ => true | _ => false) = false := by
  intro a h
  cases a <;> first | rfl | (exact absurd h Bool.false_ne_true)
theorem par_eq (o : XOk G T X S C n Z) {x y : Str} {px py pt pt2 : Pos} {kt k2 : Nat} {a b : Expr} (h : parB S x y px py a b = true) : swappedStores [.Tuple [.Name x px, .Name y py] kt pt] (.Tuple [a, b] k2 pt2) X.env = pure (some [x, y]) := by
  unfold parB at h
  simp only [Bool.and_eq_true, Bool.not_eq_true', lcl_eq] at h
  obtain ⟨⟨⟨⟨⟨⟨⟨⟨h1, h2⟩, h3⟩, h4⟩, h5⟩, h6⟩, h7⟩, h8⟩, h9⟩ := h
  have hb : X.env.blockKind = .function := by
    unfold PySem.Env.blockKind
    rw [o.sc, show S.sc.kind = .function from of_decide_eq_true h1]; rfl
  have hx : (X.env.kindOf x == some .local) = true := by rw [show X.env.kindOf x = S.sc.names.lookup x by rw [← o.sc]; rfl]; exact h2
  have hy : (X.env.kindOf y == some .local) = true := by rw [show X.env.kindOf y = S.sc.names.lookup y by rw [← o.sc]; rfl]; exact h3
  have s1 := star_not h6
  have s2 := star_not h7
  have e1 : ([x, y] : List Str).eraseDups.length = 2 := by
    have hyx : (y == x) = false := by
      rw [beq_eq_false_iff_ne] at h5 ⊢
      exact Ne.symm h5
    simp [List.eraseDups_cons, hyx, h5]
  unfold swappedStores
  simp only [hb, Expr.pos, List.length_cons, List.length_nil, List.any_cons, List.any_nil, s1, s2, List.filterMap_cons, List.filterMap_nil, hx, hy, h4, List.head?_cons, Option.map_some, Option.getD_some, List.all_cons, List.all_nil, Bool.and_true, h8, h9, e1]
  simp [hx, hy, h4, e1, h8, h9]
  intro hs
  exfalso
  clear s1 s2
  rcases hs with hs | hs
  · revert h6 hs
    cases a <;> intro h6 hs <;> first | exact Bool.false_ne_true hs | exact Bool.false_ne_true h6
  · revert h7 hs
    cases b <;> intro h7 hs <;> first | exact Bool.false_ne_true hs | exact Bool.false_ne_true h7
theorem sndSet (o : XOk G T X S C n Z) {i : Nat} {e : E} {x : Str} {p pos : Pos} {ee : Expr} (h : (slotB S i x && locB S x && fnB S x && setB S x p e ee && chkE T S false e ee) = true) : PS X (.Assign [.Name x p] ee pos) (tS G X.K C Z (.set i e)) := by
  obtain ⟨g1, h5⟩ := ba2 h
  obtain ⟨g2, h4⟩ := ba2 g1
  obtain ⟨g3, h3⟩ := ba2 g2
  obtain ⟨h1, h2⟩ := ba2 g3
  by_cases hc : isComp ee = false
  · exact s_set o.nd (slot_of o h1) (loc_of o h2) (fn_ofB o h3) hc (sndE e ee false X S Z o h5)
  · cases ee with
    | ListComp elt gs scope cpos =>
      obtain ⟨h4, _⟩ := ba2 h4
      obtain ⟨hk, h6⟩ := ba2 h4
      have sw := sw_eq o hk (elt := elt) (gs := gs) (scope := scope) (pos := cpos) (p := p) (x := x) (l := pos.line)
      cases q : swapOn S x p scope cpos with
      | false =>
        rw [q] at sw
        exact (ps_set o.nd (slot_of o h1) (loc_of o h2) (sndE e _ false X S Z o h5) sw (fn_ofB o h3)).to fun D σ H ⟨d, st, env, s, er, h⟩ => by
          unfold evS at h
          exact ⟨d, st, env, s, er, (LkS.then er h).imp fun x H1 ⟨d1, st1, w, l1, s1, r1, h1⟩ => h1 _ H1 d1 Le.rfl s1 ((er.mono l1).set r1)⟩
      | true =>
        rw [q] at sw
        have hl : lclB S x = true := (ba2 (ba2 q).1).1
        cases e with
        | comp cell el tg it cond =>
          rcases gs with _ | ⟨⟨et, ei, ifs, as⟩, _ | ⟨g2, gs⟩⟩
          · exact absurd h5 Bool.false_ne_true
          · obtain ⟨q1, q8⟩ := ba2 h5
            obtain ⟨q1, q7⟩ := ba2 q1
            obtain ⟨q1, q6⟩ := ba2 q1
            obtain ⟨q1, q5⟩ := ba2 q1
            obtain ⟨q1, q4⟩ := ba2 q1
            obtain ⟨q1, q3⟩ := ba2 q1
            obtain ⟨q1, q2⟩ := ba2 q1
            obtain ⟨qz, q0⟩ := ba2 q1
            have has : as = 0 := of_decide_eq_true q0
            subst has
            refine s_setLc (own := ownOf S tg) o.calm o.nd (slot_of o h1) (lcl_of o hl) sw (sndI it et ei X S Z o q5) ?_ (of_decide_eq_true q3) (fun s H c cl fp => (sndTg (blk_ok o s H c cl fp) tg et q6).2) (fun s H c cl fp => sndC cond ifs _ _ _ (blk_ok o s H c cl fp) q7) (fun s H c cl fp => sndE el elt false _ _ _ (blk_ok o s H c cl fp) q8) (set_of (by simpa using q4) _)
            rw [o.N, o.sc]; exact blkOk_by q2
          · exact absurd h5 Bool.false_ne_true
        | _ => exact absurd h6 Bool.false_ne_true
    | SetComp => exact absurd h4 Bool.false_ne_true
    | DictComp => exact absurd h4 Bool.false_ne_true
    | _ => exact absurd rfl hc
theorem neverS {es : Stmt} : PS X es (tS G X.K C Z .stuck) := ⟨fun pins s σ H D I ⟨d, st, env, sr, er, h⟩ => h.elim⟩
mutual
theorem sndS : ∀ (s : Mi.S) (es : Stmt) (X : Cx) (S : Sc) (Z : WX), XOk G T X S C n Z → PassesOwn (model X.prog X.w) X.A X.env X.xe → chkS T S s es = true → PS X es (tS G X.K C Z s)
  | .stuck, es, X, S, Z, o, hp, h => neverS
  | .doc, es, X, S, Z, o, hp, h => by
    cases es with
    | Expr e p => cases e with
      | Constant c k p2 => cases c with
        | str x => exact s_doc
        | _ => exact absurd h Bool.false_ne_true
      | _ => exact absurd h Bool.false_ne_true
    | _ => exact absurd h Bool.false_ne_true
  | .brk, es, X, S, Z, o, hp, h => by
    cases es with
    | Break p => exact s_brk
    | _ => exact absurd h Bool.false_ne_true
  | .cont, es, X, S, Z, o, hp, h => by
    cases es with
    | Continue p => exact s_cont
    | _ => exact absurd h Bool.false_ne_true
  | .retN, es, X, S, Z, o, hp, h => by
    cases es with
    | Return oe p => cases oe with
      | none => exact s_retN
      | some e => exact absurd h Bool.false_ne_true
    | _ => exact absurd h Bool.false_ne_true
  | .ret e, es, X, S, Z, o, hp, h => by
    cases es with
    | Return oe p => cases oe with
      | none => exact absurd h Bool.false_ne_true
      | some ee => exact s_ret (sndE e ee false X S Z o h)
    | _ => exact absurd h Bool.false_ne_true
  | .expr e, es, X, S, Z, o, hp, h => by
    cases es with
    | Expr ee p =>
      obtain ⟨h1, h2⟩ := ba2 h
      exact s_expr (by simpa using h1) (sndE e ee false X S Z o h2)
    | _ => exact absurd h Bool.false_ne_true
  | .app a e, es, X, S, Z, o, hp, h => by
    cases es with
    | Expr ee p => cases ee with
      | Call f l kws cp => cases f with
        | Attribute ea m ap =>
          rcases l with _ | ⟨x, _ | ⟨x2, l⟩⟩
          · exact absurd h Bool.false_ne_true
          · cases kws with
            | cons k kws => exact absurd h Bool.false_ne_true
            | nil =>
              obtain ⟨h1, h6⟩ := ba2 h
              obtain ⟨h1, h5⟩ := ba2 h1
              obtain ⟨h1, h4⟩ := ba2 h1
              obtain ⟨h1, h3⟩ := ba2 h1
              obtain ⟨h0, h2⟩ := ba2 h1
              have em : m = Str.ofString "append" := of_decide_eq_true h0
              subst em
              exact s_app o h2 h3 h4 (sndE a ea false X S Z o h5) (sndE e x false X S Z o h6)
          · exact absurd h Bool.false_ne_true
        | _ => exact absurd h Bool.false_ne_true
      | _ => exact absurd h Bool.false_ne_true
    | _ => exact absurd h Bool.false_ne_true
  | .set i e, es, X, S, Z, o, hp, h => by
    cases es with
    | Assign ts ee p =>
      rcases ts with _ | ⟨t, _ | ⟨t2, ts⟩⟩
      · exact absurd h Bool.false_ne_true
      · cases t with
        | Name x px => exact sndSet o h
        | _ => exact absurd h Bool.false_ne_true
      · cases t <;> exact absurd h Bool.false_ne_true
    | _ => exact absurd h Bool.false_ne_true
  | .setT tg e, es, X, S, Z, o, hp, h => by
    cases es with
    | Assign ts ee p =>
      rcases ts with _ | ⟨t, _ | ⟨t2, ts⟩⟩
      · exact absurd h Bool.false_ne_true
      · obtain ⟨h1, h5⟩ := ba2 h
        obtain ⟨h1, h4⟩ := ba2 h1
        obtain ⟨h1, h3⟩ := ba2 h1
        obtain ⟨h1, h2⟩ := ba2 h1
        exact s_setT (by simpa using h1) (sw_none o h2) h3 (sndE e ee false X S Z o h5) (sndTg o tg t h4).1
      · exact absurd h Bool.false_ne_true
    | _ => exact absurd h Bool.false_ne_true
  | .setIx a i e, es, X, S, Z, o, hp, h => by
    cases es with
    | Assign ts ee p =>
      rcases ts with _ | ⟨t, _ | ⟨t2, ts⟩⟩
      · exact absurd h Bool.false_ne_true
      · cases t with
        | Subscript ea ei p2 =>
          obtain ⟨h1, h4⟩ := ba2 h
          obtain ⟨h1, h3⟩ := ba2 h1
          obtain ⟨h1, h2⟩ := ba2 h1
          exact s_setIx o (by simpa using h1) (sndE a ea false X S Z o h2) (sndE i ei false X S Z o h3) (sndE e ee false X S Z o h4)
        | _ => exact absurd h Bool.false_ne_true
      · cases t <;> exact absurd h Bool.false_ne_true
    | _ => exact absurd h Bool.false_ne_true
  | .par is el, es, X, S, Z, o, hp, h => by
    rcases is with _ | ⟨i, _ | ⟨j, _ | ⟨k, is⟩⟩⟩
    · cases es <;> exact absurd h Bool.false_ne_true
    · cases es <;> exact absurd h Bool.false_ne_true
    · cases es with
      | Assign ts ee p =>
        rcases ts with _ | ⟨t, _ | ⟨t2, ts⟩⟩
        · exact absurd h Bool.false_ne_true
        · cases t with
          | Tuple tl kt pt =>
            rcases tl with _ | ⟨t1, _ | ⟨t2, _ | ⟨t3, tl⟩⟩⟩
            · exact absurd h Bool.false_ne_true
            · cases t1 <;> exact absurd h Bool.false_ne_true
            · cases t1 with
              | Name x px => cases t2 with
                | Name y py => cases ee with
                  | Tuple el2 k2 pt2 =>
                    rcases el2 with _ | ⟨a, _ | ⟨b, _ | ⟨c, el2⟩⟩⟩
                    · exact absurd h Bool.false_ne_true
                    · exact absurd h Bool.false_ne_true
                    · obtain ⟨h1, h6⟩ := ba2 h
                      obtain ⟨h1, h5⟩ := ba2 h1
                      obtain ⟨h1, h4⟩ := ba2 h1
                      obtain ⟨h1, h3⟩ := ba2 h1
                      obtain ⟨h1, h2⟩ := ba2 h1
                      have h5' := h5
                      unfold parB at h5'
                      simp only [Bool.and_eq_true] at h5'
                      obtain ⟨⟨⟨⟨⟨⟨⟨⟨_, p2⟩, p3⟩, _⟩, _⟩, _⟩, _⟩, _⟩, _⟩ := h5'
                      exact s_par o.calm o.nd (slot_of o h1) (slot_of o h2) (of_decide_eq_true h3) (lcl_of o p2) (lcl_of o p3) (fun env st ws st' q => by rw [flat_len el env st ws st' h4 q, chk_len el [a, b] h4 h6]; rfl) (sndEs el [a, b] X S Z o h6) (par_eq o h5)
                    · exact absurd h Bool.false_ne_true
                  | _ => exact absurd h Bool.false_ne_true
                | _ => exact absurd h Bool.false_ne_true
              | _ => exact absurd h Bool.false_ne_true
            · cases t1 with
              | Name x px => cases t2 <;> exact absurd h Bool.false_ne_true
              | _ => exact absurd h Bool.false_ne_true
          | _ => exact absurd h Bool.false_ne_true
        · exact absurd (show false = true by
            cases t with
            | Tuple tl kt pt =>
              rcases tl with _ | ⟨t1, tl⟩
              · exact h
              · cases t1 with
                | Name x px =>
                  rcases tl with _ | ⟨t3, tl⟩
                  · exact h
                  · cases t3 with
                    | Name y py => cases tl <;> exact h
                    | _ => exact h
                | _ => exact h
            | _ => exact h) Bool.false_ne_true
      | _ => exact absurd h Bool.false_ne_true
    · cases es <;> exact absurd h Bool.false_ne_true
  | .ifs c a b, es, X, S, Z, o, hp, h => by
    cases es with
    | If ec la lb p =>
      obtain ⟨h1, h3⟩ := ba2 h
      obtain ⟨h1, h2⟩ := ba2 h1
      exact s_ifs (sndE c ec true X S Z o h1) (sndSs a la X S Z o hp h2) (sndSs b lb X S Z o hp h3)
    | _ => exact absurd h Bool.false_ne_true
  | .for_ tg it b, es, X, S, Z, o, hp, h => by
    cases es with
    | For etg eit lb le p => cases le with
      | nil =>
        obtain ⟨h1, h4⟩ := ba2 h
        obtain ⟨h1, h3⟩ := ba2 h1
        obtain ⟨h1, h2⟩ := ba2 h1
        exact s_for o hp (sndI it etg eit X S Z o h2) (sndTg o tg etg h3).2 (sndSs b lb X S Z o hp h4) (set_of (by simpa using h1) _)
      | cons _ _ => exact absurd h Bool.false_ne_true
    | _ => exact absurd h Bool.false_ne_true
  | .whl c b, es, X, S, Z, o, hp, h => by
    cases es with
    | While ec lb le p => cases le with
      | nil =>
        obtain ⟨h1, h2⟩ := ba2 h
        exact s_whl o hp (sndE c ec true X S Z o h1) (sndSs b lb X S Z o hp h2)
      | cons _ _ => exact absurd h Bool.false_ne_true
    | _ => exact absurd h Bool.false_ne_true
  | .raise c el, es, X, S, Z, o, hp, h => by
    cases es with
    | Raise oe oc p =>
      cases oe with
      | none => exact absurd h Bool.false_ne_true
      | some ex => cases ex with
        | Call f l kws cp => cases f with
          | Name x px =>
            rcases l with _ | ⟨ee, _ | ⟨e2, l⟩⟩
            · exact absurd h Bool.false_ne_true
            · cases kws with
              | cons k kws => exact absurd h Bool.false_ne_true
              | nil => cases oc with
                | some y => exact absurd h Bool.false_ne_true
                | none =>
                  obtain ⟨h1, h4⟩ := ba2 h
                  obtain ⟨h1, h3⟩ := ba2 h1
                  obtain ⟨h1, h2⟩ := ba2 h1
                  have hc : T.cl c = some x := of_decide_eq_true h1
                  cases el with
                  | nil => exact absurd h4 Bool.false_ne_true
                  | star e es => exact absurd h4 Bool.false_ne_true
                  | cons e es => cases es with
                    | cons e' es => exact absurd h4 Bool.false_ne_true
                    | star e' es => exact absurd h4 Bool.false_ne_true
                    | nil =>
                      have h4 : (if T.pln c = true then rawStr e ee else (T.ini c).isSome && notStar ee && chkE T S false e ee) = true := h4
                      by_cases hp : T.pln c = true
                      · rw [if_pos hp] at h4
                        unfold rawStr at h4
                        split at h4
                        · have em := of_decide_eq_true h4
                          subst em
                          exact s_raise o hc hp (gl_of o h2) (okN_of h3).1
                        · exact absurd h4 Bool.false_ne_true
                      · rw [if_neg hp] at h4
                        obtain ⟨h5, h7⟩ := ba2 h4
                        obtain ⟨h5, h6⟩ := ba2 h5
                        obtain ⟨fld, hi⟩ := Option.isSome_iff_exists.mp h5
                        exact s_raiseI o hc hi (gl_of o h2) (okN_of h3).1 h6 (sndE e ee false X S Z o h7)
            · exact absurd h Bool.false_ne_true
          | _ => exact absurd h Bool.false_ne_true
        | _ => exact absurd h Bool.false_ne_true
    | _ => exact absurd h Bool.false_ne_true
theorem sndSs : ∀ (ss : Ss) (l : List Stmt) (X : Cx) (S : Sc) (Z : WX), XOk G T X S C n Z → PassesOwn (model X.prog X.w) X.A X.env X.xe → chkSs T S ss l = true → PSs X l (tSs G X.K C Z ss)
  | .nil, l, X, S, Z, o, hp, h => by
    cases l with
    | nil => exact ss_nil
    | cons x l => exact absurd h Bool.false_ne_true
  | .cons s ss, l, X, S, Z, o, hp, h => by
    cases l with
    | nil => exact absurd h Bool.false_ne_true
    | cons x l =>
      obtain ⟨h1, h2⟩ := ba2 h
      exact ss_cons (sndS s x X S Z o hp h1) (sndSs ss l X S Z o hp h2)
end
end
end Mi
namespace Mi
open PySem PySem.Spec PyProof.Rows L2
/-! ### a def's own cells are forgotten at its end -/
def cut (d : Wd) (b : Nat) : Wd := { d with m := d.m.take b }
section
variable {G : Gd} {K : W.Frag} {Z : WX} {d d' : Wd} {H : Hp} {st : Store}
theorem RepW.cut {v : V} {w : W} {n b : Nat} (h : RepW G K d v w) (hb : below n w = true) (hn : n ≤ b) : RepW G K (cut d b) v w := by
  cases w with
  | d x => exact h
  | ref k =>
    obtain ⟨a, h1, h2⟩ := h
    have hk : k < n := of_decide_eq_true hb
    exact ⟨a, h1, by show (d.m.take b)[k]? = some a; rw [List.getElem?_take_of_lt (by omega)]; exact h2⟩
theorem RepWs.cut {n b : Nat} (hn : n ≤ b) : ∀ {vs : List V} {ws : List W}, RepWs G K d vs ws → (∀ w ∈ ws, below n w = true) → RepWs G K (cut d b) vs ws
  | _, _, .nil, _ => .nil
  | _, _, .cons r q, h => .cons (r.cut (h _ List.mem_cons_self) hn) (RepWs.cut hn q fun w hw => h w (List.mem_cons_of_mem _ hw))
theorem RepKs.cut {n b : Nat} (hn : n ≤ b) : ∀ {vs : List (Key × V)} {ws : List (Key × W)}, RepKs G K d vs ws → (∀ p ∈ ws, below n p.2 = true) → RepKs G K (cut d b) vs ws
  | _, _, .nil, _ => .nil
  | _, _, .cons r q, h => .cons ⟨r.1, r.2.cut (h _ List.mem_cons_self) hn⟩ (RepKs.cut hn q fun w hw => h w (List.mem_cons_of_mem _ hw))
theorem SR.cut (s : SR G K d H st) (b : Nat) : SR G K (cut d b) H (st.take b) := by
  have tk : ∀ {a : Addr}, a ∈ d.m.take b → a ∈ d.m := fun h => List.mem_of_mem_take h
  refine ⟨s.sub, fun a o h => ?_, ?_, (List.take_sublist _ _).nodup s.nd, fun a h => s.thr a (tk h), fun n c e => ?_, fun p hp => ?_, s.nt⟩
  · obtain ⟨h1, h2, h3⟩ := s.res a o h
    exact ⟨h1, h2, fun z => h3 (tk z)⟩
  · show (d.m.take b).length = _
    rw [List.length_take, List.length_take, s.len]
  · have hn : n < b := by
      have := (List.getElem?_eq_some_iff.mp e).1
      rw [List.length_take] at this; omega
    rw [List.getElem?_take_of_lt hn] at e
    obtain ⟨a, h1, h2⟩ := s.live n c e
    refine ⟨a, by show (d.m.take b)[n]? = some a; rw [List.getElem?_take_of_lt hn]; exact h1, ?_⟩
    cases c with
    | lst ws =>
      obtain ⟨q1, q2, vs, q3, q4⟩ := h2
      exact ⟨q1, q2, vs, q3, q4.cut (Nat.le_of_lt hn) q2⟩
    | dct kvs =>
      obtain ⟨q1, q2, vs, q3, q4⟩ := h2
      exact ⟨q1, q2, vs, q3, q4.cut (Nat.le_of_lt hn) q2⟩
    | frz x => exact h2
  · obtain ⟨h1, h2, h3, h4⟩ := s.tab p hp
    exact ⟨h1, h2, h3, fun z => h4 (tk z)⟩
theorem Le.cut (e : Le d d') {b : Nat} (h : d.m.length ≤ b) : Le d (cut d' b) := ⟨e.hf, e.rs, fun k a q => by
  have hk : k < d.m.length := (List.getElem?_eq_some_iff.mp q).1
  show (d'.m.take b)[k]? = some a
  rw [List.getElem?_take_of_lt (by omega)]
  exact e.m k a q⟩
theorem handed_ok {keep : Bool} {b : Nat} {v : V} {w : W} {σ : L2.St} {Q : VK} (hb : d.m.length = b) (le : Le d d') (s : SR G K d' H st) (r : RepW G K d' v w) (h : Lk G K (RepW G K) Z σ d (handed keep b w st) Q) : Q v H := by
  unfold handed at h
  cases keep with
  | true => exact h v H d' le s r
  | false =>
    rw [if_neg Bool.false_ne_true] at h
    cases w with
    | d x => exact h v H (cut d' b) (le.cut (by omega)) (s.cut b) r
    | ref n =>
      have h : Lk G K (RepW G K) Z σ d (if n < b then .ok (.ref n) (st.take b) else (fz (.ref n) st).bind fun x st1 => .ok (.d x) (st1.take b)) Q := h
      by_cases hn : n < b
      · rw [if_pos hn] at h
        exact h v H (cut d' b) (le.cut (by omega)) (s.cut b) (RepW.cut (n := b) r (decide_eq_true hn) (Nat.le_refl _))
      · rw [if_neg hn] at h
        unfold fz at h
        cases q : fzW st.length (.ref n) st with
        | none => rw [q] at h; exact h.elim
        | some y =>
          obtain ⟨x, st1⟩ := y
          rw [q] at h
          obtain ⟨d2, l2, s2, r2, _, _⟩ := fz_ok _ _ d' st st1 v x s r q
          exact h v H (cut d2 b) ((le.trans l2).cut (by omega)) (s2.cut b) r2
theorem env_start {vs : List V} {ws : List W} {f : Def} {N : List Str} (r : RepWs G K d vs ws) (hn : f.ns = N.length) : EnvR G K d (L2.start N vs) (start f ws) := by
  have hl := r.len
  refine ⟨by unfold Mi.start L2.start; simp [hl, hn], fun i w e => ?_⟩
  unfold Mi.start at e
  unfold L2.start
  by_cases hi : i < ws.length
  · rw [List.getElem?_append_left (by simpa using hi)] at e
    rw [List.getElem?_append_left (by simpa [hl] using hi)]
    rw [List.getElem?_map] at e ⊢
    cases q : ws[i]? with
    | none => rw [q] at e; cases e
    | some w' =>
      rw [q] at e
      cases e
      obtain ⟨v, h1, h2⟩ := paired_get r q
      exact ⟨v, by rw [h1]; rfl, h2⟩
  · rw [List.getElem?_append_right (by simpa using hi)] at e
    have := List.mem_of_getElem? e
    have := List.eq_of_mem_replicate this
    cases this
end
/-! ### a def keeps what its text says -/
def defB (T : Nm) (f : Nat) (d : Def) (t : TxD) : Bool :=
  C8.scC t.N (T.par f) t.scope && decide (t.as.map (·.arg) = T.par f) && decide ((T.par f).Nodup) && decide (d.np = (T.par f).length) && decide (d.ns = t.N.length) && chkSs T ⟨t.N, t.scope, fun _ => true, T.lam f⟩ d.body t.body
def Prog.ctx (P : Prog) (n : Nat) : Ctx := ⟨callD P n, P.turns, P.sub, P.flds⟩
section
variable {G : Gd} {T : Nm} {P : Program} {w : World} {K : W.Frag} {mg : Str → Option Value} {base : Heap} {Pg : Prog} {n : Nat}
theorem fnG_of {f : Nat} {a : Addr} {d : Def} {t : TxD} {name qual : Str} {dV kV doc pm cdv ct oc : Value} {an od : Option Addr} {osl : Array (Option Value)}
    (lk : K.lookup a = some ⟨oc, od, .func (PySem.W.fnOf name qual ⟨[], t.as, none, [], [], none, []⟩ t.body t.scope dV kV doc pm an cdv ct), osl⟩) (hcd : PySem.W.codeIn K cdv qual = true) (hd : Pg.defs f = some d) (hb : defB T f d t = true) (hlam : T.lam f = true → ∃ c P, cdv = .ref c ∧ LamX.TabB base mg c P ∧ (P, (qual ++ ".<locals>.") ++ "<lambda>") ∈ G.T ∧ ∀ p ∈ G.T, p.1 = P → p.2 = (qual ++ ".<locals>.") ++ "<lambda>") (g : GOk G T P w K mg base n (Pg.ctx n)) :
    FnG P w K mg base (n + 1) a (PySem.W.fnOf name qual ⟨[], t.as, none, [], [], none, []⟩ t.body t.scope dV kV doc pm an cdv ct) (T.par f) (spD G K (callD Pg (n + 1)) f) := by
  obtain ⟨h1, h6⟩ := ba2 hb
  obtain ⟨h1, h5⟩ := ba2 h1
  obtain ⟨h1, h4⟩ := ba2 h1
  obtain ⟨h1, h3⟩ := ba2 h1
  obtain ⟨h1, h2⟩ := ba2 h1
  have hnp : d.np = (T.par f).length := of_decide_eq_true h4
  have hns : d.ns = t.N.length := of_decide_eq_true h5
  have FS : FnScope t.N (T.par f) t.scope := C8.fnScope_by h1
  have look : ∀ (ws : List W) (st : Store), callD Pg (n + 1) f ws st = runD (Pg.ctx n) d ws st := fun ws st => by
    show (match Pg.defs f with | some d => runD ⟨callD Pg n, Pg.turns, Pg.sub, Pg.flds⟩ d ws st | none => .stuck) = _
    rw [hd]; rfl
  have hlen : ∀ vs H Q E, spD G K (callD Pg (n + 1)) f vs H Q E → vs.length = (T.par f).length := fun vs H Q E ⟨d0, st, ws, s, r, h⟩ => by
    rw [look] at h
    unfold runD at h
    by_cases hw : ws.length = d.np
    · rw [r.len, hw, hnp]
    · rw [if_neg hw] at h; exact h.elim
  refine ⟨hlen, fun A outer s H args us vs Q E hr gd e0 hbd rv hsp => ?_⟩
  refine LamX.run_ofS lk hcd FS hr e0 hbd rv (hlen _ _ _ _ hsp) fun hr' => ?_
  obtain ⟨d0, st, ws, sr, r, h⟩ := hsp
  rw [look] at h
  unfold runD at h
  by_cases hw : ws.length = d.np
  · rw [if_pos hw] at h
    let X : Cx := cxOf (L2.CX P w) P w K mg base t.N qual t.scope a cdv A outer s H E
    have o : XOk G T X ⟨t.N, t.scope, fun _ => true, T.lam f⟩ (Pg.ctx n) n (fun cls dd _ H => E cls dd H) := {
      N := rfl
      sc := rfl
      nd := FS.nd
      calm := rfl
      tk := takes_of rfl rfl rfl rfl
      rm := hr'.mono (by omega)
      la := fun z => ⟨hr', let ⟨c, P, e1, e2, e3, e4⟩ := hlam z; ⟨c, P, e1, e2, e3, e4⟩⟩
      gd := gd
      fn := rfl
      g := g }
    refine ⟨tSs G K (Pg.ctx n) (fun cls dd _ H => E cls dd H) d.body, sndSs d.body t.body X _ _ o (passes_of rfl) h6, d0, st, start d ws, sr, env_start r hns, ?_⟩
    have hm : d0.m.length = st.length := sr.len
    cases q : evSs (Pg.ctx n) d.body (start d ws) st with
    | stuck => rw [q] at h; exact h.elim
    | exc c fs env st1 =>
      rw [q] at h
      exact fun cls dd σ H1 d1 l1 s1 er re => h cls dd H1 (cut d1 st.length) (l1.cut (by omega)) (s1.cut _) re
    | ok out st1 =>
      rw [q] at h
      cases out with
      | nx env => exact fun σ H1 d1 l1 s1 er => handed_ok hm l1 s1 (v := .non) (w := .d .non) RepD.non h
      | ret w' => exact fun v H1 d1 l1 s1 r1 => handed_ok hm l1 s1 r1 h
      | bk env => exact h.elim
      | ct env => exact h.elim
  · rw [if_neg hw] at h; exact h.elim
/-- what is known of the defs of a row -/
structure Known (G : Gd) (T : Nm) (P : Program) (K : W.Frag) (mg : Str → Option Value) (base : Heap) (Pg : Prog) : Prop where
  fns : ∀ f x, T.fn f = some x → ∃ (a : Addr) (d : Def) (t : TxD) (name qual : Str) (dV kV doc pm cdv ct oc : Value) (an od : Option Addr) (osl : Array (Option Value)), G.fa f = some a ∧ mg x = some (.ref a) ∧ W.keepIn K (.ref a) = true ∧
    K.lookup a = some ⟨oc, od, .func (PySem.W.fnOf name qual ⟨[], t.as, none, [], [], none, []⟩ t.body t.scope dV kV doc pm an cdv ct), osl⟩ ∧ PySem.W.codeIn K cdv qual = true ∧ (PySem.W.fnOf name qual ⟨[], t.as, none, [], [], none, []⟩ t.body t.scope dV kV doc pm an cdv ct).defaults = .none ∧ Pg.defs f = some d ∧ defB T f d t = true ∧ (T.lam f = true → ∃ c P, cdv = .ref c ∧ LamX.TabB base mg c P ∧ (P, (qual ++ ".<locals>.") ++ "<lambda>") ∈ G.T ∧ ∀ p ∈ G.T, p.1 = P → p.2 = (qual ++ ".<locals>.") ++ "<lambda>")
  fas : ∀ f a, G.fa f = some a → ∃ x, T.fn f = some x
  blt : ∀ x ∈ blts, mg x = none
  cls : ∀ c Ca, G.ca c = some Ca → ∃ x, T.cl c = some x
  cla : ∀ c x, T.cl c = some x → ∃ Ca, G.ca c = some Ca ∧ ClsF K mg x Ca
  sub : ∀ c c' Ca Ca', G.ca c = some Ca → G.ca c' = some Ca' → PySem.W.exmOne K (.ref Ca) (.ref Ca') = some (Pg.sub c c') ∧ PySem.W.kitOne K (.ref Ca) (.ref Ca') = some (Pg.sub c c')
  pln : ∀ c Ca, G.ca c = some Ca → T.pln c = true → Pg.flds c = [] ∧ PySem.W.excIn K Ca He.veBase "ValueError.__new__" = true
  ini : ∀ c Ca fld, G.ca c = some Ca → T.ini c = some fld → Pg.flds c = [fld] ∧ ∃ fI F sv pv, IniF P K mg Ca fI F sv pv fld
  nof : ∀ c Ca f, G.ca c = some Ca → f ∈ T.fl → PySem.W.findIn K (.ref Ca) f = some none
  cau : ∀ t, T.cau = some t → T.cl 0 = some (Str.ofString "StopError") ∧ cauB t = true ∧ ∃ (g : Addr) (dV kV doc pm cdv ct oc : Value) (an od : Option Addr) (osl : Array (Option Value)), mg "_law_caught" = some (.ref g) ∧ W.keepIn K (.ref g) = true ∧
    K.lookup g = some ⟨oc, od, .func (PySem.W.fnOf "_law_caught" "_law_caught" ⟨[], t.as, none, [], [], none, []⟩ t.body t.scope dV kV doc pm an cdv ct), osl⟩ ∧ PySem.W.codeIn K cdv "_law_caught" = true ∧ (PySem.W.fnOf "_law_caught" "_law_caught" ⟨[], t.as, none, [], [], none, []⟩ t.body t.scope dV kV doc pm an cdv ct).defaults = .none
theorem gok_of (k : Known G T P K mg base Pg) : ∀ n, GOk G T P w K mg base n (Pg.ctx n)
  | 0 => ⟨fun f x e => by
      obtain ⟨a, d, t, name, qual, dV, kV, doc, pm, cdv, ct, oc, an, od, osl, h1, h2, h3, h4, h5, h6, h7, h8, h9⟩ := k.fns f x e
      obtain ⟨q, _⟩ := ba2 h8
      obtain ⟨q, _⟩ := ba2 q
      obtain ⟨q, _⟩ := ba2 q
      obtain ⟨q, q3⟩ := ba2 q
      obtain ⟨q, q2⟩ := ba2 q
      exact ⟨a, _, t.as, h1, h2, h3, rfl, h6, of_decide_eq_true q2, of_decide_eq_true q3, ⟨fun vs H Q E ⟨d0, st, ws, s, r, h⟩ => h.elim, fun A outer s H args us vs Q E hr gd e0 hb rv ⟨d0, st, ws, s', r, h⟩ => h.elim⟩⟩, k.fas, k.blt, k.cls, k.cla, k.sub, k.pln, k.ini, k.nof, k.cau⟩
  | n + 1 => ⟨fun f x e => by
      obtain ⟨a, d, t, name, qual, dV, kV, doc, pm, cdv, ct, oc, an, od, osl, h1, h2, h3, h4, h5, h6, h7, h8, h9⟩ := k.fns f x e
      obtain ⟨q, _⟩ := ba2 h8
      obtain ⟨q, _⟩ := ba2 q
      obtain ⟨q, _⟩ := ba2 q
      obtain ⟨q, q3⟩ := ba2 q
      obtain ⟨q, q2⟩ := ba2 q
      exact ⟨a, _, t.as, h1, h2, h3, rfl, h6, of_decide_eq_true q2, of_decide_eq_true q3, fnG_of h4 h5 h7 h8 h9 (gok_of k n)⟩, k.fas, k.blt, k.cls, k.cla, k.sub, k.pln, k.ini, k.nof, k.cau⟩
end
end Mi
namespace Mi
open PySem PySem.Spec PyProof.Rows L2
/-! ### the end: a law called with a script -/
section
variable {P : Program} {w : World} {K : W.Frag} {mg mb : Str → Option Value} {s₁ : Shared} {a : Addr} {vs : List Value} {ns : List Int} {tabs : List Addr}
/-- what is told at the call: the script (if the written part doesn't hold it), the tables -/
def lawH (K : W.Frag) (a : Addr) (o : Obj) (ns : List Int) (tabs : List Addr) : Hp := fun b =>
  if b = a then (if (K.lookup a).isSome = true then none else some (.frz o (.lst (ns.map V.int)))) else if b ∈ tabs then some (.tbl #[]) else none
abbrev scriptO (vs : List Value) : Obj := { cls := .type "list", data := .seq vs.toArray }
abbrev tableO : Obj := { cls := .none, data := .fields #[] }
theorem lawH_cases {o : Obj} {b : Addr} {u : HO} (h : lawH K a o ns tabs b = some u) : (b = a ∧ K.lookup a = none ∧ u = .frz o (.lst (ns.map V.int))) ∨ (b ≠ a ∧ b ∈ tabs ∧ u = .tbl #[]) := by
  unfold lawH at h
  split at h
  · rename_i hb
    split at h
    · cases h
    · rename_i hk
      cases h
      refine .inl ⟨hb, ?_, rfl⟩
      cases q : K.lookup a with
      | none => rfl
      | some u => rw [q] at hk; exact absurd rfl hk
  · rename_i hb
    split at h
    · rename_i ht
      cases h
      exact .inr ⟨hb, ht, rfl⟩
    · cases h
theorem lawH_tab {o : Obj} {b : Addr} (hb : b ∈ tabs) (hne : b ≠ a) : lawH K a o ns tabs b = some (.tbl #[]) := by
  unfold lawH
  rw [if_neg hne, if_pos hb]
theorem ints_vals : ∀ {vs : List Value} {ns : List Int}, IntsAre vs ns → Vals (ns.map V.int) vs := vals_ints
/-- the script as a value of my text -/
theorem script_rep (G : Gd) {hf : Hp} : ∀ {ns : List Int}, RepDs G K hf (ns.map V.int) (ns.map D.int)
  | [] => .nil
  | i :: ns => .cons (.int i) (script_rep G)
/-- the part of it that never changes -/
def frzOf (H : Hp) : Hp := fun b => match H b with
  | some (.frz o u) => some (.frz o u)
  | _ => none
theorem frzOf_some {H : Hp} {b : Addr} {u : HO} (h : frzOf H b = some u) : H b = some u ∧ ∃ o v, u = .frz o v := by
  unfold frzOf at h
  split at h
  · rename_i o v e
    cases h
    exact ⟨e, o, v, rfl⟩
  · cases h
theorem law_end {fa : Addr} {G : Gd} {T : Nm} {Pg : Prog} {n f : Nat} {x y : Str} {st : Store} (KX : K.In s₁.heap) (hns : s₁.heap.Ns mainGlobals mg) (hb : s₁.heap.Ns builtinsNs mb) (hbb : ∀ x : Str, x ≠ "__name__" → mb x = bootBuiltins x) (hlim : s₁.heap.NoLimit) (hg : s₁.gens = #[])
    (hT : ∀ p ∈ tabs, s₁.heap.get? p = some tableO) (nT : ∀ p ∈ tabs, K.lookup p = none) (hC : ∀ p ∈ tabs, ∃ c, PySem.W.CodeHd s₁.heap c p)
    (hbm : ∃ (bm : Addr) (ob : Obj), mg "__builtins__" = some (.ref bm) ∧ bm ≠ builtinsNs ∧ s₁.heap.get? bm = some ob ∧ ob.cls = .type "module" ∧ ob.dict = some builtinsNs ∧ ob.data = .plain)
    (ha : s₁.heap.get? a = some (scriptO vs)) (hi : IntsAre vs ns) (hl : ns.length ≤ sizeLine) (hr : RoomN n callerA)
    (hGT : ∀ q ∈ G.T, q.1 ∈ tabs) (F : ∀ base : Heap, K.In base → base.Ns mainGlobals mg → (∀ p ∈ tabs, base.BuiltinsAt mg p ∧ mainGlobals ≠ p) → Known G T P K mg base Pg)
    (hf : T.fn f = some x) (hp : T.par f = [y]) (hfa : mg x = some (.ref fa)) (run : callD Pg n f [.d (.lst (ns.map D.int))] [] = .ok (.d (.bl true)) st) :
    codeAny (model P w) callerA (.call (.ref fa) ⟨[.ref a], []⟩) (fun r s' => r = .ok (.ret (.bool true)) ∧ OldK s₁.heap s'.heap ∧ s'.os = s₁.os ∧ AllBare s'.gens) s₁ := by
  obtain ⟨H, hH⟩ : ∃ H, H = lawH K a (scriptO vs) ns tabs := ⟨_, rfl⟩
  have cases_ : ∀ {b : Addr} {u : HO}, H b = some u → (b = a ∧ K.lookup a = none ∧ u = .frz (scriptO vs) (.lst (ns.map V.int))) ∨ (b ≠ a ∧ b ∈ tabs ∧ u = .tbl #[]) := fun h => lawH_cases (by rw [← hH]; exact h)
  have aTab : ∀ p ∈ tabs, p ≠ a := fun p hp z => by
    have := hT p hp
    rw [z, ha] at this
    have := congrArg Obj.data (Option.some.inj this)
    cases this
  have tabH : ∀ p ∈ tabs, H p = some (.tbl #[]) := fun p hp => by rw [hH]; exact lawH_tab hp (aTab p hp)
  have rv := ints_vals hi
  have hlen : vs.length = ns.length := hi.length
  -- the abstract heap is held
  have hok : HOk P w H s₁.heap := fun b u e => by
    rcases cases_ e with ⟨rfl, _, rfl⟩ | ⟨_, ht, rfl⟩
    · exact ⟨ha, by rw [List.length_map]; exact hl, vs, _, rv, ha⟩
    · exact hT b ht
  -- what is not told stays in the base
  have untold : ∀ {b : Addr} {o : Obj}, s₁.heap.get? b = some o → (∀ its k, o.data ≠ .seq its k) → o.data ≠ .fields #[] → H b = none := fun {b o} e h1 h2 => by
    cases q : H b with
    | none => rfl
    | some u =>
      rcases cases_ q with ⟨rfl, _, _⟩ | ⟨_, ht, _⟩
      · rw [ha] at e; cases e; exact absurd rfl (h1 _ _)
      · rw [hT b ht] at e; cases e; exact absurd rfl h2
  have inBase : ∀ {b : Addr} {o : Obj}, s₁.heap.get? b = some o → (∀ its k, o.data ≠ .seq its k) → o.data ≠ .fields #[] → (hidT s₁.heap H).get? b = some o := fun e h1 h2 => hidT_get e (untold e h1 h2)
  have nsBase : ∀ {b : Addr} {m : Str → Option Value}, s₁.heap.Ns b m → (hidT s₁.heap H).Ns b m := fun ⟨o, es, ep, e, dt, r⟩ =>
    ⟨o, es, ep, inBase e (fun its k z => by rw [dt] at z; cases z) (fun z => by rw [dt] at z; cases z), dt, r⟩
  have KB : K.In (hidT s₁.heap H) := fun b o e => by
    refine hidT_get (KX b o e) ?_
    cases q : H b with
    | none => rfl
    | some u =>
      rcases cases_ q with ⟨rfl, hk, _⟩ | ⟨_, ht, _⟩
      · rw [hk] at e; cases e
      · rw [nT b ht] at e; cases e
  have modB : L2.Mod K mg (hidT s₁.heap H) := ⟨KB, nsBase hns, ⟨mb, nsBase hb, hbb⟩, let ⟨mc, h1, h2⟩ := hlim; ⟨mc, nsBase h1, h2⟩⟩
  have mainNe : ∀ p ∈ tabs, mainGlobals ≠ p := fun p hp z => by
    obtain ⟨o, es, ep, e, dt, _⟩ := hns
    rw [z, hT p hp] at e; cases e; cases dt
  have tabB : ∀ p ∈ tabs, (hidT s₁.heap H).BuiltinsAt mg p ∧ mainGlobals ≠ p := fun p hp => by
    refine ⟨?_, mainNe p hp⟩
    obtain ⟨bm, ob, b1, b2, b3, b4, b5, b6⟩ := hbm
    have other : ∀ {q : Addr} {o : Obj}, s₁.heap.get? q = some o → o.data ≠ .plain → bm ≠ q := fun e h z => by
      rw [z, e] at b3; cases b3; exact h b6
    refine ⟨bm, ob, b1, b2, ?_, other (hT p hp) (fun z => by cases z), inBase b3 (fun its k z => by rw [b6] at z; cases z) (fun z => by rw [b6] at z; cases z), b4, b5, b6⟩
    obtain ⟨o, es, ep, e, dt, _⟩ := hns
    exact other e fun z => by rw [dt] at z; cases z
  have e0 : Env0 P w K mg (hidT s₁.heap H) callerA [] s₁ H := ⟨rfl, modB, fun b o e => of_hidT e, Nat.le_of_eq (hidT_size _ _), trivial, fun b hm => (nomatch hm), hok, .of_eq hg⟩
  -- the def
  have g := gok_of (P := P) (w := w) (F _ KB (nsBase hns) tabB) n
  obtain ⟨fa', fd, as, g1, g2, g3, p1, p2, p3, p4, FG⟩ := g.fns f x hf
  rw [hfa] at g2; cases g2
  have bnd : BindsTo s₁ fd ⟨[.ref a], []⟩ ((T.par f).zip [Value.ref a]) := by
    have := binds_of (K := K) p1 p2 (by rw [p3]; exact p4) s₁ [.ref a] KX (by rw [p3, hp]; rfl)
    rw [p3] at this
    simpa using this
  have isLst : SqL K (frzOf H) a (ns.map V.int) := by
    cases q : K.lookup a with
    | none =>
      refine .inl (.inr ⟨scriptO vs, ?_⟩)
      unfold frzOf
      rw [hH]
      unfold lawH
      rw [if_pos rfl, q, if_neg (by simp)]
    | some o =>
      have e := KX a o q
      rw [ha] at e; cases e
      exact .inr ⟨_, vs.toArray, _, q, rfl, rfl, rfl, by rw [List.size_toArray, hlen]; exact hl, by simpa using rv⟩
  have sp : spD G K (callD Pg n) f [.ref a] H (fun v _ => v = .bl true) fun _ _ _ => False := by
    have sr : SR G K ⟨frzOf H, fun _ => none, []⟩ H [] := by
      refine { sub := fun b u e => (frzOf_some e).1, res := fun b u e => (nomatch e), len := rfl, nd := List.nodup_nil, thr := fun b hm => (nomatch hm), live := fun k c e => by simp at e, tab := fun q hq => ?_, nt := fun b ps => ⟨fun z => ?_, fun z => (nomatch z)⟩ }
      · have hq' := tabH _ (hGT q hq)
        refine ⟨⟨#[], hq', ?_, fun pos cv hc => ?_⟩, ?_, rfl, fun hm => nomatch hm⟩
        · simp [TriplesOk]
        · simp [codeAmong] at hc
        · show frzOf H q.1 = none
          unfold frzOf
          rw [hq']
      · obtain ⟨_, o, v, z2⟩ := frzOf_some z
        cases z2
    refine ⟨_, [], [.d (.lst (ns.map D.int))], sr, .cons (show RepW G K _ _ _ from RepD.lst isLst (script_rep G)) .nil, ?_⟩
    rw [run]
    intro v H1 d1 l1 s1 r1
    have r1 : RepD G K d1.hf v (.bl true) := r1
    cases r1
    rfl
  refine codeAny_mono (FG.run callerA [] s₁ H ⟨[.ref a], []⟩ [.ref a] [.ref a] _ _ hr rfl e0 bnd (.cons rfl .nil) sp) fun r s' h => ?_
  cases r with
  | error e => obtain ⟨_, _, _, _, _, _, _, _, _, _, _, _, z⟩ := h; exact z.elim
  | ok fl =>
    cases fl with
    | next => exact h.elim
    | brk => exact h.elim
    | cont => exact h.elim
    | ret u =>
      obtain ⟨v, H', os, bare, un, hok', rel, q⟩ := h
      subst q
      obtain rfl : u = Value.bool true := rel
      -- every object is as it was, the tables have grown
      have was : ∀ b o, b ∉ tabs → s₁.heap.get? b = some o → s'.heap.get? b = some o := fun b o nb e => by
        cases q : H b with
        | none => exact un.keep b o e q (fun z => nomatch z) fun z => nomatch z
        | some u =>
          rcases cases_ q with ⟨rfl, _, rfl⟩ | ⟨_, ht, _⟩
          · have e2 := (hok' b _ (un.frzs b _ _ q)).1
            rw [ha] at e; cases e
            exact e2
          · exact absurd ht nb
      have more : ∀ b ∈ tabs, ∃ vs : Array Value, s'.heap.get? b = some { cls := .none, data := .fields vs } := fun b hm => by
        obtain ⟨m, z⟩ := un.tbls b #[] (tabH b hm)
        exact ⟨_, hok' b _ z⟩
      refine ⟨rfl, ⟨fun b o e => ?_, fun b o e => ?_⟩, os, bare⟩
      · by_cases hm : b ∈ tabs
        · obtain ⟨m, hm2⟩ := more b hm
          obtain ⟨c, hc⟩ := hC b hm
          rw [hT b hm] at e; cases e
          exact .inr (.inl ⟨(hc.tab (hT b hm)).isCodeTable, rfl, #[], m, rfl, by rw [hm2]; simp⟩)
        · exact .inl (was b o hm e)
      · by_cases hm : b ∈ tabs
        · obtain ⟨m, hm2⟩ := more b hm
          exact ⟨_, hm2⟩
        · exact ⟨o, was b o hm e⟩
end
end Mi
namespace Mi
open PySem PySem.Spec PyProof.Rows L2
/-! ### a law's text as data -/
structure FnT where
  x : Str
  d : Def
  t : TxD
  lam : Bool
structure ClT where
  x : Str
  pln : Bool
  fld : Option Str
structure LawT where
  fns : List FnT
  cls : List ClT
  sub : Nat → Nat → Bool
  flds : Nat → List Str
  cau : Option TxD
  prgm : Program
  fl : List Str
def txOf (N : List Str) : Stmt → TxD
  | .FunctionDef _ args body _ _ _ scope _ _ _ => ⟨args.args, body, scope, N⟩
  | _ => ⟨[], [], ⟨.function, [], false, false, []⟩, []⟩
section
variable (L : LawT)
def LawT.nm : Nm where
  fn := fun f => (L.fns[f]?).map (·.x)
  cl := fun c => (L.cls[c]?).map (·.x)
  par := fun f => match L.fns[f]? with | some q => q.t.as.map (·.arg) | none => []
  lam := fun f => match L.fns[f]? with | some q => q.lam | none => false
  cau := L.cau
  pln := fun c => match L.cls[c]? with | some q => q.pln | none => false
  ini := fun c => match L.cls[c]? with | some q => q.fld | none => none
  fl := L.fl
def LawT.prog (turns : Nat) : Prog := ⟨fun f => (L.fns[f]?).map (·.d), turns, L.sub, L.flds⟩
def LawT.tf : List He.Defn := (L.fns.filter (·.lam)).map fun q => (q.x, none)
def LawT.gd (K : W.Frag) : Gd := ⟨fun f => (L.fns[f]?).map fun q => He.ga K q.x, fun c => (L.cls[c]?).map fun q => He.ga K q.x, L.tf.map fun p => ((He.cT K p).2, (p.1 ++ ".<locals>.") ++ "<lambda>")⟩
def defOf_ (x : Str) (t : TxD) : He.DefD := ⟨(x, none), x, x, ⟨[], t.as, none, [], [], none, []⟩, t.body, t.scope, [], []⟩
def LawT.dfs : List He.DefD := (L.fns.map fun q => defOf_ q.x q.t) ++ (match L.cau with | some t => [defOf_ "_law_caught" t] | none => [])
def LawT.fa : List He.Fa := (L.fns.map fun q => .glo q.x) ++ (L.cls.map fun q => .glo q.x) ++ (match L.cau with | some _ => [.glo "_law_caught"] | none => []) ++ blts.map .free
def excCB (K : W.Frag) (D : Addr) : Bool :=
  He.eqO (PySem.W.findIn K (.ref D) "__getattribute__") (some (some (.builtin "BaseException.__getattribute__"))) && He.eqO (PySem.W.findIn K (.ref D) "__getattr__") (some none) && decide (PySem.W.subIn K (.ref D) (.type "BaseException") = some true) && PySem.W.hasDictIn K D &&
    He.eqO (PySem.W.findIn K (.ref D) "__class__") (some (some (.builtin "object.__class__"))) && He.eqO (PySem.W.specialIn K (.builtin "object.__class__") "__get__") (some (some (.builtin "getset_descriptor.__get__"))) && decide (PySem.W.takesIn K (.builtin "object.__class__") = some true) && decide (PySem.W.mroIn K D (.type "object") = some true)
def fileB (P : Program) (K : W.Frag) (c : Addr) : Bool := match K.lookup c with
  | some co => match co.data with
    | .fields vs => match (vs[2]? : Option Value) with
      | some (.str fl _) => (P.main.file : Str) == fl
      | _ => false
    | _ => false
  | none => false
def cellB (K : W.Frag) (cc Ca : Addr) : Bool := match K.lookup cc with
  | some co => match co.data with
    | .cell (some (.ref a)) => decide (a = Ca)
    | _ => false
  | none => false
def supB (sv pv fld : Str) : List Stmt → Bool
  | [.Expr (.Call (.Attribute (.Call (.Name s _) [] [] _) i p2) [.Constant (.str _) _ _] [] p4) _, .Assign [.Attribute (.Name x _) f _] (.Name y _) _] =>
    decide (s = Str.ofString "super") && decide (i = Str.ofString "__init__") && (p2.endLine == p4.line) && decide (x = sv) && decide (f = fld) && decide (y = pv)
  | _ => false
def oexB (K : W.Frag) (C : Addr) : Bool := match K.lookup C with
  | some ⟨.type t, _, .cls ⟨_, _, .ref C' :: bm, _, _, hd, _, _, _, _, del⟩, sl⟩ => match sl.toList with
    | [_, _, _, _, some (.builtin nw), _] => decide (t = "type") && decide (C' = C) && hd && !del && PySem.HandSPX.refsVE bm && decide (nw = "ValueError.__new__")
    | _ => false
  | _ => false
def oneB (y : Str) : Bool := !(y == ("__debug__" : Str)) && !(y == ("__classdict__" : Str))
def iniB (P : Program) (K : W.Frag) (Ca : Addr) (fld : Str) : Bool := match PySem.W.findIn K (.ref Ca) "__init__" with
  | some (some (.ref fI)) => match K.lookup fI with
    | some ⟨_, _, .func ⟨_, qn, ⟨[], [a1, a2], none, [], [], none, []⟩, .stmts body, sc, gl, [(cn, cc)], .none, _, _, _, _, .ref c, _, bl⟩, _⟩ =>
      decide (gl = mainGlobals) && decide (bl = builtinsNs) && decide (cn = Str.ofString "__class__") && PySem.W.codeIn K (.ref c) qn && fileB P K c && cellB K cc Ca && supB a1.arg a2.arg fld body && NdefX.nscB [a1.arg, a2.arg, "__class__"] [a1.arg, a2.arg] ["__class__"] sc &&
        decide (sc.names.lookup ("super" : Str) = some .globalImplicit) && oneB a1.arg && oneB a2.arg && decide (PySem.W.typeIn K (.ref fI) = some (.type "function"))
    | _ => false
  | _ => false
def iniC (P : Program) (K : W.Frag) (Ca : Addr) (fld : Str) : Bool :=
  iniB P K Ca fld && oexB K Ca && He.eqO (PySem.W.findIn K (.ref Ca) "__setattr__") (some (some (.builtin "object.__setattr__"))) && decide (PySem.W.subIn K (.ref Ca) (.type "BaseException") = some true) && decide (PySem.W.typeIn K (.ref Ca) = some (.type "type")) && PySem.W.keepIn K (.ref Ca) &&
    He.eqO (PySem.W.ks_superIn K Ca Ca "__init__") (some (some (.builtin "ValueError.__init__"))) && decide (PySem.W.mroIn K Ca (.ref Ca) = some true) && decide (PySem.W.subIn K (.ref Ca) (.type "ValueError") = some true) && He.eqO (PySem.W.nsIn K cStatics "thirdparty.any") (some none) &&
    He.eqO (PySem.W.findIn K (.ref Ca) fld) (some none) && !(P.main.scope.names.lookup ("super" : Str)).isSome
def LawT.clsB (K : W.Frag) (q : ClT) : Bool :=
  PySem.W.keepIn K (.ref (He.ga K q.x)) && decide (PySem.W.typeIn K (.ref (He.ga K q.x)) = some (.type "type")) && excCB K (He.ga K q.x) && (!q.pln || PySem.W.excIn K (He.ga K q.x) He.veBase "ValueError.__new__") && (match q.fld with | some f => iniC L.prgm K (He.ga K q.x) f | none => true) && L.fl.all fun f => He.eqO (PySem.W.findIn K (.ref (He.ga K q.x)) f) (some none)
def LawT.pairs (K : W.Frag) : Bool := (List.range L.cls.length).all fun i => (List.range L.cls.length).all fun j => match L.cls[i]?, L.cls[j]? with
  | some p, some q => decide (PySem.W.exmOne K (.ref (He.ga K p.x)) (.ref (He.ga K q.x)) = some (L.sub i j)) && decide (PySem.W.kitOne K (.ref (He.ga K p.x)) (.ref (He.ga K q.x)) = some (L.sub i j))
  | _, _ => false
def LawT.ex (K : W.Frag) : Bool := L.cls.all (L.clsB K) && L.pairs K && L.tf.all fun p => L.tf.all fun q => !decide ((He.cT K p).2 = (He.cT K q).2) || decide (p = q)
/-- what is looked at once, no world in sight -/
def LawT.checked : Bool := ((List.range L.fns.length).all fun f => match L.fns[f]? with | some q => defB L.nm f q.d q.t | none => false) && ((List.range L.cls.length).all fun c => match L.cls[c]? with | some q => (!q.pln || decide (L.flds c = [])) && (match q.fld with | some f => decide (L.flds c = [f]) | none => true) | none => false) &&
  match L.cau with
  | some t => cauB t && decide ((L.cls[0]?).map (·.x) = some (Str.ofString "StopError"))
  | none => true
end
section
variable {P : Program} {K : W.Frag} {mg : Str → Option Value} {Ca : Addr} {fld : Str}
theorem file_of {c : Addr} (h : fileB P K c = true) : ∃ (co : Obj) (vs : Array Value) (fl : Str) (tf : Tok), K.lookup c = some co ∧ co.data = .fields vs ∧ vs[2]? = some (.str fl tf) ∧ ((P.main.file : Str) == fl) = true := by
  unfold fileB at h
  cases q : K.lookup c with
  | none => rw [q] at h; cases h
  | some co =>
    rw [q] at h
    obtain ⟨oc, od, dt, sl⟩ := co
    cases dt with
    | fields vs =>
      dsimp only at h
      split at h
      · rename_i fl tf e
        exact ⟨_, vs, fl, tf, rfl, rfl, e, h⟩
      · cases h
    | _ => cases h
theorem cell_of {cc : Addr} (h : cellB K cc Ca = true) : ∃ co : Obj, K.lookup cc = some co ∧ co.data = .cell (some (.ref Ca)) := by
  unfold cellB at h
  cases q : K.lookup cc with
  | none => rw [q] at h; cases h
  | some co =>
    rw [q] at h
    dsimp only at h
    split at h
    · rename_i a e
      have := of_decide_eq_true h
      subst this
      exact ⟨co, rfl, e⟩
    · cases h
theorem sup_of {sv pv : Str} {body : List Stmt} (h : supB sv pv fld body = true) : ∃ (p0 p1 p2 p3 p4 p5 p6 p7 p8 p9 : Pos) (j : Nat) (msg : Str), (p2.endLine == p4.line) = true ∧ body = [.Expr (.Call (.Attribute (.Call (.Name "super" p0) [] [] p1) "__init__" p2) [.Constant (.str msg) j p3] [] p4) p5, .Assign [.Attribute (.Name sv p6) fld p7] (.Name pv p8) p9] := by
  unfold supB at h
  split at h
  · obtain ⟨h, h6⟩ := ba2 h
    obtain ⟨h, h5⟩ := ba2 h
    obtain ⟨h, h4⟩ := ba2 h
    obtain ⟨h, h3⟩ := ba2 h
    obtain ⟨h1, h2⟩ := ba2 h
    have e1 := of_decide_eq_true h1
    have e2 := of_decide_eq_true h2
    have e4 := of_decide_eq_true h4
    have e5 := of_decide_eq_true h5
    have e6 := of_decide_eq_true h6
    subst e1 e2 e4 e5 e6
    exact ⟨_, _, _, _, _, _, _, _, _, _, _, _, h3, rfl⟩
  · cases h
theorem oex_of (h : oexB K Ca = true) : ∃ nm q N bs bm sn sub ab col dd k0 k1 k2 k3 k5, K.lookup Ca = some (excClassObj nm q Ca N bs bm true sn sub ab col dd k0 k1 k2 k3 k5 "ValueError.__new__") ∧ PySem.HandSPX.refsVE bm = true := by
  unfold oexB at h
  split at h
  · rename_i t0 dict nm0 bases C1 bm ns qn hd sn sub ab col del sl q
    split at h
    · rename_i e
      obtain ⟨h, h6⟩ := ba2 h
      obtain ⟨h, h5⟩ := ba2 h
      obtain ⟨h, h4⟩ := ba2 h
      obtain ⟨h, h3⟩ := ba2 h
      obtain ⟨h1, h2⟩ := ba2 h
      have e1 := of_decide_eq_true h1
      have e2 := of_decide_eq_true h2
      have e6 := of_decide_eq_true h6
      have e4 : del = false := by simpa using h4
      subst e1 e2 e6 h3 e4
      obtain ⟨l⟩ := sl
      dsimp only at e
      subst e
      exact ⟨_, _, _, _, _, _, _, _, _, _, _, _, _, _, _, q, h5⟩
    · cases h
  · cases h
theorem ini_of (h : iniC P K Ca fld = true) (ms : mg "super" = none) : ∃ fI F sv pv, IniF P K mg Ca fI F sv pv fld := by
  unfold iniC at h
  obtain ⟨h, g12⟩ := ba2 h
  obtain ⟨h, g11⟩ := ba2 h
  obtain ⟨h, g10⟩ := ba2 h
  obtain ⟨h, g9⟩ := ba2 h
  obtain ⟨h, g8⟩ := ba2 h
  obtain ⟨h, g7⟩ := ba2 h
  obtain ⟨h, g6⟩ := ba2 h
  obtain ⟨h, g5⟩ := ba2 h
  obtain ⟨h, g4⟩ := ba2 h
  obtain ⟨h, g3⟩ := ba2 h
  obtain ⟨h, g2⟩ := ba2 h
  unfold iniB at h
  split at h
  · rename_i fI hfind
    split at h
    · rename_i nm qn a1 a2 body sc gl cn cc kV doc pm an c ct bl osl lk
      obtain ⟨h, k12⟩ := ba2 h
      obtain ⟨h, k11⟩ := ba2 h
      obtain ⟨h, k10⟩ := ba2 h
      obtain ⟨h, k9⟩ := ba2 h
      obtain ⟨h, k8⟩ := ba2 h
      obtain ⟨h, k7⟩ := ba2 h
      obtain ⟨h, k6⟩ := ba2 h
      obtain ⟨h, k5⟩ := ba2 h
      obtain ⟨h, k4⟩ := ba2 h
      obtain ⟨h, k3⟩ := ba2 h
      obtain ⟨k1, k2⟩ := ba2 h
      have e1 := of_decide_eq_true k1
      have e2 := of_decide_eq_true k2
      have e3 := of_decide_eq_true k3
      subst e1 e2 e3
      obtain ⟨co, hco, hcd⟩ := cell_of k6
      unfold oneB at k10 k11
      simp only [Bool.and_eq_true, Bool.not_eq_true'] at k10 k11
      refine ⟨fI, ⟨nm, qn, ⟨[], [a1, a2], none, [], [], none, []⟩, body, sc, [(Str.ofString "__class__", cc)], c⟩, a1.arg, a2.arg, {
        oex := ⟨oex_of g2, He.eqO_ok g3, of_decide_eq_true g4, of_decide_eq_true g5, g6⟩
        lk := ⟨_, _, _, _, _, _, _, _, _, lk, rfl⟩
        code := k4
        file := file_of k5
        cl := ⟨cc, co, rfl, hco, hcd⟩
        find := hfind
        fty := of_decide_eq_true k12
        sup := He.eqO_ok g7
        mro := of_decide_eq_true g8
        isV := of_decide_eq_true g9
        opq := He.eqO_ok g10
        nofld := He.eqO_ok g11
        sc := NdefX.nscope_by k8
        ksup := of_decide_eq_true k9
        msup := ms
        top := by simpa using g12
        par := ⟨a1, a2, rfl, rfl, rfl⟩
        dsv := k10
        dpv := k11
        body := sup_of k7 }⟩
    · cases h
  · cases h
end
section
variable {L : LawT} {w : World} {K : W.Frag} {mg : Str → Option Value} {base h : Heap}
theorem tabB_of (X : K.In base) (c : He.SaysX L.fa L.dfs [] L.tf L.ex w h K) (hb : ∀ p ∈ L.tf, base.BuiltinsAt mg (He.cT K p).2 ∧ mainGlobals ≠ (He.cT K p).2) {p : He.Defn} (hp : p ∈ L.tf) : LamX.TabB base mg (He.cT K p).1 (He.cT K p).2 := NdefX.tabB_of_K X (c.hd p hp) (hb p hp).1 (hb p hp).2
theorem excC_of {D : Addr} (h : excCB K D = true) : L2.ExcC K D := by
  unfold excCB at h
  simp only [Bool.and_eq_true, decide_eq_true_eq] at h
  obtain ⟨⟨⟨⟨⟨⟨⟨h1, h2⟩, h3⟩, h4⟩, h5⟩, h6⟩, h7⟩, h8⟩ := h
  exact ⟨He.eqO_ok h1, He.eqO_ok h2, h3, h4, He.eqO_ok h5, He.eqO_ok h6, h7, h8⟩
theorem cls_mem {c : Nat} {q : ClT} (e : L.cls[c]? = some q) : q ∈ L.cls := List.mem_of_getElem? e
theorem fn_mem {f : Nat} {q : FnT} (e : L.fns[f]? = some q) : q ∈ L.fns := List.mem_of_getElem? e
theorem range_of {α : Type} {l : List α} {i : Nat} {q : α} (e : l[i]? = some q) : i ∈ List.range l.length := List.mem_range.mpr (List.getElem?_eq_some_iff.mp e).1
theorem known_of (hc : L.checked = true) (X : K.In base) (N : base.Ns mainGlobals mg) (c : He.SaysX L.fa L.dfs [] L.tf L.ex w h K) (hb : ∀ p ∈ L.tf, base.BuiltinsAt mg (He.cT K p).2 ∧ mainGlobals ≠ (He.cT K p).2) (turns : Nat) : Known (L.gd K) L.nm L.prgm K mg base (L.prog turns) := by
  obtain ⟨hc, hcau⟩ := ba2 hc
  obtain ⟨hfn, hpl⟩ := ba2 hc
  have hfn := List.all_eq_true.mp hfn
  have hpl := List.all_eq_true.mp hpl
  have cd := c.t.d
  have glo : ∀ {x : Str}, He.Fa.glo x ∈ L.fa → mg x = some (.ref (He.ga K x)) := fun hm => He.glo_ok X N (cd.facts hm)
  obtain ⟨hex, htab⟩ := ba2 c.more
  obtain ⟨hcl, hpr⟩ := ba2 hex
  have hcl := List.all_eq_true.mp hcl
  have htab := List.all_eq_true.mp htab
  have gfn : ∀ {f : Nat} {q : FnT}, L.fns[f]? = some q → mg q.x = some (.ref (He.ga K q.x)) := fun e => glo (List.mem_append_left _ (List.mem_append_left _ (List.mem_append_left _ (List.mem_map.mpr ⟨_, fn_mem e, rfl⟩))))
  have gcl : ∀ {f : Nat} {q : ClT}, L.cls[f]? = some q → mg q.x = some (.ref (He.ga K q.x)) := fun e => glo (List.mem_append_left _ (List.mem_append_left _ (List.mem_append_right _ (List.mem_map.mpr ⟨_, cls_mem e, rfl⟩))))
  refine { fns := fun f x hx => ?_, fas := fun f a ha => ?_, blt := fun x hx => He.free_ok X N (cd.facts (List.mem_append_right _ (List.mem_map.mpr ⟨x, hx, rfl⟩))), cls := fun k a ha => ?_, cla := fun k x hx => ?_, sub := fun i j a b hi hj => ?_, pln := fun k a ha hp => ?_, ini := fun k a fd ha hi => ?_, nof := fun k a fd ha hm => ?_, cau := fun t ht => ?_ }
  · have hx : (L.fns[f]?).map (·.x) = some x := hx
    obtain ⟨q, e, rfl⟩ := Option.map_eq_some_iff.mp hx
    obtain ⟨fd, FD⟩ := cd.defs (d := defOf_ q.x q.t) (List.mem_append_left _ (List.mem_map.mpr ⟨q, fn_mem e, rfl⟩))
    obtain ⟨oc, od, dV, kV, doc, pm, an, cdv, ct, osl, rfl, lk, hcd, hD, _⟩ := FD.ex
    have hdV : dV = .none := by
      rcases hD with ⟨_, z⟩ | ⟨z, _⟩
      · exact z
      · exact absurd rfl z
    have hch := hfn f (range_of e)
    rw [e] at hch
    refine ⟨He.ga K q.x, q.d, q.t, q.x, q.x, dV, kV, doc, pm, cdv, ct, oc, an, od, osl, ?_, gfn e, FD.kp, lk, hcd, hdV, ?_, hch, fun hl => ?_⟩
    · show (L.fns[f]?).map _ = _
      rw [e]; rfl
    · show (L.fns[f]?).map _ = _
      rw [e]; rfl
    · have hl : (match L.fns[f]? with | some q => q.lam | none => false) = true := hl
      rw [e] at hl
      have hm : ((q.x, none) : He.Defn) ∈ L.tf := List.mem_map.mpr ⟨q, List.mem_filter.mpr ⟨fn_mem e, hl⟩, rfl⟩
      obtain ⟨cc, hcc⟩ := He.codeIn_ref hcd
      have e2 : He.codeOf K (q.x, none) = cc := He.codeOf_eq lk hcc
      have TB := tabB_of X c hb hm
      refine ⟨cc, (He.cT K (q.x, none)).2, hcc, ?_, List.mem_map.mpr ⟨_, hm, rfl⟩, fun p hp hpe => ?_⟩
      · have : (He.cT K (q.x, none)).1 = cc := e2
        rw [← this]; exact TB
      · obtain ⟨r, hr, rfl⟩ := List.mem_map.mp hp
        have := List.all_eq_true.mp (htab r hr) _ hm
        rw [show decide ((He.cT K r).2 = (He.cT K (q.x, none)).2) = true from decide_eq_true hpe] at this
        have : r = (q.x, none) := of_decide_eq_true (by simpa using this)
        rw [this]
  · have ha : (L.fns[f]?).map _ = some a := ha
    obtain ⟨q, e, _⟩ := Option.map_eq_some_iff.mp ha
    exact ⟨q.x, by show (L.fns[f]?).map _ = _; rw [e]; rfl⟩
  · have ha : (L.cls[k]?).map _ = some a := ha
    obtain ⟨q, e, _⟩ := Option.map_eq_some_iff.mp ha
    exact ⟨q.x, by show (L.cls[k]?).map _ = _; rw [e]; rfl⟩
  · have hx : (L.cls[k]?).map (·.x) = some x := hx
    obtain ⟨q, e, rfl⟩ := Option.map_eq_some_iff.mp hx
    have hq := hcl q (cls_mem e)
    obtain ⟨hq, _⟩ := ba2 hq
    obtain ⟨hq, _⟩ := ba2 hq
    obtain ⟨hq, _⟩ := ba2 hq
    obtain ⟨hq, q3⟩ := ba2 hq
    obtain ⟨q1, q2⟩ := ba2 hq
    have ec := excC_of q3
    exact ⟨He.ga K q.x, by show (L.cls[k]?).map _ = _; rw [e]; rfl, ⟨gcl e, q1, ec.hs, of_decide_eq_true q2, ec⟩⟩
  · have hi : (L.cls[i]?).map _ = some a := hi
    have hj : (L.cls[j]?).map _ = some b := hj
    obtain ⟨p, e1, rfl⟩ := Option.map_eq_some_iff.mp hi
    obtain ⟨q, e2, rfl⟩ := Option.map_eq_some_iff.mp hj
    have := List.all_eq_true.mp (List.all_eq_true.mp hpr i (range_of e1)) j (range_of e2)
    rw [e1, e2] at this
    obtain ⟨k1, k2⟩ := ba2 this
    exact ⟨of_decide_eq_true k1, of_decide_eq_true k2⟩
  · have ha : (L.cls[k]?).map _ = some a := ha
    obtain ⟨q, e, rfl⟩ := Option.map_eq_some_iff.mp ha
    have hp : (match L.cls[k]? with | some q => q.pln | none => false) = true := hp
    rw [e] at hp
    have hp : q.pln = true := hp
    have h1 := hpl k (range_of e)
    rw [e] at h1
    have h1 : (!q.pln || decide (L.flds k = [])) = true := (ba2 h1).1
    rw [hp] at h1
    have hq := (ba2 (ba2 (ba2 (hcl q (cls_mem e))).1).1).2
    rw [hp] at hq
    exact ⟨show L.flds k = [] from of_decide_eq_true (by simpa using h1), by simpa using hq⟩
  · have ha : (L.cls[k]?).map _ = some a := ha
    obtain ⟨q, e, rfl⟩ := Option.map_eq_some_iff.mp ha
    have hi : (match L.cls[k]? with | some q => q.fld | none => none) = some fd := hi
    rw [e] at hi
    have hi : q.fld = some fd := hi
    have h1 := hpl k (range_of e)
    rw [e] at h1
    have h2 := (ba2 h1).2
    rw [hi] at h2
    have h3 := (ba2 (ba2 (hcl q (cls_mem e))).1).2
    rw [hi] at h3
    exact ⟨show L.flds k = [fd] from of_decide_eq_true h2, ini_of h3 (He.free_ok X N (cd.facts (List.mem_append_right _ (List.mem_map.mpr ⟨_, by decide +kernel, rfl⟩))))⟩
  · have ha : (L.cls[k]?).map _ = some a := ha
    obtain ⟨q, e, rfl⟩ := Option.map_eq_some_iff.mp ha
    have h3 := (ba2 (hcl q (cls_mem e))).2
    exact He.eqO_ok (List.all_eq_true.mp h3 fd hm)
  · have ht : L.cau = some t := ht
    rw [ht] at hcau
    obtain ⟨k1, k2⟩ := ba2 hcau
    have hm : He.Fa.glo "_law_caught" ∈ L.fa := by
      unfold LawT.fa
      rw [ht]
      exact List.mem_append_left _ (List.mem_append_right _ (by simp))
    have hd : defOf_ "_law_caught" t ∈ L.dfs := by
      unfold LawT.dfs
      rw [ht]
      exact List.mem_append_right _ (by simp)
    obtain ⟨fd, FD⟩ := cd.defs hd
    obtain ⟨oc, od, dV, kV, doc, pm, an, cdv, ct, osl, rfl, lk, hcd, hD, _⟩ := FD.ex
    have hdV : dV = .none := by
      rcases hD with ⟨_, z⟩ | ⟨z, _⟩
      · exact z
      · exact absurd rfl z
    exact ⟨of_decide_eq_true k2, k1, He.ga K "_law_caught", dV, kV, doc, pm, cdv, ct, oc, an, od, osl, glo hm, FD.kp, lk, hcd, hdV⟩
/-! ### what is looked at behind the top: from the module's names and the model's own store of settings -/
def reachM (g : Addr → Option Obj) : Nat → List Addr
  | 0 => [mainGlobals, cStatics]
  | n + 1 => He.growD g (reachM g n)
def partM (n : Nat) (g : Addr → Option Obj) : W.Frag := He.frT g (reachM g n)
def LawT.seen (L : LawT) (n : Nat) (g : Addr → Option Obj) : He.AlX := (He.obsT L.fa L.dfs [] (partM n g), L.ex (partM n g) && He.tabsB g L.tf (partM n g))
theorem seen_says {n : Nat} (e : L.seen n h.get? = He.valX L.dfs [] w) : He.SaysX L.fa L.dfs [] L.tf L.ex w h (partM n h.get?) := by
  obtain ⟨e1, e2⟩ := Prod.mk.inj (show (He.obsT L.fa L.dfs [] (partM n h.get?), L.ex (partM n h.get?) && He.tabsB h.get? L.tf (partM n h.get?)) = (_, true) from e)
  obtain ⟨m1, m2⟩ := ba2 e2
  have one : ∀ p ∈ L.tf, PySem.W.codeHdIn (partM n h.get?) (He.cT (partM n h.get?) p).1 (He.cT (partM n h.get?) p).2 = true ∧ ∃ o, h.get? (He.cT (partM n h.get?) p).2 = some o ∧ He.emptyTab o = true := fun p hp => by
    obtain ⟨t1, t2⟩ := ba2 (List.all_eq_true.mp m2 p hp)
    cases q : h.get? (He.cT (partM n h.get?) p).2 with
    | none => rw [q] at t2; cases t2
    | some o => rw [q] at t2; exact ⟨t1, o, rfl, t2⟩
  refine { t := e1, more := m1, hd := fun p hp => (one p hp).1, out := fun p hp => ?_, empty := fun p hp => ?_ }
  · obtain ⟨_, o, q, z⟩ := one p hp
    exact He.frT_none q z
  · obtain ⟨_, o, q, z⟩ := one p hp
    rw [q, He.emptyTab_eq z]
def hookM (L : LawT) (n : Nat) : PySem.W.Hook where
  α := He.AlX
  obs s := L.seen n s.heap.get?
  val w := He.valX L.dfs [] w
  says w h := ∃ K : W.Frag, K.In h ∧ He.SaysX L.fa L.dfs [] L.tf L.ex w h K
  of _ _ e := ⟨_, He.frT_in, seen_says e⟩
  keeps _ _ _ := fun ⟨K, hK, c⟩ k => ⟨K, hK.keeps k, { t := c.t, more := c.more, hd := c.hd, out := c.out, empty := fun p hp => k _ _ (c.empty p hp) }⟩
theorem seen_eq {n : Nat} {g : Addr → Option Obj} {s : Shared} (e : ∀ a, g a = s.heap.get? a) : L.seen n g = (hookM L n).obs s := by
  rw [show g = s.heap.get? from funext e]; rfl
/-- the law, called with any script -/
theorem walkM {l : PySem.W.OpenLaw} {q : Program} {loose : List Str} {XP : (Str → Option Value) → Heap → Prop} {d : DefRec} {y : Str} {n f hn_ : Nat} (hn : l.most = some 63) (hdf : d.params.defaults = []) (hc : L.checked = true) (hP : l.prog = L.prgm) (hr : RoomN n callerA) (hf : L.nm.fn f = some d.name) (hp : L.nm.par f = [y])
    (run : ∀ ns : List Int, ns.length ≤ 63 → (∀ z ∈ ns, Builtin.Int.intBits z ≤ 1048576) → ∃ turns st, callD (L.prog turns) n f [.d (.lst (ns.map D.int))] [] = .ok (.d (.bl true)) st) :
    PySem.W.WalkO q loose XP (hookM L hn_).says l.row.toRowW d [] (fun f vs => PySem.call f vs) := by
  refine Att.attach_callB hn hdf fun w s₀ s₁ mg mb fa o pm cd doc a vs ns GR Y ho hd hcd hmg hobj hints hlen hbits hg => ?_
  rw [hP]
  obtain ⟨K, KX, c⟩ := Y
  obtain ⟨turns, st, hrun⟩ := run ns hlen hbits
  have tab : ∀ b ∈ L.tf.map fun p => (He.cT K p).2, ∃ p ∈ L.tf, b = (He.cT K p).2 := fun b hb => by
    obtain ⟨p, hp, e⟩ := List.mem_map.mp hb
    exact ⟨p, hp, e.symm⟩
  refine law_end (tabs := L.tf.map fun p => (He.cT K p).2) (G := L.gd K) (T := L.nm) (Pg := L.prog turns) KX GR.T.g GR.T.b GR.T.builtins GR.T.nolimit hg (fun b hb => ?_) (fun b hb => ?_) (fun b hb => ?_) GR.T.bmain hobj hints (Nat.le_trans hlen (by decide)) hr (fun z hz => ?_)
    (fun base X N hb => known_of hc X N c (fun p hp => hb _ (List.mem_map.mpr ⟨p, hp, rfl⟩)) turns) hf hp hmg hrun
  · obtain ⟨p, hp, rfl⟩ := tab b hb
    exact c.empty p hp
  · obtain ⟨p, hp, rfl⟩ := tab b hb
    exact c.out p hp
  · obtain ⟨p, hp, rfl⟩ := tab b hb
    exact ⟨_, PySem.W.codeHd_of_K KX (c.hd p hp)⟩
  · obtain ⟨p, hp, rfl⟩ := List.mem_map.mp hz
    exact List.mem_map.mpr ⟨p, hp, rfl⟩
end
end Mi
namespace Mi
open PySem (Str)
/-! ### my language by equations, for plain laws -/
section
variable {C : Ctx} {env : Env} {st : Store} {a b c e : E} {es ks : Es} {i : Nat}
@[simp] theorem bind_ok {α β : Type} {x : α} {f : α → Store → Res β} : (Res.ok x st).bind f = f x st := rfl
@[simp] theorem bind_exc {α β : Type} {k : Nat} {fs : List (Str × D)} {f : α → Store → Res β} : (Res.exc k fs st : Res α).bind f = .exc k fs st := rfl
@[simp] theorem then_ok {α : Type} {x : α} {f : α → Store → RS} : (Res.ok x st).then env f = f x st := rfl
@[simp] theorem then_exc {α : Type} {k : Nat} {fs : List (Str × D)} {f : α → Store → RS} : (Res.exc k fs st : Res α).then env f = .exc k fs env st := rfl
@[simp] theorem next_nx {f : Env → Store → RS} : (RS.ok (.nx env) st).then f = f env st := rfl
@[simp] theorem next_ret {w : W} {f : Env → Store → RS} : (RS.ok (.ret w) st).then f = .ok (.ret w) st := rfl
@[simp] theorem next_bk {f : Env → Store → RS} : (RS.ok (.bk env) st).then f = .ok (.bk env) st := rfl
@[simp] theorem next_ct {f : Env → Store → RS} : (RS.ok (.ct env) st).then f = .ok (.ct env) st := rfl
@[simp] theorem next_exc {k : Nat} {fs : List (Str × D)} {f : Env → Store → RS} : (RS.exc k fs env st).then f = .exc k fs env st := rfl
@[simp] theorem e_var_ : evE C (.var i) env st = (match env[i]? with | some (some w) => .ok w st | _ => .stuck) := by unfold evE; rfl
@[simp] theorem e_non_ : evE C .non env st = .ok (.d .non) st := by unfold evE; rfl
@[simp] theorem e_bl_ {k : Bool} : evE C (.bl k) env st = .ok (.d (.bl k)) st := by unfold evE; rfl
@[simp] theorem e_int__ {k : Int} : evE C (.int k) env st = .ok (.d (.int k)) st := by unfold evE; rfl
@[simp] theorem e_str_ {k : Str} : evE C (.str k) env st = .ok (.d (.str k)) st := by unfold evE; rfl
@[simp] theorem e_fnv_ {k : Nat} : evE C (.fnv k) env st = .ok (.d (.fn k)) st := by unfold evE; rfl
@[simp] theorem e_op_ {o : Op} : evE C (.op o a b) env st = (evE C a env st).bind fun x st1 => (evE C b env st1).bind fun y st2 => opW o x y st2 := by (conv => lhs; unfold evE) <;> rfl
@[simp] theorem e_neg_ : evE C (.neg a) env st = (evE C a env st).bind negW := by (conv => lhs; unfold evE) <;> rfl
@[simp] theorem e_cmp_ {o : Cmp} : evE C (.cmp o a b) env st = (evE C a env st).bind fun x st1 => (evE C b env st1).bind fun y st2 => cmpW o x y st2 := by (conv => lhs; unfold evE) <;> rfl
@[simp] theorem e_bool_ {k : Bool} : evE C (.bool k es) env st = evB C k es env st := by (conv => lhs; unfold evE) <;> rfl
@[simp] theorem e_not_ : evE C (.not a) env st = (evE C a env st).bind fun x st1 => match x with | .d (.bl b) => .ok (.d (.bl (!b))) st1 | _ => .stuck := by (conv => lhs; unfold evE) <;> rfl
@[simp] theorem e_ite_ : evE C (.ite c a b) env st = (evT C c env st).bind fun k st1 => if k then evE C a env st1 else evE C b env st1 := by (conv => lhs; unfold evE) <;> rfl
@[simp] theorem e_tup_ : evE C (.tup es) env st = (evEs C es env st).bind mkTup := by (conv => lhs; unfold evE) <;> rfl
@[simp] theorem e_lst_ {cell : Bool} : evE C (.lst cell es) env st = (evEs C es env st).bind (mkLst cell) := by (conv => lhs; unfold evE) <;> rfl
@[simp] theorem e_dct_ {k : List Key} : evE C (.dct k es) env st = (evEs C es env st).bind (mkDct k) := by (conv => lhs; unfold evE) <;> rfl
@[simp] theorem e_idx_ : evE C (.idx a b) env st = (evE C a env st).bind fun x st1 => (evE C b env st1).bind fun y st2 => idxW x y st2 := by (conv => lhs; unfold evE) <;> rfl
@[simp] theorem e_call_ {f : Nat} : evE C (.call f es) env st = (evEs C es env st).bind (C.call f) := by (conv => lhs; unfold evE) <;> rfl
@[simp] theorem e_callk_ {f : Nat} {p : List Nat} : evE C (.callk f es ks p) env st = (evEs C es env st).bind fun ws st1 => (evEs C ks env st1).bind fun us st2 => match permW p (ws ++ us) with
    | some vs => C.call f vs st2
    | none => .stuck := by (conv => lhs; unfold evE) <;> rfl
@[simp] theorem e_callv_ : evE C (.callv i es) env st = (match env[i]? with
    | some (some (.d (.fn f))) => (evEs C es env st).bind (C.call f)
    | _ => .stuck) := by (conv => lhs; unfold evE) <;> rfl
@[simp] theorem e_blt_ {f : Blt} : evE C (.blt f es) env st = (evEs C es env st).bind (bltW f) := by (conv => lhs; unfold evE) <;> rfl
@[simp] theorem e_caught_ : evE C (.caught e) env st = (match evE C e env st with
    | .ok _ st1 => .ok (.d .non) st1
    | .exc c fs st1 => if C.sub c 0 then .ok (.d (.exc c fs)) st1 else .stuck
    | .stuck => .stuck) := by (conv => lhs; unfold evE) <;> rfl
@[simp] theorem e_isin_ {ts : List Ty} : evE C (.isin a ts) env st = (evE C a env st).bind (isW C ts) := by (conv => lhs; unfold evE) <;> rfl
@[simp] theorem e_fld_ {f : Str} : evE C (.fld a f) env st = (evE C a env st).bind (fldW f) := by (conv => lhs; unfold evE) <;> rfl
@[simp] theorem e_popm_ : evE C (.popm a b) env st = (evE C a env st).bind fun x st1 => if (lstW x st1).isSome then (evE C b env st1).bind fun y st2 => popW x y st2 else .stuck := by (conv => lhs; unfold evE) <;> rfl
@[simp] theorem es_nil_ : evEs C .nil env st = .ok [] st := by (conv => lhs; unfold evEs) <;> rfl
@[simp] theorem es_cons_ : evEs C (.cons e es) env st = (evE C e env st).bind fun w st1 => (evEs C es env st1).bind fun ws st2 => .ok (w :: ws) st2 := by (conv => lhs; unfold evEs) <;> rfl
@[simp] theorem b_one_ {k : Bool} : evB C k (.cons e .nil) env st = evE C e env st := by (conv => lhs; unfold evB) <;> rfl
@[simp] theorem b_more_ {k : Bool} {e2 : E} : evB C k (.cons e (.cons e2 es)) env st = (evE C e env st).bind fun x st1 => match x with
      | .d (.bl b) => if b = k then evB C k (.cons e2 es) env st1 else .ok (.d (.bl b)) st1
      | _ => .stuck := by (conv => lhs; unfold evB) <;> rfl
@[simp] theorem ts_one_ {k : Bool} : evTs C k (.cons e .nil) env st = evT C e env st := by (conv => lhs; unfold evTs) <;> rfl
@[simp] theorem ts_more_ {k : Bool} {e2 : E} : evTs C k (.cons e (.cons e2 es)) env st = (evT C e env st).bind fun b st1 => if b = k then evTs C k (.cons e2 es) env st1 else .ok b st1 := by (conv => lhs; unfold evTs) <;> rfl
@[simp] theorem t_bool_ {k : Bool} : evT C (.bool k es) env st = evTs C k es env st := by (conv => lhs; unfold evT) <;> rfl
@[simp] theorem t_not_ : evT C (.not a) env st = (evT C a env st).bind fun b st1 => .ok (!b) st1 := by (conv => lhs; unfold evT) <;> rfl
@[simp] theorem t_var_ : evT C (.var i) env st = (match env[i]? with | some (some w) => truW w st | _ => .stuck) := by (conv => lhs; unfold evT) <;> rfl
@[simp] theorem t_bl_ {k : Bool} : evT C (.bl k) env st = .ok k st := by (conv => lhs; unfold evT) <;> rfl
@[simp] theorem t_cmp_ {o : Cmp} : evT C (.cmp o a b) env st = (evE C a env st).bind fun x st1 => (evE C b env st1).bind fun y st2 => (cmpW o x y st2).bind truW := by (conv => lhs; unfold evT) <;> rfl
@[simp] theorem t_call_ {f : Nat} : evT C (.call f es) env st = ((evEs C es env st).bind (C.call f)).bind truW := by (conv => lhs; unfold evT) <;> rfl
@[simp] theorem t_isin_ {ts : List Ty} : evT C (.isin a ts) env st = ((evE C a env st).bind (isW C ts)).bind truW := by (conv => lhs; unfold evT) <;> rfl
@[simp] theorem t_idx_ : evT C (.idx a b) env st = (evE C a env st).bind fun x st1 => (evE C b env st1).bind fun y st2 => (idxW x y st2).bind truW := by (conv => lhs; unfold evT) <;> rfl
@[simp] theorem c_nil_ : evC C .nil env st = .ok true st := by (conv => lhs; unfold evC) <;> rfl
@[simp] theorem c_one_ : evC C (.cons e .nil) env st = evT C e env st := by (conv => lhs; unfold evC) <;> rfl
end
section
variable {C : Ctx} {env : Env} {st : Store} {a b c e : E} {es : Es} {i : Nat} {s : S} {ss tt : Ss}
@[simp] theorem ss_nil_ : evSs C .nil env st = .ok (.nx env) st := by (conv => lhs; unfold evSs) <;> rfl
@[simp] theorem ss_cons_ : evSs C (.cons s ss) env st = (evS C s env st).then fun env1 st1 => evSs C ss env1 st1 := by (conv => lhs; unfold evSs) <;> rfl
@[simp] theorem s_set_ : evS C (.set i e) env st = (evE C e env st).then env fun w st1 => .ok (.nx (env.set i (some w))) st1 := by (conv => lhs; unfold evS) <;> rfl
@[simp] theorem s_setT_ {tg : Tg} : evS C (.setT tg e) env st = (evE C e env st).then env fun w st1 => match asgT tg w env st1 with
    | some env1 => .ok (.nx env1) st1
    | none => .stuck := by (conv => lhs; unfold evS) <;> rfl
@[simp] theorem s_par_ {is : List Nat} : evS C (.par is es) env st = (evEs C es env st).then env fun ws st1 => .ok (.nx (parSet is ws env)) st1 := by (conv => lhs; unfold evS) <;> rfl
@[simp] theorem s_setIx_ : evS C (.setIx a b e) env st = (evE C e env st).then env fun v st1 => (evE C a env st1).then env fun x st2 => (evE C b env st2).then env fun y st3 => (lowW x v st3).then env fun v st3 => match setW x y v st3 with
    | some st4 => .ok (.nx env) st4
    | none => .stuck := by (conv => lhs; unfold evS) <;> rfl
@[simp] theorem s_app_ : evS C (.app a e) env st = (evE C a env st).then env fun x st1 => if (lstW x st1).isSome then (evE C e env st1).then env fun v st2 => (lowW x v st2).then env fun v st2 => match appW x v st2 with
    | some st3 => .ok (.nx env) st3
    | none => .stuck
    else .stuck := by (conv => lhs; unfold evS) <;> rfl
@[simp] theorem s_expr_ : evS C (.expr e) env st = (evE C e env st).then env fun _ st1 => .ok (.nx env) st1 := by (conv => lhs; unfold evS) <;> rfl
@[simp] theorem s_ret_ : evS C (.ret e) env st = (evE C e env st).then env fun w st1 => .ok (.ret w) st1 := by (conv => lhs; unfold evS) <;> rfl
@[simp] theorem s_retN_ : evS C .retN env st = .ok (.ret (.d .non)) st := by (conv => lhs; unfold evS) <;> rfl
@[simp] theorem s_doc_ : evS C .doc env st = .ok (.nx env) st := by (conv => lhs; unfold evS) <;> rfl
@[simp] theorem s_ifs_ : evS C (.ifs c ss tt) env st = (evT C c env st).then env fun k st1 => if k then evSs C ss env st1 else evSs C tt env st1 := by (conv => lhs; unfold evS) <;> rfl
@[simp] theorem s_raise_ {k : Nat} : evS C (.raise k es) env st = (evEs C es env st).then env fun ws st1 => (fzs ws st1).then env fun ds st2 => .exc k ((C.flds k).zip ds) env st2 := by (conv => lhs; unfold evS) <;> rfl
theorem s_whl_ : evS C (.whl c ss) env st = whls (evT C c) (evSs C ss) C.turns env st := by (conv => lhs; unfold evS) <;> rfl
def forF (C : Ctx) (tg : Tg) (ss : Ss) : Item → Env → Store → RS := fun w env s => match asgI tg w env s with
  | some env1 => evSs C ss env1 s
  | none => .stuck
theorem forF_v {w : W} {s : Store} : forF C (.v i) ss (.one w) env s = evSs C ss (env.set i (some w)) s := rfl
theorem s_for_ {tg : Tg} {it : It} : evS C (.for_ tg it ss) env st = (evI C it env st).then env fun src st1 => fors src.at src.over (forF C tg ss) src.len 0 env st1 := by (conv => lhs; unfold evS) <;> rfl
@[simp] theorem i_seq_ : evI C (.seq e) env st = (evE C e env st).bind fun w st1 => (sqW w st1).bind fun q st2 => .ok (.one q) st2 := by (conv => lhs; unfold evI) <;> rfl
@[simp] theorem i_rng_ : evI C (.rng es) env st = (evEs C es env st).bind fun ws st1 => (rngW ws st1).bind fun q st2 => .ok (.one q) st2 := by (conv => lhs; unfold evI) <;> rfl
end
/-! ### values that are plain -/
section
variable {st : Store} {x : D} {ds : List D}
theorem fzW_dd (k : Nat) : fzW k (.d x) st = some (x, st) := by cases k <;> rfl
theorem fzL_map (k : Nat) : ∀ ds : List D, fzL (fzW k) (ds.map W.d) st = some (ds, st)
  | [] => rfl
  | d :: ds => by
    show (match fzW k (.d d) st with | none => none | some (y, st1) => match fzL (fzW k) (ds.map W.d) st1 with | none => none | some (z, st2) => some (y :: z, st2)) = _
    rw [fzW_dd]
    show (match fzL (fzW k) (ds.map W.d) st with | none => none | some (z, st2) => some (d :: z, st2)) = _
    rw [fzL_map k ds]
@[simp] theorem fz_d : fz (.d x) st = .ok x st := by unfold fz; rw [fzW_dd]
@[simp] theorem fzs_nil : fzs [] st = .ok [] st := rfl
theorem fzs_map : fzs (ds.map W.d) st = .ok ds st := by unfold fzs; rw [fzL_map]
@[simp] theorem fzs_1 {a : D} : fzs [.d a] st = .ok [a] st := fzs_map (ds := [a])
@[simp] theorem fzs_2 {a b : D} : fzs [.d a, .d b] st = .ok [a, b] st := fzs_map (ds := [a, b])
@[simp] theorem fzs_3 {a b c : D} : fzs [.d a, .d b, .d c] st = .ok [a, b, c] st := fzs_map (ds := [a, b, c])
@[simp] theorem mkTup_map (h : ds.length ≤ 1000000) : mkTup (ds.map W.d) st = .ok (.d (.tup ds)) st := by
  unfold mkTup small
  rw [if_pos (by rw [List.length_map]; exact decide_eq_true h), fzs_map]; rfl
@[simp] theorem mkTup_1 {a : D} : mkTup [.d a] st = .ok (.d (.tup [a])) st := mkTup_map (ds := [a]) (by simp)
@[simp] theorem mkTup_2 {a b : D} : mkTup [.d a, .d b] st = .ok (.d (.tup [a, b])) st := mkTup_map (ds := [a, b]) (by simp)
@[simp] theorem mkTup_3 {a b c : D} : mkTup [.d a, .d b, .d c] st = .ok (.d (.tup [a, b, c])) st := mkTup_map (ds := [a, b, c]) (by simp)
theorem mkLst_map (h : ds.length ≤ 1000000) : mkLst false (ds.map W.d) st = .ok (.d (.lst ds)) st := by
  unfold mkLst small
  rw [if_pos (by rw [List.length_map]; exact decide_eq_true h), if_neg Bool.false_ne_true, fzs_map]; rfl
@[simp] theorem mkLst_0 : mkLst false [] st = .ok (.d (.lst [])) st := mkLst_map (ds := []) (by simp)
@[simp] theorem mkLst_1 {a : D} : mkLst false [.d a] st = .ok (.d (.lst [a])) st := mkLst_map (ds := [a]) (by simp)
@[simp] theorem mkLst_2 {a b : D} : mkLst false [.d a, .d b] st = .ok (.d (.lst [a, b])) st := mkLst_map (ds := [a, b]) (by simp)
@[simp] theorem mkLst_3 {a b c : D} : mkLst false [.d a, .d b, .d c] st = .ok (.d (.lst [a, b, c])) st := mkLst_map (ds := [a, b, c]) (by simp)
@[simp] theorem handed_d {k : Bool} : handed k st.length (.d x) st = .ok (.d x) st := by
  unfold handed
  cases k <;> simp
theorem handed_d' {k : Bool} {b : Nat} (h : st.length = b) : handed k b (.d x) st = .ok (.d x) st := by subst h; exact handed_d
theorem rd_d : rd st (.d x) = some x := by unfold rd; cases st.length <;> rfl
end
theorem runD_ret {C : Ctx} {f : Def} {ws : List W} {st st1 : Store} {w : W} (h : ws.length = f.np) (e : evSs C f.body (start f ws) st = .ok (.ret w) st1) : runD C f ws st = handed f.keep st.length w st1 := by
  unfold runD
  rw [if_pos h, e]
theorem runD_nx {C : Ctx} {f : Def} {ws : List W} {st st1 : Store} {env : Env} (h : ws.length = f.np) (e : evSs C f.body (start f ws) st = .ok (.nx env) st1) : runD C f ws st = handed f.keep st.length (.d .non) st1 := by
  unfold runD
  rw [if_pos h, e]
theorem runD_exc {C : Ctx} {f : Def} {ws : List W} {st st1 : Store} {env : Env} {c : Nat} {fs : List (Str × D)} (h : ws.length = f.np) (e : evSs C f.body (start f ws) st = .exc c fs env st1) : runD C f ws st = .exc c fs (st1.take st.length) := by
  unfold runD
  rw [if_pos h, e]
/-! ### loops -/
theorem fors_run {look : Nat → Store → Option Item} {over : Store → Bool} {f : Item → Env → Store → RS} (I : Nat → Env → Store → Prop) :
    ∀ (n i : Nat) (env : Env) (st : Store), I i env st → (∀ j env st, i ≤ j → j < i + n → I j env st → ∃ x env1 st1, look j st = some x ∧ (f x env st = .ok (.nx env1) st1 ∨ f x env st = .ok (.ct env1) st1) ∧ I (j + 1) env1 st1) → (∀ env st, I (i + n) env st → over st = true) →
      ∃ env1 st1, fors look over f n i env st = .ok (.nx env1) st1 ∧ I (i + n) env1 st1
  | 0, i, env, st, h, _, ho => by
    refine ⟨env, st, ?_, h⟩
    unfold fors
    rw [if_pos (ho env st h)]
  | n + 1, i, env, st, h, hs, ho => by
    obtain ⟨x, env1, st1, h1, h2, h3⟩ := hs i env st (Nat.le_refl _) (by omega) h
    obtain ⟨env2, st2, h4, h5⟩ := fors_run I n (i + 1) env1 st1 h3 (fun j env st g1 g2 g3 => hs j env st (by omega) (by omega) g3) (fun env st g => ho env st (by rw [show i + (n + 1) = i + 1 + n by omega]; exact g))
    refine ⟨env2, st2, ?_, by rw [show i + (n + 1) = i + 1 + n by omega]; exact h5⟩
    unfold fors
    rw [h1]
    rcases h2 with h2 | h2
    · simp only [h2]; exact h4
    · simp only [h2]; exact h4
/-- over items that stand -/
theorem fors_dat {f : Item → Env → Store → RS} (ws : List W) (I : Nat → Env → Store → Prop) (env : Env) (st : Store) (h0 : I 0 env st) (hs : ∀ (j : Nat) (w : W) (env : Env) (st : Store), ws[j]? = some w → I j env st → ∃ env1 st1, (f (.one w) env st = .ok (.nx env1) st1 ∨ f (.one w) env st = .ok (.ct env1) st1) ∧ I (j + 1) env1 st1) :
    ∃ env1 st1, fors (Src.one (.dat ws)).at (Src.one (.dat ws)).over f (Src.one (.dat ws)).len 0 env st = .ok (.nx env1) st1 ∧ I ws.length env1 st1 := by
  obtain ⟨env1, st1, h1, h2⟩ := fors_run (look := (Src.one (.dat ws)).at) (over := (Src.one (.dat ws)).over) (f := f) I ws.length 0 env st h0 (fun j env st _ hj hI => by
    have hw : ws[j]? = some (ws[j]'(by omega)) := List.getElem?_eq_getElem (by omega)
    obtain ⟨env1, st1, k1, k2⟩ := hs j _ env st hw hI
    exact ⟨_, env1, st1, by show (match ws[j]? with | some w => some (Item.one w) | none => none) = _; rw [hw], k1, k2⟩) (fun _ _ _ => rfl)
  exact ⟨env1, st1, h1, by simpa using h2⟩
theorem whls_run {c : Env → Store → Res Bool} {f : Env → Store → RS} (I : Env → Store → Prop) (mu : Env → Store → Nat)
    (hs : ∀ env st, I env st → (∃ st1, c env st = .ok false st1 ∧ st1 = st) ∨ ∃ env1 st1, c env st = .ok true st ∧ (f env st = .ok (.nx env1) st1 ∨ f env st = .ok (.ct env1) st1) ∧ I env1 st1 ∧ mu env1 st1 < mu env st) :
    ∀ (n : Nat) (env : Env) (st : Store), I env st → mu env st < n → ∃ env1 st1, whls c f n env st = .ok (.nx env1) st1 ∧ I env1 st1 ∧ c env1 st1 = .ok false st1
  | 0, env, st, _, h => by omega
  | n + 1, env, st, h, hm => by
    unfold whls
    rcases hs env st h with ⟨st1, h1, rfl⟩ | ⟨env1, st1, h1, h2, h3, h4⟩
    · exact ⟨env, st1, by rw [h1]; rfl, h, h1⟩
    · obtain ⟨env2, st2, h5, h6, h7⟩ := whls_run I mu hs n env1 st1 h3 (by omega)
      refine ⟨env2, st2, ?_, h6, h7⟩
      rw [h1]
      show (match f env st with | .ok (.nx env1) st2 => whls c f n env1 st2 | .ok (.ct env1) st2 => whls c f n env1 st2 | .ok (.bk env1) st2 => .ok (.nx env1) st2 | .ok (.ret x) st2 => .ok (.ret x) st2 | .exc c fs env1 st2 => .exc c fs env1 st2 | .stuck => .stuck) = _
      rcases h2 with h2 | h2
      · rw [h2]; exact h5
      · rw [h2]; exact h5
end Mi
namespace Mi
open PySem (Str)
section
variable {C : Ctx} {env : Env} {st : Store} {a b c e : E} {es ks : Es} {i : Nat}
@[simp] theorem e_chain_ {o o' : Cmp} : evE C (.chain o o' a b c) env st = (evE C a env st).bind fun x st1 => (evE C b env st1).bind fun y st2 => (cmpW o x y st2).bind fun z st3 => match z with
    | .d (.bl true) => (evE C c env st3).bind fun u st4 => cmpW o' y u st4
    | .d (.bl false) => .ok (.d (.bl false)) st3
    | _ => .stuck := by (conv => lhs; unfold evE) <;> rfl
@[simp] theorem e_lstOf_ {cell : Bool} : evE C (.lstOf cell a) env st = (evE C a env st).bind fun x st1 => match itemsW x st1 with
    | some ws => mkLst cell ws st1
    | none => .stuck := by (conv => lhs; unfold evE) <;> rfl
@[simp] theorem e_cat_ {cell : Bool} : evE C (.cat cell a b) env st = (evE C a env st).bind fun x st1 => (evE C b env st1).bind fun y st2 => catW cell x y st2 := by (conv => lhs; unfold evE) <;> rfl
@[simp] theorem e_rep_ {cell : Bool} : evE C (.rep cell a b) env st = (evE C a env st).bind fun x st1 => (evE C b env st1).bind fun y st2 => repW cell x y st2 := by (conv => lhs; unfold evE) <;> rfl
@[simp] theorem e_slc_ : evE C (.slc a b c) env st = (evE C a env st).bind fun x st1 => (evE C b env st1).bind fun y st2 => match partW b.isNon y with
    | none => .stuck
    | some lo => (evE C c env st2).bind fun z st3 => match partW c.isNon z with
      | none => .stuck
      | some hi => slcW x lo hi st3 := by (conv => lhs; unfold evE) <;> rfl
@[simp] theorem es_star_ : evEs C (.star e es) env st = (evE C e env st).bind fun w st1 => match itemsW w st1 with
    | some us => (evEs C es env st1).bind fun ws st2 => .ok (us ++ ws) st2
    | none => .stuck := by (conv => lhs; unfold evEs) <;> rfl
@[simp] theorem t_blt_ {f : Blt} : evT C (.blt f es) env st = ((evEs C es env st).bind (bltW f)).bind truW := by (conv => lhs; unfold evT) <;> rfl
theorem e_comp_ {cell : Bool} {tg : Tg} {it : It} : evE C (.comp cell e tg it es) env st = (evI C it env st).bind fun src st1 =>
      (comps src.at src.over (turnOf cell (fun w s => asgI tg w (wipeE env (tgVars tg)) s) (evC C es) (evE C e)) src.len 0 [] st1).bind (mkLst cell) := by (conv => lhs; unfold evE) <;> rfl
@[simp] theorem i_zip_ : evI C (.zip a b) env st = (evE C a env st).bind fun x st1 => (evE C b env st1).bind fun y st2 => if sqK x st2 = sqK y st2 then (sqW x st2).bind fun p st3 => (sqW y st3).bind fun q st4 => .ok (.zip p q) st4 else .stuck := by (conv => lhs; unfold evI) <;> rfl
@[simp] theorem i_zipL_ : evI C (.zipL a b) env st = (evE C a env st).bind fun x st1 => (evE C b env st1).bind fun y st2 => if sqK x st2 = some true ∧ sqK y st2 = some true then (sqW x st2).bind fun p st3 => (sqW y st3).bind fun q st4 => .ok (.zip p q) st4 else .stuck := by (conv => lhs; unfold evI) <;> rfl
end
/-! ### comprehensions over what stands -/
theorem comps_run {f : Item → Store → Res (Option W)} {st : Store} {look : Nat → Store → Option Item} {over : Store → Bool} (it : Nat → Item) (g : Nat → Option W) (N : Nat) (hN : N ≤ 1000) (ha : ∀ i, i < N → look i st = some (it i)) (ho : over st = true) (hf : ∀ i, i < N → f (it i) st = .ok (g i) st) :
    ∀ (k i : Nat) (acc : List W), i + k = N → acc.length ≤ i → comps look over f k i acc st = .ok (acc ++ (List.range' i k).filterMap g) st
  | 0, i, acc, _, _ => by
    unfold comps
    rw [if_pos ho]
    simp
  | k + 1, i, acc, h, hl => by
    unfold comps
    rw [ha i (by omega)]
    simp only [hf i (by omega), bind_ok]
    rw [List.range'_succ]
    cases hg : g i with
    | none =>
      simp only [List.filterMap_cons, hg]
      exact comps_run it g N hN ha ho hf k (i + 1) acc (by omega) (by omega)
    | some y =>
      have sm : small acc.length = true := decide_eq_true (by omega)
      simp only [List.filterMap_cons, hg, sm, if_true]
      rw [comps_run it g N hN ha ho hf k (i + 1) (acc ++ [y]) (by omega) (by simp; omega)]
      simp
theorem range_get {α β : Type} (g : α → Option β) : ∀ (xs : List α), (List.range' 0 xs.length).filterMap (fun i => (xs[i]?).bind g) = xs.filterMap g := fun xs => by
  have gen : ∀ (ys : List α) (n : Nat) (pre : List α), pre.length = n → (List.range' n ys.length).filterMap (fun i => ((pre ++ ys)[i]?).bind g) = ys.filterMap g := by
    intro ys
    induction ys with
    | nil => intro n pre _; rfl
    | cons y ys ih =>
      intro n pre hn
      rw [List.length_cons, List.range'_succ]
      have e : (pre ++ y :: ys)[n]? = some y := by rw [List.getElem?_append_right (by omega)]; simp [hn]
      have := ih (n + 1) (pre ++ [y]) (by simp [hn])
      rw [List.append_assoc] at this
      simp only [List.singleton_append] at this
      simp only [List.filterMap_cons, e, Option.bind_some]
      rw [this]
  exact gen xs 0 [] rfl
theorem filterMap_some {α β : Type} (f : α → β) (xs : List α) : xs.filterMap (fun x => some (f x)) = xs.map f := by
  induction xs with
  | nil => rfl
  | cons x xs ih => simp [ih]
theorem comps_one {α : Type} {f : Item → Store → Res (Option W)} {st : Store} (h : α → D) (g : α → Option W) (xs : List α) (hl : xs.length ≤ 1000) (hf : ∀ x ∈ xs, f (.one (.d (h x))) st = .ok (g x) st) :
    comps (Src.one (.dat ((xs.map h).map W.d))).at (Src.one (.dat ((xs.map h).map W.d))).over f (Src.one (.dat ((xs.map h).map W.d))).len 0 [] st = .ok (xs.filterMap g) st := by
  have ln : (Src.one (.dat ((xs.map h).map W.d))).len = xs.length := by simp [Src.len, Sq.len]
  have at_ : ∀ i x, xs[i]? = some x → (Src.one (.dat ((xs.map h).map W.d))).at i st = some (.one (.d (h x))) := fun i x e => by
    simp [Src.at, Sq.at, e]
  rw [ln, comps_run (fun i => match xs[i]? with | some x => .one (.d (h x)) | none => .one (.d .non)) (fun i => (xs[i]?).bind g) xs.length hl (fun i hi => by
    have e : xs[i]? = some (xs[i]'hi) := List.getElem?_eq_getElem hi
    rw [at_ i _ e, e]) rfl (fun i hi => by
    have e : xs[i]? = some (xs[i]'hi) := List.getElem?_eq_getElem hi
    rw [e]
    exact hf _ (List.getElem_mem hi)) xs.length 0 [] (by omega) (Nat.le_refl _), range_get]
  rfl
theorem comps_two {α β : Type} {f : Item → Store → Res (Option W)} {st : Store} (h : α → D) (k : β → D) (g : α × β → Option W) (xs : List α) (ys : List β) (hxy : xs.length = ys.length) (hl : xs.length ≤ 1000) (hf : ∀ p ∈ xs.zip ys, f (.one (.d (.tup [h p.1, k p.2]))) st = .ok (g p) st) :
    comps (Src.zip (.dat ((xs.map h).map W.d)) (.dat ((ys.map k).map W.d))).at (Src.zip (.dat ((xs.map h).map W.d)) (.dat ((ys.map k).map W.d))).over f (Src.zip (.dat ((xs.map h).map W.d)) (.dat ((ys.map k).map W.d))).len 0 [] st = .ok ((xs.zip ys).filterMap g) st := by
  have lz : (xs.zip ys).length = xs.length := by rw [List.length_zip]; omega
  have ln : (Src.zip (.dat ((xs.map h).map W.d)) (.dat ((ys.map k).map W.d))).len = (xs.zip ys).length := by simp [Src.len, Sq.len]
  have at_ : ∀ i p, (xs.zip ys)[i]? = some p → (Src.zip (.dat ((xs.map h).map W.d)) (.dat ((ys.map k).map W.d))).at i st = some (.one (.d (.tup [h p.1, k p.2]))) := fun i p e => by
    obtain ⟨e1, e2⟩ := List.getElem?_zip_eq_some.mp e
    simp [Src.at, Sq.at, e1, e2, pairI]
  rw [ln, comps_run (fun i => match (xs.zip ys)[i]? with | some p => .one (.d (.tup [h p.1, k p.2])) | none => .one (.d .non)) (fun i => ((xs.zip ys)[i]?).bind g) (xs.zip ys).length (by omega) (fun i hi => by
    have e : (xs.zip ys)[i]? = some ((xs.zip ys)[i]'hi) := List.getElem?_eq_getElem hi
    rw [at_ i _ e, e]) rfl (fun i hi => by
    have e : (xs.zip ys)[i]? = some ((xs.zip ys)[i]'hi) := List.getElem?_eq_getElem hi
    rw [e]
    exact hf _ (List.getElem_mem hi)) (xs.zip ys).length 0 [] (by omega) (Nat.le_refl _), range_get]
  rfl
section
variable {C : Ctx} {env : Env} {st : Store} {a b c elt : E} {i j : Nat} {α β : Type}
theorem list_out {ds : List D} (h : ds.length ≤ 1000) : mkLst false (ds.map W.d) st = .ok (.d (.lst ds)) st := mkLst_map (by omega)
theorem comp_seq (h k : α → D) (xs : List α) {w : D} (hw : w = .lst (xs.map h) ∨ w = .tup (xs.map h)) (ha : evE C a env st = .ok (.d w) st) (hl : xs.length ≤ 1000) (he : ∀ x ∈ xs, evE C elt (env.set i (some (.d (h x)))) st = .ok (.d (k x)) st) :
    evE C (.comp false elt (.v i) (.seq a) .nil) env st = .ok (.d (.lst (xs.map k))) st := by
  have src : sqW (.d w) st = .ok (.dat ((xs.map h).map W.d)) st := by rcases hw with rfl | rfl <;> rfl
  rw [e_comp_, i_seq_, ha]
  simp only [bind_ok, src]
  rw [comps_one h (fun x => some (.d (k x))) xs hl (fun x hx => by
    have := he x hx
    simp [turnOf, asgI, asgT, tgVars, wipeE, keepOf, noexc, this]), bind_ok, filterMap_some]
  rw [show (xs.map fun x => W.d (k x)) = (xs.map k).map W.d by rw [List.map_map]; rfl]
  exact list_out (by simpa using hl)
theorem comp_flt (h k : α → D) (p : α → Bool) (xs : List α) {w : D} (hw : w = .lst (xs.map h) ∨ w = .tup (xs.map h)) (ha : evE C a env st = .ok (.d w) st) (hl : xs.length ≤ 1000) (hc : ∀ x ∈ xs, evT C c (env.set i (some (.d (h x)))) st = .ok (p x) st) (he : ∀ x ∈ xs, p x = true → evE C elt (env.set i (some (.d (h x)))) st = .ok (.d (k x)) st) :
    evE C (.comp false elt (.v i) (.seq a) (.cons c .nil)) env st = .ok (.d (.lst ((xs.filter p).map k))) st := by
  have src : sqW (.d w) st = .ok (.dat ((xs.map h).map W.d)) st := by rcases hw with rfl | rfl <;> rfl
  rw [e_comp_, i_seq_, ha]
  simp only [bind_ok, src]
  rw [comps_one h (fun x => if p x then some (.d (k x)) else none) xs hl (fun x hx => by
    have := hc x hx
    cases hp : p x with
    | true =>
      have := he x hx hp
      simp_all [turnOf, asgI, asgT, tgVars, wipeE, keepOf, noexc]
    | false => simp_all [turnOf, asgI, asgT, tgVars, wipeE, keepOf, noexc]), bind_ok]
  have e : (xs.filterMap fun x => if p x then some (W.d (k x)) else none) = ((xs.filter p).map k).map W.d := by
    clear hw ha hl hc he src
    induction xs with
    | nil => rfl
    | cons x xs ih => cases hp : p x <;> simp [hp] <;> simpa using ih
  rw [e]
  exact list_out (by rw [List.length_map]; exact Nat.le_trans (List.length_filter_le _ _) hl)
theorem zip_out {γ : Type} (k : α × β → γ) (xs : List α) (ys : List β) : (xs.zip ys).map k = List.zipWith (fun x y => k (x, y)) xs ys := by
  rw [List.zip_eq_zipWith]
  simp [List.map_zipWith]
theorem comp_zip2 (h : α → D) (k : β → D) (g : α → β → D) (xs : List α) (ys : List β) {w w' : D} (hxy : xs.length = ys.length) (hw : w = .lst (xs.map h) ∧ w' = .lst (ys.map k) ∨ w = .tup (xs.map h) ∧ w' = .tup (ys.map k)) (ha : evE C a env st = .ok (.d w) st) (hb : evE C b env st = .ok (.d w') st) (hl : xs.length ≤ 1000)
    (he : ∀ p ∈ xs.zip ys, evE C elt ((((env.set j none).set i none).set i (some (.d (h p.1)))).set j (some (.d (k p.2)))) st = .ok (.d (g p.1 p.2)) st) :
    evE C (.comp false elt (.t [.v i, .v j]) (.zip a b) .nil) env st = .ok (.d (.lst (List.zipWith g xs ys))) st := by
  have src : evI C (.zip a b) env st = .ok (.zip (.dat ((xs.map h).map W.d)) (.dat ((ys.map k).map W.d))) st := by
    rw [i_zip_, ha]
    simp only [bind_ok, hb]
    rcases hw with ⟨rfl, rfl⟩ | ⟨rfl, rfl⟩ <;> rfl
  rw [e_comp_, src]
  simp only [bind_ok]
  rw [comps_two h k (fun p => some (.d (g p.1 p.2))) xs ys hxy hl (fun p hp => by
    have := he p hp
    have e : asgI (.t [.v i, .v j]) (.one (.d (.tup [h p.1, k p.2]))) (wipeE env (tgVars (.t [.v i, .v j]))) st = some ((((env.set j none).set i none).set i (some (.d (h p.1)))).set j (some (.d (k p.2)))) := by
      simp [asgI, asgT, asgTs, tgVars, tgsVars, wipeE]
    unfold turnOf
    simp only [e, c_nil_, bind_ok, if_true, this, keepOf, Bool.false_eq_true, if_false, fz_d, noexc]), bind_ok, filterMap_some]
  rw [show ((xs.zip ys).map fun p => W.d (g p.1 p.2)) = ((xs.zip ys).map fun p => g p.1 p.2).map W.d by rw [List.map_map]; rfl, zip_out]
  exact list_out (by rw [List.length_zipWith]; omega)
theorem comp_zipN (h : α → D) (k : β → D) (g : α → β → D) (xs : List α) (ys : List β) (hxy : xs.length = ys.length) (ha : evE C a env st = .ok (.d (.lst (xs.map h))) st) (hb : evE C b env st = .ok (.d (.lst (ys.map k))) st) (hl : xs.length ≤ 1000)
    (he : ∀ p ∈ xs.zip ys, evE C elt (env.set i (some (.d (.tup [h p.1, k p.2])))) st = .ok (.d (g p.1 p.2)) st) :
    evE C (.comp false elt (.v i) (.zipL a b) .nil) env st = .ok (.d (.lst (List.zipWith g xs ys))) st := by
  have src : evI C (.zipL a b) env st = .ok (.zip (.dat ((xs.map h).map W.d)) (.dat ((ys.map k).map W.d))) st := by
    rw [i_zipL_, ha]
    simp only [bind_ok, hb]
    rfl
  rw [e_comp_, src]
  simp only [bind_ok]
  rw [comps_two h k (fun p => some (.d (g p.1 p.2))) xs ys hxy hl (fun p hp => by
    have := he p hp
    simp [turnOf, asgI, asgT, tgVars, wipeE, keepOf, noexc, this]), bind_ok, filterMap_some]
  rw [show ((xs.zip ys).map fun p => W.d (g p.1 p.2)) = ((xs.zip ys).map fun p => g p.1 p.2).map W.d by rw [List.map_map]; rfl, zip_out]
  exact list_out (by rw [List.length_zipWith]; omega)
theorem rng_small {N : Nat} (hl : N ≤ 1000) : rngOk (N : Int) = true :=
  decide_eq_true (p := -(2 ^ 62) ≤ (N : Int) ∧ (N : Int) < 2 ^ 62) ⟨Int.le_trans (by decide) (Int.natCast_nonneg N), Int.lt_of_le_of_lt (Int.ofNat_le.mpr hl) (by decide)⟩
theorem rngW_one {n : Int} : rngW [.d (.int n)] st = (if rngOk n = true then Res.ok (Sq.rng 0 n.toNat) st else .stuck) := by unfold rngW; rfl
theorem src_rng {N : Nat} (hl : N ≤ 1000) (ha : evE C a env st = .ok (.d (.int N)) st) : evI C (.rng (.cons a .nil)) env st = .ok (.one (.rng 0 N)) st := by
  rw [i_rng_, es_cons_, ha, bind_ok, es_nil_, bind_ok, bind_ok, rngW_one, rng_small hl, if_pos rfl, bind_ok, Int.toNat_natCast]
theorem comp_rng1 (k : Nat → D) (N : Nat) (hl : N ≤ 1000) (ha : evE C a env st = .ok (.d (.int N)) st) (he : ∀ x, x < N → evE C elt (env.set i (some (.d (.int (x : Nat))))) st = .ok (.d (k x)) st) :
    evE C (.comp false elt (.v i) (.rng (.cons a .nil)) .nil) env st = .ok (.d (.lst ((List.range N).map k))) st := by
  have src : evI C (.rng (.cons a .nil)) env st = .ok (.one (.rng 0 N)) st := src_rng hl ha
  have at_ : ∀ x, x < N → (Src.one (.rng 0 N)).at x st = some (.one (.d (.int (x : Nat)))) := fun x hx => by simp [Src.at, Sq.at, hx]
  have run := comps_run (st := st) (look := (Src.one (.rng 0 N)).at) (over := (Src.one (.rng 0 N)).over) (f := turnOf false (fun w s => asgI (.v i) w (wipeE env (tgVars (.v i))) s) (evC C .nil) (evE C elt)) (fun x => .one (.d (.int (x : Nat)))) (fun x => some (.d (k x))) N hl at_ (by simp [Src.over, Sq.over]) (fun x hx => by
    have := he x hx
    simp [turnOf, asgI, asgT, tgVars, wipeE, keepOf, noexc, this]) N 0 [] (Nat.zero_add N) (Nat.le_refl _)
  rw [e_comp_, src, bind_ok, show (Src.one (.rng 0 N)).len = N by simp [Src.len, Sq.len], run, bind_ok, filterMap_some, List.nil_append, ← List.range_eq_range']
  have e : ((List.range N).map fun x => W.d (k x)) = ((List.range N).map k).map W.d := by rw [List.map_map]; rfl
  rw [e]
  have hl2 : ((List.range N).map k).length ≤ 1000 := by rw [List.length_map, List.length_range]; exact hl
  exact list_out hl2
/-- w is a list or a tuple of these, as it stands -/
structure Hs (w : W) (st : Store) (ds : List D) : Prop where
  sq : ∃ q, sqW w st = .ok q st ∧ q.len = ds.length ∧ q.over st = true ∧ ∀ i (h : i < ds.length), q.at st i = some (.d ds[i])
  items : itemsW w st = some (ds.map W.d)
theorem Hs.lst {ds : List D} : Hs (.d (.lst ds)) st ds := ⟨⟨.dat (ds.map W.d), rfl, by simp [Sq.len], rfl, fun i h => by simp [Sq.at, h]⟩, rfl⟩
theorem Hs.tup {ds : List D} : Hs (.d (.tup ds)) st ds := ⟨⟨.dat (ds.map W.d), rfl, by simp [Sq.len], rfl, fun i h => by simp [Sq.at, h]⟩, rfl⟩
theorem Hs.cell {n : Nat} {ds : List D} (h : st[n]? = some (.lst (ds.map W.d))) : Hs (.ref n) st ds :=
  ⟨⟨.cell n ds.length, by simp [sqW, h], by simp [Sq.len], by simp [Sq.over, h], fun i hi => by simp [Sq.at, h, hi]⟩, by simp [itemsW, h]⟩
theorem comp_at (h k : α → D) (xs : List α) {w : W} (hw : Hs w st (xs.map h)) (ha : evE C a env st = .ok w st) (hl : xs.length ≤ 1000) (he : ∀ x ∈ xs, evE C elt (env.set i (some (.d (h x)))) st = .ok (.d (k x)) st) :
    evE C (.comp false elt (.v i) (.seq a) .nil) env st = .ok (.d (.lst (xs.map k))) st := by
  obtain ⟨⟨q, h1, h2, h3, h4⟩, _⟩ := hw
  rw [List.length_map] at h2
  rw [e_comp_, i_seq_, ha]
  simp only [bind_ok, h1]
  have at_ : ∀ j x, xs[j]? = some x → (Src.one q).at j st = some (.one (.d (h x))) := fun j x e => by
    obtain ⟨lt, e'⟩ := List.getElem?_eq_some_iff.mp e
    have := h4 j (by rw [List.length_map]; exact lt)
    simp only [List.getElem_map, e'] at this
    simp [Src.at, this]
  have ln : (Src.one q).len = xs.length := h2
  rw [ln, comps_run (fun j => match xs[j]? with | some x => .one (.d (h x)) | none => .one (.d .non)) (fun j => (xs[j]?).bind fun x => some (.d (k x))) xs.length hl (fun j hj => by
    have e : xs[j]? = some (xs[j]'hj) := List.getElem?_eq_getElem hj
    rw [at_ j _ e, e]) h3 (fun j hj => by
    have e : xs[j]? = some (xs[j]'hj) := List.getElem?_eq_getElem hj
    have := he _ (List.getElem_mem hj)
    rw [e]
    simp [turnOf, asgI, asgT, tgVars, wipeE, keepOf, noexc, this]) xs.length 0 [] (Nat.zero_add _) (Nat.le_refl _), bind_ok, range_get, List.nil_append, filterMap_some]
  rw [show (xs.map fun x => W.d (k x)) = (xs.map k).map W.d by rw [List.map_map]; rfl]
  exact list_out (by simpa using hl)
end
/-! ### lists and tuples of numbers -/
section
variable {st : Store}
def di (ns : List Int) : List D := ns.map D.int
theorem ints_map : ∀ ns : List Int, intsW ((di ns).map W.d) = some ns
  | [] => rfl
  | n :: ns => by
    show (match some n, intsW ((di ns).map W.d) with | some i, some is => some (i :: is) | _, _ => none) = _
    rw [ints_map ns]
theorem bls_map : ∀ bs : List Bool, blsW ((bs.map D.bl).map W.d) = some bs
  | [] => rfl
  | n :: ns => by
    show (match some n, blsW ((ns.map D.bl).map W.d) with | some i, some is => some (i :: is) | _, _ => none) = _
    rw [bls_map ns]
theorem sum_lst (ns : List Int) : bltW .sum [.d (.lst (di ns))] st = .ok (.d (.int ns.sum)) st := by
  show (match intsW ((di ns).map W.d) with | some ns => Res.ok (W.d (.int ns.sum)) st | none => .stuck) = _
  rw [ints_map]
theorem sum_tup (ns : List Int) : bltW .sum [.d (.tup (di ns))] st = .ok (.d (.int ns.sum)) st := by
  show (match intsW ((di ns).map W.d) with | some ns => Res.ok (W.d (.int ns.sum)) st | none => .stuck) = _
  rw [ints_map]
theorem all_lst (bs : List Bool) : bltW .all [.d (.lst (bs.map D.bl))] st = .ok (.d (.bl (bs.all id))) st := by
  show (match blsW ((bs.map D.bl).map W.d) with | some bs => Res.ok (W.d (.bl (bs.all id))) st | none => .stuck) = _
  rw [bls_map]
theorem tuple_lst {ds : List D} (h : ds.length ≤ 1000) : bltW .tuple [.d (.lst ds)] st = .ok (.d (.tup ds)) st := by
  show (if small (ds.map W.d).length then (fzs (ds.map W.d) st).bind fun ds st1 => Res.ok (W.d (.tup ds)) st1 else .stuck) = _
  rw [if_pos (show small (ds.map W.d).length = true from decide_eq_true (by simp; omega)), fzs_map]; rfl
theorem tuple_tup {ds : List D} : bltW .tuple [.d (.tup ds)] st = .ok (.d (.tup ds)) st := rfl
@[simp] theorem len_lst {ds : List D} : bltW .len [.d (.lst ds)] st = .ok (.d (.int ds.length)) st := rfl
@[simp] theorem len_tup {ds : List D} : bltW .len [.d (.tup ds)] st = .ok (.d (.int ds.length)) st := rfl
end
end Mi
namespace K07
open PySem PySem.Spec L2 Mi
abbrev prg : Program := PySem.Challenge.pw_stoppedso_k07_how_far_shares_are_apart
def top (i : Nat) : Stmt := prg.main.body.getD i (.Pass ⟨0, 0, 0, 0⟩)
/-- is_number -/
def d0 : Def := ⟨1, 1, false, .cons (.ret (.bool true (.cons (.isin (.var 0) [.int]) (.cons (.not (.isin (.var 0) [.bool])) (.nil))))) (.nil)⟩
def f0 : FnT := ⟨"is_number", d0, txOf ["thing"] (top 7), false⟩
/-- is_between -/
def d1 : Def := ⟨3, 3, false, .cons (.ret (.bool true (.cons (.call 0 (.cons (.var 0) (.nil))) (.cons (.chain .le .le (.var 1) (.var 0) (.var 2)) (.nil))))) (.nil)⟩
def f1 : FnT := ⟨"is_between", d1, txOf ["thing", "low", "high"] (top 8), false⟩
/-- is_list -/
def d2 : Def := ⟨1, 1, false, .cons (.ret (.isin (.var 0) [.lst, .tup])) (.nil)⟩
def f2 : FnT := ⟨"is_list", d2, txOf ["thing"] (top 9), false⟩
/-- is_row -/
def d3 : Def := ⟨2, 3, false, .cons (.ret (.bool true (.cons (.isin (.var 0) [.tup]) (.cons (.cmp .eq (.blt .len (.cons (.var 0) (.nil))) (.var 1)) (.cons (.blt .all (.cons (.comp false (.call 0 (.cons (.var 2) (.nil))) (.v 2) (.seq (.var 0)) (.nil)) (.nil))) (.nil)))))) (.nil)⟩
def f3 : FnT := ⟨"is_row", d3, txOf ["thing", "many", "item"] (top 10), false⟩
/-- is_count_row -/
def d4 : Def := ⟨2, 3, false, .cons (.ret (.bool true (.cons (.call 3 (.cons (.var 0) (.cons (.var 1) (.nil)))) (.cons (.blt .all (.cons (.comp false (.cmp .ge (.var 2) (.int 0)) (.v 2) (.seq (.var 0)) (.nil)) (.nil))) (.nil))))) (.nil)⟩
def f4 : FnT := ⟨"is_count_row", d4, txOf ["thing", "many", "item"] (top 11), false⟩
/-- divisor_of -/
def d5 : Def := ⟨1, 5, false, .cons (.set 1 (.int 0)) (.cons (.for_ (.v 2) (.seq (.var 0)) (.cons (.par [3, 4] (.cons (.var 1) (.cons (.blt .abs (.cons (.var 2) (.nil))) (.nil)))) (.cons (.whl (.cmp .ne (.var 4) (.int 0)) (.cons (.par [3, 4] (.cons (.var 4) (.cons (.op .mod (.var 3) (.var 4)) (.nil)))) (.nil))) (.cons (.set 1 (.var 3)) (.nil))))) (.cons (.ret (.var 1)) (.nil)))⟩
def f5 : FnT := ⟨"divisor_of", d5, txOf ["numbers", "found", "number", "here", "there"] (top 12), false⟩
/-- least_pair -/
def d6 : Def := ⟨2, 4, false, .cons (.set 2 (.call 5 (.cons (.tup (.cons (.var 0) (.star (.var 1) (.nil)))) (.nil)))) (.cons (.ret (.tup (.cons (.op .fdiv (.var 0) (.var 2)) (.cons (.blt .tuple (.cons (.comp false (.op .fdiv (.var 3) (.var 2)) (.v 3) (.seq (.var 1)) (.nil)) (.nil))) (.nil))))) (.nil))⟩
def f6 : FnT := ⟨"least_pair", d6, txOf ["scale", "numbers", "found", "item"] (top 13), false⟩
/-- need_many -/
def d7 : Def := ⟨1, 1, false, .cons (.ifs (.not (.call 1 (.cons (.var 0) (.cons (.int 1) (.cons (.int 8) (.nil)))))) (.cons (.raise 1 (.cons (.str "no number of places from 1 to 8") .nil)) (.nil)) (.nil)) (.nil)⟩
def f7 : FnT := ⟨"need_many", d7, txOf ["many"] (top 14), false⟩
/-- ratio_of -/
def d8 : Def := ⟨2, 3, false, .cons (.set 2 (.ite (.cmp .gt (.var 1) (.int 0)) (.call 5 (.cons (.tup (.cons (.var 0) (.cons (.var 1) (.nil)))) (.nil))) (.op .sub (.int 0) (.call 5 (.cons (.tup (.cons (.var 0) (.cons (.var 1) (.nil)))) (.nil)))))) (.cons (.ret (.tup (.cons (.op .fdiv (.var 0) (.var 2)) (.cons (.op .fdiv (.var 1) (.var 2)) (.nil))))) (.nil))⟩
def f8 : FnT := ⟨"ratio_of", d8, txOf ["above", "below", "found"] (top 16), false⟩
/-- is_pair_of -/
def d9 : Def := ⟨2, 2, false, .cons (.ifs (.bool false (.cons (.not (.isin (.var 1) [.tup])) (.cons (.cmp .ne (.blt .len (.cons (.var 1) (.nil))) (.int 2)) (.cons (.not (.call 0 (.cons (.idx (.var 1) (.int 0)) (.nil)))) (.cons (.cmp .lt (.idx (.var 1) (.int 0)) (.int 1)) (.nil)))))) (.cons (.ret (.bl false)) (.nil)) (.nil)) (.cons (.ret (.bool true (.cons (.call 4 (.cons (.idx (.var 1) (.int 1)) (.cons (.var 0) (.nil)))) (.cons (.cmp .eq (.call 5 (.cons (.tup (.cons (.idx (.var 1) (.int 0)) (.star (.idx (.var 1) (.int 1)) (.nil)))) (.nil))) (.int 1)) (.nil))))) (.nil))⟩
def f9 : FnT := ⟨"is_pair_of", d9, txOf ["many", "thing"] (top 18), false⟩
/-- is_share_of -/
def d10 : Def := ⟨2, 2, false, .cons (.ret (.bool true (.cons (.call 9 (.cons (.var 0) (.cons (.var 1) (.nil)))) (.cons (.cmp .eq (.blt .sum (.cons (.idx (.var 1) (.int 1)) (.nil))) (.idx (.var 1) (.int 0))) (.nil))))) (.nil)⟩
def f10 : FnT := ⟨"is_share_of", d10, txOf ["many", "thing"] (top 19), false⟩
/-- need_share -/
def d11 : Def := ⟨2, 2, false, .cons (.ifs (.not (.call 10 (.cons (.var 0) (.cons (.var 1) (.nil))))) (.cons (.raise 2 (.cons (.str "no share of these places") .nil)) (.nil)) (.nil)) (.nil)⟩
def f11 : FnT := ⟨"need_share", d11, txOf ["many", "share"] (top 20), false⟩
/-- mean_of -/
def d12 : Def := ⟨2, 9, false, .cons (.par [5, 6] (.cons (.blt .sum (.cons (.var 1) (.nil))) (.cons (.blt .len (.cons (.idx (.idx (.var 0) (.int 0)) (.int 1)) (.nil))) (.nil)))) (.cons (.set 2 (.int 1)) (.cons (.for_ (.v 3) (.seq (.var 0)) (.cons (.set 2 (.op .mul (.var 2) (.idx (.var 3) (.int 0)))) (.nil))) (.cons (.set 4 (.comp false (.blt .sum (.cons (.comp false (.op .mul (.op .mul (.var 8) (.idx (.idx (.var 3) (.int 1)) (.var 7))) (.op .fdiv (.var 2) (.idx (.var 3) (.int 0)))) (.t [.v 8, .v 3]) (.zip (.var 1) (.var 0)) (.nil)) (.nil))) (.v 7) (.rng (.cons (.var 6) (.nil))) (.nil))) (.cons (.ret (.call 6 (.cons (.op .mul (.var 2) (.var 5)) (.cons (.var 4) (.nil))))) (.nil)))))⟩
def f12 : FnT := ⟨"mean_of", d12, txOf ["shares", "weights", "scale", "pair", "numbers", "whole", "many", "k", "weight"] (top 21), false⟩
/-- apart_of -/
def d13 : Def := ⟨2, 11, false, .cons (.set 2 (.op .mul (.idx (.var 0) (.int 0)) (.idx (.var 1) (.int 0)))) (.cons (.par [6, 7] (.cons (.comp false (.op .mul (.var 9) (.idx (.var 1) (.int 0))) (.v 9) (.seq (.idx (.var 0) (.int 1))) (.nil)) (.cons (.comp false (.op .mul (.var 9) (.idx (.var 0) (.int 0))) (.v 9) (.seq (.idx (.var 1) (.int 1))) (.nil)) (.nil)))) (.cons (.set 3 (.comp false (.blt .min (.cons (.var 8) (.nil))) (.v 8) (.zipL (.var 6) (.var 7)) (.nil))) (.cons (.set 4 (.comp false (.op .sub (.var 9) (.var 10)) (.t [.v 9, .v 10]) (.zip (.var 6) (.var 3)) (.nil))) (.cons (.set 5 (.comp false (.op .sub (.var 9) (.var 10)) (.t [.v 9, .v 10]) (.zip (.var 7) (.var 3)) (.nil))) (.cons (.ret (.tup (.cons (.call 6 (.cons (.var 2) (.cons (.var 3) (.nil)))) (.cons (.call 6 (.cons (.var 2) (.cons (.var 4) (.nil)))) (.cons (.call 6 (.cons (.var 2) (.cons (.var 5) (.nil)))) (.nil)))))) (.nil))))))⟩
def f13 : FnT := ⟨"apart_of", d13, txOf ["one", "other", "scale", "both", "first", "second", "here", "there", "pair", "item", "least"] (top 22), false⟩
/-- mixed -/
def d14 : Def := ⟨3, 4, false, .cons (.expr (.call 7 (.cons (.var 0) (.nil)))) (.cons (.ifs (.bool false (.cons (.not (.call 2 (.cons (.var 1) (.nil)))) (.cons (.cmp .eq (.blt .len (.cons (.var 1) (.nil))) (.int 0)) (.cons (.not (.blt .all (.cons (.comp false (.call 10 (.cons (.var 0) (.cons (.var 3) (.nil)))) (.v 3) (.seq (.var 1)) (.nil)) (.nil)))) (.nil))))) (.cons (.raise 3 (.cons (.str "no list of shares") .nil)) (.nil)) (.nil)) (.cons (.ifs (.bool false (.cons (.not (.call 2 (.cons (.var 2) (.nil)))) (.cons (.not (.call 4 (.cons (.blt .tuple (.cons (.var 2) (.nil))) (.cons (.blt .len (.cons (.var 1) (.nil))) (.nil))))) (.cons (.cmp .eq (.blt .sum (.cons (.var 2) (.nil))) (.int 0)) (.nil))))) (.cons (.raise 4 (.cons (.str "no weight for each share") .nil)) (.nil)) (.nil)) (.cons (.ret (.call 12 (.cons (.var 1) (.cons (.var 2) (.nil))))) (.nil))))⟩
def f14 : FnT := ⟨"mixed", d14, txOf ["many", "shares", "weights", "one"] (top 23), false⟩
/-- parting -/
def d15 : Def := ⟨3, 5, false, .cons (.expr (.call 7 (.cons (.var 0) (.nil)))) (.cons (.expr (.call 11 (.cons (.var 0) (.cons (.var 1) (.nil))))) (.cons (.expr (.call 11 (.cons (.var 0) (.cons (.var 2) (.nil))))) (.cons (.setT (.t [.v 3, .v 4]) (.idx (.call 13 (.cons (.var 1) (.cons (.var 2) (.nil)))) (.int 1))) (.cons (.ret (.call 8 (.cons (.blt .sum (.cons (.var 4) (.nil))) (.cons (.var 3) (.nil))))) (.nil)))))⟩
def f15 : FnT := ⟨"parting", d15, txOf ["many", "one", "other", "scale", "numbers"] (top 24), false⟩
/-- apart -/
def d16 : Def := ⟨3, 3, false, .cons (.expr (.call 7 (.cons (.var 0) (.nil)))) (.cons (.expr (.call 11 (.cons (.var 0) (.cons (.var 1) (.nil))))) (.cons (.expr (.call 11 (.cons (.var 0) (.cons (.var 2) (.nil))))) (.cons (.ret (.call 13 (.cons (.var 1) (.cons (.var 2) (.nil))))) (.nil))))⟩
def f16 : FnT := ⟨"apart", d16, txOf ["many", "one", "other"] (top 25), false⟩
/-- _law_begun -/
def d17 : Def := ⟨1, 3, true, .cons (.set 1 (.comp true (.op .sub (.blt .abs (.cons (.var 2) (.nil))) (.op .pow (.int 10) (.int 18))) (.v 2) (.seq (.var 0)) (.cons (.cmp .ge (.blt .abs (.cons (.var 2) (.nil))) (.op .pow (.int 10) (.int 18))) (.nil)))) (.cons (.ret (.dct [.inr "large", .inr "cells", .inr "rest", .inr "turn"] (.cons (.var 1) (.cons (.comp false (.blt .abs (.cons (.var 2) (.nil))) (.v 2) (.seq (.var 0)) (.nil)) (.cons (.int 0) (.cons (.int 0) (.nil))))))) (.nil))⟩
def f17 : FnT := ⟨"_law_begun", d17, txOf ["_law_script", "_law_large", "_law_cell"] (top 27), false⟩
/-- _law_blend -/
def d18 : Def := ⟨1, 6, false, .cons (.par [2, 3] (.cons (.op .add (.idx (.var 0) (.str "turn")) (.int 1)) (.cons (.int 0) (.nil)))) (.cons (.setIx (.var 0) (.str "turn") (.var 2)) (.cons (.for_ (.v 1) (.seq (.lst false (.cons (.int 2147483629) (.cons (.int 2147483587) (.cons (.int 2147483579) (.nil)))))) (.cons (.set 4 (.op .mod (.blt .int (.cons (.op .add (.op .mul (.var 2) (.int 69621)) (.op .fdiv (.var 1) (.int 7))) (.nil))) (.var 1))) (.cons (.for_ (.v 5) (.seq (.idx (.var 0) (.str "cells"))) (.cons (.set 4 (.op .mod (.blt .int (.cons (.op .add (.op .add (.op .mul (.var 4) (.int 48271)) (.blt .int (.cons (.var 5) (.nil)))) (.int 1)) (.nil))) (.var 1))) (.nil))) (.cons (.set 3 (.op .add (.op .mul (.var 3) (.int 2147483647)) (.op .mod (.blt .int (.cons (.op .pow (.var 4) (.int 5)) (.nil))) (.var 1)))) (.nil))))) (.cons (.ret (.var 3)) (.nil))))⟩
def f18 : FnT := ⟨"_law_blend", d18, txOf ["_law_draw", "_law_prime", "_law_turn", "_law_found", "_law_stirred", "_law_cell"] (top 28), false⟩
/-- _law_take -/
def d19 : Def := ⟨2, 3, false, .cons (.whl (.bool true (.cons (.cmp .eq (.idx (.var 0) (.str "rest")) (.int 0)) (.cons (.cmp .ne (.idx (.var 0) (.str "large")) (.lst false (.nil))) (.nil)))) (.cons (.setIx (.var 0) (.str "rest") (.popm (.idx (.var 0) (.str "large")) (.int 0))) (.nil))) (.cons (.ifs (.cmp .eq (.idx (.var 0) (.str "rest")) (.int 0)) (.cons (.setIx (.var 0) (.str "rest") (.call 18 (.cons (.var 0) (.nil)))) (.nil)) (.nil)) (.cons (.set 2 (.op .mod (.blt .int (.cons (.idx (.var 0) (.str "rest")) (.nil))) (.var 1))) (.cons (.setIx (.var 0) (.str "rest") (.op .fdiv (.blt .int (.cons (.idx (.var 0) (.str "rest")) (.nil))) (.var 1))) (.cons (.ret (.var 2)) (.nil)))))⟩
def f19 : FnT := ⟨"_law_take", d19, txOf ["_law_draw", "_law_size", "_law_found"] (top 29), false⟩
/-- _law_pick -/
def d20 : Def := ⟨2, 2, false, .cons (.ret (.idx (.var 1) (.call 19 (.cons (.var 0) (.cons (.blt .len (.cons (.var 1) (.nil))) (.nil)))))) (.nil)⟩
def f20 : FnT := ⟨"_law_pick", d20, txOf ["_law_draw", "_law_some"] (top 30), false⟩
/-- _law_divisor -/
def d21 : Def := ⟨1, 5, false, .cons (.set 1 (.int 0)) (.cons (.for_ (.v 2) (.seq (.var 0)) (.cons (.par [3, 4] (.cons (.var 1) (.cons (.blt .abs (.cons (.var 2) (.nil))) (.nil)))) (.cons (.whl (.cmp .ne (.var 4) (.int 0)) (.cons (.par [3, 4] (.cons (.var 4) (.cons (.op .mod (.blt .int (.cons (.var 3) (.nil))) (.blt .int (.cons (.var 4) (.nil)))) (.nil)))) (.nil))) (.cons (.set 1 (.var 3)) (.nil))))) (.cons (.ret (.var 1)) (.nil)))⟩
def f21 : FnT := ⟨"_law_divisor", d21, txOf ["_law_numbers", "_law_found", "_law_number", "_law_here", "_law_there"] (top 32), false⟩
/-- _law_ratio -/
def d22 : Def := ⟨2, 3, false, .cons (.set 2 (.call 21 (.cons (.lst false (.cons (.var 0) (.cons (.var 1) (.nil)))) (.nil)))) (.cons (.ret (.tup (.cons (.op .fdiv (.var 0) (.var 2)) (.cons (.op .fdiv (.var 1) (.var 2)) (.nil))))) (.nil))⟩
def f22 : FnT := ⟨"_law_ratio", d22, txOf ["_law_above", "_law_below", "_law_found"] (top 33), false⟩
/-- _law_less -/
def d23 : Def := ⟨2, 2, false, .cons (.ret (.cmp .lt (.op .mul (.idx (.var 0) (.int 0)) (.idx (.var 1) (.int 1))) (.op .mul (.idx (.var 1) (.int 0)) (.idx (.var 0) (.int 1))))) (.nil)⟩
def f23 : FnT := ⟨"_law_less", d23, txOf ["_law_one", "_law_other"] (top 34), false⟩
/-- _law_add -/
def d24 : Def := ⟨2, 2, false, .cons (.ret (.call 22 (.cons (.op .add (.op .mul (.idx (.var 0) (.int 0)) (.idx (.var 1) (.int 1))) (.op .mul (.idx (.var 1) (.int 0)) (.idx (.var 0) (.int 1)))) (.cons (.op .mul (.idx (.var 0) (.int 1)) (.idx (.var 1) (.int 1))) (.nil))))) (.nil)⟩
def f24 : FnT := ⟨"_law_add", d24, txOf ["_law_one", "_law_other"] (top 35), false⟩
/-- _law_minus -/
def d25 : Def := ⟨2, 2, false, .cons (.ret (.call 22 (.cons (.op .sub (.op .mul (.idx (.var 0) (.int 0)) (.idx (.var 1) (.int 1))) (.op .mul (.idx (.var 1) (.int 0)) (.idx (.var 0) (.int 1)))) (.cons (.op .mul (.idx (.var 0) (.int 1)) (.idx (.var 1) (.int 1))) (.nil))))) (.nil)⟩
def f25 : FnT := ⟨"_law_minus", d25, txOf ["_law_one", "_law_other"] (top 36), false⟩
/-- _law_total -/
def d26 : Def := ⟨1, 3, false, .cons (.set 1 (.tup (.cons (.int 0) (.cons (.int 1) (.nil))))) (.cons (.for_ (.v 2) (.seq (.var 0)) (.cons (.set 1 (.call 24 (.cons (.var 1) (.cons (.var 2) (.nil))))) (.nil))) (.cons (.ret (.var 1)) (.nil)))⟩
def f26 : FnT := ⟨"_law_total", d26, txOf ["_law_some", "_law_found", "_law_one"] (top 37), false⟩
/-- _law_pair -/
def d27 : Def := ⟨2, 4, false, .cons (.set 2 (.call 21 (.cons (.cat false (.lst false (.cons (.var 0) (.nil))) (.lstOf false (.var 1))) (.nil)))) (.cons (.ret (.tup (.cons (.op .fdiv (.var 0) (.var 2)) (.cons (.blt .tuple (.cons (.comp false (.op .fdiv (.var 3) (.var 2)) (.v 3) (.seq (.var 1)) (.nil)) (.nil))) (.nil))))) (.nil))⟩
def f27 : FnT := ⟨"_law_pair", d27, txOf ["_law_scale", "_law_numbers_here", "_law_found", "_law_item"] (top 38), false⟩
/-- _law_ratios_of -/
def d28 : Def := ⟨1, 2, false, .cons (.ret (.comp false (.call 22 (.cons (.var 1) (.cons (.idx (.var 0) (.int 0)) (.nil)))) (.v 1) (.seq (.idx (.var 0) (.int 1))) (.nil))) (.nil)⟩
def f28 : FnT := ⟨"_law_ratios_of", d28, txOf ["_law_pair_here", "_law_item"] (top 39), false⟩
/-- _law_pair_of -/
def d29 : Def := ⟨1, 3, false, .cons (.set 1 (.int 1)) (.cons (.for_ (.v 2) (.seq (.var 0)) (.cons (.set 1 (.op .fdiv (.op .mul (.var 1) (.idx (.var 2) (.int 1))) (.call 21 (.cons (.lst false (.cons (.var 1) (.cons (.idx (.var 2) (.int 1)) (.nil)))) (.nil))))) (.nil))) (.cons (.ret (.call 27 (.cons (.var 1) (.cons (.comp false (.op .mul (.idx (.var 2) (.int 0)) (.op .fdiv (.var 1) (.idx (.var 2) (.int 1)))) (.v 2) (.seq (.var 0)) (.nil)) (.nil))))) (.nil)))⟩
def f29 : FnT := ⟨"_law_pair_of", d29, txOf ["_law_some", "_law_scale", "_law_one"] (top 40), false⟩
/-- _law_share -/
def d30 : Def := ⟨2, 6, false, .cons (.par [4, 5] (.cons (.call 19 (.cons (.var 0) (.cons (.int 4) (.nil)))) (.cons (.call 20 (.cons (.var 0) (.cons (.lst false (.cons (.int 1) (.cons (.int 2) (.cons (.int 3) (.cons (.int 9) (.cons (.int 30000) (.nil))))))) (.nil)))) (.nil)))) (.cons (.set 2 (.rep true (.lst false (.cons (.int 0) (.nil))) (.var 1))) (.cons (.setIx (.var 2) (.call 19 (.cons (.var 0) (.cons (.var 1) (.nil)))) (.int 1)) (.cons (.for_ (.v 3) (.rng (.cons (.var 1) (.nil))) (.cons (.ifs (.bool false (.cons (.cmp .gt (.var 4) (.int 1)) (.cons (.bool true (.cons (.cmp .eq (.var 4) (.int 1)) (.cons (.cmp .eq (.call 19 (.cons (.var 0) (.cons (.int 2) (.nil)))) (.int 0)) (.nil)))) (.nil)))) (.cons (.setIx (.var 2) (.var 3) (.call 19 (.cons (.var 0) (.cons (.op .add (.var 5) (.int 1)) (.nil))))) (.nil)) (.nil)) (.nil))) (.cons (.ifs (.cmp .eq (.blt .sum (.cons (.var 2) (.nil))) (.int 0)) (.cons (.setIx (.var 2) (.int 0) (.int 1)) (.nil)) (.nil)) (.cons (.ret (.call 27 (.cons (.blt .sum (.cons (.var 2) (.nil))) (.cons (.var 2) (.nil))))) (.nil))))))⟩
def f30 : FnT := ⟨"_law_share", d30, txOf ["_law_draw", "_law_many", "_law_numbers_here", "_law_place", "_law_way", "_law_most"] (top 41), false⟩
/-- _law_some_many -/
def d31 : Def := ⟨2, 3, false, .cons (.ret (.call 20 (.cons (.var 0) (.cons (.comp false (.var 2) (.v 2) (.seq (.lst false (.cons (.int 1) (.cons (.int 2) (.cons (.int 2) (.cons (.int 3) (.cons (.int 3) (.cons (.int 3) (.cons (.int 4) (.cons (.int 4) (.cons (.int 5) (.cons (.int 6) (.cons (.int 8) (.nil)))))))))))))) (.cons (.cmp .le (.var 2) (.var 1)) (.nil))) (.nil))))) (.nil)⟩
def f31 : FnT := ⟨"_law_some_many", d31, txOf ["_law_draw", "_law_most", "_law_k"] (top 42), false⟩
/-- _law_bad_share -/
def d32 : Def := ⟨2, 8, false, .cons (.setT (.t [.v 5, .v 6]) (.var 1)) (.cons (.set 2 (.call 19 (.cons (.var 0) (.cons (.blt .len (.cons (.var 6) (.nil))) (.nil))))) (.cons (.set 3 (.lst false (.cons (.non) (.cons (.int 5) (.cons (.tup (.nil)) (.cons (.lstOf false (.var 1)) (.cons (.tup (.cons (.var 5) (.cons (.lstOf false (.var 6)) (.nil)))) (.cons (.tup (.cons (.op .add (.var 5) (.int 1)) (.cons (.var 6) (.nil)))) (.cons (.tup (.cons (.var 5) (.cons (.cat false (.var 6) (.tup (.cons (.int 0) (.nil)))) (.nil)))) (.nil)))))))))) (.cons (.set 3 (.cat false (.var 3) (.lst false (.cons (.tup (.cons (.op .mul (.int 2) (.var 5)) (.cons (.blt .tuple (.cons (.comp false (.op .mul (.int 2) (.var 7)) (.v 7) (.seq (.var 6)) (.nil)) (.nil))) (.nil)))) (.cons (.cat false (.var 1) (.tup (.cons (.int 0) (.nil)))) (.cons (.var 6) (.cons (.tup (.cons (.bl true) (.cons (.cat false (.var 6) (.tup (.cons (.int 0) (.nil)))) (.nil)))) (.nil)))))))) (.cons (.set 4 (.call 20 (.cons (.var 0) (.cons (.lst false (.cons (.op .add (.idx (.var 6) (.var 2)) (.int 1)) (.cons (.op .sub (.neg (.int 1)) (.idx (.var 6) (.var 2))) (.cons (.non) (.cons (.str "1") (.nil)))))) (.nil))))) (.cons (.ret (.call 20 (.cons (.var 0) (.cons (.cat false (.var 3) (.rep false (.lst false (.cons (.tup (.cons (.var 5) (.cons (.cat false (.cat false (.slc (.var 6) (.non) (.var 2)) (.tup (.cons (.var 4) (.nil)))) (.slc (.var 6) (.op .add (.var 2) (.int 1)) (.non))) (.nil)))) (.nil))) (.int 3))) (.nil))))) (.nil))))))⟩
def f32 : FnT := ⟨"_law_bad_share", d32, txOf ["_law_draw", "_law_share_here", "_law_spot", "_law_some", "_law_odd", "_law_scale", "_law_numbers_here", "_law_item"] (top 43), false⟩
/-- _law_lesser -/
def d33 : Def := ⟨2, 2, false, .cons (.ret (.ite (.call 23 (.cons (.var 0) (.cons (.var 1) (.nil)))) (.var 0) (.var 1))) (.nil)⟩
def f33 : FnT := ⟨"_law_lesser", d33, txOf ["_law_one", "_law_other"] (top 44), false⟩
/-- law -/
def d34 : Def := ⟨1, 19, false, .cons (.set 1 (.call 17 (.cons (.var 0) (.nil)))) (.cons (.for_ (.v 2) (.rng (.cons (.op .add (.int 2) (.blt .min (.cons (.blt .len (.cons (.var 0) (.nil))) (.cons (.int 4) (.nil))))) (.nil))) (.cons (.set 3 (.call 31 (.cons (.var 1) (.cons (.int 8) (.nil))))) (.cons (.setT (.t [.v 12, .v 13, .v 14]) (.tup (.cons (.call 30 (.cons (.var 1) (.cons (.var 3) (.nil)))) (.cons (.call 30 (.cons (.var 1) (.cons (.var 3) (.nil)))) (.cons (.call 30 (.cons (.var 1) (.cons (.var 3) (.nil)))) (.nil)))))) (.cons (.ifs (.cmp .eq (.call 19 (.cons (.var 1) (.cons (.int 3) (.nil)))) (.int 0)) (.cons (.set 13 (.call 14 (.cons (.var 3) (.cons (.lst false (.cons (.var 12) (.cons (.var 13) (.nil)))) (.cons (.lst false (.cons (.op .add (.int 1) (.call 19 (.cons (.var 1) (.cons (.int 9) (.nil))))) (.cons (.int 1) (.nil)))) (.nil)))))) (.nil)) (.nil)) (.cons (.par [15, 16] (.cons (.call 28 (.cons (.var 12) (.nil))) (.cons (.call 28 (.cons (.var 13) (.nil))) (.nil)))) (.cons (.set 4 (.comp false (.call 33 (.cons (.idx (.var 17) (.int 0)) (.cons (.idx (.var 17) (.int 1)) (.nil)))) (.v 17) (.zipL (.var 15) (.var 16)) (.nil))) (.cons (.set 5 (.comp false (.call 25 (.cons (.idx (.var 17) (.int 0)) (.cons (.idx (.var 17) (.int 1)) (.nil)))) (.v 17) (.zipL (.var 15) (.var 4)) (.nil))) (.cons (.set 6 (.comp false (.call 25 (.cons (.idx (.var 17) (.int 0)) (.cons (.idx (.var 17) (.int 1)) (.nil)))) (.v 17) (.zipL (.var 16) (.var 4)) (.nil))) (.cons (.set 7 (.callk 16 (.cons (.var 3) (.cons (.var 12) (.nil))) (.cons (.var 13) (.nil)) [0, 1, 2])) (.cons (.ifs (.cmp .ne (.blt .repr (.cons (.var 7) (.nil))) (.blt .repr (.cons (.tup (.cons (.call 29 (.cons (.var 4) (.nil))) (.cons (.call 29 (.cons (.var 5) (.nil))) (.cons (.call 29 (.cons (.var 6) (.nil))) (.nil))))) (.nil)))) (.cons (.ret (.bl false)) (.nil)) (.nil)) (.cons (.set 8 (.callk 15 (.cons (.var 3) (.cons (.var 12) (.nil))) (.cons (.var 13) (.nil)) [0, 1, 2])) (.cons (.ifs (.bool false (.cons (.cmp .ne (.blt .repr (.cons (.var 8) (.nil))) (.blt .repr (.cons (.call 26 (.cons (.var 5) (.nil))) (.nil)))) (.cons (.cmp .ne (.call 15 (.cons (.var 3) (.cons (.var 13) (.cons (.var 12) (.nil))))) (.var 8)) (.cons (.call 23 (.cons (.tup (.cons (.int 1) (.cons (.int 1) (.nil)))) (.cons (.var 8) (.nil)))) (.nil))))) (.cons (.ret (.bl false)) (.nil)) (.nil)) (.cons (.ifs (.bool false (.cons (.cmp .ne (.cmp .eq (.var 8) (.tup (.cons (.int 0) (.cons (.int 1) (.nil))))) (.cmp .eq (.var 12) (.var 13))) (.cons (.cmp .ne (.cmp .eq (.var 8) (.tup (.cons (.int 1) (.cons (.int 1) (.nil))))) (.cmp .eq (.comp false (.int 1) (.v 18) (.seq (.var 4)) (.cons (.cmp .gt (.idx (.var 18) (.int 0)) (.int 0)) (.nil))) (.lst false (.nil)))) (.nil)))) (.cons (.ret (.bl false)) (.nil)) (.nil)) (.cons (.ifs (.cmp .ne (.call 15 (.cons (.var 3) (.cons (.var 12) (.cons (.var 12) (.nil))))) (.tup (.cons (.int 0) (.cons (.int 1) (.nil))))) (.cons (.ret (.bl false)) (.nil)) (.nil)) (.cons (.set 9 (.call 24 (.cons (.call 15 (.cons (.var 3) (.cons (.var 12) (.cons (.var 14) (.nil))))) (.cons (.call 15 (.cons (.var 3) (.cons (.var 14) (.cons (.var 13) (.nil))))) (.nil))))) (.cons (.ifs (.call 23 (.cons (.var 9) (.cons (.var 8) (.nil)))) (.cons (.ret (.bl false)) (.nil)) (.nil)) (.cons (.set 10 (.call 32 (.cons (.var 1) (.cons (.var 12) (.nil))))) (.cons (.ifs (.cmp .eq (.var 3) (.int 1)) (.cons (.set 10 (.non)) (.nil)) (.nil)) (.cons (.for_ (.v 11) (.seq (.lst false (.cons (.fnv 15) (.cons (.fnv 16) (.nil))))) (.cons (.ifs (.not (.isin (.caught (.callv 11 (.cons (.call 20 (.cons (.var 1) (.cons (.lst false (.cons (.int 0) (.cons (.int 9) (.cons (.non) (.cons (.bl true) (.nil)))))) (.nil)))) (.cons (.var 10) (.cons (.non) (.nil)))))) [.exc 1])) (.cons (.ret (.bl false)) (.nil)) (.nil)) (.cons (.ifs (.not (.isin (.caught (.callv 11 (.cons (.var 3) (.cons (.var 10) (.cons (.non) (.nil)))))) [.exc 2])) (.cons (.ret (.bl false)) (.nil)) (.nil)) (.cons (.ifs (.not (.isin (.caught (.callv 11 (.cons (.var 3) (.cons (.var 12) (.cons (.var 10) (.nil)))))) [.exc 2])) (.cons (.ret (.bl false)) (.nil)) (.nil)) (.nil))))) (.nil)))))))))))))))))))) (.cons (.ret (.bl true)) (.nil)))⟩
def f34 : FnT := ⟨"law", d34, txOf ["_law_script", "_law_draw", "_law_turn", "_law_many", "_law_both", "_law_more", "_law_less_here", "_law_told", "_law_gap", "_law_around", "_law_bad", "_law_work", "_law_one", "_law_other", "_law_third", "_law_here", "_law_there", "_law_pair_here", "_law_item"] (top 45), true⟩
def subs : List (Nat × Nat) := [(0, 0), (1, 0), (1, 1), (2, 0), (2, 2), (3, 0), (3, 3), (4, 0), (4, 4)]
def fldsOf : List (Nat × List Str) := []
def L : LawT := ⟨[f0, f1, f2, f3, f4, f5, f6, f7, f8, f9, f10, f11, f12, f13, f14, f15, f16, f17, f18, f19, f20, f21, f22, f23, f24, f25, f26, f27, f28, f29, f30, f31, f32, f33, f34], [⟨"StopError", true, none⟩, ⟨"BadCount", true, none⟩, ⟨"BadShare", true, none⟩, ⟨"BadShares", true, none⟩, ⟨"BadWeights", true, none⟩], fun i j => subs.contains (i, j), fun c => (fldsOf.lookup c).getD [], some (txOf ["_law_work", "_law_caught_here", "error"] (top 31)), prg, []⟩
end K07
namespace K07
open Mi
abbrev PT : Nat := 10 ^ 100
abbrev P : Prog := L.prog PT
theorem go {f n : Nat} {d : Def} {ws : List W} {st : Store} (h : P.defs f = some d) : callD P (n + 1) f ws st = runD (P.ctx n) d ws st := by
  show (match P.defs f with | some d => runD ⟨callD P n, P.turns, P.sub, P.flds⟩ d ws st | none => .stuck) = _
  rw [h]; rfl
@[simp] theorem ctx_call (n : Nat) : (P.ctx n).call = callD P n := rfl
@[simp] theorem ctx_turns (n : Nat) : (P.ctx n).turns = PT := rfl
@[simp] theorem eq_int (a b : Int) : pyEq (.int a) (.int b) = some (decide (a = b)) := by
  unfold pyEq toP
  have h : ∀ i : Int, PySem.SeqAt.shaped (.int i) = true := fun i => rfl
  simp only [h, Bool.and_self, if_true, PySem.PyData.eqv]
  rfl
@[simp] theorem eqW_int (k : Bool) (a b : Int) (st : Store) : eqW k (.d (.int a)) (.d (.int b)) st = .ok (.d (.bl (decide (a = b) != k))) st := by
  unfold eqW
  rw [rd_d, rd_d]
  simp
/-! ### divisors -/
def cnd : E := .cmp .ne (.var 4) (.int 0)
def bdy : Ss := .cons (.par [3, 4] (.cons (.var 4) (.cons (.op .mod (.var 3) (.var 4)) .nil))) .nil
def bdy2 : Ss := .cons (.par [3, 4] (.cons (.var 4) (.cons (.op .mod (.blt .int (.cons (.var 3) .nil)) (.blt .int (.cons (.var 4) .nil))) .nil))) .nil
theorem fmod_nat (h t : Nat) : ((h : Int)).fmod (t : Int) = ((h % t : Nat) : Int) := by
  rw [Int.fmod_eq_emod_of_nonneg _ (Int.natCast_nonneg t)]; rfl
theorem cnd_at (C : Ctx) (a0 a1 a2 : Option W) (h t : Nat) (st : Store) : evT C cnd [a0, a1, a2, some (.d (.int h)), some (.d (.int t))] st = .ok (decide (t ≠ 0)) st := by
  simp [cnd, cmpW, truW, truD, Res.opt]
theorem bdy_at (C : Ctx) (a0 a1 a2 : Option W) (h t : Nat) (st : Store) (ht : t ≠ 0) : evSs C bdy [a0, a1, a2, some (.d (.int h)), some (.d (.int t))] st = .ok (.nx [a0, a1, a2, some (.d (.int t)), some (.d (.int ((h % t : Nat) : Int)))]) st := by
  simp [bdy, opW, opD, ht, parSet, fmod_nat]
theorem bdy2_at (C : Ctx) (a0 a1 a2 : Option W) (h t : Nat) (st : Store) (ht : t ≠ 0) : evSs C bdy2 [a0, a1, a2, some (.d (.int h)), some (.d (.int t))] st = .ok (.nx [a0, a1, a2, some (.d (.int t)), some (.d (.int ((h % t : Nat) : Int)))]) st := by
  simp [bdy2, opW, opD, ht, parSet, fmod_nat, bltW, int1]
theorem gcd_whl (C : Ctx) (b : Ss) (hb : ∀ (a0 a1 a2 : Option W) (h t : Nat) (st : Store), t ≠ 0 → evSs C b [a0, a1, a2, some (.d (.int h)), some (.d (.int t))] st = .ok (.nx [a0, a1, a2, some (.d (.int t)), some (.d (.int ((h % t : Nat) : Int)))]) st) (a0 a1 a2 : Option W) (st : Store) :
    ∀ (k h t : Nat), t < k → whls (evT C cnd) (evSs C b) k [a0, a1, a2, some (.d (.int h)), some (.d (.int t))] st = .ok (.nx [a0, a1, a2, some (.d (.int (Nat.gcd h t : Nat))), some (.d (.int 0))]) st
  | 0, h, t, hk => by omega
  | k + 1, h, t, hk => by
    unfold whls
    rw [cnd_at]
    by_cases ht : t = 0
    · subst ht; simp
    · rw [then_ok, if_pos (by simp [ht])]
      simp only [hb _ _ _ _ _ _ ht]
      rw [gcd_whl C b hb a0 a1 a2 st k t (h % t) (by have := Nat.mod_lt h (Nat.pos_of_ne_zero ht); omega)]
      rw [show Nat.gcd t (h % t) = Nat.gcd h t by rw [Nat.gcd_comm t, ← Nat.gcd_rec, Nat.gcd_comm]]
def gl (g : Nat) : List Int → Nat
  | [] => g
  | x :: xs => gl (Nat.gcd g x.natAbs) xs
theorem abs_int (x : Int) : (if x < 0 then -x else x) = ((x.natAbs : Nat) : Int) := by
  by_cases h : x < 0
  · rw [if_pos h]; omega
  · rw [if_neg h]; omega
@[simp] theorem abs_W (x : Int) (st : Store) : bltW .abs [.d (.int x)] st = .ok (.d (.int (x.natAbs : Nat))) st := by
  show Res.ok (W.d (D.int (if x < 0 then -x else x))) st = _
  rw [abs_int]
@[simp] theorem int_W (x : Int) (st : Store) : bltW .int [.d (.int x)] st = .ok (.d (.int x)) st := rfl
def divB (b : Ss) : Ss := .cons (.par [3, 4] (.cons (.var 1) (.cons (.blt .abs (.cons (.var 2) .nil)) .nil))) (.cons (.whl cnd b) (.cons (.set 1 (.var 3)) .nil))
abbrev BodyOk (C : Ctx) (b : Ss) : Prop := ∀ (a0 a1 a2 : Option W) (h t : Nat) (st : Store), t ≠ 0 → evSs C b [a0, a1, a2, some (.d (.int h)), some (.d (.int t))] st = .ok (.nx [a0, a1, a2, some (.d (.int t)), some (.d (.int ((h % t : Nat) : Int)))]) st
theorem div_step (C : Ctx) (b : Ss) (hC : C.turns = PT) (hb : BodyOk C b) (a0 e3 e4 : Option W) (g : Nat) (x : Int) (st : Store) (hx : x.natAbs < PT) :
    evSs C (divB b) [a0, some (.d (.int g)), some (.d (.int x)), e3, e4] st = .ok (.nx [a0, some (.d (.int (Nat.gcd g x.natAbs : Nat))), some (.d (.int x)), some (.d (.int (Nat.gcd g x.natAbs : Nat))), some (.d (.int 0))]) st := by
  have wh := gcd_whl C b hb a0 (some (.d (.int g))) (some (.d (.int x))) st PT g x.natAbs hx
  unfold divB
  simp only [ss_cons_, s_par_, es_cons_, es_nil_, e_var_, e_blt_, s_whl_, hC, List.getElem?_cons_succ, List.getElem?_cons_zero, bind_ok, then_ok, abs_W, parSet, List.set_cons_succ, List.set_cons_zero, next_nx]
  rw [wh]
  simp
/-- the loop over the numbers -/
theorem div_for (f : Item → Env → Store → RS) (a0 : Option W) (st : Store) (ws : List Int)
    (hf : ∀ x ∈ ws, ∀ (g : Nat) (e2 e3 e4 : Option W), f (.one (.d (.int x))) [a0, some (.d (.int g)), e2, e3, e4] st = .ok (.nx [a0, some (.d (.int (Nat.gcd g x.natAbs : Nat))), some (.d (.int x)), some (.d (.int (Nat.gcd g x.natAbs : Nat))), some (.d (.int 0))]) st) :
    ∀ (xs pre : List Int) (g : Nat) (e2 e3 e4 : Option W), pre ++ xs = ws →
    ∃ f2 f3 f4, fors (Src.one (.dat (ws.map fun i => W.d (.int i)))).at (Src.one (.dat (ws.map fun i => W.d (.int i)))).over f xs.length pre.length [a0, some (.d (.int g)), e2, e3, e4] st = .ok (.nx [a0, some (.d (.int (gl g xs : Nat))), f2, f3, f4]) st
  | [], pre, g, e2, e3, e4, h => by
    refine ⟨e2, e3, e4, ?_⟩
    simp [fors, Src.over, Sq.over, gl]
  | x :: xs, pre, g, e2, e3, e4, h => by
    have hx : x ∈ ws := by rw [← h]; simp
    obtain ⟨f2, f3, f4, ih⟩ := div_for f a0 st ws hf xs (pre ++ [x]) (Nat.gcd g x.natAbs) (some (.d (.int x))) (some (.d (.int (Nat.gcd g x.natAbs : Nat)))) (some (.d (.int 0))) (by rw [← h]; simp)
    refine ⟨f2, f3, f4, ?_⟩
    have at_ : (Src.one (.dat (ws.map fun i => W.d (.int i)))).at pre.length st = some (.one (.d (.int x))) := by
      have : ws[pre.length]? = some x := by rw [← h]; simp
      simp [Src.at, Sq.at, this]
    rw [List.length_cons]
    unfold fors
    rw [at_]
    simp only [hf x hx]
    rw [List.length_append] at ih
    exact ih
/-- a def that tells the greatest divisor -/
theorem div_run (C : Ctx) (b : Ss) (hC : C.turns = PT) (hb : BodyOk C b) (ws : List Int) (hw : ∀ x ∈ ws, x.natAbs < PT) (w : D) (h : w = .tup (ws.map D.int) ∨ w = .lst (ws.map D.int)) (st : Store) :
    runD C ⟨1, 5, false, .cons (.set 1 (.int 0)) (.cons (.for_ (.v 2) (.seq (.var 0)) (divB b)) (.cons (.ret (.var 1)) .nil))⟩ [.d w] st = .ok (.d (.int (gl 0 ws : Nat))) st := by
  obtain ⟨f2, f3, f4, key⟩ := div_for (forF C (.v 2) (divB b)) (some (.d w)) st ws (fun x hx g e2 e3 e4 => by
        show evSs C (divB b) [some (.d w), some (.d (.int g)), some (.d (.int x)), e3, e4] st = _
        exact div_step C b hC hb _ e3 e4 g x st (hw x hx)) ws [] 0 none none none rfl
  have src : sqW (.d w) st = .ok (.dat (ws.map fun i => W.d (.int i))) st := by
    rcases h with rfl | rfl <;> simp [sqW]
  refine (runD_ret (w := .d (.int (gl 0 ws : Nat))) (st1 := st) rfl ?_).trans handed_d
  show evSs C (.cons (.set 1 (.int 0)) (.cons (.for_ (.v 2) (.seq (.var 0)) (divB b)) (.cons (.ret (.var 1)) .nil))) [some (.d w), none, none, none, none] st = _
  have hlen : (Src.one (.dat (ws.map fun i => W.d (.int i)))).len = ws.length := by simp [Src.len, Sq.len]
  simp only [ss_cons_, s_set_, e_int__, then_ok, next_nx, List.set_cons_succ, List.set_cons_zero, s_for_, i_seq_, e_var_, List.getElem?_cons_zero, bind_ok, src, hlen]
  rw [show ([] : List Int).length = 0 from rfl, show ((0 : Nat) : Int) = 0 from rfl] at key
  rw [key]
  simp
theorem divisor (n : Nat) (ws : List Int) (hw : ∀ x ∈ ws, x.natAbs < PT) (w : D) (h : w = .tup (ws.map D.int) ∨ w = .lst (ws.map D.int)) (st : Store) : callD P (n + 1) 5 [.d w] st = .ok (.d (.int (gl 0 ws : Nat))) st := by
  rw [go (d := d5) rfl]
  exact div_run (P.ctx n) bdy rfl (bdy_at _) ws hw w h st
theorem law_divisor (n : Nat) (ws : List Int) (hw : ∀ x ∈ ws, x.natAbs < PT) (w : D) (h : w = .tup (ws.map D.int) ∨ w = .lst (ws.map D.int)) (st : Store) : callD P (n + 1) 21 [.d w] st = .ok (.d (.int (gl 0 ws : Nat))) st := by
  rw [go (d := d21) rfl]
  exact div_run (P.ctx n) bdy2 rfl (bdy2_at _) ws hw w h st
end K07
namespace K07
open Mi
theorem go1 {f m : Nat} {d : Def} {ws : List W} {st : Store} (hm : 1 ≤ m) (h : P.defs f = some d) : callD P m f ws st = runD (P.ctx (m - 1)) d ws st := by
  obtain ⟨n, rfl⟩ : ∃ n, m = n + 1 := ⟨m - 1, by omega⟩
  exact go h
def Sm (x : Int) : Prop := x.natAbs < 10 ^ 60
theorem log_sm {x : Int} (h : Sm x) : x.natAbs.log2 < 200 := PySem.Flt.log2_lt_of (by omega) (Nat.lt_trans h (by decide))
theorem mul_ok {a b : Int} (ha : Sm a) (hb : Sm b) : mulOk a b = true := decide_eq_true (by have := log_sm ha; have := log_sm hb; omega)
theorem div_ok {a : Int} (ha : Sm a) (h : a ≠ 0) : divOk a = true := decide_eq_true ⟨h, by have := log_sm ha; omega⟩
def enc (r : Int × Int) : D := .tup [.int r.1, .int r.2]
@[simp] theorem op_add_ (a b : Int) (st : Store) : opW .add (.d (.int a)) (.d (.int b)) st = .ok (.d (.int (a + b))) st := rfl
@[simp] theorem op_sub_ (a b : Int) (st : Store) : opW .sub (.d (.int a)) (.d (.int b)) st = .ok (.d (.int (a - b))) st := rfl
theorem op_mul_ {a b : Int} {st : Store} (h : mulOk a b = true) : opW .mul (.d (.int a)) (.d (.int b)) st = .ok (.d (.int (a * b))) st := by simp [opW, opD, h]
theorem op_fdiv_ {a b : Int} {st : Store} (h : divOk b = true) : opW .fdiv (.d (.int a)) (.d (.int b)) st = .ok (.d (.int (a.fdiv b))) st := by simp [opW, opD, h]
@[simp] theorem cmp_gt_ (a b : Int) (st : Store) : cmpW .gt (.d (.int a)) (.d (.int b)) st = .ok (.d (.bl (decide (b < a)))) st := rfl
@[simp] theorem cmp_ge_ (a b : Int) (st : Store) : cmpW .ge (.d (.int a)) (.d (.int b)) st = .ok (.d (.bl (decide (b ≤ a)))) st := rfl
@[simp] theorem cmp_lt_ (a b : Int) (st : Store) : cmpW .lt (.d (.int a)) (.d (.int b)) st = .ok (.d (.bl (decide (a < b)))) st := rfl
@[simp] theorem cmp_eq_ (a b : W) (st : Store) : cmpW .eq a b st = eqW false a b st := rfl
@[simp] theorem cmp_ne_ (a b : W) (st : Store) : cmpW .ne a b st = eqW true a b st := rfl
@[simp] theorem tru_bl (k : Bool) (st : Store) : truW (.d (.bl k)) st = .ok k st := rfl
@[simp] theorem ix0 (a : D) (l : List D) (st : Store) : idxW (.d (.tup (a :: l))) (.d (.int 0)) st = .ok (.d a) st := by simp [idxW, atI, ixN]
@[simp] theorem ix1 (a b : D) (l : List D) (st : Store) : idxW (.d (.tup (a :: b :: l))) (.d (.int 1)) st = .ok (.d b) st := by
  have : (1 : Int) < (l.length : Int) + 1 + 1 := by omega
  simp [idxW, atI, ixN, this]
/-! ### ratios in least terms -/
def nr (a b : Int) : Int × Int := if 0 < b then (a.fdiv (Int.gcd a b), b.fdiv (Int.gcd a b)) else (a.fdiv (0 - (Int.gcd a b : Int)), b.fdiv (0 - (Int.gcd a b : Int)))
theorem two_sm {a b : Int} (ha : Sm a) (hb : Sm b) : ∀ x ∈ [a, b], x.natAbs < PT := fun x hx => by
  have : Sm x := by
    simp at hx
    rcases hx with rfl | rfl
    · exact ha
    · exact hb
  exact Nat.lt_trans this (by decide)
theorem gl2 (a b : Int) : gl 0 [a, b] = Int.gcd a b := by simp [gl, Int.gcd]
theorem gcd_pos {a b : Int} (h : b ≠ 0) : 0 < Int.gcd a b := Nat.pos_of_ne_zero fun z => h (Int.gcd_eq_zero_iff.mp z).2
theorem gcd_sm {a b : Int} (hb : Sm b) (h : b ≠ 0) : Sm (Int.gcd a b : Int) := by
  have : Int.gcd a b ≤ b.natAbs := Nat.le_of_dvd (by omega) (Int.gcd_dvd_natAbs_right a b)
  unfold Sm at *
  omega
theorem gcd_smN {a b : Int} (hb : Sm b) (h : b ≠ 0) : Sm (0 - (Int.gcd a b : Int)) := by
  have := gcd_sm (a := a) hb h
  unfold Sm at *
  omega
def Rt (r : Int × Int) : Prop := 1 ≤ r.2 ∧ Int.gcd r.1 r.2 = 1 ∧ Sm r.1 ∧ Sm r.2
/-! ### what least terms are -/
theorem nr_at {g x y : Int} (hg : 0 < g) (hy : g * y ≠ 0) (h1 : (Int.gcd (g * x) (g * y) : Int) = g) : nr (g * x) (g * y) = if 0 < y then (x, y) else (-x, -y) := by
  unfold nr
  rw [h1]
  have hn : (0 - g) ≠ 0 := by omega
  have e1 : ∀ z : Int, (g * z).fdiv g = z := fun z => by rw [Int.mul_comm]; exact Int.mul_fdiv_cancel z (by omega)
  have e2 : ∀ z : Int, (g * z).fdiv (0 - g) = -z := fun z => by
    rw [show g * z = (-z) * (0 - g) by rw [Int.zero_sub, Int.neg_mul_neg, Int.mul_comm]]
    exact Int.mul_fdiv_cancel _ hn
  by_cases h : 0 < y
  · rw [if_pos (Int.mul_pos hg h), if_pos h, e1, e1]
  · rw [if_neg (fun z => h (Int.pos_of_mul_pos_right z hg |> fun q => by first | exact q | omega)), if_neg h, e2, e2]
theorem nr_spec {X Y : Int} (h : Y ≠ 0) : 1 ≤ (nr X Y).2 ∧ Int.gcd (nr X Y).1 (nr X Y).2 = 1 ∧ X * (nr X Y).2 = (nr X Y).1 * Y ∧ (nr X Y).1.natAbs ≤ X.natAbs ∧ (nr X Y).2.natAbs ≤ Y.natAbs := by
  have hg := gcd_pos (a := X) h
  obtain ⟨x, hx⟩ := Int.gcd_dvd_left X Y
  obtain ⟨y, hy⟩ := Int.gcd_dvd_right X Y
  obtain ⟨g, hgg⟩ : ∃ g, g = Int.gcd X Y := ⟨_, rfl⟩
  rw [← hgg] at hx hy hg
  have hxy : Int.gcd x y = 1 := by
    have e : Int.gcd ((g : Int) * x) ((g : Int) * y) = g * Int.gcd x y := by rw [Int.gcd_mul_left]; rfl
    rw [← hx, ← hy, ← hgg] at e
    have : g * 1 = g * Int.gcd x y := by omega
    exact (Nat.eq_of_mul_eq_mul_left hg this).symm
  have hy0 : y ≠ 0 := fun z => h (by rw [hy, z, Int.mul_zero])
  have key : nr X Y = if 0 < y then (x, y) else (-x, -y) := by
    have hgI : (0 : Int) < (g : Int) := by omega
    have := nr_at (x := x) (y := y) hgI (by rw [← hy]; exact h) (by rw [← hx, ← hy, ← hgg])
    rw [← hx, ← hy] at this
    exact this
  have ax : X.natAbs = g * x.natAbs := by rw [hx, Int.natAbs_mul]; rfl
  have ay : Y.natAbs = g * y.natAbs := by rw [hy, Int.natAbs_mul]; rfl
  have lx : x.natAbs ≤ X.natAbs := by rw [ax]; exact Nat.le_mul_of_pos_left _ hg
  have ly : y.natAbs ≤ Y.natAbs := by rw [ay]; exact Nat.le_mul_of_pos_left _ hg
  rw [key]
  by_cases hp : 0 < y
  · rw [if_pos hp]
    refine ⟨by omega, hxy, ?_, lx, ly⟩
    show X * y = x * Y
    rw [hx, hy, Int.mul_assoc, Int.mul_left_comm x]
  · rw [if_neg hp]
    refine ⟨by show (1 : Int) ≤ -y; omega, by simpa using hxy, ?_, by simpa using lx, by simpa using ly⟩
    show X * -y = -x * Y
    rw [Int.mul_neg, Int.neg_mul, hx, hy, Int.mul_assoc, Int.mul_left_comm x]
theorem uniq {a b X Y : Int} (hb : 1 ≤ b) (hg : Int.gcd a b = 1) (hY : Y ≠ 0) (h : X * b = a * Y) : nr X Y = (a, b) := by
  have hd : b ∣ Y := by
    have : b ∣ a * Y := ⟨X, by rw [← h, Int.mul_comm]⟩
    have h2 : b.natAbs ∣ a.natAbs * Y.natAbs := by rw [← Int.natAbs_mul]; exact Int.natAbs_dvd_natAbs.mpr this
    have hc : Nat.Coprime b.natAbs a.natAbs := by
      show Nat.gcd _ _ = 1
      rw [Nat.gcd_comm]; exact hg
    exact Int.natAbs_dvd_natAbs.mp (hc.dvd_of_dvd_mul_left h2)
  obtain ⟨k, hk⟩ := hd
  have hX : X = a * k := by
    have : X * b = (a * k) * b := by rw [h, hk, Int.mul_assoc, Int.mul_comm k b, ]
    exact Int.eq_of_mul_eq_mul_right (by omega) this
  have hk0 : k ≠ 0 := fun z => hY (by rw [hk, z, Int.mul_zero])
  have hgk : (Int.gcd X Y : Int) = (k.natAbs : Int) := by
    rw [hX, hk, Int.mul_comm a k, Int.mul_comm b k, Int.gcd_mul_left, hg, Nat.mul_one]
  unfold nr
  rw [hgk]
  by_cases hp : 0 < k
  · have e : (k.natAbs : Int) = k := by omega
    rw [if_pos (by rw [hk]; exact Int.mul_pos (by omega) hp), e, hX, hk]
    rw [Int.mul_fdiv_cancel _ hk0, Int.mul_fdiv_cancel _ hk0]
  · have e : 0 - (k.natAbs : Int) = k := by omega
    have hneg : ¬ 0 < Y := by
      rw [hk]
      intro z
      have : b * k ≤ 0 := Int.mul_nonpos_of_nonneg_of_nonpos (by omega) (by omega)
      omega
    rw [if_neg hneg, e, hX, hk, Int.mul_fdiv_cancel _ hk0, Int.mul_fdiv_cancel _ hk0]
end K07
namespace K07
open Mi
/-! ### pairs in least terms -/
theorem gl_mul (t : Int) : ∀ (xs : List Int) (g : Nat), gl (g * t.natAbs) (xs.map (· * t)) = gl g xs * t.natAbs
  | [], g => rfl
  | x :: xs, g => by
    show gl (Nat.gcd (g * t.natAbs) (x * t).natAbs) (xs.map (· * t)) = gl (Nat.gcd g x.natAbs) xs * t.natAbs
    rw [Int.natAbs_mul, Nat.gcd_mul_right, gl_mul t xs]
theorem gl_dvd : ∀ (xs : List Int) (g : Nat), gl g xs ∣ g ∧ ∀ x ∈ xs, (gl g xs : Int) ∣ x
  | [], g => ⟨Nat.dvd_refl _, fun x h => by cases h⟩
  | x :: xs, g => by
    obtain ⟨h1, h2⟩ := gl_dvd xs (Nat.gcd g x.natAbs)
    refine ⟨Nat.dvd_trans h1 (Nat.gcd_dvd_left _ _), fun y hy => ?_⟩
    rcases List.mem_cons.mp hy with rfl | hy
    · exact Int.ofNat_dvd_left.mpr (Nat.dvd_trans h1 (Nat.gcd_dvd_right _ _))
    · exact h2 y hy
def gp (s : Int) (ns : List Int) : Nat := gl 0 (s :: ns)
theorem gp_eq (s : Int) (ns : List Int) : gp s ns = gl s.natAbs ns := by
  show gl (Nat.gcd 0 s.natAbs) ns = _
  rw [Nat.gcd_zero_left]
theorem gp_pos {s : Int} (hs : 0 < s) (ns : List Int) : 0 < gp s ns := by
  rw [gp_eq]
  exact Nat.pos_of_dvd_of_pos (gl_dvd ns _).1 (by omega)
theorem gp_dvd_s (s : Int) (ns : List Int) : (gp s ns : Int) ∣ s := (gl_dvd (s :: ns) 0).2 s (by simp)
theorem gp_dvd (s : Int) (ns : List Int) : ∀ x ∈ ns, (gp s ns : Int) ∣ x := fun x hx => (gl_dvd (s :: ns) 0).2 x (by simp [hx])
theorem gp_mul (s : Int) (ns : List Int) {t : Int} (ht : 0 < t) : (gp (s * t) (ns.map (· * t)) : Int) = gp s ns * t := by
  have := gl_mul t (s :: ns) 0
  rw [Nat.zero_mul] at this
  have e : gp (s * t) (ns.map (· * t)) = gp s ns * t.natAbs := this
  rw [e]
  have : (t.natAbs : Int) = t := by omega
  rw [Int.natCast_mul, this]
def lp (s : Int) (ns : List Int) : Int × List Int := (s.fdiv (gp s ns), ns.map (·.fdiv (gp s ns)))
theorem fd {g x : Int} (hg : 0 < g) (h : g ∣ x) : ∃ a, x = g * a ∧ x.fdiv g = a := by
  obtain ⟨a, rfl⟩ := h
  exact ⟨a, rfl, by rw [Int.mul_comm]; exact Int.mul_fdiv_cancel a (by omega)⟩
theorem fd_same {g1 g2 s t x y : Int} (h1 : 0 < g1) (h2 : 0 < g2) (hs : 0 < s) (ht : 0 < t) (hg : g1 * t = g2 * s) (hxy : x * t = y * s) (d1 : g1 ∣ x) (d2 : g2 ∣ y) : x.fdiv g1 = y.fdiv g2 := by
  obtain ⟨a, rfl, ea⟩ := fd h1 d1
  obtain ⟨b, rfl, eb⟩ := fd h2 d2
  rw [ea, eb]
  have e : a * (g1 * t) = b * (g1 * t) := by
    calc a * (g1 * t) = g1 * a * t := by rw [Int.mul_left_comm, Int.mul_assoc]
      _ = g2 * b * s := hxy
      _ = b * (g2 * s) := by rw [Int.mul_comm g2 b, Int.mul_assoc]
      _ = b * (g1 * t) := by rw [hg]
  exact Int.eq_of_mul_eq_mul_right (Int.ne_of_gt (Int.mul_pos h1 ht)) e
theorem maps_same {g1 g2 s t : Int} (h1 : 0 < g1) (h2 : 0 < g2) (hs : 0 < s) (ht : 0 < t) (hg : g1 * t = g2 * s) : ∀ (ns ms : List Int), ns.map (· * t) = ms.map (· * s) → (∀ x ∈ ns, g1 ∣ x) → (∀ y ∈ ms, g2 ∣ y) → ns.map (·.fdiv g1) = ms.map (·.fdiv g2)
  | [], [], _, _, _ => rfl
  | [], _ :: _, e, _, _ => by simp at e
  | _ :: _, [], e, _, _ => by simp at e
  | x :: ns, y :: ms, e, d1, d2 => by
    simp only [List.map_cons, List.cons.injEq] at e
    rw [List.map_cons, List.map_cons, fd_same h1 h2 hs ht hg e.1 (d1 x (by simp)) (d2 y (by simp)), maps_same h1 h2 hs ht hg ns ms e.2 (fun x hx => d1 x (by simp [hx])) (fun y hy => d2 y (by simp [hy]))]
theorem lp_same {s t : Int} {ns ms : List Int} (hs : 0 < s) (ht : 0 < t) (h : ns.map (· * t) = ms.map (· * s)) : lp s ns = lp t ms := by
  have e : (gp s ns : Int) * t = gp t ms * s := by rw [← gp_mul s ns ht, ← gp_mul t ms hs, h, Int.mul_comm s t]
  have p1 : (0 : Int) < gp s ns := by have := gp_pos hs ns; omega
  have p2 : (0 : Int) < gp t ms := by have := gp_pos ht ms; omega
  unfold lp
  rw [fd_same p1 p2 hs ht e (Int.mul_comm s t) (gp_dvd_s s ns) (gp_dvd_s t ms), maps_same p1 p2 hs ht e ns ms h (gp_dvd s ns) (gp_dvd t ms)]
theorem lp_low {s : Int} {ns : List Int} (h : gp s ns = 1) : lp s ns = (s, ns) := by
  unfold lp
  rw [h]
  simp
/-- what the least pair is times its divisor -/
theorem lp_back {s : Int} (hs : 0 < s) (ns : List Int) : (lp s ns).1 * gp s ns = s ∧ (lp s ns).2.map (· * (gp s ns : Int)) = ns := by
  have p : (0 : Int) < gp s ns := by have := gp_pos hs ns; omega
  have one : ∀ x : Int, (gp s ns : Int) ∣ x → x.fdiv (gp s ns) * gp s ns = x := fun x d => by
    obtain ⟨a, e, ea⟩ := fd p d
    rw [ea, e, Int.mul_comm]
  refine ⟨one s (gp_dvd_s s ns), ?_⟩
  unfold lp
  rw [List.map_map]
  have : ∀ xs : List Int, (∀ x ∈ xs, (gp s ns : Int) ∣ x) → xs.map ((· * (gp s ns : Int)) ∘ (·.fdiv (gp s ns : Int))) = xs := by
    intro xs
    induction xs with
    | nil => intro _; rfl
    | cons x xs ih => intro d; rw [List.map_cons, ih fun y hy => d y (by simp [hy])]; simp only [Function.comp]; rw [one x (d x (by simp))]
  exact this ns (gp_dvd s ns)
theorem sum_map_mul (t : Int) : ∀ xs : List Int, (xs.map (· * t)).sum = xs.sum * t
  | [] => by simp
  | x :: xs => by simp only [List.map_cons, List.sum_cons]; rw [sum_map_mul t xs, Int.add_mul]
theorem lp_gcd {s : Int} (hs : 0 < s) (ns : List Int) : gp (lp s ns).1 (lp s ns).2 = 1 := by
  obtain ⟨h1, h2⟩ := lp_back hs ns
  have p : (0 : Int) < gp s ns := by have := gp_pos hs ns; omega
  have := gp_mul (lp s ns).1 (lp s ns).2 p
  rw [h1, h2] at this
  have e : (1 : Int) * gp s ns = gp (lp s ns).1 (lp s ns).2 * gp s ns := by rw [Int.one_mul]; exact this
  have := Int.eq_of_mul_eq_mul_right (by omega) e
  omega
theorem lp_sum {s : Int} (hs : 0 < s) (ns : List Int) : (lp s ns).2.sum * gp s ns = ns.sum := by
  rw [← sum_map_mul, (lp_back hs ns).2]
theorem lp_len (s : Int) (ns : List Int) : (lp s ns).2.length = ns.length := by unfold lp; simp
theorem lp_pos {s : Int} (hs : 0 < s) (ns : List Int) : 1 ≤ (lp s ns).1 ∧ (lp s ns).1 ≤ s := by
  obtain ⟨h1, _⟩ := lp_back hs ns
  have p : (0 : Int) < gp s ns := by have := gp_pos hs ns; omega
  have h : 0 < (lp s ns).1 := by
    apply Int.pos_of_mul_pos_left (b := gp s ns) _ p
    rw [h1]; exact hs
  refine ⟨h, ?_⟩
  calc (lp s ns).1 = (lp s ns).1 * 1 := by rw [Int.mul_one]
    _ ≤ (lp s ns).1 * gp s ns := Int.mul_le_mul_of_nonneg_left (by omega) (by omega)
    _ = s := h1
theorem lp_nonneg {s : Int} (hs : 0 < s) {ns : List Int} (h : ∀ x ∈ ns, 0 ≤ x) : ∀ x ∈ (lp s ns).2, 0 ≤ x := by
  have p : (0 : Int) < gp s ns := by have := gp_pos hs ns; omega
  intro x hx
  unfold lp at hx
  obtain ⟨y, hy, rfl⟩ := List.mem_map.mp hx
  exact Int.fdiv_nonneg (h y hy) (by omega)
theorem mem_le_sum : ∀ {ns : List Int}, (∀ x ∈ ns, 0 ≤ x) → ∀ x ∈ ns, x ≤ ns.sum
  | [], _, x, h => by cases h
  | y :: ns, h0, x, h => by
    have nn : 0 ≤ ns.sum := by
      clear h
      have h1 : ∀ x ∈ ns, 0 ≤ x := fun x hx => h0 x (by simp [hx])
      clear h0
      induction ns with
      | nil => simp
      | cons z ns ih =>
        have := ih fun x hx => h1 x (by simp [hx])
        have := h1 z (by simp)
        simp; omega
    have := h0 y (by simp)
    rcases List.mem_cons.mp h with rfl | h
    · simp; omega
    · have := mem_le_sum (fun x hx => h0 x (by simp [hx])) x h
      simp; omega
theorem sum_nonneg {ns : List Int} (h : ∀ x ∈ ns, 0 ≤ x) : 0 ≤ ns.sum := by
  induction ns with
  | nil => simp
  | cons z ns ih =>
    have := ih fun x hx => h x (by simp [hx])
    have := h z (by simp)
    simp; omega
/-- a share: its whole, its numbers -/
structure Sh (many : Nat) (B : Int) (p : Int × List Int) : Prop where
  pos : 1 ≤ p.1
  len : p.2.length = many
  nn : ∀ x ∈ p.2, 0 ≤ x
  sum : p.2.sum = p.1
  low : gp p.1 p.2 = 1
  top : p.1 ≤ B
theorem sh_of {s : Int} {ns : List Int} {B : Int} (hs : 0 < s) (h : ∀ x ∈ ns, 0 ≤ x) (hsum : ns.sum = s) (hB : s ≤ B) : Sh ns.length B (lp s ns) where
  pos := (lp_pos hs ns).1
  len := lp_len s ns
  nn := lp_nonneg hs h
  sum := by
    have p : (0 : Int) < gp s ns := by have := gp_pos hs ns; omega
    refine Int.eq_of_mul_eq_mul_right (a := (gp s ns : Int)) (by omega) ?_
    rw [lp_sum hs ns, (lp_back hs ns).1, hsum]
  low := lp_gcd hs ns
  top := Int.le_trans (lp_pos hs ns).2 hB
/-! ### ratios over one whole -/
theorem nr_same {X Y S T : Int} (hS : 0 < S) (hT : 0 < T) (h : X * T = Y * S) : nr X S = nr Y T := by
  obtain ⟨k1, k2, k3, _, _⟩ := nr_spec (X := Y) (Y := T) (by omega)
  refine (uniq (a := (nr Y T).1) (b := (nr Y T).2) k1 k2 (by omega) ?_)
  generalize (nr Y T).1 = a at *
  generalize (nr Y T).2 = b at *
  refine Int.eq_of_mul_eq_mul_right (a := T) (by omega) ?_
  calc X * b * T = (X * T) * b := by rw [Int.mul_assoc, Int.mul_comm b T, ← Int.mul_assoc]
    _ = Y * S * b := by rw [h]
    _ = (Y * b) * S := by rw [Int.mul_assoc, Int.mul_comm S b, ← Int.mul_assoc]
    _ = a * T * S := by rw [k3]
    _ = a * S * T := by rw [Int.mul_assoc, Int.mul_comm T S, ← Int.mul_assoc]
theorem nr_scale {X S k : Int} (hS : 0 < S) (hk : 0 < k) : nr (X * k) (S * k) = nr X S :=
  nr_same (Int.mul_pos hS hk) hS (by rw [Int.mul_assoc, Int.mul_comm k S])
theorem nr_add {X Y S : Int} (hS : 0 < S) : nr ((nr X S).1 * (nr Y S).2 + (nr Y S).1 * (nr X S).2) ((nr X S).2 * (nr Y S).2) = nr (X + Y) S := by
  obtain ⟨k1, _, k3, _, _⟩ := nr_spec (X := X) (Y := S) (by omega)
  obtain ⟨l1, _, l3, _, _⟩ := nr_spec (X := Y) (Y := S) (by omega)
  refine nr_same (Int.mul_pos (by omega) (by omega)) hS ?_
  generalize (nr X S).1 = a at *
  generalize (nr X S).2 = b at *
  generalize (nr Y S).1 = c at *
  generalize (nr Y S).2 = d at *
  grind
theorem nr_sub {X Y S : Int} (hS : 0 < S) : nr ((nr X S).1 * (nr Y S).2 - (nr Y S).1 * (nr X S).2) ((nr X S).2 * (nr Y S).2) = nr (X - Y) S := by
  obtain ⟨k1, _, k3, _, _⟩ := nr_spec (X := X) (Y := S) (by omega)
  obtain ⟨l1, _, l3, _, _⟩ := nr_spec (X := Y) (Y := S) (by omega)
  refine nr_same (Int.mul_pos (by omega) (by omega)) hS ?_
  generalize (nr X S).1 = a at *
  generalize (nr X S).2 = b at *
  generalize (nr Y S).1 = c at *
  generalize (nr Y S).2 = d at *
  grind
theorem cross_lt {a b c d X Y S T : Int} (hb : 0 < b) (hd : 0 < d) (hS : 0 < S) (hT : 0 < T) (h1 : X * b = a * S) (h2 : Y * d = c * T) : a * d < c * b ↔ X * T < Y * S := by
  have p : 0 < S * T := Int.mul_pos hS hT
  have q : 0 < b * d := Int.mul_pos hb hd
  have e1 : a * d * (S * T) = X * T * (b * d) := by
    calc a * d * (S * T) = (a * S) * (d * T) := by grind
      _ = (X * b) * (d * T) := by rw [h1]
      _ = X * T * (b * d) := by grind
  have e2 : c * b * (S * T) = Y * S * (b * d) := by
    calc c * b * (S * T) = (c * T) * (b * S) := by grind
      _ = (Y * d) * (b * S) := by rw [h2]
      _ = Y * S * (b * d) := by grind
  constructor
  · intro h
    have := Int.mul_lt_mul_of_pos_right h p
    rw [e1, e2] at this
    exact Int.lt_of_mul_lt_mul_right this (by omega)
  · intro h
    have := Int.mul_lt_mul_of_pos_right h q
    rw [← e1, ← e2] at this
    exact Int.lt_of_mul_lt_mul_right this (by omega)
theorem nr_lt {X Y S T : Int} (hS : 0 < S) (hT : 0 < T) : (nr X S).1 * (nr Y T).2 < (nr Y T).1 * (nr X S).2 ↔ X * T < Y * S := by
  obtain ⟨k1, _, k3, _, _⟩ := nr_spec (X := X) (Y := S) (by omega)
  obtain ⟨l1, _, l3, _, _⟩ := nr_spec (X := Y) (Y := T) (by omega)
  exact cross_lt (by omega) (by omega) hS hT k3 l3
theorem nr_inj {X Y S : Int} (hS : 0 < S) (h : nr X S = nr Y S) : X = Y := by
  obtain ⟨k1, _, k3, _, _⟩ := nr_spec (X := X) (Y := S) (by omega)
  obtain ⟨l1, _, l3, _, _⟩ := nr_spec (X := Y) (Y := S) (by omega)
  rw [h] at k3
  exact Int.eq_of_mul_eq_mul_right (by omega) (k3.trans l3.symm)
theorem nr_zero {S : Int} (hS : 0 < S) : nr 0 S = (0, 1) := uniq (by decide) (by decide) (by omega) (by simp)
theorem nr_one {S : Int} (hS : 0 < S) : nr S S = (1, 1) := uniq (by decide) (by decide) (by omega) (by simp)
theorem nr_pos {X S : Int} (hS : 0 < S) : 0 < (nr X S).1 ↔ 0 < X := by
  obtain ⟨k1, _, k3, _, _⟩ := nr_spec (X := X) (Y := S) (by omega)
  generalize (nr X S).1 = a at *
  generalize (nr X S).2 = b at *
  constructor
  · intro h
    have : 0 < X * b := by rw [k3]; exact Int.mul_pos h hS
    exact Int.pos_of_mul_pos_left this (by omega)
  · intro h
    have : 0 < a * S := by rw [← k3]; exact Int.mul_pos h (by omega)
    exact Int.pos_of_mul_pos_left this hS
end K07
namespace K07
open Mi
/-! ### what both have, what one has more -/
def mn (x y : Int) : Int := if y < x then y else x
theorem mn_comm (x y : Int) : mn x y = mn y x := by unfold mn; split <;> split <;> omega
theorem mn_le (x y : Int) : mn x y ≤ x ∧ mn x y ≤ y := by unfold mn; split <;> omega
theorem mn_lo {x y : Int} (hx : 0 ≤ x) (hy : 0 ≤ y) : 0 ≤ mn x y := by unfold mn; split <;> omega
theorem mn_self (x : Int) : mn x x = x := by unfold mn; split <;> rfl
def both (xs ys : List Int) : List Int := List.zipWith mn xs ys
def more (xs ys : List Int) : List Int := List.zipWith (fun x y => x - mn x y) xs ys
theorem more_eq : ∀ xs ys : List Int, List.zipWith (· - ·) xs (both xs ys) = more xs ys
  | [], _ => by simp [both, more]
  | _ :: _, [] => by simp [both, more]
  | x :: xs, y :: ys => by
    have := more_eq xs ys
    simp only [both, more, List.zipWith_cons_cons] at this ⊢
    rw [this]
theorem both_comm : ∀ xs ys : List Int, both xs ys = both ys xs
  | [], [] => rfl
  | [], _ :: _ => rfl
  | _ :: _, [] => rfl
  | x :: xs, y :: ys => by
    have := both_comm xs ys
    simp only [both, List.zipWith_cons_cons] at this ⊢
    rw [this, mn_comm]
theorem more_eq' (xs ys : List Int) : List.zipWith (· - ·) ys (both xs ys) = more ys xs := by rw [both_comm, more_eq]
theorem both_nn : ∀ {xs ys : List Int}, (∀ x ∈ xs, 0 ≤ x) → (∀ y ∈ ys, 0 ≤ y) → ∀ z ∈ both xs ys, 0 ≤ z
  | [], _, _, _, z, h => by simp [both] at h
  | _ :: _, [], _, _, z, h => by simp [both] at h
  | x :: xs, y :: ys, h1, h2, z, h => by
    simp only [both, List.zipWith_cons_cons] at h
    rcases List.mem_cons.mp h with rfl | h
    · exact mn_lo (h1 x (by simp)) (h2 y (by simp))
    · exact both_nn (fun x hx => h1 x (by simp [hx])) (fun y hy => h2 y (by simp [hy])) z h
theorem more_nn : ∀ {xs ys : List Int}, ∀ z ∈ more xs ys, 0 ≤ z
  | [], _, z, h => by simp [more] at h
  | _ :: _, [], z, h => by simp [more] at h
  | x :: xs, y :: ys, z, h => by
    simp only [more, List.zipWith_cons_cons] at h
    rcases List.mem_cons.mp h with rfl | h
    · have := (mn_le x y).1; omega
    · exact more_nn z h
theorem more_both : ∀ {xs ys : List Int}, xs.length = ys.length → (more xs ys).sum + (both xs ys).sum = xs.sum
  | [], [], _ => rfl
  | [], _ :: _, h => by simp at h
  | _ :: _, [], h => by simp at h
  | x :: xs, y :: ys, h => by
    have := more_both (xs := xs) (ys := ys) (by simpa using h)
    simp only [more, both, List.zipWith_cons_cons, List.sum_cons] at this ⊢
    omega
theorem more_same {xs ys : List Int} (h : xs.length = ys.length) (hs : xs.sum = ys.sum) : (more xs ys).sum = (more ys xs).sum := by
  have h1 := more_both h
  have h2 := more_both h.symm
  rw [both_comm] at h2
  omega
theorem more_self : ∀ xs : List Int, (more xs xs).sum = 0
  | [] => rfl
  | x :: xs => by
    have := more_self xs
    simp only [more, List.zipWith_cons_cons, List.sum_cons, mn_self] at this ⊢
    omega
theorem more_zero : ∀ {xs ys : List Int}, xs.length = ys.length → (more xs ys).sum = 0 → (more ys xs).sum = 0 → xs = ys
  | [], [], _, _, _ => rfl
  | [], _ :: _, h, _, _ => by simp at h
  | _ :: _, [], h, _, _ => by simp at h
  | x :: xs, y :: ys, h, h1, h2 => by
    have a1 := sum_nonneg (more_nn (xs := xs) (ys := ys))
    have a2 := sum_nonneg (more_nn (xs := ys) (ys := xs))
    have b1 := mn_le x y
    have b2 := mn_le y x
    simp only [more, List.zipWith_cons_cons, List.sum_cons] at h1 h2 a1 a2
    have c1 : x - mn x y = 0 := by omega
    have c2 : y - mn y x = 0 := by omega
    have e : x = y := by rw [mn_comm y x] at c2; omega
    rw [e, more_zero (xs := xs) (ys := ys) (by simpa using h) (by simp only [more]; omega) (by simp only [more]; omega)]
theorem len_both {xs ys : List Int} (h : xs.length = ys.length) : (both xs ys).length = xs.length := by unfold both; rw [List.length_zipWith]; omega
theorem len_more {xs ys : List Int} (h : xs.length = ys.length) : (more xs ys).length = xs.length := by unfold more; rw [List.length_zipWith]; omega
theorem both_zero : ∀ {xs : List Int}, (∀ x ∈ xs, 0 ≤ x) → (xs.sum = 0 ↔ xs.filter (fun x => decide (0 < x)) = [])
  | [], _ => by simp
  | x :: xs, h => by
    have hx := h x (by simp)
    have hn := sum_nonneg fun y hy => h y (List.mem_cons_of_mem x hy)
    have ih := both_zero fun y hy => h y (List.mem_cons_of_mem x hy)
    by_cases p : 0 < x
    · simp only [List.sum_cons, List.filter_cons, decide_eq_true p, if_true]
      constructor
      · intro z; omega
      · intro z; cases z
    · simp only [List.sum_cons, List.filter_cons, decide_eq_false p]
      rw [show x + xs.sum = xs.sum by omega]
      exact ih
theorem tri {p q r : Int} (hp : 0 ≤ p) (hq : 0 ≤ q) (hr : 0 ≤ r) : ∀ (as bs cs : List Int), as.length = bs.length → as.length = cs.length →
    (more (as.map (· * q)) (bs.map (· * p))).sum * r ≤ (more (as.map (· * r)) (cs.map (· * p))).sum * q + (more (cs.map (· * q)) (bs.map (· * r))).sum * p
  | [], [], [], _, _ => by simp [more]
  | [], [], _ :: _, _, h => by simp at h
  | [], _ :: _, _, h, _ => by simp at h
  | _ :: _, [], _, h, _ => by simp at h
  | _ :: _, _ :: _, [], _, h => by simp at h
  | a :: as, b :: bs, c :: cs, h1, h2 => by
    have ih := tri hp hq hr as bs cs (by simpa using h1) (by simpa using h2)
    simp only [more, List.map_cons, List.zipWith_cons_cons, List.sum_cons] at ih ⊢
    have key : (a * q - mn (a * q) (b * p)) * r ≤ (a * r - mn (a * r) (c * p)) * q + (c * q - mn (c * q) (b * r)) * p := by
      have u1 : 0 ≤ (a * r - mn (a * r) (c * p)) * q := Int.mul_nonneg (by have := (mn_le (a * r) (c * p)).1; omega) hq
      have u2 : 0 ≤ (c * q - mn (c * q) (b * r)) * p := Int.mul_nonneg (by have := (mn_le (c * q) (b * r)).1; omega) hp
      by_cases z : b * p < a * q
      · rw [show mn (a * q) (b * p) = b * p by unfold mn; rw [if_pos z]]
        have v1 : (a * r - c * p) * q ≤ (a * r - mn (a * r) (c * p)) * q := Int.mul_le_mul_of_nonneg_right (by have := (mn_le (a * r) (c * p)).2; omega) hq
        have v2 : (c * q - b * r) * p ≤ (c * q - mn (c * q) (b * r)) * p := Int.mul_le_mul_of_nonneg_right (by have := (mn_le (c * q) (b * r)).2; omega) hp
        have e : (a * q - b * p) * r = (a * r - c * p) * q + (c * q - b * r) * p := by grind
        omega
      · rw [show mn (a * q) (b * p) = a * q by unfold mn; rw [if_neg z]]
        rw [Int.sub_self, Int.zero_mul]
        omega
    rw [Int.add_mul, Int.add_mul, Int.add_mul]
    omega
/-- one share over both wholes -/
def hr (p q : Int × List Int) : List Int := p.2.map (· * q.1)
theorem hr_len {p q : Int × List Int} : (hr p q).length = p.2.length := by simp [hr]
section
variable {many : Nat} {B B' : Int} {p q : Int × List Int}
theorem hr_nn (hp : Sh many B p) (hq : Sh many B' q) : ∀ x ∈ hr p q, 0 ≤ x := fun x hx => by
  obtain ⟨y, hy, rfl⟩ := List.mem_map.mp hx
  exact Int.mul_nonneg (hp.nn y hy) (by have := hq.pos; omega)
theorem hr_sum (hp : Sh many B p) : (hr p q).sum = p.1 * q.1 := by unfold hr; rw [sum_map_mul, hp.sum]
theorem hr_eq (hp : Sh many B p) (hq : Sh many B' q) : (hr p q).length = (hr q p).length := by rw [hr_len, hr_len, hp.len, hq.len]
theorem sums (hp : Sh many B p) (hq : Sh many B' q) : (hr p q).sum = (hr q p).sum := by rw [hr_sum hp, hr_sum hq, Int.mul_comm]
theorem gap_bounds (hp : Sh many B p) (hq : Sh many B' q) : 0 ≤ (more (hr p q) (hr q p)).sum ∧ (more (hr p q) (hr q p)).sum ≤ p.1 * q.1 := by
  have h1 := more_both (hr_eq hp hq)
  have h2 := sum_nonneg (both_nn (hr_nn hp hq) (hr_nn hq hp))
  have h3 := sum_nonneg (more_nn (xs := hr p q) (ys := hr q p))
  rw [hr_sum hp] at h1
  omega
theorem gap_zero (hp : Sh many B p) (hq : Sh many B' q) : (more (hr p q) (hr q p)).sum = 0 ↔ p = q := by
  constructor
  · intro h
    have h2 := more_same (hr_eq hp hq) (sums hp hq)
    have e := more_zero (hr_eq hp hq) h (by omega)
    have := lp_same (s := p.1) (t := q.1) (by have := hp.pos; omega) (by have := hq.pos; omega) (show p.2.map (· * q.1) = q.2.map (· * p.1) from e)
    rw [lp_low hp.low, lp_low hq.low] at this
    exact this
  · rintro rfl
    exact more_self _
theorem gap_one (hp : Sh many B p) (hq : Sh many B' q) : (more (hr p q) (hr q p)).sum = p.1 * q.1 ↔ (both (hr p q) (hr q p)).filter (fun x => decide (0 < x)) = [] := by
  have h1 := more_both (hr_eq hp hq)
  rw [hr_sum hp] at h1
  rw [← both_zero (both_nn (hr_nn hp hq) (hr_nn hq hp))]
  omega
end
end K07
namespace K07
open Mi
/-! ### the law's draws -/
/-- cells 0 and 1: the large numbers, the draw -/
def drawD (cs : List Int) (r t : Int) : List (Key × W) := [(.inr "large", .ref 0), (.inr "cells", .d (.lst (cs.map D.int))), (.inr "rest", .d (.int r)), (.inr "turn", .d (.int t))]
def SD (ls cs : List Int) (r t : Int) (tail : Store) : Store := .lst (ls.map fun i => .d (.int i)) :: .dct (drawD cs r t) :: tail
theorem idx_draw (ls cs : List Int) (r t : Int) (tail : Store) :
    idxW (.ref 1) (.d (.str "rest")) (SD ls cs r t tail) = .ok (.d (.int r)) (SD ls cs r t tail) ∧ idxW (.ref 1) (.d (.str "turn")) (SD ls cs r t tail) = .ok (.d (.int t)) (SD ls cs r t tail) ∧
    idxW (.ref 1) (.d (.str "large")) (SD ls cs r t tail) = .ok (.ref 0) (SD ls cs r t tail) ∧ idxW (.ref 1) (.d (.str "cells")) (SD ls cs r t tail) = .ok (.d (.lst (cs.map D.int))) (SD ls cs r t tail) := ⟨rfl, rfl, rfl, rfl⟩
theorem set_rest (ls cs : List Int) (r t v : Int) (tail : Store) : setW (.ref 1) (.d (.str "rest")) (.d (.int v)) (SD ls cs r t tail) = some (SD ls cs v t tail) := rfl
theorem set_turn (ls cs : List Int) (r t v : Int) (tail : Store) : setW (.ref 1) (.d (.str "turn")) (.d (.int v)) (SD ls cs r t tail) = some (SD ls cs r v tail) := rfl
theorem low_draw (v : D) (st : Store) : lowW (.ref 1) (.d v) st = .ok (.d v) st := rfl
theorem pop_draw (l : Int) (ls cs : List Int) (r t : Int) (tail : Store) (h : ls.length ≤ 100) : popW (.ref 0) (.d (.int 0)) (SD (l :: ls) cs r t tail) = .ok (.d (.int l)) (SD ls cs r t tail) := by
  have h2 : ls.length + 1 ≤ 1000000 := by omega
  simp [popW, SD, ixN, small, h2]
theorem lst_draw (ls cs : List Int) (r t : Int) (tail : Store) : (lstW (.ref 0) (SD ls cs r t tail)).isSome = true := rfl
theorem rd_ints : ∀ (k : Nat) (st : Store) (ls : List Int), (ls.map fun i => W.d (D.int i)).mapM (rdW st k) = some (ls.map D.int)
  | k, st, [] => rfl
  | k, st, l :: ls => by
    rw [List.map_cons, List.mapM_cons, rd_ints k st ls]
    rw [rdW_d]; rfl
theorem toPs_ints : ∀ ls : List Int, toPs (ls.map D.int) = some (ls.map PySem.PyData.int)
  | [] => rfl
  | l :: ls => by
    rw [List.map_cons]
    unfold toPs
    rw [toPs_ints ls]; rfl
theorem lay_ints : ∀ ls : List Int, PySem.PyData.canLayAll0 (ls.map PySem.PyData.int) = true
  | [] => rfl
  | l :: ls => by
    rw [List.map_cons]
    show (true && PySem.PyData.canLayAll0 _) = true
    rw [lay_ints ls]; rfl
theorem ne_large (ls cs : List Int) (r t : Int) (tail : Store) : eqW true (.ref 0) (.d (.lst [])) (SD ls cs r t tail) = .ok (.d (.bl (!ls.isEmpty))) (SD ls cs r t tail) := by
  unfold eqW
  have e1 : rd (SD ls cs r t tail) (.ref 0) = some (.lst (ls.map D.int)) := by
    show rdW (SD ls cs r t tail) (tail.length + 1 + 1) (.ref 0) = _
    unfold rdW
    show ((ls.map fun i => W.d (D.int i)).mapM (rdW (SD ls cs r t tail) (tail.length + 1))).map D.lst = _
    rw [rd_ints]; rfl
  rw [e1, rd_d]
  have e2 : pyEq (.lst (ls.map D.int)) (.lst []) = some ls.isEmpty := by
    unfold pyEq
    have e3 : toP (.lst (ls.map D.int)) = some (.list (ls.map PySem.PyData.int)) := by
      unfold toP; rw [toPs_ints]
    have e4 : toP (.lst []) = some (.list []) := rfl
    rw [e3, e4]
    have dep0 : ∀ ls : List Int, PySem.PyData.depthAll (ls.map PySem.PyData.int) = 0 := fun ls => by
      induction ls with
      | nil => rfl
      | cons l ls ih =>
        rw [List.map_cons]
        show max 0 (PySem.PyData.depthAll (ls.map PySem.PyData.int)) = 0
        rw [ih]; rfl
    have dep : ∀ ls : List Int, PySem.PyData.depth (.list (ls.map PySem.PyData.int)) ≤ 64 := fun ls => by
      show PySem.PyData.depthAll (ls.map PySem.PyData.int) + 1 ≤ 64
      rw [dep0]; omega
    have e5 : PySem.SeqAt.shaped (.list (ls.map PySem.PyData.int)) = true := by
      unfold PySem.SeqAt.shaped
      rw [decide_eq_true (dep ls)]
      show (PySem.PyData.canLayAll0 _ && true) = true
      rw [lay_ints]; rfl
    have e6 : PySem.SeqAt.shaped (.list []) = true := rfl
    simp only [e5, e6, Bool.and_self, if_true]
    cases ls with
    | nil => rfl
    | cons l ls => rfl
  simp only [e2]
  simp
theorem op_mod_ {a b : Int} {st : Store} (h : b ≠ 0) : opW .mod (.d (.int a)) (.d (.int b)) st = .ok (.d (.int (a.fmod b))) st := by simp [opW, opD, h]
theorem op_pow_ {a b : Int} {st : Store} (h : powOk a b = true) : opW .pow (.d (.int a)) (.d (.int b)) st = .ok (.d (.int (a ^ b.toNat))) st := by simp [opW, opD, h]
/-! ### stirring -/
theorem cells_loop (C : Ctx) (e0 e2 e3 : Option W) (p : Int) (hp : 0 < p) (hp2 : p < 2 ^ 31) (cs : List Int) (s0 : Int) (h0 : 0 ≤ s0) (h1 : s0 < p) (e5 : Option W) (st : Store) :
    ∃ (s' : Int) (e5' : Option W), 0 ≤ s' ∧ s' < p ∧ fors (Src.one (.dat ((cs.map D.int).map W.d))).at (Src.one (.dat ((cs.map D.int).map W.d))).over (forF C (.v 5) (.cons (.set 4 (.op .mod (.blt .int (.cons (.op .add (.op .add (.op .mul (.var 4) (.int 48271)) (.blt .int (.cons (.var 5) (.nil)))) (.int 1)) (.nil))) (.var 1))) (.nil))) (Src.one (.dat ((cs.map D.int).map W.d))).len 0 [e0, some (.d (.int p)), e2, e3, some (.d (.int s0)), e5] st = .ok (.nx [e0, some (.d (.int p)), e2, e3, some (.d (.int s')), e5']) st := by
  obtain ⟨env1, st1, k1, k2⟩ := fors_dat (f := forF C (.v 5) (.cons (.set 4 (.op .mod (.blt .int (.cons (.op .add (.op .add (.op .mul (.var 4) (.int 48271)) (.blt .int (.cons (.var 5) (.nil)))) (.int 1)) (.nil))) (.var 1))) (.nil))) ((cs.map D.int).map W.d)
    (fun _ env s => s = st ∧ ∃ (s' : Int) (e5' : Option W), 0 ≤ s' ∧ s' < p ∧ env = [e0, some (.d (.int p)), e2, e3, some (.d (.int s')), e5']) [e0, some (.d (.int p)), e2, e3, some (.d (.int s0)), e5] st ⟨rfl, s0, e5, h0, h1, rfl⟩ (fun j w env s hw ⟨hs, s', e5', g0, g1, he⟩ => by
      subst hs he
      obtain ⟨x, rfl⟩ : ∃ x : Int, w = .d (.int x) := by
        rw [List.getElem?_map, List.getElem?_map] at hw
        cases q : cs[j]? with
        | none => rw [q] at hw; cases hw
        | some x => rw [q] at hw; cases hw; exact ⟨x, rfl⟩
      have hm : mulOk s' 48271 = true := mul_ok (by unfold Sm; omega) (by unfold Sm; decide)
      have hp0 : p ≠ 0 := by omega
      refine ⟨[e0, some (.d (.int p)), e2, e3, some (.d (.int ((s' * 48271 + x + 1).fmod p))), some (.d (.int x))], s, .inl ?_, rfl, _, _, Int.fmod_nonneg_of_pos _ hp, Int.fmod_lt_of_pos _ hp, rfl⟩
      rw [forF_v]
      simp [op_mul_ hm, op_mod_ hp0])
  obtain ⟨rfl, s', e5', g0, g1, rfl⟩ := k2
  exact ⟨s', e5', g0, g1, k1⟩
def inner : Ss := .cons (.set 4 (.op .mod (.blt .int (.cons (.op .add (.op .add (.op .mul (.var 4) (.int 48271)) (.blt .int (.cons (.var 5) (.nil)))) (.int 1)) (.nil))) (.var 1))) (.nil)
def outer : Ss := .cons (.set 4 (.op .mod (.blt .int (.cons (.op .add (.op .mul (.var 2) (.int 69621)) (.op .fdiv (.var 1) (.int 7))) (.nil))) (.var 1))) (.cons (.for_ (.v 5) (.seq (.idx (.var 0) (.str "cells"))) inner) (.cons (.set 3 (.op .add (.op .mul (.var 3) (.int 2147483647)) (.op .mod (.blt .int (.cons (.op .pow (.var 4) (.int 5)) (.nil))) (.var 1)))) (.nil)))
theorem outer_at (C : Ctx) (ls cs : List Int) (r t : Int) (tail : Store) (p f : Int) (hp : 0 < p) (hp2 : p < 2 ^ 31) (ht : 0 ≤ t) (ht2 : t < 10 ^ 20) (hf : 0 ≤ f) (hf2 : f < 10 ^ 40) (e4 e5 : Option W) :
    ∃ (v : Int) (e4' e5' : Option W), 0 ≤ v ∧ v < p ∧ evSs C outer [some (.ref 1), some (.d (.int p)), some (.d (.int t)), some (.d (.int f)), e4, e5] (SD ls cs r t tail) = .ok (.nx [some (.ref 1), some (.d (.int p)), some (.d (.int t)), some (.d (.int (f * 2147483647 + v))), e4', e5']) (SD ls cs r t tail) := by
  have hp0 : p ≠ 0 := by omega
  have m1 : mulOk t 69621 = true := mul_ok (by unfold Sm; omega) (by unfold Sm; decide)
  have m2 : mulOk f 2147483647 = true := mul_ok (by unfold Sm; omega) (by unfold Sm; decide)
  have d7 : divOk 7 = true := by decide
  obtain ⟨s', e5', g0, g1, key⟩ := cells_loop C (some (.ref 1)) (some (.d (.int t))) (some (.d (.int f))) p hp hp2 cs ((t * 69621 + p.fdiv 7).fmod p) (Int.fmod_nonneg_of_pos _ hp) (Int.fmod_lt_of_pos _ hp) e5 (SD ls cs r t tail)
  have hpow : powOk s' 5 = true := by
    unfold powOk
    exact decide_eq_true ⟨by omega, by omega, by omega⟩
  obtain ⟨_, _, _, ix⟩ := idx_draw ls cs r t tail
  have sq : sqW (.d (.lst (cs.map D.int))) (SD ls cs r t tail) = .ok (.dat ((cs.map D.int).map W.d)) (SD ls cs r t tail) := rfl
  refine ⟨(s' ^ 5).fmod p, some (.d (.int s')), e5', Int.fmod_nonneg_of_pos _ hp, Int.fmod_lt_of_pos _ hp, ?_⟩
  unfold outer
  rw [ss_cons_]
  have first : evS C (.set 4 (.op .mod (.blt .int (.cons (.op .add (.op .mul (.var 2) (.int 69621)) (.op .fdiv (.var 1) (.int 7))) (.nil))) (.var 1))) [some (.ref 1), some (.d (.int p)), some (.d (.int t)), some (.d (.int f)), e4, e5] (SD ls cs r t tail) = .ok (.nx [some (.ref 1), some (.d (.int p)), some (.d (.int t)), some (.d (.int f)), some (.d (.int ((t * 69621 + p.fdiv 7).fmod p))), e5]) (SD ls cs r t tail) := by
    simp [op_mul_ m1, op_fdiv_ d7, op_mod_ hp0]
  rw [first, next_nx, ss_cons_]
  have second : evS C (.for_ (.v 5) (.seq (.idx (.var 0) (.str "cells"))) inner) [some (.ref 1), some (.d (.int p)), some (.d (.int t)), some (.d (.int f)), some (.d (.int ((t * 69621 + p.fdiv 7).fmod p))), e5] (SD ls cs r t tail) = .ok (.nx [some (.ref 1), some (.d (.int p)), some (.d (.int t)), some (.d (.int f)), some (.d (.int s')), e5']) (SD ls cs r t tail) := by
    rw [s_for_]
    simp only [i_seq_, e_idx_, e_var_, e_str_, List.getElem?_cons_zero, bind_ok, ix, sq, then_ok]
    exact key
  rw [second, next_nx]
  simp [op_mul_ m2, op_pow_ hpow, op_mod_ hp0]
theorem blend {m : Nat} (hm : 1 ≤ m) (ls cs : List Int) (r t : Int) (tail : Store) (ht : 0 ≤ t) (ht2 : t < 10 ^ 19) : ∃ v : Int, callD P m 18 [.ref 1] (SD ls cs r t tail) = .ok (.d (.int v)) (SD ls cs r (t + 1) tail) := by
  obtain ⟨v1, a1, b1, h1, h1', k1⟩ := outer_at (P.ctx (m - 1)) ls cs r (t + 1) tail 2147483629 0 (by decide) (by decide) (by omega) (by omega) (by decide) (by decide) none none
  obtain ⟨v2, a2, b2, h2, h2', k2⟩ := outer_at (P.ctx (m - 1)) ls cs r (t + 1) tail 2147483587 (0 * 2147483647 + v1) (by decide) (by decide) (by omega) (by omega) (by omega) (by omega) a1 b1
  obtain ⟨v3, a3, b3, h3, h3', k3⟩ := outer_at (P.ctx (m - 1)) ls cs r (t + 1) tail 2147483579 ((0 * 2147483647 + v1) * 2147483647 + v2) (by decide) (by decide) (by omega) (by omega) (by omega) (by omega) a2 b2
  refine ⟨((0 * 2147483647 + v1) * 2147483647 + v2) * 2147483647 + v3, ?_⟩
  rw [go1 (by omega) (d := d18) rfl]
  refine (runD_ret (w := .d (.int (((0 * 2147483647 + v1) * 2147483647 + v2) * 2147483647 + v3))) (st1 := SD ls cs r (t + 1) tail) rfl ?_).trans (handed_d' rfl)
  obtain ⟨_, ix, _, _⟩ := idx_draw ls cs r t tail
  show evSs (P.ctx (m - 1)) (.cons (.par [2, 3] (.cons (.op .add (.idx (.var 0) (.str "turn")) (.int 1)) (.cons (.int 0) (.nil)))) (.cons (.setIx (.var 0) (.str "turn") (.var 2)) (.cons (.for_ (.v 1) (.seq (.lst false (.cons (.int 2147483629) (.cons (.int 2147483587) (.cons (.int 2147483579) (.nil)))))) outer) (.cons (.ret (.var 3)) (.nil))))) [some (.ref 1), none, none, none, none, none] (SD ls cs r t tail) = _
  rw [ss_cons_]
  have first : evS (P.ctx (m - 1)) (.par [2, 3] (.cons (.op .add (.idx (.var 0) (.str "turn")) (.int 1)) (.cons (.int 0) (.nil)))) [some (.ref 1), none, none, none, none, none] (SD ls cs r t tail) = .ok (.nx [some (.ref 1), none, some (.d (.int (t + 1))), some (.d (.int 0)), none, none]) (SD ls cs r t tail) := by
    simp [ix, parSet]
  rw [first, next_nx, ss_cons_]
  have second : evS (P.ctx (m - 1)) (.setIx (.var 0) (.str "turn") (.var 2)) [some (.ref 1), none, some (.d (.int (t + 1))), some (.d (.int 0)), none, none] (SD ls cs r t tail) = .ok (.nx [some (.ref 1), none, some (.d (.int (t + 1))), some (.d (.int 0)), none, none]) (SD ls cs r (t + 1) tail) := by
    simp [low_draw, set_turn]
  rw [second, next_nx, ss_cons_, s_for_]
  have src : evI (P.ctx (m - 1)) (.seq (.lst false (.cons (.int 2147483629) (.cons (.int 2147483587) (.cons (.int 2147483579) (.nil)))))) [some (.ref 1), none, some (.d (.int (t + 1))), some (.d (.int 0)), none, none] (SD ls cs r (t + 1) tail) = .ok (.one (.dat [.d (.int 2147483629), .d (.int 2147483587), .d (.int 2147483579)])) (SD ls cs r (t + 1) tail) := by
    simp [sqW]
  rw [src, then_ok]
  have loop : fors (Src.one (.dat [.d (.int 2147483629), .d (.int 2147483587), .d (.int 2147483579)])).at (Src.one (.dat [.d (.int 2147483629), .d (.int 2147483587), .d (.int 2147483579)])).over (forF (P.ctx (m - 1)) (.v 1) outer) 3 0 [some (.ref 1), none, some (.d (.int (t + 1))), some (.d (.int 0)), none, none] (SD ls cs r (t + 1) tail) =
      .ok (.nx [some (.ref 1), some (.d (.int 2147483579)), some (.d (.int (t + 1))), some (.d (.int (((0 * 2147483647 + v1) * 2147483647 + v2) * 2147483647 + v3))), a3, b3]) (SD ls cs r (t + 1) tail) := by
    have look : ∀ st, (Src.one (.dat [.d (.int 2147483629), .d (.int 2147483587), .d (.int 2147483579)])).at 0 st = some (.one (.d (.int 2147483629))) ∧ (Src.one (.dat [.d (.int 2147483629), .d (.int 2147483587), .d (.int 2147483579)])).at 1 st = some (.one (.d (.int 2147483587))) ∧ (Src.one (.dat [.d (.int 2147483629), .d (.int 2147483587), .d (.int 2147483579)])).at 2 st = some (.one (.d (.int 2147483579))) := fun st => ⟨rfl, rfl, rfl⟩
    obtain ⟨l0, l1, l2⟩ := look (SD ls cs r (t + 1) tail)
    unfold fors
    simp only [l0, forF_v, List.set_cons_succ, List.set_cons_zero, k1]
    unfold fors
    simp only [l1, forF_v, List.set_cons_succ, List.set_cons_zero, k2]
    unfold fors
    simp only [l2, forF_v, List.set_cons_succ, List.set_cons_zero, k3]
    rfl
  have len3 : (Src.one (.dat [.d (.int 2147483629), .d (.int 2147483587), .d (.int 2147483579)])).len = 3 := rfl
  rw [len3, loop]
  simp
end K07
namespace K07
open Mi
/-! ### taking a number from the draw -/
def tkC : E := .bool true (.cons (.cmp .eq (.idx (.var 0) (.str "rest")) (.int 0)) (.cons (.cmp .ne (.idx (.var 0) (.str "large")) (.lst false (.nil))) (.nil)))
def tkB : Ss := .cons (.setIx (.var 0) (.str "rest") (.popm (.idx (.var 0) (.str "large")) (.int 0))) (.nil)
theorem tkC_at (C : Ctx) (ls cs : List Int) (r t : Int) (tail : Store) (e1 e2 : Option W) : evT C tkC [some (.ref 1), e1, e2] (SD ls cs r t tail) = .ok (decide (r = 0) && !ls.isEmpty) (SD ls cs r t tail) := by
  obtain ⟨i1, _, i3, _⟩ := idx_draw ls cs r t tail
  by_cases h : r = 0
  · subst h
    simp [tkC, i1, i3, ne_large]
  · simp [tkC, i1, h]
theorem tkB_at (C : Ctx) (l : Int) (ls cs : List Int) (r t : Int) (tail : Store) (e1 e2 : Option W) (h : ls.length ≤ 100) : evSs C tkB [some (.ref 1), e1, e2] (SD (l :: ls) cs r t tail) = .ok (.nx [some (.ref 1), e1, e2]) (SD ls cs l t tail) := by
  obtain ⟨_, _, i3, _⟩ := idx_draw (l :: ls) cs r t tail
  simp [tkB, i3, lst_draw, pop_draw l ls cs r t tail h, low_draw, set_rest]
theorem tk_whl (C : Ctx) (cs : List Int) (t : Int) (tail : Store) (e1 e2 : Option W) : ∀ (ls : List Int) (k : Nat) (r : Int), ls.length ≤ 100 → ls.length < k → ∃ (ls' : List Int) (r' : Int), ls'.length ≤ ls.length ∧
    whls (evT C tkC) (evSs C tkB) k [some (.ref 1), e1, e2] (SD ls cs r t tail) = .ok (.nx [some (.ref 1), e1, e2]) (SD ls' cs r' t tail)
  | ls, 0, r, _, h => by omega
  | [], k + 1, r, h1, h => by
    refine ⟨[], r, Nat.le_refl _, ?_⟩
    unfold whls
    rw [tkC_at]
    simp
  | l :: ls, k + 1, r, h1, h => by
    unfold whls
    rw [tkC_at]
    by_cases hr : r = 0
    · obtain ⟨ls', r', g1, g2⟩ := tk_whl C cs t tail e1 e2 ls k l (by simp at h1; omega) (by simp at h; omega)
      refine ⟨ls', r', by simp; omega, ?_⟩
      rw [then_ok, if_pos (by simp [hr])]
      simp only [tkB_at C l ls cs r t tail e1 e2 (by simp at h1; omega)]
      exact g2
    · refine ⟨l :: ls, r, Nat.le_refl _, ?_⟩
      simp [hr]
/-- a draw that was asked at most k times -/
def Dr (k : Nat) (st : Store) (tail : Store) : Prop := ∃ (ls cs : List Int) (r t : Int), ls.length ≤ 100 ∧ 0 ≤ t ∧ t ≤ k ∧ st = SD ls cs r t tail
theorem Dr.mono {k j : Nat} {st tail : Store} (h : Dr k st tail) (hk : k ≤ j) : Dr j st tail := by
  obtain ⟨ls, cs, r, t, h1, h2, h3, h4⟩ := h
  exact ⟨ls, cs, r, t, h1, h2, by omega, h4⟩
theorem Dr.len {k : Nat} {st tail : Store} (h : Dr k st tail) : st.length = tail.length + 2 := by
  obtain ⟨ls, cs, r, t, h1, h2, h3, h4⟩ := h
  rw [h4]; rfl
theorem take {m : Nat} (hm : 2 ≤ m) {k : Nat} (hk : k < 10 ^ 18) {st tail : Store} (h : Dr k st tail) {n : Int} (hn : 0 < n) (hs : Sm n) : ∃ (v : Int) (st' : Store), 0 ≤ v ∧ v < n ∧ Dr (k + 1) st' tail ∧ callD P m 19 [.ref 1, .d (.int n)] st = .ok (.d (.int v)) st' := by
  obtain ⟨ls, cs, r, t, h1, h2, h3, rfl⟩ := h
  have hn0 : n ≠ 0 := by omega
  obtain ⟨ls', r', g1, g2⟩ := tk_whl (P.ctx (m - 1)) cs t tail (some (.d (.int n))) none ls PT r h1 (Nat.lt_of_le_of_lt h1 (by decide))
  obtain ⟨v, hv⟩ := blend (m := m - 1) (by omega) ls' cs r' t tail h2 (by omega)
  have body : ∀ (R T : Int), evSs (P.ctx (m - 1)) (.cons (.set 2 (.op .mod (.blt .int (.cons (.idx (.var 0) (.str "rest")) (.nil))) (.var 1))) (.cons (.setIx (.var 0) (.str "rest") (.op .fdiv (.blt .int (.cons (.idx (.var 0) (.str "rest")) (.nil))) (.var 1))) (.cons (.ret (.var 2)) (.nil)))) [some (.ref 1), some (.d (.int n)), none] (SD ls' cs R T tail) = .ok (.ret (.d (.int (R.fmod n)))) (SD ls' cs (R.fdiv n) T tail) := fun R T => by
    obtain ⟨i1, _, _, _⟩ := idx_draw ls' cs R T tail
    simp [i1, op_mod_ hn0, op_fdiv_ (div_ok hs hn0), low_draw, set_rest]
  rw [go1 (by omega) (d := d19) rfl]
  have start_ : evSs (P.ctx (m - 1)) d19.body (Mi.start d19 [.ref 1, .d (.int n)]) (SD ls cs r t tail) = (evS (P.ctx (m - 1)) (.ifs (.cmp .eq (.idx (.var 0) (.str "rest")) (.int 0)) (.cons (.setIx (.var 0) (.str "rest") (.call 18 (.cons (.var 0) (.nil)))) (.nil)) (.nil)) [some (.ref 1), some (.d (.int n)), none] (SD ls' cs r' t tail)).then fun env1 st1 => evSs (P.ctx (m - 1)) (.cons (.set 2 (.op .mod (.blt .int (.cons (.idx (.var 0) (.str "rest")) (.nil))) (.var 1))) (.cons (.setIx (.var 0) (.str "rest") (.op .fdiv (.blt .int (.cons (.idx (.var 0) (.str "rest")) (.nil))) (.var 1))) (.cons (.ret (.var 2)) (.nil)))) env1 st1 := by
    show evSs (P.ctx (m - 1)) (.cons (.whl tkC tkB) (.cons (.ifs _ _ _) _)) [some (.ref 1), some (.d (.int n)), none] _ = _
    rw [ss_cons_, s_whl_, ctx_turns, g2, next_nx, ss_cons_]
  obtain ⟨i1, _, _, _⟩ := idx_draw ls' cs r' t tail
  by_cases hr : r' = 0
  · have two : evS (P.ctx (m - 1)) (.ifs (.cmp .eq (.idx (.var 0) (.str "rest")) (.int 0)) (.cons (.setIx (.var 0) (.str "rest") (.call 18 (.cons (.var 0) (.nil)))) (.nil)) (.nil)) [some (.ref 1), some (.d (.int n)), none] (SD ls' cs r' t tail) = .ok (.nx [some (.ref 1), some (.d (.int n)), none]) (SD ls' cs v (t + 1) tail) := by
      subst hr
      simp [i1, hv, low_draw, set_rest]
    rw [two, next_nx, body] at start_
    exact ⟨v.fmod n, _, Int.fmod_nonneg_of_pos _ hn, Int.fmod_lt_of_pos _ hn, ⟨ls', cs, _, _, by omega, by omega, by omega, rfl⟩, (runD_ret rfl start_).trans (handed_d' rfl)⟩
  · have two : evS (P.ctx (m - 1)) (.ifs (.cmp .eq (.idx (.var 0) (.str "rest")) (.int 0)) (.cons (.setIx (.var 0) (.str "rest") (.call 18 (.cons (.var 0) (.nil)))) (.nil)) (.nil)) [some (.ref 1), some (.d (.int n)), none] (SD ls' cs r' t tail) = .ok (.nx [some (.ref 1), some (.d (.int n)), none]) (SD ls' cs r' t tail) := by
      simp [i1, hr]
    rw [two, next_nx, body] at start_
    exact ⟨r'.fmod n, _, Int.fmod_nonneg_of_pos _ hn, Int.fmod_lt_of_pos _ hn, ⟨ls', cs, _, _, by omega, by omega, by omega, rfl⟩, (runD_ret rfl start_).trans (handed_d' rfl)⟩
theorem pick {m : Nat} (hm : 3 ≤ m) {k : Nat} (hk : k < 10 ^ 18) {st tail : Store} (h : Dr k st tail) {ds : List D} (h0 : 0 < ds.length) (h1 : ds.length ≤ 1000) : ∃ (x : D) (st' : Store), x ∈ ds ∧ Dr (k + 1) st' tail ∧ callD P m 20 [.ref 1, .d (.lst ds)] st = .ok (.d x) st' := by
  obtain ⟨v, st', g0, g1, g2, g3⟩ := take (m := m - 1) (by omega) hk h (n := (ds.length : Int)) (by omega) (by unfold Sm; omega)
  obtain ⟨i, hi⟩ : ∃ i : Nat, v = (i : Int) := ⟨v.toNat, by omega⟩
  subst hi
  have hl : i < ds.length := by omega
  refine ⟨ds[i], st', List.getElem_mem hl, g2, ?_⟩
  rw [go1 (by omega) (d := d20) rfl]
  have hlen : st'.length = st.length := by rw [g2.len, h.len]
  refine (runD_ret (w := .d ds[i]) (st1 := st') rfl ?_).trans (handed_d' hlen)
  have hlt : (i : Int) < (ds.length : Int) := by omega
  have ge : (0 : Int) ≤ (i : Int) := by omega
  simp [d20, Mi.start, bltW, len1, lenW, g3, idxW, atI, ixN, hlt, ge, hl]
end K07
namespace K07
open Mi
open PySem (Str PyData)
/-! ### the shown text of ratios -/
def Fine (s : Str) (n : Nat) : Prop := PySem.PyData.strOk s = true ∧ s.length ≤ n
theorem Fine.app {s t : Str} {n m : Nat} (h : Fine s n) (k : Fine t m) : Fine (s ++ t) (n + m) := by
  obtain ⟨h1, h2⟩ := h
  obtain ⟨k1, k2⟩ := k
  refine ⟨?_, ?_⟩
  · show ((s.cps ++ t.cps).all (· < 0x110000)) = true
    have a1 : s.cps.all (· < 0x110000) = true := h1
    have a2 : t.cps.all (· < 0x110000) = true := k1
    simp only [Array.all_append, a1, a2, Bool.and_self]
  · show (s.cps ++ t.cps).size ≤ n + m
    have a1 : s.cps.size ≤ n := h2
    have a2 : t.cps.size ≤ m := k2
    rw [Array.size_append]; omega
theorem Fine.mono {s : Str} {n m : Nat} (h : Fine s n) (hm : n ≤ m) : Fine s m := ⟨h.1, Nat.le_trans h.2 hm⟩
theorem fine_of (s : String) (n : Nat) (h : s.length ≤ n) : Fine (Str.ofString s) n := by
  refine ⟨?_, by rw [PySem.ofString_length]; exact h⟩
  show ((Str.ofString s).cps.all (· < 0x110000)) = true
  rw [← Array.all_toList, PyProof.Rows.signs_ofString, List.all_eq_true]
  intro c hc
  obtain ⟨d, _, rfl⟩ := List.mem_map.mp hc
  exact decide_eq_true (by have := d.valid; unfold UInt32.isValidChar Nat.isValidChar at this; show d.val.toNat < _; omega)
theorem fine_int {i : Int} (h : Sm i) : Fine (PyData.int i).shown 61 := by
  rw [PyData.shown_int]
  exact fine_of _ _ (PySem.int_text_length_le10 (by decide) h)
def pe (r : Int × Int) : PyData := .tuple [.int r.1, .int r.2]
theorem toP_enc (r : Int × Int) : toP (enc r) = some (pe r) := rfl
theorem fine_enc {r : Int × Int} (h1 : Sm r.1) (h2 : Sm r.2) : Fine (pe r).shown 200 := by
  have e : (pe r).shown = (("(" : Str) ++ ((PyData.int r.1).shown ++ (", " : Str) ++ (PyData.int r.2).shown)) ++ (Str.ofString ")") := by
    unfold pe
    rw [PyData.shown_tuple]
    rfl
  rw [e]
  exact (((fine_of "(" 1 (by decide)).app (((fine_int h1).app (fine_of ", " 2 (by decide))).app (fine_int h2))).app (fine_of ")" 1 (by decide))).mono (by decide)
theorem show_of {p : PyData} {n : Nat} (h1 : PySem.SeqAt.shaped p = true) (h2 : p.showable = true) (h3 : Fine p.shown n) (hn : n ≤ 10000) : showP p = true := by
  unfold showP
  rw [h1, h2, decide_eq_true (Nat.le_trans h3.2 (Nat.le_trans hn (by decide)))]
  rfl
theorem log_show {x : Int} (h : Sm x) : (PyData.int x).showable = true := decide_eq_true (Nat.lt_of_lt_of_le (log_sm h) (by decide))
theorem showable_enc {r : Int × Int} (h1 : Sm r.1) (h2 : Sm r.2) : (pe r).showable = true := by
  show ((PyData.int r.1).showable && ((PyData.int r.2).showable && true)) = true
  rw [log_show h1, log_show h2]; rfl
theorem rep_tup {x : D} {ps : List PyData} {st : Store} (h : toP x = some (.tuple ps)) (hs : showP (.tuple ps) = true) : bltW .repr [.d x] st = .ok (.d (.str (PyData.tuple ps).shown)) st := by
  show reprW (.d x) st = _
  unfold reprW
  rw [rd_d]
  simp only [h, hs, if_true]
theorem rep_lst {x : D} {ps : List PyData} {st : Store} (h : toP x = some (.list ps)) (hs : showP (.list ps) = true) : bltW .repr [.d x] st = .ok (.d (.str (PyData.list ps).shown)) st := by
  show reprW (.d x) st = _
  unfold reprW
  rw [rd_d]
  simp only [h, hs, if_true]
theorem rep_enc {r : Int × Int} (h1 : Sm r.1) (h2 : Sm r.2) (st : Store) : bltW .repr [.d (enc r)] st = .ok (.d (.str (pe r).shown)) st :=
  rep_tup (toP_enc r) (show_of rfl (showable_enc h1 h2) (fine_enc h1 h2) (by decide))
def pl (r s : Int × Int) : PyData := .list [pe r, pe s]
theorem fine_two {r s : Int × Int} (h1 : Sm r.1) (h2 : Sm r.2) (h3 : Sm s.1) (h4 : Sm s.2) : Fine (pl r s).shown 500 := by
  have e : (pl r s).shown = (("[" : Str) ++ ((pe r).shown ++ (", " : Str) ++ (pe s).shown)) ++ (Str.ofString "]") := by
    unfold pl
    rw [PyData.shown_list]
    generalize pe r = a
    generalize pe s = b
    have e1 : PyData.shownAll [a, b] = [a.shown, b.shown] := by rw [PyData.shownAll_cons, PyData.shownAll_cons, PyData.shownAll_nil]
    rw [e1]
    generalize a.shown = x
    generalize b.shown = y
    rfl
  rw [e]
  exact (((fine_of "[" 1 (by decide)).app (((fine_enc h1 h2).app (fine_of ", " 2 (by decide))).app (fine_enc h3 h4))).app (fine_of "]" 1 (by decide))).mono (by decide)
theorem rep_two {r s : Int × Int} (h1 : Sm r.1) (h2 : Sm r.2) (h3 : Sm s.1) (h4 : Sm s.2) (st : Store) : bltW .repr [.d (.lst [enc r, enc s])] st = .ok (.d (.str (pl r s).shown)) st :=
  rep_lst (ps := [pe r, pe s]) rfl (show_of rfl (by
    show ((pe r).showable && ((pe s).showable && true)) = true
    rw [showable_enc h1 h2, showable_enc h3 h4]; rfl) (fine_two h1 h2 h3 h4) (by decide))
theorem eq_enc (r : Int × Int) (k : Bool) (st : Store) : eqW k (.d (enc r)) (.d (enc r)) st = .ok (.d (.bl (!k))) st := by
  unfold eqW
  rw [rd_d]
  have e : pyEq (enc r) (enc r) = some true := by
    unfold pyEq
    have e4 : PySem.SeqAt.shaped (pe r) = true := rfl
    rw [toP_enc]
    simp only [e4, Bool.and_self, if_true]
    rw [PySem.SeqAt.eqv_refl (pe r) rfl]
  simp only [e]
  simp
theorem eq_str {s : Str} {n : Nat} (h : Fine s n) (k : Bool) (st : Store) : eqW k (.d (.str s)) (.d (.str s)) st = .ok (.d (.bl (!k))) st := by
  unfold eqW
  rw [rd_d]
  have e : pyEq (.str s) (.str s) = some true := by
    unfold pyEq
    have e3 : toP (.str s) = some (.str s) := rfl
    have e4 : PySem.SeqAt.shaped (.str s) = true := by
      unfold PySem.SeqAt.shaped
      show (PySem.PyData.strOk s && true) = true
      rw [h.1]; rfl
    rw [e3]
    simp only [e4, Bool.and_self, if_true]
    show some (s == s) = some true
    rw [beq_self_eq_true]
  simp only [e]
  simp
end K07
namespace K07
open Mi
open PySem (Str PyData)
/-! ### a draw begins -/
theorem comps_ints {f : Item → Store → Res (Option W)} {st : Store} (g : Int → Option W) (ns : List Int) (hf : ∀ i ∈ ns, f (.one (.d (.int i))) st = .ok (g i) st) (hl : ns.length ≤ 1000) :
    ∀ (xs pre : List Int) (acc : List W), pre ++ xs = ns → acc.length ≤ pre.length →
      comps (Src.one (.dat (ns.map fun i => W.d (D.int i)))).at (Src.one (.dat (ns.map fun i => W.d (D.int i)))).over f xs.length pre.length acc st = .ok (acc ++ xs.filterMap g) st
  | [], pre, acc, h, _ => by
    simp [comps, Src.over, Sq.over]
  | x :: xs, pre, acc, h, ha => by
    have hx : x ∈ ns := by rw [← h]; simp
    have hpl : pre.length < ns.length := by rw [← h]; simp
    have e : (Src.one (.dat (ns.map fun i => W.d (D.int i)))).at pre.length st = some (.one (.d (.int x))) := by
      show (match (ns.map fun i => W.d (D.int i))[pre.length]? with | some w => some (Item.one w) | none => none) = _
      rw [← h]; simp
    have ih := fun acc h1 => comps_ints g ns hf hl xs (pre ++ [x]) acc (by rw [← h]; simp) h1
    rw [List.length_cons]
    unfold comps
    rw [e]
    simp only [hf x hx, bind_ok]
    rw [show (pre ++ [x]).length = pre.length + 1 by simp] at ih
    cases hg : g x with
    | none =>
      simp only [List.filterMap_cons, hg]
      exact ih acc (by omega)
    | some y =>
      have sm : small acc.length = true := decide_eq_true (by omega)
      simp only [List.filterMap_cons, hg, sm, if_true]
      rw [ih (acc ++ [y]) (by simp; omega)]
      simp
def large (i : Int) : Option W := if 10 ^ 18 ≤ (i.natAbs : Int) then some (.d (.int ((i.natAbs : Int) - 10 ^ 18))) else none
theorem ite_ok {α : Type} {c : Bool} {a b : α} {st : Store} : (if c = true then Res.ok a st else Res.ok b st) = Res.ok (if c = true then a else b) st := by cases c <;> rfl
theorem begun {m : Nat} (hm : 1 ≤ m) (ns : List Int) (h : ns.length ≤ 63) : ∃ st, Dr 0 st [] ∧ callD P m 17 [.d (.lst (ns.map D.int))] [] = .ok (.ref 1) st := by
  have pw : powOk 10 18 = true := by decide
  have m0 : (ns.map D.int).map W.d = ns.map fun i => W.d (D.int i) := by rw [List.map_map]; rfl
  obtain ⟨ls, hls, hll⟩ : ∃ ls : List Int, ns.filterMap large = ls.map (fun i => W.d (D.int i)) ∧ ls.length ≤ 63 := by
    refine ⟨ns.filterMap fun i => if 10 ^ 18 ≤ (i.natAbs : Int) then some ((i.natAbs : Int) - 10 ^ 18) else none, ?_, Nat.le_trans (List.length_filterMap_le _ _) h⟩
    rw [List.map_filterMap]
    congr 1
    funext i
    unfold large
    split <;> rfl
  refine ⟨SD ls (ns.map fun i => (i.natAbs : Int)) 0 0 [], ⟨ls, _, 0, 0, by omega, by omega, by omega, rfl⟩, ?_⟩
  rw [go1 hm (d := d17) rfl]
  refine (runD_ret (w := .ref 1) (st1 := SD ls (ns.map fun i => (i.natAbs : Int)) 0 0 []) rfl ?_).trans ?_
  · show evSs (P.ctx (m - 1)) d17.body [some (.d (.lst (ns.map D.int))), none, none] [] = _
    unfold d17
    dsimp only
    rw [ss_cons_]
    have s1 : evS (P.ctx (m - 1)) (.set 1 (.comp true (.op .sub (.blt .abs (.cons (.var 2) (.nil))) (.op .pow (.int 10) (.int 18))) (.v 2) (.seq (.var 0)) (.cons (.cmp .ge (.blt .abs (.cons (.var 2) (.nil))) (.op .pow (.int 10) (.int 18))) (.nil)))) [some (.d (.lst (ns.map D.int))), none, none] [] = .ok (.nx [some (.d (.lst (ns.map D.int))), some (.ref 0), none]) [.lst (ls.map fun i => W.d (D.int i))] := by
      rw [s_set_]
      conv => lhs; arg 1; unfold evE
      simp only [i_seq_, e_var_, List.getElem?_cons_zero, bind_ok, sqW, m0]
      have c := comps_ints (st := []) (f := turnOf true (fun w s => asgI (.v 2) w (wipeE [some (.d (.lst (ns.map D.int))), none, none] (tgVars (.v 2))) s) (evC (P.ctx (m - 1)) (.cons (.cmp .ge (.blt .abs (.cons (.var 2) (.nil))) (.op .pow (.int 10) (.int 18))) (.nil))) (evE (P.ctx (m - 1)) (.op .sub (.blt .abs (.cons (.var 2) (.nil))) (.op .pow (.int 10) (.int 18))))) large ns (fun i _ => by
        simp [turnOf, asgI, asgT, tgVars, wipeE, op_pow_ pw, large]
        by_cases hi : (10 : Int) ^ 18 ≤ (i.natAbs : Int)
        · simp at hi
          simp [hi, keepOf, noexc]
        · simp at hi
          have : ¬ ((1000000000000000000 : Int) ≤ (i.natAbs : Int)) := by omega
          simp [this, noexc]) (by omega) ns [] [] rfl (Nat.le_refl _)
      have ll : (Src.one (.dat (ns.map fun i => W.d (D.int i)))).len = ns.length := by show (ns.map _).length = _; simp
      rw [ll]
      rw [show ([] : List Int).length = 0 from rfl] at c
      rw [c, bind_ok, List.nil_append, hls]
      have sm : small ls.length = true := decide_eq_true (by omega)
      simp [mkLst, sm]
    rw [s1, next_nx, ss_cons_, s_ret_, e_dct_]
    have s2 : evE (P.ctx (m - 1)) (.comp false (.blt .abs (.cons (.var 2) (.nil))) (.v 2) (.seq (.var 0)) (.nil)) [some (.d (.lst (ns.map D.int))), some (.ref 0), none] [.lst (ls.map fun i => W.d (D.int i))] = .ok (.d (.lst ((ns.map fun i => (i.natAbs : Int)).map D.int))) [.lst (ls.map fun i => W.d (D.int i))] := by
      unfold evE
      simp only [i_seq_, e_var_, List.getElem?_cons_zero, bind_ok, sqW, m0]
      have c := comps_ints (st := [.lst (ls.map fun i => W.d (D.int i))]) (f := turnOf false (fun w s => asgI (.v 2) w (wipeE [some (.d (.lst (ns.map D.int))), some (.ref 0), none] (tgVars (.v 2))) s) (evC (P.ctx (m - 1)) .nil) (evE (P.ctx (m - 1)) (.blt .abs (.cons (.var 2) (.nil))))) (fun i => some (.d (.int (i.natAbs : Int)))) ns (fun i _ => by
        simp [turnOf, asgI, asgT, tgVars, wipeE, keepOf, noexc]) (by omega) ns [] [] rfl (Nat.le_refl _)
      have ll : (Src.one (.dat (ns.map fun i => W.d (D.int i)))).len = ns.length := by show (ns.map _).length = _; simp
      rw [ll]
      rw [show ([] : List Int).length = 0 from rfl] at c
      rw [c, bind_ok, List.nil_append]
      have e : (ns.filterMap fun i => some (W.d (D.int (i.natAbs : Int)))) = ((ns.map fun i => (i.natAbs : Int)).map D.int).map W.d := by
        rw [List.map_map, List.map_map, ← List.filterMap_eq_map]; rfl
      rw [e, mkLst_map (by simp; omega)]
    simp only [es_cons_, es_nil_, e_var_, List.getElem?_cons_succ, List.getElem?_cons_zero, bind_ok, s2, e_int__]
    rfl
  · rfl
end K07
namespace K07
open Mi
/-! ### the parts about numbers, on the package's side and on the law's -/
def sh (p : Int × List Int) : D := .tup [.int p.1, .tup (di p.2)]
/-- small numbers -/
def Sms (ns : List Int) : Prop := ∀ x ∈ ns, Sm x
theorem sm_pt {x : Int} (h : Sm x) : x.natAbs < PT := Nat.lt_trans h (by decide)
theorem gp_sm {s : Int} {ns : List Int} (hs : 0 < s) (h : Sm s) : Sm (gp s ns : Int) := by
  have : gp s ns ≤ s.natAbs := Nat.le_of_dvd (by omega) (Int.ofNat_dvd_left.mp (gp_dvd_s s ns))
  unfold Sm at *
  omega
theorem div5 {m : Nat} (hm : 1 ≤ m) {s : Int} {ns : List Int} (h1 : Sm s) (h2 : Sms ns) (st : Store) : callD P m 5 [.d (.tup (.int s :: di ns))] st = .ok (.d (.int (gp s ns : Nat))) st := by
  obtain ⟨n, rfl⟩ : ∃ n, m = n + 1 := ⟨m - 1, by omega⟩
  exact divisor n (s :: ns) (fun x hx => by
    rcases List.mem_cons.mp hx with rfl | hx
    · exact sm_pt h1
    · exact sm_pt (h2 x hx)) _ (.inl rfl) st
theorem div21 {m : Nat} (hm : 1 ≤ m) {s : Int} {ns : List Int} (h1 : Sm s) (h2 : Sms ns) (st : Store) : callD P m 21 [.d (.lst (.int s :: di ns))] st = .ok (.d (.int (gp s ns : Nat))) st := by
  obtain ⟨n, rfl⟩ : ∃ n, m = n + 1 := ⟨m - 1, by omega⟩
  exact law_divisor n (s :: ns) (fun x hx => by
    rcases List.mem_cons.mp hx with rfl | hx
    · exact sm_pt h1
    · exact sm_pt (h2 x hx)) _ (.inr rfl) st
theorem itm_tup (ds : List D) (st : Store) : itemsW (.d (.tup ds)) st = some (ds.map W.d) := rfl
theorem mkTup_cons {a : D} {ds : List D} {st : Store} (h : ds.length ≤ 1000) : mkTup (.d a :: ds.map W.d) st = .ok (.d (.tup (a :: ds))) st := mkTup_map (ds := a :: ds) (by simp; omega)
theorem mkLst_cons {a : D} {ds : List D} {st : Store} (h : ds.length ≤ 1000) : mkLst false (.d a :: ds.map W.d) st = .ok (.d (.lst (a :: ds))) st := mkLst_map (ds := a :: ds) (by simp; omega)
theorem r6_ {m : Nat} (hm : 2 ≤ m) {s : Int} {ns : List Int} (hs : 0 < s) (h1 : Sm s) (h2 : Sms ns) (hl : ns.length ≤ 900) {w : D} (hw : w = .lst (di ns) ∨ w = .tup (di ns)) (st : Store) : callD P m 6 [.d (.int s), .d w] st = .ok (.d (sh (lp s ns))) st := by
  rw [go1 (by omega) (d := d6) rfl]
  have hld : (di ns).length ≤ 1000 := by unfold di; simp; omega
  have hg := gp_pos hs ns
  have ok : divOk (gp s ns : Int) = true := div_ok (gp_sm hs h1) (by omega)
  have dv := div5 (m := m - 1) (by omega) h1 h2 st
  have hs' : Hs (.d w) st (ns.map D.int) := by rcases hw with rfl | rfl; exact Hs.lst; exact Hs.tup
  have it : itemsW (.d w) st = some ((di ns).map W.d) := hs'.items
  have hc := comp_at (C := P.ctx (m - 1)) (env := [some (.d (.int s)), some (.d w), some (.d (.int (gp s ns : Nat))), none]) (st := st) (a := .var 1) (elt := .op .fdiv (.var 3) (.var 2)) (i := 3) D.int (fun x => D.int (x.fdiv (gp s ns))) ns hs' (by simp) (by omega) (fun x hx => by simp [op_fdiv_ ok])
  have hc2 : bltW .tuple [.d (.lst (ns.map fun x => D.int (x.fdiv (gp s ns))))] st = .ok (.d (.tup (di (lp s ns).2))) st := by
    rw [tuple_lst (by simp; omega)]
    unfold di lp
    simp [List.map_map, Function.comp_def]
  refine (runD_ret (w := .d (sh (lp s ns))) (st1 := st) rfl ?_).trans handed_d
  simp [d6, Mi.start, it, mkTup_cons hld, dv, hc, hc2, op_fdiv_ ok]
  rfl
theorem r27_ {m : Nat} (hm : 2 ≤ m) {s : Int} {ns : List Int} (hs : 0 < s) (h1 : Sm s) (h2 : Sms ns) (hl : ns.length ≤ 900) {w : W} {st : Store} (hw : Hs w st (di ns)) : runD (P.ctx (m - 1)) d27 [.d (.int s), w] st = .ok (.d (sh (lp s ns))) st := by
  have hld : (di ns).length ≤ 1000 := by unfold di; simp; omega
  have hg := gp_pos hs ns
  have ok : divOk (gp s ns : Int) = true := div_ok (gp_sm hs h1) (by omega)
  have dv := div21 (m := m - 1) (by omega) h1 h2 st
  have it : itemsW w st = some ((di ns).map W.d) := hw.items
  have hc := comp_at (C := P.ctx (m - 1)) (env := [some (.d (.int s)), some w, some (.d (.int (gp s ns : Nat))), none]) (st := st) (a := .var 1) (elt := .op .fdiv (.var 3) (.var 2)) (i := 3) D.int (fun x => D.int (x.fdiv (gp s ns))) ns hw (by simp) (by omega) (fun x hx => by simp [op_fdiv_ ok])
  have hc2 : bltW .tuple [.d (.lst (ns.map fun x => D.int (x.fdiv (gp s ns))))] st = .ok (.d (.tup (di (lp s ns).2))) st := by
    rw [tuple_lst (by simp; omega)]
    unfold di lp
    simp [List.map_map, Function.comp_def]
  have ml : mkLst false ((di ns).map W.d) st = .ok (.d (.lst (di ns))) st := list_out hld
  have ct : catW false (.d (.lst [.int s])) (.d (.lst (di ns))) st = .ok (.d (.lst (.int s :: di ns))) st := mkLst_cons hld
  refine (runD_ret (w := .d (sh (lp s ns))) (st1 := st) rfl ?_).trans handed_d
  simp [d27, Mi.start, it, ml, ct, dv, hc, hc2, op_fdiv_ ok]
  rfl
theorem r27 {m : Nat} (hm : 2 ≤ m) {s : Int} {ns : List Int} (hs : 0 < s) (h1 : Sm s) (h2 : Sms ns) (hl : ns.length ≤ 900) {w : W} {st : Store} (hw : Hs w st (di ns)) : callD P m 27 [.d (.int s), w] st = .ok (.d (sh (lp s ns))) st := by
  rw [go1 (by omega) (d := d27) rfl]
  exact r27_ hm hs h1 h2 hl hw
theorem gp2 (a b : Int) : gp a [b] = Int.gcd a b := by unfold gp; exact gl2 a b
theorem r8_ {m : Nat} (hm : 2 ≤ m) {a b : Int} (ha : Sm a) (hb : Sm b) (h : 0 < b) (st : Store) : callD P m 8 [.d (.int a), .d (.int b)] st = .ok (.d (enc (nr a b))) st := by
  rw [go1 (by omega) (d := d8) rfl]
  have hd := div5 (m := m - 1) (by omega) ha (ns := [b]) (by intro x hx; simp at hx; rw [hx]; exact hb) st
  rw [gp2] at hd
  refine (runD_ret (w := .d (enc (nr a b))) (st1 := st) rfl ?_).trans handed_d
  have hg := gcd_pos (a := a) (b := b) (by omega)
  have q := div_ok (gcd_sm (a := a) hb (by omega)) (by omega)
  have hd' : callD P (m - 1) 5 [.d (.tup [.int a, .int b])] st = .ok (.d (.int (Int.gcd a b : Nat))) st := hd
  simp [d8, Mi.start, hd', h, op_fdiv_ q, nr, enc]
theorem r22_ {m : Nat} (hm : 2 ≤ m) {a b : Int} (ha : Sm a) (hb : Sm b) (h : 0 < b) (st : Store) : callD P m 22 [.d (.int a), .d (.int b)] st = .ok (.d (enc (nr a b))) st := by
  rw [go1 (by omega) (d := d22) rfl]
  have hd := div21 (m := m - 1) (by omega) ha (ns := [b]) (by intro x hx; simp at hx; rw [hx]; exact hb) st
  rw [gp2] at hd
  refine (runD_ret (w := .d (enc (nr a b))) (st1 := st) rfl ?_).trans handed_d
  have hg := gcd_pos (a := a) (b := b) (by omega)
  have q := div_ok (gcd_sm (a := a) hb (by omega)) (by omega)
  have hd' : callD P (m - 1) 21 [.d (.lst [.int a, .int b])] st = .ok (.d (.int (Int.gcd a b : Nat))) st := hd
  simp [d22, Mi.start, hd', h, op_fdiv_ q, nr, enc]
/-! ### the law's ratios over a whole -/
def Wh (S : Int) : Prop := 0 < S ∧ S < 10 ^ 26
def Pt (S x : Int) : Prop := 0 ≤ x ∧ x ≤ S
theorem wh_sm {S : Int} (h : Wh S) : Sm S := by unfold Sm; have := h.1; have := h.2; omega
theorem pt_sm {S x : Int} (h : Wh S) (p : Pt S x) : Sm x := by unfold Sm; have := h.2; have := p.1; have := p.2; omega
def Tn (r : Int × Int) : Prop := r.1.natAbs < 10 ^ 28 ∧ r.2.natAbs < 10 ^ 28
theorem nr_tn {S x : Int} (h : Wh S) (p : Pt S x) : Tn (nr x S) ∧ 1 ≤ (nr x S).2 := by
  obtain ⟨k1, _, _, k4, k5⟩ := nr_spec (X := x) (Y := S) (by have := h.1; omega)
  have := h.1; have := h.2; have := p.1; have := p.2
  refine ⟨⟨?_, ?_⟩, k1⟩ <;> omega
theorem sm_of {x : Int} (h : x.natAbs < 10 ^ 28) : Sm x := Nat.lt_trans h (by decide)
theorem mul_lt {a b : Int} (ha : a.natAbs < 10 ^ 28) (hb : b.natAbs < 10 ^ 28) : (a * b).natAbs < 10 ^ 56 := by
  rw [Int.natAbs_mul]
  calc a.natAbs * b.natAbs < 10 ^ 28 * 10 ^ 28 := Nat.mul_lt_mul'' ha hb
    _ = 10 ^ 56 := by decide
theorem mul_sm {a b : Int} (ha : a.natAbs < 10 ^ 28) (hb : b.natAbs < 10 ^ 28) : Sm (a * b) := Nat.lt_trans (mul_lt ha hb) (by decide)
theorem add_sm {a b c d : Int} (ha : a.natAbs < 10 ^ 28) (hb : b.natAbs < 10 ^ 28) (hc : c.natAbs < 10 ^ 28) (hd : d.natAbs < 10 ^ 28) : Sm (a * b + c * d) ∧ Sm (a * b - c * d) := by
  have h1 := mul_lt ha hb
  have h2 := mul_lt hc hd
  constructor
  · unfold Sm; omega
  · unfold Sm; omega
theorem r23_ {m : Nat} (hm : 1 ≤ m) {r s : Int × Int} (h1 : Sm r.1) (h2 : Sm r.2) (h3 : Sm s.1) (h4 : Sm s.2) (st : Store) : callD P m 23 [.d (enc r), .d (enc s)] st = .ok (.d (.bl (decide (r.1 * s.2 < s.1 * r.2)))) st := by
  rw [go1 (by omega) (d := d23) rfl]
  refine (runD_ret (w := .d (.bl (decide (r.1 * s.2 < s.1 * r.2)))) (st1 := st) rfl ?_).trans handed_d
  simp [d23, Mi.start, enc, op_mul_ (mul_ok h1 h4), op_mul_ (mul_ok h3 h2)]
theorem r24_ {m : Nat} (hm : 3 ≤ m) {r s : Int × Int} (hr : Tn r) (hs : Tn s) (h1 : 1 ≤ r.2) (h2 : 1 ≤ s.2) (st : Store) : callD P m 24 [.d (enc r), .d (enc s)] st = .ok (.d (enc (nr (r.1 * s.2 + s.1 * r.2) (r.2 * s.2)))) st := by
  rw [go1 (by omega) (d := d24) rfl]
  have k := r22_ (m := m - 1) (by omega) (add_sm hr.1 hs.2 hs.1 hr.2).1 (mul_sm hr.2 hs.2) (Int.mul_pos (by omega) (by omega)) st
  refine (runD_ret (w := .d (enc (nr (r.1 * s.2 + s.1 * r.2) (r.2 * s.2)))) (st1 := st) rfl ?_).trans handed_d
  simp [d24, Mi.start, enc, op_mul_ (mul_ok (sm_of hr.1) (sm_of hs.2)), op_mul_ (mul_ok (sm_of hs.1) (sm_of hr.2)), op_mul_ (mul_ok (sm_of hr.2) (sm_of hs.2)), k]
theorem r25_ {m : Nat} (hm : 3 ≤ m) {r s : Int × Int} (hr : Tn r) (hs : Tn s) (h1 : 1 ≤ r.2) (h2 : 1 ≤ s.2) (st : Store) : callD P m 25 [.d (enc r), .d (enc s)] st = .ok (.d (enc (nr (r.1 * s.2 - s.1 * r.2) (r.2 * s.2)))) st := by
  rw [go1 (by omega) (d := d25) rfl]
  have k := r22_ (m := m - 1) (by omega) (add_sm hr.1 hs.2 hs.1 hr.2).2 (mul_sm hr.2 hs.2) (Int.mul_pos (by omega) (by omega)) st
  refine (runD_ret (w := .d (enc (nr (r.1 * s.2 - s.1 * r.2) (r.2 * s.2)))) (st1 := st) rfl ?_).trans handed_d
  simp [d25, Mi.start, enc, op_mul_ (mul_ok (sm_of hr.1) (sm_of hs.2)), op_mul_ (mul_ok (sm_of hs.1) (sm_of hr.2)), op_mul_ (mul_ok (sm_of hr.2) (sm_of hs.2)), k]
section
variable {S x y : Int}
theorem add_at {m : Nat} (hm : 3 ≤ m) (h : Wh S) (hx : Pt S x) (hy : Pt S y) (st : Store) : callD P m 24 [.d (enc (nr x S)), .d (enc (nr y S))] st = .ok (.d (enc (nr (x + y) S))) st := by
  rw [r24_ hm (nr_tn h hx).1 (nr_tn h hy).1 (nr_tn h hx).2 (nr_tn h hy).2 st, nr_add h.1]
theorem sub_at {m : Nat} (hm : 3 ≤ m) (h : Wh S) (hx : Pt S x) (hy : Pt S y) (st : Store) : callD P m 25 [.d (enc (nr x S)), .d (enc (nr y S))] st = .ok (.d (enc (nr (x - y) S))) st := by
  rw [r25_ hm (nr_tn h hx).1 (nr_tn h hy).1 (nr_tn h hx).2 (nr_tn h hy).2 st, nr_sub h.1]
theorem less_at {m : Nat} (hm : 1 ≤ m) (h : Wh S) (hx : Pt S x) (hy : Pt S y) (st : Store) : callD P m 23 [.d (enc (nr x S)), .d (enc (nr y S))] st = .ok (.d (.bl (decide (x < y)))) st := by
  rw [r23_ hm (sm_of (nr_tn h hx).1.1) (sm_of (nr_tn h hx).1.2) (sm_of (nr_tn h hy).1.1) (sm_of (nr_tn h hy).1.2) st]
  have : (nr x S).1 * (nr y S).2 < (nr y S).1 * (nr x S).2 ↔ x < y := (nr_lt h.1 h.1).trans ⟨fun q => Int.lt_of_mul_lt_mul_right q (by have := h.1; omega), fun q => Int.mul_lt_mul_of_pos_right q h.1⟩
  simp only [this]
theorem r33_ {m : Nat} (hm : 2 ≤ m) (h : Wh S) (hx : Pt S x) (hy : Pt S y) (st : Store) : callD P m 33 [.d (enc (nr x S)), .d (enc (nr y S))] st = .ok (.d (enc (nr (mn x y) S))) st := by
  rw [go1 (by omega) (d := d33) rfl]
  have k := less_at (m := m - 1) (by omega) h hx hy st
  refine (runD_ret (w := .d (enc (nr (mn x y) S))) (st1 := st) rfl ?_).trans handed_d
  by_cases z : x < y
  · have e : mn x y = x := by unfold mn; rw [if_neg (by omega)]
    simp [d33, Mi.start, k, z, e]
  · have e : mn x y = y := by unfold mn; split <;> omega
    simp [d33, Mi.start, k, z, e]
end
end K07
namespace K07
open Mi
/-! ### lists of ratios over a whole -/
abbrev er (S x : Int) : D := enc (nr x S)
def Pts (S : Int) (xs : List Int) : Prop := (∀ x ∈ xs, 0 ≤ x) ∧ xs.sum ≤ S
theorem Pts.pt {S : Int} {xs : List Int} (h : Pts S xs) : ∀ x ∈ xs, Pt S x := fun x hx => ⟨h.1 x hx, Int.le_trans (mem_le_sum h.1 x hx) h.2⟩
theorem take_sum {S : Int} {xs : List Int} (h : Pts S xs) (j : Nat) : Pt S (xs.take j).sum := by
  have h1 : ∀ x ∈ xs.take j, 0 ≤ x := fun x hx => h.1 x (List.mem_of_mem_take hx)
  have h2 : ∀ x ∈ xs.drop j, 0 ≤ x := fun x hx => h.1 x (List.mem_of_mem_drop hx)
  have e : xs.sum = (xs.take j).sum + (xs.drop j).sum := by rw [← List.sum_append, List.take_append_drop]
  have := sum_nonneg h1
  have := sum_nonneg h2
  have := h.2
  exact ⟨by omega, by omega⟩
theorem r26_ {m : Nat} (hm : 4 ≤ m) {S : Int} (hS : Wh S) {xs : List Int} (hx : Pts S xs) (st : Store) : callD P m 26 [.d (.lst (xs.map (er S)))] st = .ok (.d (er S xs.sum)) st := by
  rw [go1 (by omega) (d := d26) rfl]
  refine (runD_ret (w := .d (er S xs.sum)) (st1 := st) rfl ?_).trans handed_d
  obtain ⟨env1, st1, k1, ⟨e2, rfl⟩, rfl⟩ := fors_dat (f := forF (P.ctx (m - 1)) (.v 2) (.cons (.set 1 (.call 24 (.cons (.var 1) (.cons (.var 2) (.nil))))) (.nil))) ((xs.map (er S)).map W.d) (fun j env s => (∃ e2, env = [some (.d (.lst (xs.map (er S)))), some (.d (er S (xs.take j).sum)), e2]) ∧ s = st)
    [some (.d (.lst (xs.map (er S)))), some (.d (er S 0)), none] st ⟨⟨none, by simp⟩, rfl⟩ (fun j w env s hw ⟨⟨e2, he⟩, hs⟩ => by
      subst he hs
      obtain ⟨lt, e⟩ := List.getElem?_eq_some_iff.mp hw
      have lt' : j < xs.length := by simpa using lt
      have ew : w = .d (er S xs[j]) := by rw [← e]; simp
      subst ew
      have k := add_at (m := m - 1) (by omega) hS (take_sum hx j) (hx.pt _ (List.getElem_mem lt')) s
      have su : (xs.take j).sum + xs[j] = (xs.take (j + 1)).sum := by
        rw [List.take_succ_eq_append_getElem lt', List.sum_append]; simp
      rw [su] at k
      refine ⟨_, s, .inl (by rw [forF_v]; simp [k]), ⟨⟨some (.d (er S xs[j])), rfl⟩, rfl⟩⟩)
  have z : (.tup [.int 0, .int 1] : D) = er S 0 := by unfold er; rw [nr_zero hS.1]; rfl
  have src : sqW (.d (.lst (xs.map (er S)))) st1 = .ok (.dat ((xs.map (er S)).map W.d)) st1 := rfl
  simp only [d26, Mi.start, ss_cons_, s_set_, e_tup_, es_cons_, es_nil_, e_int__, bind_ok, mkTup_2, z, then_ok, next_nx, List.map_cons, List.map_nil, List.length_cons, List.length_nil, List.replicate, List.cons_append, List.nil_append, List.set_cons_succ, List.set_cons_zero, s_for_, i_seq_, e_var_, List.getElem?_cons_zero, src]
  rw [k1]
  simp
theorem r28_ {m : Nat} (hm : 3 ≤ m) {p : Int × List Int} (hp : 0 < p.1) (h1 : Sm p.1) (h2 : Sms p.2) (hl : p.2.length ≤ 900) (st : Store) : callD P m 28 [.d (sh p)] st = .ok (.d (.lst (p.2.map (er p.1)))) st := by
  rw [go1 (by omega) (d := d28) rfl]
  refine (runD_ret (w := .d (.lst (p.2.map (er p.1)))) (st1 := st) rfl ?_).trans handed_d
  have i0 : ∀ st, idxW (.d (sh p)) (.d (.int 0)) st = .ok (.d (.int p.1)) st := fun st => ix0 _ _ _
  have i1 : idxW (.d (sh p)) (.d (.int 1)) st = .ok (.d (.tup (di p.2))) st := ix1 _ _ _ _
  have hc := comp_at (C := P.ctx (m - 1)) (env := [some (.d (sh p)), none]) (st := st) (a := .idx (.var 0) (.int 1)) (elt := .call 22 (.cons (.var 1) (.cons (.idx (.var 0) (.int 0)) (.nil)))) (i := 1) D.int (er p.1) p.2 Hs.tup (by simp [i1]; rfl) (by omega) (fun x hx => by
    have k := r22_ (m := m - 1) (by omega) (h2 x hx) h1 hp st
    simp [i0, k])
  simp [d28, Mi.start, hc]
theorem nr_dvd {X S : Int} (hS : 0 < S) : (nr X S).2 ∣ S := by
  obtain ⟨k1, k2, k3, _, _⟩ := nr_spec (X := X) (Y := S) (by omega)
  have d : (nr X S).2 ∣ (nr X S).1 * S := ⟨X, by rw [← k3, Int.mul_comm]⟩
  have h2 : (nr X S).2.natAbs ∣ (nr X S).1.natAbs * S.natAbs := by rw [← Int.natAbs_mul]; exact Int.natAbs_dvd_natAbs.mpr d
  have hc : Nat.Coprime (nr X S).2.natAbs (nr X S).1.natAbs := by
    show Nat.gcd _ _ = 1
    rw [Nat.gcd_comm]; exact k2
  exact Int.natAbs_dvd_natAbs.mp (hc.dvd_of_dvd_mul_left h2)
theorem fdiv_nat (a b : Nat) : ((a : Int)).fdiv (b : Int) = ((a / b : Nat) : Int) := by
  rw [Int.fdiv_eq_ediv_of_nonneg _ (Int.natCast_nonneg b)]; rfl
/-- the least whole of all -/
theorem lcm_step {l e : Nat} (hl : 0 < l) (he : 0 < e) : ((l : Int) * e).fdiv (gp (l : Int) [(e : Int)] : Nat) = ((Nat.lcm l e : Nat) : Int) := by
  rw [gp2, show Int.gcd (l : Int) (e : Int) = Nat.gcd l e from rfl, ← Int.natCast_mul, fdiv_nat]
  rfl
def lbody : Ss := .cons (.set 1 (.op .fdiv (.op .mul (.var 1) (.idx (.var 2) (.int 1))) (.call 21 (.cons (.lst false (.cons (.var 1) (.cons (.idx (.var 2) (.int 1)) (.nil)))) (.nil))))) (.nil)
theorem wh_nat {S : Int} (hS : Wh S) {l : Nat} (hd : (l : Int) ∣ S) : Sm (l : Int) := by
  have h := Int.le_of_dvd hS.1 hd
  have := hS.2
  unfold Sm
  omega
theorem lap29 {m : Nat} (hm : 1 ≤ m) {S : Int} (hS : Wh S) {x : Int} {l : Nat} (hl : 0 < l) (hd : (l : Int) ∣ S) (e0 e2 : Option W) (st : Store) :
    ∃ l' : Nat, 0 < l' ∧ (l' : Int) ∣ S ∧ l ∣ l' ∧ (nr x S).2 ∣ (l' : Int) ∧ evSs (P.ctx m) lbody [e0, some (.d (.int l)), some (.d (er S x))] st = .ok (.nx [e0, some (.d (.int l')), some (.d (er S x))]) st := by
  obtain ⟨k1, _, _, _, _⟩ := nr_spec (X := x) (Y := S) (by have := hS.1; omega)
  have kd := nr_dvd (X := x) hS.1
  obtain ⟨e, ee⟩ : ∃ e : Nat, (nr x S).2 = (e : Int) := ⟨(nr x S).2.toNat, by omega⟩
  have he : 0 < e := by omega
  rw [ee] at kd
  have sl := wh_nat hS hd
  have se := wh_nat hS kd
  refine ⟨Nat.lcm l e, Nat.lcm_pos hl he, ?_, Nat.dvd_lcm_left l e, by rw [ee]; exact Int.ofNat_dvd.mpr (Nat.dvd_lcm_right l e), ?_⟩
  · have a := Int.ofNat_dvd_left.mp hd
    have b := Int.ofNat_dvd_left.mp kd
    exact Int.ofNat_dvd_left.mpr (Nat.lcm_dvd a b)
  · have i1 : ∀ st, idxW (.d (er S x)) (.d (.int 1)) st = .ok (.d (.int (e : Int))) st := fun st => by
      rw [← ee]; exact ix1 _ _ _ _
    have dv : callD P m 21 [.d (.lst [.int (l : Int), .int (e : Int)])] st = .ok (.d (.int (gp (l : Int) [(e : Int)] : Nat))) st := div21 (by omega) sl (ns := [(e : Int)]) (by intro x hx; simp at hx; rw [hx]; exact se) st
    have hg := gp_pos (s := (l : Int)) (by omega) [(e : Int)]
    have ok : divOk (gp (l : Int) [(e : Int)] : Int) = true := div_ok (gp_sm (by omega) sl) (by omega)
    have q := lcm_step hl he
    simp only [lbody, ss_cons_, ss_nil_, s_set_, e_op_, e_var_, e_idx_, e_int__, e_call_, e_lst_, es_cons_, es_nil_, List.getElem?_cons_succ, List.getElem?_cons_zero, bind_ok, i1, op_mul_ (mul_ok sl se), mkLst_2, ctx_call, dv, op_fdiv_ ok, q, then_ok, next_nx, List.set_cons_succ, List.set_cons_zero]
theorem r29_ {m : Nat} (hm : 4 ≤ m) {S : Int} (hS : Wh S) {xs : List Int} (hx : Pts S xs) (hlen : xs.length ≤ 900) (st : Store) : callD P m 29 [.d (.lst (xs.map (er S)))] st = .ok (.d (sh (lp S xs))) st := by
  rw [go1 (by omega) (d := d29) rfl]
  refine (runD_ret (w := .d (sh (lp S xs))) (st1 := st) rfl ?_).trans handed_d
  obtain ⟨env1, st1, k1, ⟨l, e2, hl, hd, hall, rfl⟩, rfl⟩ := fors_dat (f := forF (P.ctx (m - 1)) (.v 2) lbody) ((xs.map (er S)).map W.d) (fun j env s => (∃ (l : Nat) (e2 : Option W), 0 < l ∧ (l : Int) ∣ S ∧ (∀ x ∈ xs.take j, (nr x S).2 ∣ (l : Int)) ∧ env = [some (.d (.lst (xs.map (er S)))), some (.d (.int l)), e2]) ∧ s = st)
    [some (.d (.lst (xs.map (er S)))), some (.d (.int (1 : Nat))), none] st ⟨⟨1, none, by omega, ⟨S, by simp⟩, by simp, rfl⟩, rfl⟩ (fun j w env s hw ⟨⟨l, e2, hl, hd, hall, he⟩, hs⟩ => by
      subst he hs
      obtain ⟨lt, e⟩ := List.getElem?_eq_some_iff.mp hw
      have lt' : j < xs.length := by simpa using lt
      have ew : w = .d (er S xs[j]) := by rw [← e]; simp
      subst ew
      obtain ⟨l', g1, g2, g3, g4, g5⟩ := lap29 (m := m - 1) (by omega) hS (x := xs[j]) hl hd (some (.d (.lst (xs.map (er S))))) none s
      refine ⟨_, s, .inl (by rw [forF_v]; exact g5), ⟨⟨l', some (.d (er S xs[j])), g1, g2, fun x hx => ?_, rfl⟩, rfl⟩⟩
      rw [List.take_succ_eq_append_getElem lt'] at hx
      rcases List.mem_append.mp hx with hx | hx
      · exact Int.dvd_trans (hall x hx) (Int.ofNat_dvd.mpr g3)
      · simp at hx; rw [hx]; exact g4)
  have hall : ∀ x ∈ xs, (nr x S).2 ∣ (l : Int) := fun x hx => hall x (by
    have : ((xs.map (er S)).map W.d).length = xs.length := by simp
    rw [this, List.take_length]; exact hx)
  have src : sqW (.d (.lst (xs.map (er S)))) st1 = .ok (.dat ((xs.map (er S)).map W.d)) st1 := rfl
  have sl := wh_nat hS hd
  -- the numbers over the whole
  have each : ∀ x ∈ xs, ((nr x S).1 * (l : Int).fdiv (nr x S).2) * S = x * l ∧ Sm ((nr x S).1 * (l : Int).fdiv (nr x S).2) ∧ mulOk (nr x S).1 ((l : Int).fdiv (nr x S).2) = true ∧ divOk (nr x S).2 = true := fun x hxm => by
    obtain ⟨k1, _, k3, k4, k5⟩ := nr_spec (X := x) (Y := S) (by have := hS.1; omega)
    have tn := nr_tn hS (hx.pt x hxm)
    obtain ⟨a, ea, eb⟩ := fd (g := (nr x S).2) (by omega) (hall x hxm)
    rw [eb]
    have al : a.natAbs ≤ (l : Int).natAbs := by
      rw [ea, Int.natAbs_mul]; exact Nat.le_mul_of_pos_left _ (by omega)
    have ll := Int.le_of_dvd hS.1 hd
    have a28 : a.natAbs < 10 ^ 28 := by have := hS.2; omega
    refine ⟨?_, mul_sm tn.1.1 a28, mul_ok (sm_of tn.1.1) (sm_of a28), div_ok (sm_of tn.1.2) (by omega)⟩
    rw [ea]
    generalize (nr x S).1 = p at *
    generalize (nr x S).2 = q at *
    grind
  have hc := comp_seq (C := P.ctx (m - 1)) (env := [some (.d (.lst (xs.map (er S)))), some (.d (.int l)), e2]) (st := st1) (a := .var 0) (elt := .op .mul (.idx (.var 2) (.int 0)) (.op .fdiv (.var 1) (.idx (.var 2) (.int 1)))) (i := 2) (er S) (fun x => D.int ((nr x S).1 * (l : Int).fdiv (nr x S).2)) xs (.inl rfl) (by simp) (by omega) (fun x hxm => by
    obtain ⟨_, _, e3, e4⟩ := each x hxm
    have i0 : ∀ st, idxW (.d (er S x)) (.d (.int 0)) st = .ok (.d (.int (nr x S).1)) st := fun st => ix0 _ _ _
    have i1 : ∀ st, idxW (.d (er S x)) (.d (.int 1)) st = .ok (.d (.int (nr x S).2)) st := fun st => ix1 _ _ _ _
    simp [i0, i1, op_mul_ e3, op_fdiv_ e4])
  have ys : (xs.map fun x => D.int ((nr x S).1 * (l : Int).fdiv (nr x S).2)) = di (xs.map fun x => (nr x S).1 * (l : Int).fdiv (nr x S).2) := by unfold di; rw [List.map_map]; rfl
  have fin := r27 (m := m - 1) (by omega) (s := (l : Int)) (by omega) sl (ns := xs.map fun x => (nr x S).1 * (l : Int).fdiv (nr x S).2) (fun y hy => by
    obtain ⟨x, hx', rfl⟩ := List.mem_map.mp hy
    exact (each x hx').2.1) (by simpa using hlen) (st := st1) Hs.lst
  have same : lp (l : Int) (xs.map fun x => (nr x S).1 * (l : Int).fdiv (nr x S).2) = lp S xs := lp_same (by omega) hS.1 (by
    rw [List.map_map]
    exact List.map_congr_left fun x hx' => (each x hx').1)
  rw [same] at fin
  rw [ys] at hc
  show evSs (P.ctx (m - 1)) (.cons (.set 1 (.int 1)) (.cons (.for_ (.v 2) (.seq (.var 0)) lbody) (.cons (.ret (.call 27 (.cons (.var 1) (.cons (.comp false (.op .mul (.idx (.var 2) (.int 0)) (.op .fdiv (.var 1) (.idx (.var 2) (.int 1)))) (.v 2) (.seq (.var 0)) (.nil)) (.nil))))) (.nil)))) [some (.d (.lst (xs.map (er S)))), none, none] st1 = _
  simp only [ss_cons_, s_set_, e_int__, then_ok, next_nx, List.set_cons_succ, List.set_cons_zero, s_for_, i_seq_, e_var_, List.getElem?_cons_zero, bind_ok, src]
  rw [show ((1 : Nat) : Int) = 1 from rfl] at k1
  rw [k1]
  simp [hc, fin]
end K07
namespace K07
open Mi
/-! ### apart_of -/
theorem zw (f : Int → Int → Int) (xs ys : List Int) : List.zipWith (fun x y => D.int (f x y)) xs ys = di (List.zipWith f xs ys) := by
  unfold di; rw [List.map_zipWith]
theorem min_pair (x y : Int) (st : Store) : bltW .min [.d (.tup [.int x, .int y])] st = .ok (.d (.int (mn x y))) st := rfl
/-- shares that are small enough for one another -/
structure Two (many : Nat) (p q : Int × List Int) : Prop where
  one : Sh many (10 ^ 12) p
  two : Sh many (10 ^ 12) q
  few : many ≤ 900
section
variable {many : Nat} {p q : Int × List Int}
theorem Two.wh (h : Two many p q) : Wh (p.1 * q.1) := by
  have a := h.one.pos
  have b := h.two.pos
  have c := h.one.top
  have d := h.two.top
  refine ⟨Int.mul_pos (by omega) (by omega), ?_⟩
  have e : p.1 * q.1 ≤ 10 ^ 12 * 10 ^ 12 := Int.le_trans (Int.mul_le_mul_of_nonneg_right c (by omega)) (Int.mul_le_mul_of_nonneg_left d (by decide))
  exact Int.lt_of_le_of_lt e (by decide)
theorem Two.swap (h : Two many p q) : Two many q p := ⟨h.two, h.one, h.few⟩
theorem hr_pts (h : Two many p q) : Pts (p.1 * q.1) (hr p q) := ⟨hr_nn h.one h.two, by rw [hr_sum h.one]; exact Int.le_refl _⟩
theorem hr_pts' (h : Two many p q) : Pts (p.1 * q.1) (hr q p) := ⟨hr_nn h.two h.one, by rw [hr_sum h.two, Int.mul_comm]; exact Int.le_refl _⟩
theorem both_pts (h : Two many p q) : Pts (p.1 * q.1) (both (hr p q) (hr q p)) := ⟨both_nn (hr_nn h.one h.two) (hr_nn h.two h.one), by
  have h1 := more_both (hr_eq h.one h.two)
  have h3 := sum_nonneg (more_nn (xs := hr p q) (ys := hr q p))
  rw [hr_sum h.one] at h1
  omega⟩
theorem more_pts (h : Two many p q) : Pts (p.1 * q.1) (more (hr p q) (hr q p)) := ⟨more_nn, (gap_bounds h.one h.two).2⟩
theorem more_pts' (h : Two many p q) : Pts (p.1 * q.1) (more (hr q p) (hr p q)) := ⟨more_nn, by rw [Int.mul_comm]; exact (gap_bounds h.two h.one).2⟩
theorem Pts.sms {S : Int} {xs : List Int} (hS : Wh S) (h : Pts S xs) : Sms xs := fun x hx => pt_sm hS (h.pt x hx)
theorem sh_sm (h : Two many p q) : Sm p.1 ∧ Sms p.2 := by
  have a := h.one.pos
  have c := h.one.top
  refine ⟨by unfold Sm; omega, fun x hx => ?_⟩
  have := h.one.nn x hx
  have := mem_le_sum h.one.nn x hx
  have e := h.one.sum
  unfold Sm; omega
theorem sh_len (h : Two many p q) : p.2.length = q.2.length := by rw [h.one.len, h.two.len]
def apD (p q : Int × List Int) : D := .tup [sh (lp (p.1 * q.1) (both (hr p q) (hr q p))), sh (lp (p.1 * q.1) (more (hr p q) (hr q p))), sh (lp (p.1 * q.1) (more (hr q p) (hr p q)))]
theorem r13_ {m : Nat} (hm : 3 ≤ m) (h : Two many p q) (st : Store) : callD P m 13 [.d (sh p), .d (sh q)] st = .ok (.d (apD p q)) st := by
  rw [go1 (by omega) (d := d13) rfl]
  refine (runD_ret (w := .d (apD p q)) (st1 := st) rfl ?_).trans handed_d
  have w := h.wh
  obtain ⟨sp, sps⟩ := sh_sm h
  obtain ⟨sq, sqs⟩ := sh_sm h.swap
  have l1 : (hr p q).length ≤ 900 := by rw [hr_len, h.one.len]; exact h.few
  have l2 : (hr q p).length ≤ 900 := by rw [hr_len, h.two.len]; exact h.few
  have le := hr_eq h.one h.two
  have lb := len_both le
  have lm := len_more le
  have lm' := len_more le.symm
  have p0 : ∀ st, idxW (.d (sh p)) (.d (.int 0)) st = .ok (.d (.int p.1)) st := fun st => ix0 _ _ _
  have p1 : ∀ st, idxW (.d (sh p)) (.d (.int 1)) st = .ok (.d (.tup (di p.2))) st := fun st => ix1 _ _ _ _
  have q0 : ∀ st, idxW (.d (sh q)) (.d (.int 0)) st = .ok (.d (.int q.1)) st := fun st => ix0 _ _ _
  have q1 : ∀ st, idxW (.d (sh q)) (.d (.int 1)) st = .ok (.d (.tup (di q.2))) st := fun st => ix1 _ _ _ _
  have e1 : (p.2.map fun x => D.int (x * q.1)) = di (hr p q) := by unfold di hr; rw [List.map_map]; rfl
  have e2 : (q.2.map fun x => D.int (x * p.1)) = di (hr q p) := by unfold di hr; rw [List.map_map]; rfl
  have c1 := comp_seq (C := P.ctx (m - 1)) (env := [some (.d (sh p)), some (.d (sh q)), some (.d (.int (p.1 * q.1))), none, none, none, none, none, none, none, none]) (st := st) (a := .idx (.var 0) (.int 1)) (elt := .op .mul (.var 9) (.idx (.var 1) (.int 0))) (i := 9) D.int (fun x => D.int (x * q.1)) p.2 (.inr rfl) (by simp [p1]; rfl) (by rw [h.one.len]; have := h.few; omega) (fun x hx => by
    simp [q0, op_mul_ (mul_ok (sps x hx) sq)])
  rw [e1] at c1
  have c2 := comp_seq (C := P.ctx (m - 1)) (env := [some (.d (sh p)), some (.d (sh q)), some (.d (.int (p.1 * q.1))), none, none, none, none, none, none, none, none]) (st := st) (a := .idx (.var 1) (.int 1)) (elt := .op .mul (.var 9) (.idx (.var 0) (.int 0))) (i := 9) D.int (fun x => D.int (x * p.1)) q.2 (.inr rfl) (by simp [q1]; rfl) (by rw [h.two.len]; have := h.few; omega) (fun x hx => by
    simp [p0, op_mul_ (mul_ok (sqs x hx) sp)])
  rw [e2] at c2
  have c3 := comp_zipN (C := P.ctx (m - 1)) (env := [some (.d (sh p)), some (.d (sh q)), some (.d (.int (p.1 * q.1))), none, none, none, some (.d (.lst (di (hr p q)))), some (.d (.lst (di (hr q p)))), none, none, none]) (st := st) (a := .var 6) (b := .var 7) (elt := .blt .min (.cons (.var 8) (.nil))) (i := 8) D.int D.int (fun x y => D.int (mn x y)) (hr p q) (hr q p) le (by simp; rfl) (by simp; rfl) (by omega) (fun x hx => by simp [min_pair])
  rw [zw] at c3
  have c4 := comp_zip2 (C := P.ctx (m - 1)) (env := [some (.d (sh p)), some (.d (sh q)), some (.d (.int (p.1 * q.1))), some (.d (.lst (di (both (hr p q) (hr q p))))), none, none, some (.d (.lst (di (hr p q)))), some (.d (.lst (di (hr q p)))), none, none, none]) (st := st) (a := .var 6) (b := .var 3) (elt := .op .sub (.var 9) (.var 10)) (i := 9) (j := 10) D.int D.int (fun x y => D.int (x - y)) (hr p q) (both (hr p q) (hr q p)) (by omega) (.inl ⟨rfl, rfl⟩) (by simp; rfl) (by simp; rfl) (by omega) (fun x hx => by simp)
  rw [zw, more_eq] at c4
  have c5 := comp_zip2 (C := P.ctx (m - 1)) (env := [some (.d (sh p)), some (.d (sh q)), some (.d (.int (p.1 * q.1))), some (.d (.lst (di (both (hr p q) (hr q p))))), some (.d (.lst (di (more (hr p q) (hr q p))))), none, some (.d (.lst (di (hr p q)))), some (.d (.lst (di (hr q p)))), none, none, none]) (st := st) (a := .var 7) (b := .var 3) (elt := .op .sub (.var 9) (.var 10)) (i := 9) (j := 10) D.int D.int (fun x y => D.int (x - y)) (hr q p) (both (hr p q) (hr q p)) (by omega) (.inl ⟨rfl, rfl⟩) (by simp; rfl) (by simp; rfl) (by omega) (fun x hx => by simp)
  rw [zw, more_eq'] at c5
  have ws := wh_sm w
  have f1 := r6_ (m := m - 1) (by omega) w.1 ws ((both_pts h).sms w) (by omega) (.inl rfl) st
  have f2 := r6_ (m := m - 1) (by omega) w.1 ws ((more_pts h).sms w) (by omega) (.inl rfl) st
  have f3 := r6_ (m := m - 1) (by omega) w.1 ws ((more_pts' h).sms w) (by omega) (.inl rfl) st
  change evE (P.ctx (m - 1)) _ _ st = .ok (.d (.lst (di (both (hr p q) (hr q p))))) st at c3
  have st0 : Mi.start d13 [.d (sh p), .d (sh q)] = [some (.d (sh p)), some (.d (sh q)), none, none, none, none, none, none, none, none, none] := rfl
  rw [st0]
  unfold d13
  simp only [ss_cons_, ss_nil_, s_set_, s_par_, s_ret_, e_op_, e_idx_, e_var_, e_int__, e_tup_, e_call_, es_cons_, es_nil_, List.getElem?_cons_succ, List.getElem?_cons_zero, bind_ok, p0, q0, op_mul_ (mul_ok sp sq), then_ok, next_nx, next_ret, List.set_cons_succ, List.set_cons_zero, c1, c2, parSet, c3, c4, c5, ctx_call, f1, f2, f3, mkTup_3]
  rfl
end
end K07
namespace K07
open Mi
/-! ### what is looked at first -/
def isNum : D → Bool
  | .int _ => true
  | _ => false
theorem r0_ {m : Nat} (hm : 1 ≤ m) {x : D} (h : plainD x = true) (st : Store) : callD P m 0 [.d x] st = .ok (.d (.bl (isNum x))) st := by
  rw [go1 (by omega) (d := d0) rfl]
  refine (runD_ret (w := .d (.bl (isNum x))) (st1 := st) rfl ?_).trans handed_d
  cases x <;> first | (exact absurd h Bool.false_ne_true) | (simp [d0, Mi.start, isW, isTy, plainD, plainTy, isNum])
def inB (lo hi : Int) : D → Bool
  | .int i => decide (lo ≤ i) && decide (i ≤ hi)
  | _ => false
@[simp] theorem cmp_le_ (a b : Int) (st : Store) : cmpW .le (.d (.int a)) (.d (.int b)) st = .ok (.d (.bl (decide (a ≤ b)))) st := rfl
theorem r1_ {m : Nat} (hm : 2 ≤ m) {x : D} (h : plainD x = true) (lo hi : Int) (st : Store) : callD P m 1 [.d x, .d (.int lo), .d (.int hi)] st = .ok (.d (.bl (inB lo hi x))) st := by
  rw [go1 (by omega) (d := d1) rfl]
  refine (runD_ret (w := .d (.bl (inB lo hi x))) (st1 := st) rfl ?_).trans handed_d
  have k := r0_ (m := m - 1) (by omega) h st
  cases x with
  | int i =>
    by_cases hl : lo ≤ i
    · simp [d1, Mi.start, k, isNum, inB, hl]
    · simp [d1, Mi.start, k, isNum, inB, hl]
  | _ => simp [d1, Mi.start, k, isNum, inB]
theorem refusal {C : Ctx} {f : Def} {ws : List W} {st : Store} {c : Nat} (fs : List (PySem.Str × D)) (env : Env) (h : ws.length = f.np) (e : evSs C f.body (Mi.start f ws) st = .exc c fs env st) : ∃ fs, runD C f ws st = .exc c fs st :=
  ⟨fs, by rw [runD_exc h e, List.take_length]⟩
theorem r7_ {m : Nat} (hm : 3 ≤ m) {x : D} (h : plainD x = true) (hx : inB 1 8 x = true) (st : Store) : callD P m 7 [.d x] st = .ok (.d .non) st := by
  rw [go1 (by omega) (d := d7) rfl]
  have k := r1_ (m := m - 1) (by omega) h 1 8 st
  rw [hx] at k
  refine (runD_nx (st1 := st) (env := [some (.d x)]) rfl ?_).trans handed_d
  simp [d7, Mi.start, k]
theorem n7_ {m : Nat} (hm : 3 ≤ m) {x : D} (h : plainD x = true) (hx : inB 1 8 x = false) (st : Store) : ∃ fs, callD P m 7 [.d x] st = .exc 1 fs st := by
  rw [go1 (by omega) (d := d7) rfl]
  have k := r1_ (m := m - 1) (by omega) h 1 8 st
  rw [hx] at k
  refine refusal (((P.ctx (m - 1)).flds 1).zip [.str "no number of places from 1 to 8"]) [some (.d x)] rfl ?_
  simp [d7, Mi.start, k]
def plainT : D → Bool
  | .tup ds => ds.all plainD
  | x => plainD x
def rowB (many : Nat) : D → Bool
  | .tup ds => decide (ds.length = many) && ds.all isNum
  | _ => false
theorem plainT_plain {x : D} (h : plainT x = true) : plainD x = true := by cases x <;> first | rfl | exact h
theorem nat_eq (a b : Nat) : decide ((a : Int) = (b : Int)) = decide (a = b) := by
  by_cases h : a = b
  · simp [h]
  · rw [decide_eq_false h, decide_eq_false (by omega)]
theorem r3_ {m : Nat} (hm : 2 ≤ m) {x : D} (h : plainT x = true) (hl : ∀ ds, x = .tup ds → ds.length ≤ 900) (many : Nat) (st : Store) : callD P m 3 [.d x, .d (.int many)] st = .ok (.d (.bl (rowB many x))) st := by
  rw [go1 (by omega) (d := d3) rfl]
  refine (runD_ret (w := .d (.bl (rowB many x))) (st1 := st) rfl ?_).trans handed_d
  have hp := plainT_plain h
  cases x with
  | tup ds =>
    have l := hl ds rfl
    have he := eqW_int false (ds.length : Int) (many : Int) st
    rw [nat_eq] at he
    have c := comp_seq (C := P.ctx (m - 1)) (env := [some (.d (.tup ds)), some (.d (.int many)), none]) (st := st) (a := .var 0) (elt := .call 0 (.cons (.var 2) (.nil))) (i := 2) (fun d : D => d) (fun d => D.bl (isNum d)) ds (w := .tup ds) (.inr (by simp)) (by simp) (by omega) (fun d hd => by
      have k := r0_ (m := m - 1) (by omega) (List.all_eq_true.mp h d hd) st
      simp [k])
    have a := all_lst (st := st) (ds.map isNum)
    rw [List.map_map] at a
    change bltW .all [.d (.lst (ds.map fun d => D.bl (isNum d)))] st = _ at a
    have allid : (ds.map isNum).all id = ds.all isNum := by simp [List.all_map]
    rw [allid] at a
    by_cases hm' : ds.length = many
    · simp [d3, Mi.start, isW, isTy, plainD, plainTy, he, hm', c, a, rowB]
    · have hI : ¬ (ds.length : Int) = (many : Int) := by omega
      simp [d3, Mi.start, isW, isTy, plainD, plainTy, hI, hm', rowB]
  | exc _ _ => exact absurd hp Bool.false_ne_true
  | fn _ => exact absurd hp Bool.false_ne_true
  | _ => simp [d3, Mi.start, isW, isTy, plainD, plainTy, rowB]
theorem n4_ {m : Nat} (hm : 3 ≤ m) {x : D} (h : plainT x = true) (hl : ∀ ds, x = .tup ds → ds.length ≤ 900) {many : Nat} (hx : rowB many x = false) (st : Store) : callD P m 4 [.d x, .d (.int many)] st = .ok (.d (.bl false)) st := by
  rw [go1 (by omega) (d := d4) rfl]
  refine (runD_ret (w := .d (.bl false)) (st1 := st) rfl ?_).trans handed_d
  have k := r3_ (m := m - 1) (by omega) h hl many st
  rw [hx] at k
  simp [d4, Mi.start, k]
theorem row_di (ns : List Int) : rowB ns.length (.tup (di ns)) = true ∧ plainT (.tup (di ns)) = true := by
  unfold rowB plainT di
  simp [isNum, plainD]
theorem r4_ {m : Nat} (hm : 3 ≤ m) {ns : List Int} (hl : ns.length ≤ 900) (st : Store) : callD P m 4 [.d (.tup (di ns)), .d (.int ns.length)] st = .ok (.d (.bl (ns.all fun x => decide (0 ≤ x)))) st := by
  rw [go1 (by omega) (d := d4) rfl]
  refine (runD_ret (w := .d (.bl (ns.all fun x => decide (0 ≤ x)))) (st1 := st) rfl ?_).trans handed_d
  obtain ⟨h1, h2⟩ := row_di ns
  have k := r3_ (m := m - 1) (by omega) h2 (fun ds e => by cases e; simpa [di] using hl) ns.length st
  rw [h1] at k
  have c := comp_seq (C := P.ctx (m - 1)) (env := [some (.d (.tup (di ns))), some (.d (.int ns.length)), none]) (st := st) (a := .var 0) (elt := .cmp .ge (.var 2) (.int 0)) (i := 2) D.int (fun x => D.bl (decide (0 ≤ x))) ns (.inr rfl) (by simp; rfl) (by omega) (fun d hd => by simp)
  have a := all_lst (st := st) (ns.map fun x => decide (0 ≤ x))
  rw [List.map_map] at a
  change bltW .all [.d (.lst (ns.map fun x => D.bl (decide (0 ≤ x))))] st = _ at a
  have allid : (ns.map fun x => decide (0 ≤ x)).all id = ns.all fun x => decide (0 ≤ x) := by rw [List.all_map]; rfl
  rw [allid] at a
  simp [d4, Mi.start, k, c, a]
/-! ### is it a share -/
theorem n9a {m : Nat} (hm : 2 ≤ m) {x : D} (h : plainD x = true) (hx : ∀ ds, x = .tup ds → ds.length ≠ 2) (many : Nat) (st : Store) : callD P m 9 [.d (.int many), .d x] st = .ok (.d (.bl false)) st := by
  rw [go1 (by omega) (d := d9) rfl]
  refine (runD_ret (w := .d (.bl false)) (st1 := st) rfl ?_).trans handed_d
  cases x with
  | tup ds =>
    have l := hx ds rfl
    have l' : ¬ (ds.length : Int) = 2 := by omega
    simp [d9, Mi.start, isW, isTy, plainD, plainTy, l']
  | exc _ _ => exact absurd h Bool.false_ne_true
  | fn _ => exact absurd h Bool.false_ne_true
  | _ => simp [d9, Mi.start, isW, isTy, plainD, plainTy]
theorem n9b {m : Nat} (hm : 2 ≤ m) {a b : D} (h : plainD a = true) (ha : isNum a = false) (many : Nat) (st : Store) : callD P m 9 [.d (.int many), .d (.tup [a, b])] st = .ok (.d (.bl false)) st := by
  rw [go1 (by omega) (d := d9) rfl]
  refine (runD_ret (w := .d (.bl false)) (st1 := st) rfl ?_).trans handed_d
  have k := r0_ (m := m - 1) (by omega) h st
  rw [ha] at k
  simp [d9, Mi.start, isW, isTy, plainD, plainTy, k]
theorem n9c {m : Nat} (hm : 2 ≤ m) {a : Int} {b : D} (ha : a < 1) (many : Nat) (st : Store) : callD P m 9 [.d (.int many), .d (.tup [.int a, b])] st = .ok (.d (.bl false)) st := by
  rw [go1 (by omega) (d := d9) rfl]
  refine (runD_ret (w := .d (.bl false)) (st1 := st) rfl ?_).trans handed_d
  have k := r0_ (m := m - 1) (by omega) (x := .int a) rfl st
  simp [d9, Mi.start, isW, isTy, plainD, plainTy, k, isNum, ha]
theorem n9d {m : Nat} (hm : 4 ≤ m) {a : Int} {b : D} (ha : 1 ≤ a) (h : plainT b = true) (hl : ∀ ds, b = .tup ds → ds.length ≤ 900) {many : Nat} (hb : rowB many b = false) (st : Store) : callD P m 9 [.d (.int many), .d (.tup [.int a, b])] st = .ok (.d (.bl false)) st := by
  rw [go1 (by omega) (d := d9) rfl]
  refine (runD_ret (w := .d (.bl false)) (st1 := st) rfl ?_).trans handed_d
  have k := r0_ (m := m - 1) (by omega) (x := .int a) rfl st
  have k2 := n4_ (m := m - 1) (by omega) h hl hb st
  have na : ¬ a < 1 := by omega
  simp [d9, Mi.start, isW, isTy, plainD, plainTy, k, isNum, na, k2]
theorem r9_ {m : Nat} (hm : 4 ≤ m) {a : Int} {ns : List Int} (ha : 1 ≤ a) (sa : Sm a) (sn : Sms ns) (hl : ns.length ≤ 900) (st : Store) : callD P m 9 [.d (.int ns.length), .d (sh (a, ns))] st = .ok (.d (.bl ((ns.all fun x => decide (0 ≤ x)) && decide (gp a ns = 1)))) st := by
  rw [go1 (by omega) (d := d9) rfl]
  refine (runD_ret (w := .d (.bl ((ns.all fun x => decide (0 ≤ x)) && decide (gp a ns = 1)))) (st1 := st) rfl ?_).trans handed_d
  have k := r0_ (m := m - 1) (by omega) (x := .int a) rfl st
  have k2 := r4_ (m := m - 1) (by omega) hl st
  have na : ¬ a < 1 := by omega
  have hld : (di ns).length ≤ 1000 := by unfold di; simp; omega
  have dv := div5 (m := m - 1) (by omega) sa sn st
  have e1 : (decide ((gp a ns : Int) = 1)) = decide (gp a ns = 1) := nat_eq (gp a ns) 1
  cases hn : (ns.all fun x => decide (0 ≤ x)) with
  | false =>
    rw [hn] at k2
    simp [d9, Mi.start, sh, isW, isTy, plainD, plainTy, k, isNum, na, k2]
  | true =>
    rw [hn] at k2
    simp [d9, Mi.start, sh, isW, isTy, plainD, plainTy, k, isNum, na, k2, itm_tup, mkTup_cons hld, dv, e1]
theorem n10_ {m : Nat} (hm : 5 ≤ m) {many : Nat} {x : D} {st : Store} (h : callD P (m - 1) 9 [.d (.int many), .d x] st = .ok (.d (.bl false)) st) : callD P m 10 [.d (.int many), .d x] st = .ok (.d (.bl false)) st := by
  rw [go1 (by omega) (d := d10) rfl]
  refine (runD_ret (w := .d (.bl false)) (st1 := st) rfl ?_).trans handed_d
  simp [d10, Mi.start, h]
theorem r10_ {m : Nat} (hm : 5 ≤ m) {a : Int} {ns : List Int} (ha : 1 ≤ a) (sa : Sm a) (sn : Sms ns) (hl : ns.length ≤ 900) (st : Store) : callD P m 10 [.d (.int ns.length), .d (sh (a, ns))] st = .ok (.d (.bl ((ns.all fun x => decide (0 ≤ x)) && decide (gp a ns = 1) && decide (ns.sum = a)))) st := by
  have k := r9_ (m := m - 1) (by omega) ha sa sn hl st
  by_cases hb : ((ns.all fun x => decide (0 ≤ x)) && decide (gp a ns = 1)) = true
  · rw [go1 (by omega) (d := d10) rfl]
    refine (runD_ret (w := .d (.bl ((ns.all fun x => decide (0 ≤ x)) && decide (gp a ns = 1) && decide (ns.sum = a)))) (st1 := st) rfl ?_).trans handed_d
    rw [hb] at k ⊢
    have i0 : ∀ st, idxW (.d (sh (a, ns))) (.d (.int 0)) st = .ok (.d (.int a)) st := fun st => ix0 _ _ _
    have i1 : ∀ st, idxW (.d (sh (a, ns))) (.d (.int 1)) st = .ok (.d (.tup (di ns))) st := fun st => ix1 _ _ _ _
    simp [d10, Mi.start, k, i0, i1, sum_tup]
  · rw [Bool.not_eq_true] at hb
    rw [hb] at k ⊢
    exact n10_ hm k
theorem r10t {m : Nat} (hm : 5 ≤ m) {many : Nat} {p : Int × List Int} (h : Sh many (10 ^ 12) p) (hf : many ≤ 900) (st : Store) : callD P m 10 [.d (.int many), .d (sh p)] st = .ok (.d (.bl true)) st := by
  obtain ⟨s1, s2⟩ := sh_sm (q := p) ⟨h, h, hf⟩
  have k := r10_ (m := m) hm h.pos s1 s2 (by rw [h.len]; exact hf) st
  have e1 : (p.2.all fun x => decide (0 ≤ x)) = true := List.all_eq_true.mpr fun x hx => decide_eq_true (h.nn x hx)
  rw [e1, decide_eq_true h.low, decide_eq_true h.sum, h.len] at k
  exact k
theorem r11t {m : Nat} (hm : 6 ≤ m) {many : Nat} {p : Int × List Int} (h : Sh many (10 ^ 12) p) (hf : many ≤ 900) (st : Store) : callD P m 11 [.d (.int many), .d (sh p)] st = .ok (.d .non) st := by
  rw [go1 (by omega) (d := d11) rfl]
  have k := r10t (m := m - 1) (by omega) h hf st
  refine (runD_nx (st1 := st) (env := [some (.d (.int many)), some (.d (sh p))]) rfl ?_).trans handed_d
  simp [d11, Mi.start, k]
theorem n11_ {m : Nat} (hm : 6 ≤ m) {many : Nat} {x : D} {st : Store} (h : callD P (m - 1) 10 [.d (.int many), .d x] st = .ok (.d (.bl false)) st) : ∃ fs, callD P m 11 [.d (.int many), .d x] st = .exc 2 fs st := by
  rw [go1 (by omega) (d := d11) rfl]
  refine refusal (((P.ctx (m - 1)).flds 2).zip [.str "no share of these places"]) [some (.d (.int many)), some (.d x)] rfl ?_
  simp [d11, Mi.start, h]
end K07
namespace K07
open Mi
/-! ### parting, apart, mixed -/
section
variable {many : Nat} {p q : Int × List Int}
theorem inB_many (h1 : 1 ≤ many) (h8 : many ≤ 8) : inB 1 8 (.int many) = true := by
  show (decide ((1 : Int) ≤ many) && decide ((many : Int) ≤ 8)) = true
  rw [decide_eq_true (by omega), decide_eq_true (by omega)]; rfl
theorem sum_lp {S : Int} (hS : 0 < S) (xs : List Int) : nr (lp S xs).2.sum (lp S xs).1 = nr xs.sum S := by
  have h1 := lp_sum hS xs
  obtain ⟨h2, _⟩ := lp_back hS xs
  refine nr_same (by have := (lp_pos hS xs).1; omega) hS ?_
  generalize (lp S xs).2.sum = a at *
  generalize (lp S xs).1 = b at *
  generalize (gp S xs : Int) = g at *
  grind
theorem lp_sms {S : Int} (hS : Wh S) {xs : List Int} (h : Pts S xs) : Sm (lp S xs).2.sum ∧ Sm (lp S xs).1 := by
  obtain ⟨k1, k2⟩ := lp_pos hS.1 xs
  have s1 := lp_sum hS.1 xs
  have nn := sum_nonneg (lp_nonneg hS.1 h.1)
  have g := gp_pos hS.1 xs
  have le : (lp S xs).2.sum ≤ xs.sum := by
    calc (lp S xs).2.sum = (lp S xs).2.sum * 1 := by rw [Int.mul_one]
      _ ≤ (lp S xs).2.sum * gp S xs := Int.mul_le_mul_of_nonneg_left (by omega) nn
      _ = xs.sum := s1
  have := h.2
  have := hS.2
  exact ⟨by unfold Sm; omega, by unfold Sm; omega⟩
theorem r15_ {m : Nat} (hm : 7 ≤ m) (h1 : 1 ≤ many) (h8 : many ≤ 8) (h : Two many p q) (st : Store) : callD P m 15 [.d (.int many), .d (sh p), .d (sh q)] st = .ok (.d (er (p.1 * q.1) (more (hr p q) (hr q p)).sum)) st := by
  rw [go1 (by omega) (d := d15) rfl]
  refine (runD_ret (w := .d (er (p.1 * q.1) (more (hr p q) (hr q p)).sum)) (st1 := st) rfl ?_).trans handed_d
  have k1 := r7_ (m := m - 1) (by omega) (x := .int many) rfl (inB_many h1 h8) st
  have k2 := r11t (m := m - 1) (by omega) h.one h.few st
  have k3 := r11t (m := m - 1) (by omega) h.two h.few st
  have k4 := r13_ (m := m - 1) (by omega) h st
  have w := h.wh
  have sm := lp_sms w (more_pts h)
  have k5 := r8_ (m := m - 1) (by omega) sm.1 sm.2 (by have := (lp_pos w.1 (more (hr p q) (hr q p))).1; omega) st
  rw [sum_lp w.1] at k5
  have i1 : idxW (.d (apD p q)) (.d (.int 1)) st = .ok (.d (sh (lp (p.1 * q.1) (more (hr p q) (hr q p))))) st := ix1 _ _ _ _
  have st0 : Mi.start d15 [.d (.int many), .d (sh p), .d (sh q)] = [some (.d (.int many)), some (.d (sh p)), some (.d (sh q)), none, none] := rfl
  have asg : asgT (.t [.v 3, .v 4]) (.d (sh (lp (p.1 * q.1) (more (hr p q) (hr q p))))) [some (.d (.int many)), some (.d (sh p)), some (.d (sh q)), none, none] st = some [some (.d (.int many)), some (.d (sh p)), some (.d (sh q)), some (.d (.int (lp (p.1 * q.1) (more (hr p q) (hr q p))).1)), some (.d (.tup (di (lp (p.1 * q.1) (more (hr p q) (hr q p))).2)))] := rfl
  rw [st0]
  unfold d15
  simp only [ss_cons_, ss_nil_, s_expr_, s_setT_, s_ret_, e_call_, e_idx_, e_var_, e_int__, e_blt_, es_cons_, es_nil_, List.getElem?_cons_succ, List.getElem?_cons_zero, bind_ok, ctx_call, k1, k2, k3, k4, i1, then_ok, next_nx, next_ret, asg, sum_tup, k5]
theorem r16_ {m : Nat} (hm : 7 ≤ m) (h1 : 1 ≤ many) (h8 : many ≤ 8) (h : Two many p q) (st : Store) : callD P m 16 [.d (.int many), .d (sh p), .d (sh q)] st = .ok (.d (apD p q)) st := by
  rw [go1 (by omega) (d := d16) rfl]
  refine (runD_ret (w := .d (apD p q)) (st1 := st) rfl ?_).trans handed_d
  have k1 := r7_ (m := m - 1) (by omega) (x := .int many) rfl (inB_many h1 h8) st
  have k2 := r11t (m := m - 1) (by omega) h.one h.few st
  have k3 := r11t (m := m - 1) (by omega) h.two h.few st
  have k4 := r13_ (m := m - 1) (by omega) h st
  have st0 : Mi.start d16 [.d (.int many), .d (sh p), .d (sh q)] = [some (.d (.int many)), some (.d (sh p)), some (.d (sh q))] := rfl
  rw [st0]
  unfold d16
  simp only [ss_cons_, ss_nil_, s_expr_, s_ret_, e_call_, e_var_, es_cons_, es_nil_, List.getElem?_cons_succ, List.getElem?_cons_zero, bind_ok, ctx_call, k1, k2, k3, k4, then_ok, next_nx, next_ret]
/-! what they refuse -/
theorem bad_many {m : Nat} (hm : 7 ≤ m) {f : Nat} (hf : f ∈ [15, 16]) {x : D} (hx : plainD x = true) (hi : inB 1 8 x = false) (y z : W) (st : Store) : ∃ fs, callD P m f [.d x, y, z] st = .exc 1 fs st := by
  obtain ⟨fs, k⟩ := n7_ (m := m - 1) (by omega) hx hi st
  simp at hf
  rcases hf with rfl | rfl
  · rw [go1 (by omega) (d := d15) rfl]
    refine refusal fs [some (.d x), some y, some z, none, none] rfl ?_
    simp [d15, Mi.start, k]
  · rw [go1 (by omega) (d := d16) rfl]
    refine refusal fs [some (.d x), some y, some z] rfl ?_
    simp [d16, Mi.start, k]
theorem bad_one {m : Nat} (hm : 7 ≤ m) {f : Nat} (hf : f ∈ [15, 16]) (h1 : 1 ≤ many) (h8 : many ≤ 8) {x : D} {st : Store} (hx : callD P (m - 2) 10 [.d (.int many), .d x] st = .ok (.d (.bl false)) st) (z : W) : ∃ fs, callD P m f [.d (.int many), .d x, z] st = .exc 2 fs st := by
  have k1 := r7_ (m := m - 1) (by omega) (x := .int many) rfl (inB_many h1 h8) st
  obtain ⟨fs, k⟩ := n11_ (m := m - 1) (by omega) (many := many) (x := x) (st := st) hx
  simp at hf
  rcases hf with rfl | rfl
  · rw [go1 (by omega) (d := d15) rfl]
    refine refusal fs [some (.d (.int many)), some (.d x), some z, none, none] rfl ?_
    simp [d15, Mi.start, k1, k]
  · rw [go1 (by omega) (d := d16) rfl]
    refine refusal fs [some (.d (.int many)), some (.d x), some z] rfl ?_
    simp [d16, Mi.start, k1, k]
theorem bad_two {m : Nat} (hm : 7 ≤ m) {f : Nat} (hf : f ∈ [15, 16]) (h1 : 1 ≤ many) (h8 : many ≤ 8) (h : Sh many (10 ^ 12) p) {x : D} {st : Store} (hx : callD P (m - 2) 10 [.d (.int many), .d x] st = .ok (.d (.bl false)) st) : ∃ fs, callD P m f [.d (.int many), .d (sh p), .d x] st = .exc 2 fs st := by
  have k1 := r7_ (m := m - 1) (by omega) (x := .int many) rfl (inB_many h1 h8) st
  have k2 := r11t (m := m - 1) (by omega) h (by omega) st
  obtain ⟨fs, k⟩ := n11_ (m := m - 1) (by omega) (many := many) (x := x) (st := st) hx
  simp at hf
  rcases hf with rfl | rfl
  · rw [go1 (by omega) (d := d15) rfl]
    refine refusal fs [some (.d (.int many)), some (.d (sh p)), some (.d x), none, none] rfl ?_
    simp [d15, Mi.start, k1, k2, k]
  · rw [go1 (by omega) (d := d16) rfl]
    refine refusal fs [some (.d (.int many)), some (.d (sh p)), some (.d x)] rfl ?_
    simp [d16, Mi.start, k1, k2, k]
/-! mixed -/
def mixN (v : Int) (p q : Int × List Int) : List Int := List.zipWith (fun x y => v * x * q.1 + 1 * y * p.1) p.2 q.2
theorem mixN_sum (v P Q : Int) : ∀ xs ys : List Int, xs.length = ys.length → (List.zipWith (fun x y => v * x * Q + 1 * y * P) xs ys).sum = v * xs.sum * Q + 1 * ys.sum * P
  | [], [], _ => by simp
  | [], _ :: _, h => by simp at h
  | _ :: _, [], h => by simp at h
  | x :: xs, y :: ys, h => by
    have := mixN_sum v P Q xs ys (by simpa using h)
    simp only [List.zipWith_cons_cons, List.sum_cons, this]
    grind
theorem mix_sh {v : Int} (hv : 1 ≤ v) (hv9 : v ≤ 9) (hp : Sh many 240000 p) (hq : Sh many 240000 q) : Sh many (10 ^ 12) (lp (p.1 * q.1 * (v + 1)) (mixN v p q)) := by
  have a := hp.pos
  have b := hq.pos
  have c := hp.top
  have d := hq.top
  have len : p.2.length = q.2.length := by rw [hp.len, hq.len]
  have pos : 0 < p.1 * q.1 := Int.mul_pos (by omega) (by omega)
  have le : p.1 * q.1 ≤ 240000 * 240000 := Int.le_trans (Int.mul_le_mul_of_nonneg_right c (by omega)) (Int.mul_le_mul_of_nonneg_left d (by decide))
  have sum : (mixN v p q).sum = p.1 * q.1 * (v + 1) := by
    unfold mixN
    rw [mixN_sum v p.1 q.1 p.2 q.2 len, hp.sum, hq.sum]
    grind
  have nn : ∀ x ∈ mixN v p q, 0 ≤ x := by
    intro x hx
    have gen : ∀ (xs ys : List Int), (∀ x ∈ xs, 0 ≤ x) → (∀ y ∈ ys, 0 ≤ y) → ∀ z ∈ List.zipWith (fun x y => v * x * q.1 + 1 * y * p.1) xs ys, 0 ≤ z := by
      intro xs
      induction xs with
      | nil => intro ys _ _ z hz; simp at hz
      | cons x xs ih =>
        intro ys h1 h2 z hz
        cases ys with
        | nil => simp at hz
        | cons y ys =>
          rw [List.zipWith_cons_cons] at hz
          rcases List.mem_cons.mp hz with rfl | hz
          · have u1 : 0 ≤ v * x * q.1 := Int.mul_nonneg (Int.mul_nonneg (by omega) (h1 x (by simp))) (by omega)
            have u2 : 0 ≤ 1 * y * p.1 := Int.mul_nonneg (Int.mul_nonneg (by omega) (h2 y (by simp))) (by omega)
            omega
          · exact ih ys (fun x hx => h1 x (by simp [hx])) (fun y hy => h2 y (by simp [hy])) z hz
    exact gen p.2 q.2 hp.nn hq.nn x hx
  have top : p.1 * q.1 * (v + 1) ≤ 10 ^ 12 := by
    have e : p.1 * q.1 * (v + 1) ≤ 240000 * 240000 * 10 := Int.le_trans (Int.mul_le_mul_of_nonneg_right le (by omega)) (Int.mul_le_mul_of_nonneg_left (by omega) (by decide))
    exact Int.le_trans e (by decide)
  have s := sh_of (B := 10 ^ 12) (Int.mul_pos pos (by omega)) nn sum top
  have ln : (mixN v p q).length = many := by unfold mixN; rw [List.length_zipWith, len, Nat.min_self, hq.len]
  rw [ln] at s
  exact s
theorem ix_di {ns : List Int} {k : Nat} (h : k < ns.length) (st : Store) : idxW (.d (.tup (di ns))) (.d (.int (k : Nat))) st = .ok (.d (.int ns[k])) st := by
  have lt : (k : Int) < (ns.length : Int) := by omega
  simp [idxW, atI, ixN, di, lt, h]
theorem loop12 {m : Nat} {v : Int} (hv : 1 ≤ v) (hv9 : v ≤ 9) (hp : Sh many 240000 p) (hq : Sh many 240000 q) (hf : many ≤ 900) (st : Store) : fors (Src.one (.dat [.d (sh p), .d (sh q)])).at (Src.one (.dat [.d (sh p), .d (sh q)])).over (forF (P.ctx (m - 1)) (.v 3) (.cons (.set 2 (.op .mul (.var 2) (.idx (.var 3) (.int 0)))) (.nil))) 2 0 [some (.d (.lst [sh p, sh q])), some (.d (.lst [.int v, .int 1])), some (.d (.int 1)), none, none, some (.d (.int (v + 1))), some (.d (.int many)), none, none] st =
    .ok (.nx [some (.d (.lst [sh p, sh q])), some (.d (.lst [.int v, .int 1])), some (.d (.int (p.1 * q.1))), some (.d (sh q)), none, some (.d (.int (v + 1))), some (.d (.int many)), none, none]) st := by
  have a := hp.pos
  have b := hq.pos
  have c := hp.top
  have d := hq.top
  have len : p.2.length = q.2.length := by rw [hp.len, hq.len]
  have pos : 0 < p.1 * q.1 := Int.mul_pos (by omega) (by omega)
  have le : p.1 * q.1 ≤ 240000 * 240000 := Int.le_trans (Int.mul_le_mul_of_nonneg_right c (by omega)) (Int.mul_le_mul_of_nonneg_left d (by decide))
  have sp : Sm p.1 := by unfold Sm; omega
  have sq : Sm q.1 := by unfold Sm; omega
  have spq : Sm (p.1 * q.1) := by unfold Sm; omega
  have sv : Sm v := by unfold Sm; omega
  have s1 : Sm 1 := by unfold Sm; decide
  have p0 : ∀ st, idxW (.d (sh p)) (.d (.int 0)) st = .ok (.d (.int p.1)) st := fun st => ix0 _ _ _
  have p1 : ∀ st, idxW (.d (sh p)) (.d (.int 1)) st = .ok (.d (.tup (di p.2))) st := fun st => ix1 _ _ _ _
  have q0 : ∀ st, idxW (.d (sh q)) (.d (.int 0)) st = .ok (.d (.int q.1)) st := fun st => ix0 _ _ _
  have q1 : ∀ st, idxW (.d (sh q)) (.d (.int 1)) st = .ok (.d (.tup (di q.2))) st := fun st => ix1 _ _ _ _
  have l0 : ∀ st, idxW (.d (.lst [sh p, sh q])) (.d (.int 0)) st = .ok (.d (sh p)) st := fun st => rfl
  have fp : (p.1 * q.1).fdiv p.1 = q.1 := by rw [Int.mul_comm]; exact Int.mul_fdiv_cancel _ (by omega)
  have fq : (p.1 * q.1).fdiv q.1 = p.1 := Int.mul_fdiv_cancel _ (by omega)
  have np : ∀ x ∈ p.2, Sm x ∧ 0 ≤ x ∧ x ≤ 240000 := fun x hx => by
    have := hp.nn x hx
    have := mem_le_sum hp.nn x hx
    have := hp.sum
    exact ⟨by unfold Sm; omega, by omega, by omega⟩
  have nq : ∀ x ∈ q.2, Sm x ∧ 0 ≤ x ∧ x ≤ 240000 := fun x hx => by
    have := hq.nn x hx
    have := mem_le_sum hq.nn x hx
    have := hq.sum
    exact ⟨by unfold Sm; omega, by omega, by omega⟩
  have small2 : ∀ {x y : Int}, 0 ≤ x → x ≤ 9 → 0 ≤ y → y ≤ 240000 → Sm (x * y) := fun {x y} h1 h2 h3 h4 => by
    have : x * y ≤ 9 * 240000 := Int.le_trans (Int.mul_le_mul_of_nonneg_right h2 h3) (Int.mul_le_mul_of_nonneg_left h4 (by decide))
    have := Int.mul_nonneg h1 h3
    unfold Sm; omega
  have a0 : (Src.one (.dat [.d (sh p), .d (sh q)])).at 0 st = some (.one (.d (sh p))) := rfl
  have a1 : (Src.one (.dat [.d (sh p), .d (sh q)])).at 1 st = some (.one (.d (sh q))) := rfl
  unfold fors
  simp only [a0, forF_v, List.set_cons_succ, List.set_cons_zero, ss_cons_, ss_nil_, s_set_, e_op_, e_var_, e_idx_, e_int__, List.getElem?_cons_succ, List.getElem?_cons_zero, bind_ok, p0, op_mul_ (mul_ok s1 sp), Int.one_mul, then_ok, next_nx]
  unfold fors
  simp only [a1, forF_v, List.set_cons_succ, List.set_cons_zero, ss_cons_, ss_nil_, s_set_, e_op_, e_var_, e_idx_, e_int__, List.getElem?_cons_succ, List.getElem?_cons_zero, bind_ok, q0, op_mul_ (mul_ok sp sq), then_ok, next_nx]
  rfl
theorem rows12 {m : Nat} {v : Int} (hv : 1 ≤ v) (hv9 : v ≤ 9) (hp : Sh many 240000 p) (hq : Sh many 240000 q) (hf : many ≤ 900) (st : Store) : evE (P.ctx (m - 1)) (.comp false (.blt .sum (.cons (.comp false (.op .mul (.op .mul (.var 8) (.idx (.idx (.var 3) (.int 1)) (.var 7))) (.op .fdiv (.var 2) (.idx (.var 3) (.int 0)))) (.t [.v 8, .v 3]) (.zip (.var 1) (.var 0)) (.nil)) (.nil))) (.v 7) (.rng (.cons (.var 6) (.nil))) (.nil))
    [some (.d (.lst [sh p, sh q])), some (.d (.lst [.int v, .int 1])), some (.d (.int (p.1 * q.1))), some (.d (sh q)), none, some (.d (.int (v + 1))), some (.d (.int many)), none, none] st = .ok (.d (.lst (di (mixN v p q)))) st := by
  have a := hp.pos
  have b := hq.pos
  have c := hp.top
  have d := hq.top
  have len : p.2.length = q.2.length := by rw [hp.len, hq.len]
  have pos : 0 < p.1 * q.1 := Int.mul_pos (by omega) (by omega)
  have le : p.1 * q.1 ≤ 240000 * 240000 := Int.le_trans (Int.mul_le_mul_of_nonneg_right c (by omega)) (Int.mul_le_mul_of_nonneg_left d (by decide))
  have sp : Sm p.1 := by unfold Sm; omega
  have sq : Sm q.1 := by unfold Sm; omega
  have spq : Sm (p.1 * q.1) := by unfold Sm; omega
  have sv : Sm v := by unfold Sm; omega
  have s1 : Sm 1 := by unfold Sm; decide
  have p0 : ∀ st, idxW (.d (sh p)) (.d (.int 0)) st = .ok (.d (.int p.1)) st := fun st => ix0 _ _ _
  have p1 : ∀ st, idxW (.d (sh p)) (.d (.int 1)) st = .ok (.d (.tup (di p.2))) st := fun st => ix1 _ _ _ _
  have q0 : ∀ st, idxW (.d (sh q)) (.d (.int 0)) st = .ok (.d (.int q.1)) st := fun st => ix0 _ _ _
  have q1 : ∀ st, idxW (.d (sh q)) (.d (.int 1)) st = .ok (.d (.tup (di q.2))) st := fun st => ix1 _ _ _ _
  have l0 : ∀ st, idxW (.d (.lst [sh p, sh q])) (.d (.int 0)) st = .ok (.d (sh p)) st := fun st => rfl
  have fp : (p.1 * q.1).fdiv p.1 = q.1 := by rw [Int.mul_comm]; exact Int.mul_fdiv_cancel _ (by omega)
  have fq : (p.1 * q.1).fdiv q.1 = p.1 := Int.mul_fdiv_cancel _ (by omega)
  have np : ∀ x ∈ p.2, Sm x ∧ 0 ≤ x ∧ x ≤ 240000 := fun x hx => by
    have := hp.nn x hx
    have := mem_le_sum hp.nn x hx
    have := hp.sum
    exact ⟨by unfold Sm; omega, by omega, by omega⟩
  have nq : ∀ x ∈ q.2, Sm x ∧ 0 ≤ x ∧ x ≤ 240000 := fun x hx => by
    have := hq.nn x hx
    have := mem_le_sum hq.nn x hx
    have := hq.sum
    exact ⟨by unfold Sm; omega, by omega, by omega⟩
  have small2 : ∀ {x y : Int}, 0 ≤ x → x ≤ 9 → 0 ≤ y → y ≤ 240000 → Sm (x * y) := fun {x y} h1 h2 h3 h4 => by
    have : x * y ≤ 9 * 240000 := Int.le_trans (Int.mul_le_mul_of_nonneg_right h2 h3) (Int.mul_le_mul_of_nonneg_left h4 (by decide))
    have := Int.mul_nonneg h1 h3
    unfold Sm; omega
  have outer := comp_rng1 (C := P.ctx (m - 1)) (env := [some (.d (.lst [sh p, sh q])), some (.d (.lst [.int v, .int 1])), some (.d (.int (p.1 * q.1))), some (.d (sh q)), none, some (.d (.int (v + 1))), some (.d (.int many)), none, none]) (st := st) (a := .var 6) (elt := .blt .sum (.cons (.comp false (.op .mul (.op .mul (.var 8) (.idx (.idx (.var 3) (.int 1)) (.var 7))) (.op .fdiv (.var 2) (.idx (.var 3) (.int 0)))) (.t [.v 8, .v 3]) (.zip (.var 1) (.var 0)) (.nil)) (.nil))) (i := 7) (fun k => D.int (v * p.2.getD k 0 * q.1 + 1 * q.2.getD k 0 * p.1)) many (by omega) (by simp) (fun k hk => by
    have kp : k < p.2.length := by rw [hp.len]; exact hk
    have kq : k < q.2.length := by rw [hq.len]; exact hk
    obtain ⟨u1, u2, u3⟩ := np _ (List.getElem_mem kp)
    obtain ⟨w1, w2, w3⟩ := nq _ (List.getElem_mem kq)
    have xp := ix_di kp st
    have xq := ix_di kq st
    have inner := comp_zip2 (C := P.ctx (m - 1)) (env := [some (.d (.lst [sh p, sh q])), some (.d (.lst [.int v, .int 1])), some (.d (.int (p.1 * q.1))), some (.d (sh q)), none, some (.d (.int (v + 1))), some (.d (.int many)), some (.d (.int (k : Nat))), none]) (st := st) (a := .var 1) (b := .var 0) (elt := .op .mul (.op .mul (.var 8) (.idx (.idx (.var 3) (.int 1)) (.var 7))) (.op .fdiv (.var 2) (.idx (.var 3) (.int 0)))) (i := 8) (j := 3) D.int (fun s : Int × List Int => sh s) (fun x s => D.int (x * s.2.getD k 0 * (p.1 * q.1).fdiv s.1)) [v, 1] [p, q] rfl (.inl ⟨rfl, rfl⟩) (by simp) (by simp) (by simp) (fun z hz => by
      simp only [List.zip_cons_cons, List.zip_nil_right, List.mem_cons, List.not_mem_nil, or_false] at hz
      rcases hz with rfl | rfl
      · have g : p.2[k]?.getD 0 = p.2[k] := by rw [List.getElem?_eq_getElem kp]; rfl
        simp [p0, p1, xp, op_mul_ (mul_ok sv u1), op_fdiv_ (div_ok sp (show p.1 ≠ 0 by omega)), fp, op_mul_ (mul_ok (small2 (by omega) hv9 u2 u3) sq), g]
      · have g : q.2[k]?.getD 0 = q.2[k] := by rw [List.getElem?_eq_getElem kq]; rfl
        have o1 := op_mul_ (st := st) (mul_ok s1 w1)
        rw [Int.one_mul] at o1
        simp [q0, q1, xq, o1, op_fdiv_ (div_ok sq (show q.1 ≠ 0 by omega)), fq, op_mul_ (mul_ok w1 sp), g])
    have two := sum_lst (st := st) [v * p.2.getD k 0 * (p.1 * q.1).fdiv p.1, 1 * q.2.getD k 0 * (p.1 * q.1).fdiv q.1]
    simp only [fp, fq] at two
    simp only [List.zipWith_cons_cons, List.zipWith_nil_right, fp, fq] at inner
    simp only [e_blt_, es_cons_, es_nil_, bind_ok, List.set_cons_succ, List.set_cons_zero, inner]
    rw [show ([D.int (v * p.2.getD k 0 * q.1), D.int (1 * q.2.getD k 0 * p.1)]) = di [v * p.2.getD k 0 * q.1, 1 * q.2.getD k 0 * p.1] from rfl, two]
    simp)
  rw [outer]
  have e : (List.range many).map (fun k => D.int (v * p.2.getD k 0 * q.1 + 1 * q.2.getD k 0 * p.1)) = di (mixN v p q) := by
    unfold di mixN
    rw [List.map_zipWith]
    apply List.ext_getElem
    · simp [hp.len, hq.len]
    · intro k h1 h2
      have hk : k < many := by simpa using h1
      have kp : k < p.2.length := by rw [hp.len]; exact hk
      have kq : k < q.2.length := by rw [hq.len]; exact hk
      have g1 : p.2.getD k 0 = p.2[k] := by rw [List.getD_eq_getElem?_getD, List.getElem?_eq_getElem kp]; rfl
      have g2 : q.2.getD k 0 = q.2[k] := by rw [List.getD_eq_getElem?_getD, List.getElem?_eq_getElem kq]; rfl
      simp only [List.getElem_map, List.getElem_range, List.getElem_zipWith, g1, g2]
  rw [e]
theorem ms12 {m : Nat} {v : Int} (hv : 1 ≤ v) (hv9 : v ≤ 9) (hp : Sh many 240000 p) (hq : Sh many 240000 q) (hf : many ≤ 900) : Sms (mixN v p q) := by
  have a := hp.pos
  have b := hq.pos
  have c := hp.top
  have d := hq.top
  have len : p.2.length = q.2.length := by rw [hp.len, hq.len]
  have pos : 0 < p.1 * q.1 := Int.mul_pos (by omega) (by omega)
  have le : p.1 * q.1 ≤ 240000 * 240000 := Int.le_trans (Int.mul_le_mul_of_nonneg_right c (by omega)) (Int.mul_le_mul_of_nonneg_left d (by decide))
  have sp : Sm p.1 := by unfold Sm; omega
  have sq : Sm q.1 := by unfold Sm; omega
  have spq : Sm (p.1 * q.1) := by unfold Sm; omega
  have sv : Sm v := by unfold Sm; omega
  have s1 : Sm 1 := by unfold Sm; decide
  have p0 : ∀ st, idxW (.d (sh p)) (.d (.int 0)) st = .ok (.d (.int p.1)) st := fun st => ix0 _ _ _
  have p1 : ∀ st, idxW (.d (sh p)) (.d (.int 1)) st = .ok (.d (.tup (di p.2))) st := fun st => ix1 _ _ _ _
  have q0 : ∀ st, idxW (.d (sh q)) (.d (.int 0)) st = .ok (.d (.int q.1)) st := fun st => ix0 _ _ _
  have q1 : ∀ st, idxW (.d (sh q)) (.d (.int 1)) st = .ok (.d (.tup (di q.2))) st := fun st => ix1 _ _ _ _
  have l0 : ∀ st, idxW (.d (.lst [sh p, sh q])) (.d (.int 0)) st = .ok (.d (sh p)) st := fun st => rfl
  have fp : (p.1 * q.1).fdiv p.1 = q.1 := by rw [Int.mul_comm]; exact Int.mul_fdiv_cancel _ (by omega)
  have fq : (p.1 * q.1).fdiv q.1 = p.1 := Int.mul_fdiv_cancel _ (by omega)
  have np : ∀ x ∈ p.2, Sm x ∧ 0 ≤ x ∧ x ≤ 240000 := fun x hx => by
    have := hp.nn x hx
    have := mem_le_sum hp.nn x hx
    have := hp.sum
    exact ⟨by unfold Sm; omega, by omega, by omega⟩
  have nq : ∀ x ∈ q.2, Sm x ∧ 0 ≤ x ∧ x ≤ 240000 := fun x hx => by
    have := hq.nn x hx
    have := mem_le_sum hq.nn x hx
    have := hq.sum
    exact ⟨by unfold Sm; omega, by omega, by omega⟩
  have small2 : ∀ {x y : Int}, 0 ≤ x → x ≤ 9 → 0 ≤ y → y ≤ 240000 → Sm (x * y) := fun {x y} h1 h2 h3 h4 => by
    have : x * y ≤ 9 * 240000 := Int.le_trans (Int.mul_le_mul_of_nonneg_right h2 h3) (Int.mul_le_mul_of_nonneg_left h4 (by decide))
    have := Int.mul_nonneg h1 h3
    unfold Sm; omega
  intro x hx
  have gen : ∀ (xs ys : List Int), (∀ x ∈ xs, 0 ≤ x ∧ x ≤ 240000) → (∀ y ∈ ys, 0 ≤ y ∧ y ≤ 240000) → ∀ z ∈ List.zipWith (fun x y => v * x * q.1 + 1 * y * p.1) xs ys, Sm z := by
    intro xs
    induction xs with
    | nil => intro ys _ _ z hz; simp at hz
    | cons x xs ih =>
      intro ys h1 h2 z hz
      cases ys with
      | nil => simp at hz
      | cons y ys =>
        rw [List.zipWith_cons_cons] at hz
        rcases List.mem_cons.mp hz with rfl | hz
        · obtain ⟨a1, a2⟩ := h1 x (by simp)
          obtain ⟨b1, b2⟩ := h2 y (by simp)
          have t1 : v * x ≤ 9 * 240000 := Int.le_trans (Int.mul_le_mul_of_nonneg_right hv9 a1) (Int.mul_le_mul_of_nonneg_left a2 (by decide))
          have t2 : 0 ≤ v * x := Int.mul_nonneg (by omega) a1
          have t3 : v * x * q.1 ≤ 9 * 240000 * 240000 := Int.le_trans (Int.mul_le_mul_of_nonneg_right t1 (by omega)) (Int.mul_le_mul_of_nonneg_left d (by decide))
          have t4 : 0 ≤ v * x * q.1 := Int.mul_nonneg t2 (by omega)
          have t5 : 1 * y * p.1 ≤ 240000 * 240000 := by rw [Int.one_mul]; exact Int.le_trans (Int.mul_le_mul_of_nonneg_right b2 (by omega)) (Int.mul_le_mul_of_nonneg_left c (by decide))
          have t6 : 0 ≤ 1 * y * p.1 := by rw [Int.one_mul]; exact Int.mul_nonneg b1 (by omega)
          unfold Sm; omega
        · exact ih ys (fun x hx => h1 x (by simp [hx])) (fun y hy => h2 y (by simp [hy])) z hz
  exact gen p.2 q.2 (fun x hx => (np x hx).2) (fun x hx => (nq x hx).2) x hx
theorem r12_ {m : Nat} (hm : 4 ≤ m) {v : Int} (hv : 1 ≤ v) (hv9 : v ≤ 9) (hp : Sh many 240000 p) (hq : Sh many 240000 q) (hf : many ≤ 900) (st : Store) : callD P m 12 [.d (.lst [sh p, sh q]), .d (.lst [.int v, .int 1])] st = .ok (.d (sh (lp (p.1 * q.1 * (v + 1)) (mixN v p q)))) st := by
  rw [go1 (by omega) (d := d12) rfl]
  refine (runD_ret (w := .d (sh (lp (p.1 * q.1 * (v + 1)) (mixN v p q)))) (st1 := st) rfl ?_).trans handed_d
  have a := hp.pos
  have b := hq.pos
  have c := hp.top
  have d := hq.top
  have len : p.2.length = q.2.length := by rw [hp.len, hq.len]
  have pos : 0 < p.1 * q.1 := Int.mul_pos (by omega) (by omega)
  have le : p.1 * q.1 ≤ 240000 * 240000 := Int.le_trans (Int.mul_le_mul_of_nonneg_right c (by omega)) (Int.mul_le_mul_of_nonneg_left d (by decide))
  have sp : Sm p.1 := by unfold Sm; omega
  have sq : Sm q.1 := by unfold Sm; omega
  have spq : Sm (p.1 * q.1) := by unfold Sm; omega
  have sv : Sm v := by unfold Sm; omega
  have s1 : Sm 1 := by unfold Sm; decide
  have p0 : ∀ st, idxW (.d (sh p)) (.d (.int 0)) st = .ok (.d (.int p.1)) st := fun st => ix0 _ _ _
  have p1 : ∀ st, idxW (.d (sh p)) (.d (.int 1)) st = .ok (.d (.tup (di p.2))) st := fun st => ix1 _ _ _ _
  have q0 : ∀ st, idxW (.d (sh q)) (.d (.int 0)) st = .ok (.d (.int q.1)) st := fun st => ix0 _ _ _
  have q1 : ∀ st, idxW (.d (sh q)) (.d (.int 1)) st = .ok (.d (.tup (di q.2))) st := fun st => ix1 _ _ _ _
  have l0 : ∀ st, idxW (.d (.lst [sh p, sh q])) (.d (.int 0)) st = .ok (.d (sh p)) st := fun st => rfl
  have fp : (p.1 * q.1).fdiv p.1 = q.1 := by rw [Int.mul_comm]; exact Int.mul_fdiv_cancel _ (by omega)
  have fq : (p.1 * q.1).fdiv q.1 = p.1 := Int.mul_fdiv_cancel _ (by omega)
  have np : ∀ x ∈ p.2, Sm x ∧ 0 ≤ x ∧ x ≤ 240000 := fun x hx => by
    have := hp.nn x hx
    have := mem_le_sum hp.nn x hx
    have := hp.sum
    exact ⟨by unfold Sm; omega, by omega, by omega⟩
  have nq : ∀ x ∈ q.2, Sm x ∧ 0 ≤ x ∧ x ≤ 240000 := fun x hx => by
    have := hq.nn x hx
    have := mem_le_sum hq.nn x hx
    have := hq.sum
    exact ⟨by unfold Sm; omega, by omega, by omega⟩
  have small2 : ∀ {x y : Int}, 0 ≤ x → x ≤ 9 → 0 ≤ y → y ≤ 240000 → Sm (x * y) := fun {x y} h1 h2 h3 h4 => by
    have : x * y ≤ 9 * 240000 := Int.le_trans (Int.mul_le_mul_of_nonneg_right h2 h3) (Int.mul_le_mul_of_nonneg_left h4 (by decide))
    have := Int.mul_nonneg h1 h3
    unfold Sm; omega
  have loop := loop12 (m := m) hv hv9 hp hq hf st
  have rows := rows12 (m := m) hv hv9 hp hq hf st
  have mx := mix_sh hv hv9 hp hq
  have big : p.1 * q.1 * (v + 1) ≤ 240000 * 240000 * 10 := Int.le_trans (Int.mul_le_mul_of_nonneg_right le (by omega)) (Int.mul_le_mul_of_nonneg_left (by omega) (by decide))
  have posb : 0 < p.1 * q.1 * (v + 1) := Int.mul_pos pos (by omega)
  have sb : Sm (p.1 * q.1 * (v + 1)) := by unfold Sm; omega
  have ms := ms12 (m := m) hv hv9 hp hq hf
  have ln : (mixN v p q).length ≤ 900 := by unfold mixN; rw [List.length_zipWith, len, Nat.min_self, hq.len]; exact hf
  have fin := r6_ (m := m - 1) (by omega) posb sb ms ln (.inl rfl) st
  have st0 : Mi.start d12 [.d (.lst [sh p, sh q]), .d (.lst [.int v, .int 1])] = [some (.d (.lst [sh p, sh q])), some (.d (.lst [.int v, .int 1])), none, none, none, none, none, none, none] := rfl
  have sw : bltW .sum [.d (.lst [.int v, .int 1])] st = .ok (.d (.int (v + 1))) st := by
    have := sum_lst (st := st) [v, 1]
    simpa [di] using this
  have dl : (di p.2).length = many := by unfold di; rw [List.length_map, hp.len]
  have src : sqW (.d (.lst [sh p, sh q])) st = .ok (.dat [.d (sh p), .d (sh q)]) st := rfl
  have ln2 : (Src.one (.dat [.d (sh p), .d (sh q)])).len = 2 := rfl
  rw [st0]
  have s1 : evS (P.ctx (m - 1)) (.par [5, 6] (.cons (.blt .sum (.cons (.var 1) (.nil))) (.cons (.blt .len (.cons (.idx (.idx (.var 0) (.int 0)) (.int 1)) (.nil))) (.nil)))) [some (.d (.lst [sh p, sh q])), some (.d (.lst [.int v, .int 1])), none, none, none, none, none, none, none] st = .ok (.nx [some (.d (.lst [sh p, sh q])), some (.d (.lst [.int v, .int 1])), none, none, none, some (.d (.int (v + 1))), some (.d (.int many)), none, none]) st := by
    simp only [s_par_, e_idx_, e_var_, e_int__, e_blt_, es_cons_, es_nil_, List.getElem?_cons_succ, List.getElem?_cons_zero, bind_ok, l0, p1, sw, len_tup, dl, then_ok, List.set_cons_succ, List.set_cons_zero, parSet]
  have s2 : evS (P.ctx (m - 1)) (.set 2 (.int 1)) [some (.d (.lst [sh p, sh q])), some (.d (.lst [.int v, .int 1])), none, none, none, some (.d (.int (v + 1))), some (.d (.int many)), none, none] st = .ok (.nx [some (.d (.lst [sh p, sh q])), some (.d (.lst [.int v, .int 1])), some (.d (.int 1)), none, none, some (.d (.int (v + 1))), some (.d (.int many)), none, none]) st := by
    simp only [s_set_, e_int__, then_ok, List.set_cons_succ, List.set_cons_zero]
  have s3 : evS (P.ctx (m - 1)) (.for_ (.v 3) (.seq (.var 0)) (.cons (.set 2 (.op .mul (.var 2) (.idx (.var 3) (.int 0)))) (.nil))) [some (.d (.lst [sh p, sh q])), some (.d (.lst [.int v, .int 1])), some (.d (.int 1)), none, none, some (.d (.int (v + 1))), some (.d (.int many)), none, none] st = .ok (.nx [some (.d (.lst [sh p, sh q])), some (.d (.lst [.int v, .int 1])), some (.d (.int (p.1 * q.1))), some (.d (sh q)), none, some (.d (.int (v + 1))), some (.d (.int many)), none, none]) st := by
    rw [s_for_, i_seq_, e_var_]
    simp only [List.getElem?_cons_zero, bind_ok, src, then_ok]
    rw [ln2]
    exact loop
  have s5 : evE (P.ctx (m - 1)) (.op .mul (.var 2) (.var 5)) [some (.d (.lst [sh p, sh q])), some (.d (.lst [.int v, .int 1])), some (.d (.int (p.1 * q.1))), some (.d (sh q)), some (.d (.lst (di (mixN v p q)))), some (.d (.int (v + 1))), some (.d (.int many)), none, none] st = .ok (.d (.int (p.1 * q.1 * (v + 1)))) st := by
    simp only [e_op_, e_var_, List.getElem?_cons_succ, List.getElem?_cons_zero, bind_ok, op_mul_ (mul_ok spq (show Sm (v + 1) by unfold Sm; omega))]
  unfold d12
  rw [ss_cons_, s1, next_nx, ss_cons_, s2, next_nx, ss_cons_, s3, next_nx, ss_cons_, s_set_, rows, then_ok, next_nx, ss_cons_, s_ret_, e_call_, es_cons_]
  simp only [List.set_cons_succ, List.set_cons_zero]
  rw [s5, bind_ok, es_cons_, e_var_]
  simp only [List.getElem?_cons_succ, List.getElem?_cons_zero, es_nil_, bind_ok, ctx_call, fin, then_ok, next_ret]
theorem r14_ {m : Nat} (hm : 7 ≤ m) {v : Int} (hv : 1 ≤ v) (hv9 : v ≤ 9) (h1 : 1 ≤ many) (h8 : many ≤ 8) (hp : Sh many 240000 p) (hq : Sh many 240000 q) (st : Store) : callD P m 14 [.d (.int many), .d (.lst [sh p, sh q]), .d (.lst [.int v, .int 1])] st = .ok (.d (sh (lp (p.1 * q.1 * (v + 1)) (mixN v p q)))) st := by
  rw [go1 (by omega) (d := d14) rfl]
  refine (runD_ret (w := .d (sh (lp (p.1 * q.1 * (v + 1)) (mixN v p q)))) (st1 := st) rfl ?_).trans handed_d
  have up : ∀ {r : Int × List Int}, Sh many 240000 r → Sh many (10 ^ 12) r := fun h => ⟨h.pos, h.len, h.nn, h.sum, h.low, Int.le_trans h.top (by decide)⟩
  have k1 := r7_ (m := m - 1) (by omega) (x := .int many) rfl (inB_many h1 h8) st
  have k2 : ∀ ds, callD P (m - 1) 2 [.d (.lst ds)] st = .ok (.d (.bl true)) st := fun ds => by
    rw [go1 (by omega) (d := d2) rfl]
    refine (runD_ret (w := .d (.bl true)) (st1 := st) rfl ?_).trans handed_d
    simp [d2, Mi.start, isW, isTy, plainD, plainTy]
  have k3 := fun r (hr : r ∈ [p, q]) => r10t (m := m - 1) (by omega) (many := many) (p := r) (by
    simp at hr
    rcases hr with rfl | rfl
    · exact up hp
    · exact up hq) (by omega) st
  have k4 := r4_ (m := m - 1) (by omega) (ns := [v, 1]) (by simp) st
  have e4 : ([v, 1].all fun x => decide (0 ≤ x)) = true := by simp; omega
  rw [e4] at k4
  have k4 : callD P (m - 1) 4 [.d (.tup [.int v, .int 1]), .d (.int 2)] st = .ok (.d (.bl true)) st := k4
  have k5 := r12_ (m := m - 1) (by omega) hv hv9 hp hq (by omega) st
  have c := comp_seq (C := P.ctx (m - 1)) (env := [some (.d (.int many)), some (.d (.lst [sh p, sh q])), some (.d (.lst [.int v, .int 1])), none]) (st := st) (a := .var 1) (elt := .call 10 (.cons (.var 0) (.cons (.var 3) (.nil)))) (i := 3) (fun s : Int × List Int => sh s) (fun _ => D.bl true) [p, q] (.inl rfl) (by simp) (by simp) (fun r hr => by simp [k3 r hr])
  have al : bltW .all [.d (.lst [.bl true, .bl true])] st = .ok (.d (.bl true)) st := all_lst [true, true]
  have sw : bltW .sum [.d (.lst [.int v, .int 1])] st = .ok (.d (.int (v + 1))) st := by
    have := sum_lst (st := st) [v, 1]
    simpa [di] using this
  have tl : bltW .tuple [.d (.lst [.int v, .int 1])] st = .ok (.d (.tup [.int v, .int 1])) st := tuple_lst (by simp)
  have nz : ¬ v + 1 = 0 := by omega
  have st0 : Mi.start d14 [.d (.int many), .d (.lst [sh p, sh q]), .d (.lst [.int v, .int 1])] = [some (.d (.int many)), some (.d (.lst [sh p, sh q])), some (.d (.lst [.int v, .int 1])), none] := rfl
  rw [st0]
  unfold d14
  simp [k1, k2, c, al, tl, k4, sw, nz, k5]
end
end K07
namespace K07
open Mi
/-! ### drawn numbers of places, drawn shares -/
theorem r31_ {m : Nat} (hm : 4 ≤ m) {k : Nat} (hk : k < 10 ^ 18) {st tail : Store} (h : Dr k st tail) : ∃ (many : Nat) (st' : Store), 1 ≤ many ∧ many ≤ 8 ∧ Dr (k + 1) st' tail ∧ callD P m 31 [.ref 1, .d (.int 8)] st = .ok (.d (.int many)) st' := by
  obtain ⟨x, st', g1, g2, g3⟩ := pick (m := m - 1) (by omega) hk h (ds := di [1, 2, 2, 3, 3, 3, 4, 4, 5, 6, 8]) (by decide) (by decide)
  obtain ⟨y, hy, rfl⟩ := List.mem_map.mp g1
  obtain ⟨many, rfl, m1, m8⟩ : ∃ many : Nat, y = (many : Int) ∧ 1 ≤ many ∧ many ≤ 8 := by
    have : 1 ≤ y ∧ y ≤ 8 := by
      have all : ([1, 2, 2, 3, 3, 3, 4, 4, 5, 6, 8] : List Int).all (fun y => decide (1 ≤ y) && decide (y ≤ 8)) = true := by decide
      have := List.all_eq_true.mp all y hy
      simpa using this
    exact ⟨y.toNat, by omega, by omega, by omega⟩
  refine ⟨many, st', m1, m8, g2, ?_⟩
  rw [go1 (by omega) (d := d31) rfl]
  have hlen : st'.length = st.length := by rw [g2.len, h.len]
  refine (runD_ret (w := .d (.int many)) (st1 := st') rfl ?_).trans (handed_d' hlen)
  have eleven : ∀ (env : Env) (s : Store), evE (P.ctx (m - 1)) (.lst false (.cons (.int 1) (.cons (.int 2) (.cons (.int 2) (.cons (.int 3) (.cons (.int 3) (.cons (.int 3) (.cons (.int 4) (.cons (.int 4) (.cons (.int 5) (.cons (.int 6) (.cons (.int 8) (.nil))))))))))))) env s = .ok (.d (.lst (di [1, 2, 2, 3, 3, 3, 4, 4, 5, 6, 8]))) s := fun env s => by
    have e := mkLst_map (st := s) (ds := di [1, 2, 2, 3, 3, 3, 4, 4, 5, 6, 8]) (by decide)
    simp only [di, List.map_cons, List.map_nil] at e
    simp [e, di]
  have c := comp_flt (C := P.ctx (m - 1)) (env := [some (.ref 1), some (.d (.int 8)), none]) (st := st) (a := .lst false (.cons (.int 1) (.cons (.int 2) (.cons (.int 2) (.cons (.int 3) (.cons (.int 3) (.cons (.int 3) (.cons (.int 4) (.cons (.int 4) (.cons (.int 5) (.cons (.int 6) (.cons (.int 8) (.nil)))))))))))))
    (c := .cmp .le (.var 2) (.var 1)) (elt := .var 2) (i := 2) D.int D.int (fun x => decide (x ≤ 8)) [1, 2, 2, 3, 3, 3, 4, 4, 5, 6, 8] (.inl rfl) (eleven _ _) (by decide) (fun x hx => by simp) (fun x hx _ => by simp)
  have f : (([1, 2, 2, 3, 3, 3, 4, 4, 5, 6, 8] : List Int).filter fun x => decide (x ≤ 8)).map D.int = di [1, 2, 2, 3, 3, 3, 4, 4, 5, 6, 8] := rfl
  rw [f] at c
  have st0 : Mi.start d31 [.ref 1, .d (.int 8)] = [some (.ref 1), some (.d (.int 8)), none] := rfl
  rw [st0]
  unfold d31
  simp only [ss_cons_, ss_nil_, s_ret_, e_call_, e_var_, es_cons_, es_nil_, List.getElem?_cons_zero, bind_ok, c, ctx_call, g3, then_ok, next_ret]
/-- numbers in a cell -/
def dw (ns : List Int) : List W := ns.map fun i => .d (.int i)
theorem dw_eq (ns : List Int) : dw ns = (di ns).map W.d := by unfold dw di; rw [List.map_map]; rfl
section
variable {k : Nat} {st : Store} {ns : List Int}
theorem cell_at (h : Dr k st [.lst (dw ns)]) : st[2]? = some (.lst (dw ns)) := by
  obtain ⟨ls, cs, r, t, _, _, _, rfl⟩ := h
  rfl
theorem cell_set (h : Dr k st [.lst (dw ns)]) {i : Nat} (hi : i < ns.length) (v : Int) : ∃ st', setW (.ref 2) (.d (.int (i : Nat))) (.d (.int v)) st = some st' ∧ Dr k st' [.lst (dw (ns.set i v))] := by
  have c := cell_at h
  obtain ⟨ls, cs, r, t, h1, h2, h3, rfl⟩ := h
  refine ⟨SD ls cs r t [.lst (dw (ns.set i v))], ?_, ls, cs, r, t, h1, h2, h3, rfl⟩
  have lt : (i : Int) < ((dw ns).length : Int) := by unfold dw; rw [List.length_map]; omega
  have ix : ixN (dw ns).length (i : Int) = some i := by
    unfold ixN
    rw [if_pos (by omega), if_pos lt]; simp
  have e : (dw ns).set i (.d (.int v)) = dw (ns.set i v) := by unfold dw; rw [List.map_set]
  unfold setW
  simp only [below, if_true, c, ix, e]
  rfl
theorem cell_sum (h : Dr k st [.lst (dw ns)]) : bltW .sum [.ref 2] st = .ok (.d (.int ns.sum)) st := by
  have c := cell_at h
  show sum1 [.ref 2] st = _
  unfold sum1
  have it : itemsW (.ref 2) st = some ((di ns).map W.d) := by
    unfold itemsW
    rw [← dw_eq]
    simp [c]
  simp only [it, ints_map]
theorem low2 (v : D) (st : Store) : lowW (.ref 2) (.d v) st = .ok (.d v) st := rfl
theorem Dr.drop {c : Cell} (h : Dr k st [c]) : Dr k (st.take 2) [] := by
  obtain ⟨ls, cs, r, t, h1, h2, h3, rfl⟩ := h
  exact ⟨ls, cs, r, t, h1, h2, h3, rfl⟩
theorem Dr.add (h : Dr k st []) (c : Cell) : Dr k (st ++ [c]) [c] := by
  obtain ⟨ls, cs, r, t, h1, h2, h3, rfl⟩ := h
  exact ⟨ls, cs, r, t, h1, h2, h3, rfl⟩
end
theorem rep_zero {many : Nat} (h : many ≤ 8) (st : Store) : repW true (.d (.lst [.int 0])) (.d (.int many)) st = .ok (.ref st.length) (st ++ [.lst (dw (List.replicate many 0))]) := by
  have e : (List.replicate many [W.d (.int 0)]).flatten = dw (List.replicate many 0) := by
    unfold dw
    induction many with
    | zero => rfl
    | succ n ih => rw [List.replicate_succ, List.flatten_cons, ih (by omega), List.replicate_succ]; rfl
  have ok : repOk (many : Int) = true := by
    show decide (-1000000 ≤ (many : Int) ∧ (many : Int) ≤ 1000000) = true
    exact decide_eq_true ⟨by omega, by omega⟩
  show (if repOk (many : Int) = true then mkLst true (List.replicate (many : Int).toNat [W.d (.int 0)]).flatten st else .stuck) = _
  rw [if_pos ok, Int.toNat_natCast, e]
  unfold mkLst
  rw [if_pos (show small (dw (List.replicate many 0)).length = true from decide_eq_true (by unfold dw; simp; omega)), if_pos rfl]
theorem sum_le {B : Int} : ∀ {ns : List Int}, (∀ x ∈ ns, x ≤ B) → ns.sum ≤ ns.length * B
  | [], _ => by simp
  | x :: ns, h => by
    have := sum_le fun y hy => h y (List.mem_cons_of_mem x hy)
    have := h x (by simp)
    simp only [List.sum_cons, List.length_cons, Int.natCast_add, Int.add_mul]
    simp; omega
def shC : E := .bool false (.cons (.cmp .gt (.var 4) (.int 1)) (.cons (.bool true (.cons (.cmp .eq (.var 4) (.int 1)) (.cons (.cmp .eq (.call 19 (.cons (.var 0) (.cons (.int 2) (.nil)))) (.int 0)) (.nil)))) (.nil)))
def shB : Ss := .cons (.ifs shC (.cons (.setIx (.var 2) (.var 3) (.call 19 (.cons (.var 0) (.cons (.op .add (.var 5) (.int 1)) (.nil))))) (.nil)) (.nil)) (.nil)
abbrev EnvS (many : Nat) (way most : Int) (e3 : Option W) : Env := [some (.ref 1), some (.d (.int many)), some (.ref 2), e3, some (.d (.int way)), some (.d (.int most))]
theorem shC_at {m : Nat} (hm : 2 ≤ m) {k : Nat} (hk : k < 10 ^ 18) {st tail : Store} (h : Dr k st tail) (many : Nat) (way most : Int) (e3 : Option W) : ∃ (b : Bool) (st' : Store), Dr (k + 1) st' tail ∧ evT (P.ctx m) shC (EnvS many way most e3) st = .ok b st' := by
  by_cases w1 : 1 < way
  · refine ⟨true, st, h.mono (by omega), ?_⟩
    simp [shC, w1]
  · by_cases w2 : way = 1
    · obtain ⟨v, st', g0, g1, g2, g3⟩ := take (m := m) hm hk h (n := 2) (by decide) (by unfold Sm; decide)
      refine ⟨decide (v = 0), st', g2, ?_⟩
      subst w2
      simp [shC, g3]
    · refine ⟨false, st, h.mono (by omega), ?_⟩
      simp [shC, w1, w2]
theorem shB_at {m : Nat} (hm : 2 ≤ m) {k : Nat} (hk : k + 1 < 10 ^ 18) {st : Store} {ns : List Int} (h : Dr k st [.lst (dw ns)]) {many : Nat} (hl : ns.length = many) (hn : ∀ x ∈ ns, 0 ≤ x ∧ x ≤ 30000) {i : Nat} (hi : i < many) (way : Int) {most : Int} (hmo : 1 ≤ most ∧ most ≤ 30000) :
    ∃ (ns' : List Int) (st' : Store), ns'.length = many ∧ (∀ x ∈ ns', 0 ≤ x ∧ x ≤ 30000) ∧ Dr (k + 2) st' [.lst (dw ns')] ∧ evSs (P.ctx m) shB (EnvS many way most (some (.d (.int (i : Nat))))) st = .ok (.nx (EnvS many way most (some (.d (.int (i : Nat)))))) st' := by
  obtain ⟨b, st1, d1, c1⟩ := shC_at (m := m) hm (by omega) h many way most (some (.d (.int (i : Nat))))
  cases b with
  | false =>
    refine ⟨ns, st1, hl, hn, d1.mono (by omega), ?_⟩
    unfold shB
    simp only [ss_cons_, ss_nil_, s_ifs_, c1, then_ok, Bool.false_eq_true, if_false, next_nx]
  | true =>
    obtain ⟨v, st2, g0, g1, g2, g3⟩ := take (m := m) hm (by omega) d1 (n := most + 1) (by omega) (by unfold Sm; omega)
    obtain ⟨st3, q1, q2⟩ := cell_set g2 (i := i) (by omega) v
    refine ⟨ns.set i v, st3, by simpa using hl, fun x hx => ?_, q2, ?_⟩
    · rcases List.mem_or_eq_of_mem_set hx with hx | rfl
      · exact hn x hx
      · omega
    · unfold shB
      simp only [ss_cons_, ss_nil_, s_ifs_, c1, then_ok, if_true, s_setIx_, e_call_, e_var_, e_op_, e_int__, es_cons_, es_nil_, List.getElem?_cons_succ, List.getElem?_cons_zero, bind_ok, op_add_, ctx_call, g3, low2, q1, next_nx]
theorem r30_ {m : Nat} (hm : 4 ≤ m) {k : Nat} (hk : k + 50 < 10 ^ 18) {st : Store} (h : Dr k st []) {many : Nat} (h1 : 1 ≤ many) (h8 : many ≤ 8) : ∃ (p : Int × List Int) (st' : Store), Sh many 240000 p ∧ Dr (k + 20) st' [] ∧ callD P m 30 [.ref 1, .d (.int many)] st = .ok (.d (sh p)) st' := by
  obtain ⟨way, s1, _, _, d1, c1⟩ := take (m := m - 1) (by omega) (by omega) h (n := 4) (by decide) (by unfold Sm; decide)
  obtain ⟨mo, s2, m1, d2, c2⟩ := pick (m := m - 1) (by omega) (by omega) d1 (ds := [.int 1, .int 2, .int 3, .int 9, .int 30000]) (by decide) (by decide)
  obtain ⟨most, rfl, hmo⟩ : ∃ b : Int, mo = .int b ∧ (1 ≤ b ∧ b ≤ 30000) := by
    simp at m1
    rcases m1 with rfl | rfl | rfl | rfl | rfl
    · exact ⟨1, rfl, by decide, by decide⟩
    · exact ⟨2, rfl, by decide, by decide⟩
    · exact ⟨3, rfl, by decide, by decide⟩
    · exact ⟨9, rfl, by decide, by decide⟩
    · exact ⟨30000, rfl, by decide, by decide⟩
  have d3 := d2.add (.lst (dw (List.replicate many 0)))
  have l2 : s2.length = 2 := d2.len
  obtain ⟨spot, s4, p0, p1, d4, c4⟩ := take (m := m - 1) (by omega) (by omega) d3 (n := (many : Int)) (by omega) (by unfold Sm; omega)
  obtain ⟨j, rfl⟩ : ∃ j : Nat, spot = (j : Int) := ⟨spot.toNat, by omega⟩
  obtain ⟨s5, q5, d5⟩ := cell_set d4 (i := j) (by simp; omega) 1
  have start_ : (∀ x ∈ (List.replicate many (0 : Int)).set j 1, 0 ≤ x ∧ x ≤ 30000) := fun x hx => by
    rcases List.mem_or_eq_of_mem_set hx with hx | rfl
    · have := List.eq_of_mem_replicate hx; omega
    · omega
  obtain ⟨env6, s6, c6, ns2, e3, hl2, hn2, rfl, d6⟩ := fors_run (look := (Src.one (.rng 0 many)).at) (over := (Src.one (.rng 0 many)).over) (f := forF (P.ctx (m - 1)) (.v 3) shB) (fun i env st => ∃ ns e3, ns.length = many ∧ (∀ x ∈ ns, 0 ≤ x ∧ x ≤ 30000) ∧ env = EnvS many way most e3 ∧ Dr (k + 3 + 2 * i) st [.lst (dw ns)]) many 0 (EnvS many way most none) s5 ⟨_, none, by simp, start_, rfl, d5⟩ (fun i env st _ hi ⟨ns, e3, b1, b2, b3, b4⟩ => by
    subst b3
    have lt : i < many := by omega
    obtain ⟨ns', st', u1, u2, u3, u4⟩ := shB_at (m := m - 1) (by omega) (by omega) b4 b1 b2 (i := i) lt way hmo
    refine ⟨.one (.d (.int (i : Nat))), _, st', by simp [Src.at, Sq.at, lt], .inl (by rw [forF_v]; exact u4), ns', _, u1, u2, rfl, u3⟩) (fun env st _ => by simp [Src.over, Sq.over])
  obtain ⟨ns3, s7, hl3, hn3, pos3, d7, c7⟩ : ∃ (ns3 : List Int) (s7 : Store), ns3.length = many ∧ (∀ x ∈ ns3, 0 ≤ x ∧ x ≤ 30000) ∧ 0 < ns3.sum ∧ Dr (k + 3 + 2 * (0 + many)) s7 [.lst (dw ns3)] ∧ evS (P.ctx (m - 1)) (.ifs (.cmp .eq (.blt .sum (.cons (.var 2) (.nil))) (.int 0)) (.cons (.setIx (.var 2) (.int 0) (.int 1)) (.nil)) (.nil)) (EnvS many way most e3) s6 = .ok (.nx (EnvS many way most e3)) s7 := by
    have cs := cell_sum d6
    by_cases z : ns2.sum = 0
    · obtain ⟨s7, q7, d7⟩ := cell_set d6 (i := 0) (by omega) 1
      refine ⟨ns2.set 0 1, s7, by simpa using hl2, fun x hx => ?_, ?_, d7, ?_⟩
      · rcases List.mem_or_eq_of_mem_set hx with hx | rfl
        · exact hn2 x hx
        · omega
      · cases ns2 with
        | nil => simp at hl2; omega
        | cons a as =>
          have := sum_nonneg fun x hx => (hn2 x (List.mem_cons_of_mem a hx)).1
          simp; omega
      · have q7' : setW (.ref 2) (.d (.int 0)) (.d (.int 1)) s6 = some s7 := q7
        simp only [s_ifs_, t_cmp_, e_blt_, e_var_, e_int__, es_cons_, es_nil_, List.getElem?_cons_succ, List.getElem?_cons_zero, bind_ok, cs, cmp_eq_, eqW_int, z, decide_true, Bool.true_bne, Bool.not_false, tru_bl, then_ok, if_true, ss_cons_, ss_nil_, s_setIx_, low2, q7', next_nx]
    · refine ⟨ns2, s6, hl2, hn2, ?_, d6, ?_⟩
      · have := sum_nonneg fun x hx => (hn2 x hx).1
        omega
      · simp only [s_ifs_, t_cmp_, e_blt_, e_var_, e_int__, es_cons_, es_nil_, List.getElem?_cons_succ, List.getElem?_cons_zero, bind_ok, cs, cmp_eq_, eqW_int, z, decide_false, Bool.false_bne, tru_bl, then_ok, Bool.false_eq_true, if_false, ss_nil_]
  have top : ns3.sum ≤ 240000 := by
    have := sum_le fun x hx => (hn3 x hx).2
    rw [hl3] at this
    omega
  have sh3 := sh_of (B := 240000) pos3 (fun x hx => (hn3 x hx).1) rfl top
  rw [hl3] at sh3
  have cs7 := cell_sum d7
  have fin := r27 (m := m - 1) (by omega) (s := ns3.sum) (ns := ns3) pos3 (by unfold Sm; omega) (fun x hx => by have := hn3 x hx; unfold Sm; omega) (by omega) (w := .ref 2) (st := s7) (Hs.cell (by rw [cell_at d7, dw_eq]))
  refine ⟨lp ns3.sum ns3, s7.take 2, sh3, d7.drop.mono (by omega), ?_⟩
  rw [go1 (by omega) (d := d30) rfl]
  refine (runD_ret (w := .d (sh (lp ns3.sum ns3))) (st1 := s7) rfl ?_).trans (by rw [show st.length = 2 from h.len]; rfl)
  have st0 : Mi.start d30 [.ref 1, .d (.int many)] = [some (.ref 1), some (.d (.int many)), none, none, none, none] := rfl
  have five : ∀ s : Store, mkLst false [.d (.int 1), .d (.int 2), .d (.int 3), .d (.int 9), .d (.int 30000)] s = .ok (.d (.lst [.int 1, .int 2, .int 3, .int 9, .int 30000])) s := fun s => mkLst_map (ds := [.int 1, .int 2, .int 3, .int 9, .int 30000]) (by decide)
  have t1 : evS (P.ctx (m - 1)) (.par [4, 5] (.cons (.call 19 (.cons (.var 0) (.cons (.int 4) (.nil)))) (.cons (.call 20 (.cons (.var 0) (.cons (.lst false (.cons (.int 1) (.cons (.int 2) (.cons (.int 3) (.cons (.int 9) (.cons (.int 30000) (.nil))))))) (.nil)))) (.nil)))) [some (.ref 1), some (.d (.int many)), none, none, none, none] st = .ok (.nx [some (.ref 1), some (.d (.int many)), none, none, some (.d (.int way)), some (.d (.int most))]) s2 := by
    simp only [s_par_, e_call_, e_lst_, e_var_, e_int__, es_cons_, es_nil_, List.getElem?_cons_zero, bind_ok, five, ctx_call, c1, c2, then_ok, parSet, List.set_cons_succ, List.set_cons_zero]
  have t2 : evS (P.ctx (m - 1)) (.set 2 (.rep true (.lst false (.cons (.int 0) (.nil))) (.var 1))) [some (.ref 1), some (.d (.int many)), none, none, some (.d (.int way)), some (.d (.int most))] s2 = .ok (.nx (EnvS many way most none)) (s2 ++ [.lst (dw (List.replicate many 0))]) := by
    have rz := rep_zero h8 s2
    rw [l2] at rz
    simp only [s_set_, e_rep_, e_lst_, e_var_, e_int__, es_cons_, es_nil_, List.getElem?_cons_succ, List.getElem?_cons_zero, bind_ok, mkLst_1, rz, then_ok, List.set_cons_succ, List.set_cons_zero]
  have t3 : evS (P.ctx (m - 1)) (.setIx (.var 2) (.call 19 (.cons (.var 0) (.cons (.var 1) (.nil)))) (.int 1)) (EnvS many way most none) (s2 ++ [.lst (dw (List.replicate many 0))]) = .ok (.nx (EnvS many way most none)) s5 := by
    simp only [s_setIx_, e_call_, e_var_, e_int__, es_cons_, es_nil_, List.getElem?_cons_succ, List.getElem?_cons_zero, bind_ok, ctx_call, c4, then_ok, low2, q5]
  have t4 : evS (P.ctx (m - 1)) (.for_ (.v 3) (.rng (.cons (.var 1) (.nil))) shB) (EnvS many way most none) s5 = .ok (.nx (EnvS many way most e3)) s6 := by
    rw [s_for_, src_rng (N := many) (by omega) (by simp), then_ok]
    exact c6
  have t6 : evS (P.ctx (m - 1)) (.ret (.call 27 (.cons (.blt .sum (.cons (.var 2) (.nil))) (.cons (.var 2) (.nil))))) (EnvS many way most e3) s7 = .ok (.ret (.d (sh (lp ns3.sum ns3)))) s7 := by
    simp only [s_ret_, e_call_, e_blt_, e_var_, es_cons_, es_nil_, List.getElem?_cons_succ, List.getElem?_cons_zero, bind_ok, ctx_call, cs7, fin, then_ok]
  rw [st0]
  show evSs (P.ctx (m - 1)) (.cons _ (.cons _ (.cons _ (.cons (.for_ (.v 3) (.rng (.cons (.var 1) (.nil))) shB) (.cons _ (.cons _ .nil)))))) _ st = _
  rw [ss_cons_, t1, next_nx, ss_cons_, t2, next_nx, ss_cons_, t3, next_nx, ss_cons_, t4, next_nx, ss_cons_, c7, next_nx, ss_cons_, t6, next_ret]
end K07
namespace K07
open Mi
/-! ### bad shares -/
theorem cat_tup {a b : List D} {st : Store} {cell : Bool} (h : a.length + b.length ≤ 1000) : catW cell (.d (.tup a)) (.d (.tup b)) st = .ok (.d (.tup (a ++ b))) st := by
  show (if small (a.length + b.length) = true then Res.ok (W.d (.tup (a ++ b))) st else .stuck) = _
  rw [if_pos (show small (a.length + b.length) = true from decide_eq_true (by omega))]
theorem cat_lst {a b : List D} {st : Store} (h : a.length + b.length ≤ 1000) : catW false (.d (.lst a)) (.d (.lst b)) st = .ok (.d (.lst (a ++ b))) st := by
  show mkLst false (a.map W.d ++ b.map W.d) st = _
  rw [← List.map_append]
  exact list_out (by rw [List.length_append]; omega)
theorem rep3 {x : D} {st : Store} : repW false (.d (.lst [x])) (.d (.int 3)) st = .ok (.d (.lst [x, x, x])) st := by
  show (if repOk 3 = true then mkLst false (List.replicate (3 : Int).toNat [W.d x]).flatten st else .stuck) = _
  rw [if_pos (by decide)]
  exact list_out (ds := [x, x, x]) (by simp)
theorem slc_lo {l : List D} {k : Nat} (h : k ≤ l.length) (st : Store) : slcW (.d (.tup l)) none (some (k : Int)) st = .ok (.d (.tup (l.take k))) st := by
  show Res.ok (W.d (.tup (cutD l none (some (k : Int))))) st = _
  have e : cutD l none (some (k : Int)) = l.take k := by
    unfold cutD cutAt
    simp only
    rw [if_neg (by omega), Int.toNat_natCast, Nat.min_eq_left h]
    simp
  rw [e]
theorem slc_hi {l : List D} {k : Nat} (h : k ≤ l.length) (st : Store) : slcW (.d (.tup l)) (some (k : Int)) none st = .ok (.d (.tup (l.drop k))) st := by
  show Res.ok (W.d (.tup (cutD l (some (k : Int)) none))) st = _
  have e : cutD l (some (k : Int)) none = l.drop k := by
    unfold cutD cutAt
    simp only
    rw [if_neg (by omega), Int.toNat_natCast, Nat.min_eq_left h, ← List.length_drop, List.take_length]
  rw [e]
def L1 (s : Int) (ns : List Int) : List D := [.non, .int 5, .tup [], .lst [.int s, .tup (di ns)], .tup [.int s, .lst (di ns)], .tup [.int (s + 1), .tup (di ns)], .tup [.int s, .tup (di ns ++ [.int 0])]]
def L2 (s : Int) (ns : List Int) : List D := [.tup [.int (2 * s), .tup (di (ns.map fun x => 2 * x))], .tup [.int s, .tup (di ns), .int 0], .tup (di ns), .tup [.bl true, .tup (di ns ++ [.int 0])]]
def odds (x : Int) : List D := [.int (x + 1), .int (-1 - x), .non, .str "1"]
def lastD (s : Int) (ns : List Int) (k : Nat) (o : D) : D := .tup [.int s, .tup ((di ns).take k ++ [o] ++ (di ns).drop (k + 1))]
theorem di_len (ns : List Int) : (di ns).length = ns.length := by unfold di; simp
theorem r32_ {m : Nat} (hm : 5 ≤ m) {k : Nat} (hk : k + 50 < 10 ^ 18) {st : Store} (h : Dr k st []) {many : Nat} (h1 : 1 ≤ many) (h8 : many ≤ 8) {p : Int × List Int} (hp : Sh many 240000 p) :
    ∃ (i : Nat) (hi : i < p.2.length) (o x : D) (st' : Store), o ∈ odds p.2[i] ∧ x ∈ L1 p.1 p.2 ++ L2 p.1 p.2 ++ [lastD p.1 p.2 i o, lastD p.1 p.2 i o, lastD p.1 p.2 i o] ∧ Dr (k + 3) st' [] ∧ callD P m 32 [.ref 1, .d (sh p)] st = .ok (.d x) st' := by
  obtain ⟨s, ns⟩ := p
  have len : ns.length = many := hp.len
  have ds8 : (di ns).length ≤ 8 := by rw [di_len]; omega
  obtain ⟨spot, s1, p0, p1, d1, c1⟩ := take (m := m - 1) (by omega) (by omega) h (n := (many : Int)) (by omega) (by unfold Sm; omega)
  obtain ⟨i, rfl⟩ : ∃ i : Nat, spot = (i : Int) := ⟨spot.toNat, by omega⟩
  have hi : i < ns.length := by omega
  obtain ⟨o, s2, o1, d2, c2⟩ := pick (m := m - 1) (by omega) (by omega) d1 (ds := odds ns[i]) (by simp [odds]) (by simp [odds])
  obtain ⟨x, s3, x1, d3, c3⟩ := pick (m := m - 1) (by omega) (by omega) d2 (ds := L1 s ns ++ L2 s ns ++ [lastD s ns i o, lastD s ns i o, lastD s ns i o]) (by simp [L1]) (by simp [L1, L2])
  refine ⟨i, hi, o, x, s3, o1, x1, d3, ?_⟩
  rw [go1 (by omega) (d := d32) rfl]
  have hlen : s3.length = st.length := by rw [d3.len, h.len]
  refine (runD_ret (w := .d x) (st1 := s3) rfl ?_).trans (handed_d' hlen)
  have ss : Sm s := by have := hp.pos; have := hp.top; simp only at *; unfold Sm; omega
  have sns : ∀ y ∈ ns, Sm y := fun y hy => by
    have := hp.nn y hy
    have := mem_le_sum hp.nn y hy
    have := hp.sum
    have := hp.top
    simp only at *
    unfold Sm; omega
  have sm2 : Sm 2 := by unfold Sm; decide
  have z1 : ∀ st, catW false (.d (.tup (di ns))) (.d (.tup [.int 0])) st = .ok (.d (.tup (di ns ++ [.int 0]))) st := fun st => cat_tup (by simp; omega)
  have z2 : ∀ st, catW false (.d (sh (s, ns))) (.d (.tup [.int 0])) st = .ok (.d (.tup [.int s, .tup (di ns), .int 0])) st := fun st => cat_tup (a := [.int s, .tup (di ns)]) (by simp)
  have i1 : ∀ st : Store, itemsW (.d (sh (s, ns))) st = some [.d (.int s), .d (.tup (di ns))] := fun st => rfl
  have i2 : ∀ st : Store, itemsW (.d (.tup (di ns))) st = some ((di ns).map W.d) := fun st => rfl
  have lo : ∀ st : Store, mkLst false ((di ns).map W.d) st = .ok (.d (.lst (di ns))) st := fun st => list_out (by omega)
  have t0 : ∀ st : Store, mkTup [] st = .ok (.d (.tup [])) st := fun st => mkTup_map (ds := []) (by simp)
  have e1 : ∀ st, mkLst false [.d .non, .d (.int 5), .d (.tup []), .d (.lst [.int s, .tup (di ns)]), .d (.tup [.int s, .lst (di ns)]), .d (.tup [.int (s + 1), .tup (di ns)]), .d (.tup [.int s, .tup (di ns ++ [.int 0])])] st = .ok (.d (.lst (L1 s ns))) st := fun st => list_out (ds := L1 s ns) (by simp [L1])
  have e2 : ∀ st, mkLst false [.d (.tup [.int (2 * s), .tup (di (ns.map fun x => 2 * x))]), .d (.tup [.int s, .tup (di ns), .int 0]), .d (.tup (di ns)), .d (.tup [.bl true, .tup (di ns ++ [.int 0])])] st = .ok (.d (.lst (L2 s ns))) st := fun st => list_out (ds := L2 s ns) (by simp [L2])
  have e3 : ∀ st, mkLst false [.d (.int (ns[i] + 1)), .d (.int (-1 - ns[i])), .d .non, .d (.str "1")] st = .ok (.d (.lst (odds ns[i]))) st := fun st => list_out (ds := odds ns[i]) (by simp [odds])
  have c12 : ∀ st, catW false (.d (.lst (L1 s ns))) (.d (.lst (L2 s ns))) st = .ok (.d (.lst (L1 s ns ++ L2 s ns))) st := fun st => cat_lst (by simp [L1, L2])
  have c123 : ∀ st, catW false (.d (.lst (L1 s ns ++ L2 s ns))) (.d (.lst [lastD s ns i o, lastD s ns i o, lastD s ns i o])) st = .ok (.d (.lst (L1 s ns ++ L2 s ns ++ [lastD s ns i o, lastD s ns i o, lastD s ns i o]))) st := fun st => cat_lst (by simp [L1, L2])
  have sl1 : ∀ st, slcW (.d (.tup (di ns))) none (some (i : Int)) st = .ok (.d (.tup ((di ns).take i))) st := slc_lo (by rw [di_len]; omega)
  have sl2 : ∀ st, slcW (.d (.tup (di ns))) (some ((i : Int) + 1)) none st = .ok (.d (.tup ((di ns).drop (i + 1)))) st := fun st => by
    have := slc_hi (l := di ns) (k := i + 1) (by rw [di_len]; omega) st
    exact this
  have tl : ((di ns).take i).length ≤ 8 := by rw [List.length_take]; omega
  have dl : ((di ns).drop (i + 1)).length ≤ 8 := by rw [List.length_drop]; omega
  have k1 : ∀ st, catW false (.d (.tup ((di ns).take i))) (.d (.tup [o])) st = .ok (.d (.tup ((di ns).take i ++ [o]))) st := fun st => cat_tup (by simp; omega)
  have k2 : ∀ st, catW false (.d (.tup ((di ns).take i ++ [o]))) (.d (.tup ((di ns).drop (i + 1)))) st = .ok (.d (.tup ((di ns).take i ++ [o] ++ (di ns).drop (i + 1)))) st := fun st => cat_tup (by rw [List.length_append]; simp; omega)
  have st0 : Mi.start d32 [.ref 1, .d (sh (s, ns))] = [some (.ref 1), some (.d (sh (s, ns))), none, none, none, none, none, none] := rfl
  have t1 : evS (P.ctx (m - 1)) (.setT (.t [.v 5, .v 6]) (.var 1)) [some (.ref 1), some (.d (sh (s, ns))), none, none, none, none, none, none] st = .ok (.nx [some (.ref 1), some (.d (sh (s, ns))), none, none, none, some (.d (.int s)), some (.d (.tup (di ns))), none]) st := by
    have a : asgT (.t [.v 5, .v 6]) (.d (sh (s, ns))) [some (.ref 1), some (.d (sh (s, ns))), none, none, none, none, none, none] st = some [some (.ref 1), some (.d (sh (s, ns))), none, none, none, some (.d (.int s)), some (.d (.tup (di ns))), none] := rfl
    simp only [s_setT_, e_var_, List.getElem?_cons_succ, List.getElem?_cons_zero, then_ok, a]
  have t2 : evS (P.ctx (m - 1)) (.set 2 (.call 19 (.cons (.var 0) (.cons (.blt .len (.cons (.var 6) (.nil))) (.nil))))) [some (.ref 1), some (.d (sh (s, ns))), none, none, none, some (.d (.int s)), some (.d (.tup (di ns))), none] st = .ok (.nx [some (.ref 1), some (.d (sh (s, ns))), some (.d (.int i)), none, none, some (.d (.int s)), some (.d (.tup (di ns))), none]) s1 := by
    simp only [s_set_, e_call_, e_blt_, e_var_, es_cons_, es_nil_, List.getElem?_cons_succ, List.getElem?_cons_zero, bind_ok, len_tup, di_len, len, ctx_call, c1, then_ok, List.set_cons_succ, List.set_cons_zero]
  have t3 : evS (P.ctx (m - 1)) (.set 3 (.lst false (.cons (.non) (.cons (.int 5) (.cons (.tup (.nil)) (.cons (.lstOf false (.var 1)) (.cons (.tup (.cons (.var 5) (.cons (.lstOf false (.var 6)) (.nil)))) (.cons (.tup (.cons (.op .add (.var 5) (.int 1)) (.cons (.var 6) (.nil)))) (.cons (.tup (.cons (.var 5) (.cons (.cat false (.var 6) (.tup (.cons (.int 0) (.nil)))) (.nil)))) (.nil)))))))))) [some (.ref 1), some (.d (sh (s, ns))), some (.d (.int i)), none, none, some (.d (.int s)), some (.d (.tup (di ns))), none] s1 = .ok (.nx [some (.ref 1), some (.d (sh (s, ns))), some (.d (.int i)), some (.d (.lst (L1 s ns))), none, some (.d (.int s)), some (.d (.tup (di ns))), none]) s1 := by
    simp only [s_set_, e_lst_, e_lstOf_, e_cat_, e_op_, op_add_, e_tup_, e_var_, e_non_, e_int__, es_cons_, es_nil_, List.getElem?_cons_succ, List.getElem?_cons_zero, bind_ok, t0, i1, i2, mkLst_2, lo, mkTup_1, mkTup_2, z1, e1, then_ok, List.set_cons_succ, List.set_cons_zero]
  have dbl := comp_seq (C := P.ctx (m - 1)) (env := [some (.ref 1), some (.d (sh (s, ns))), some (.d (.int i)), some (.d (.lst (L1 s ns))), none, some (.d (.int s)), some (.d (.tup (di ns))), none]) (st := s1) (a := .var 6) (elt := .op .mul (.int 2) (.var 7)) (i := 7) D.int (fun x => D.int (2 * x)) ns (.inr rfl) (by simp; rfl) (by omega) (fun y hy => by
    simp [op_mul_ (mul_ok sm2 (sns y hy))])
  have tupd : bltW .tuple [.d (.lst (ns.map fun x => D.int (2 * x)))] s1 = .ok (.d (.tup (di (ns.map fun x => 2 * x)))) s1 := by
    rw [tuple_lst (by simp; omega)]
    unfold di
    rw [List.map_map]; rfl
  have t4 : evS (P.ctx (m - 1)) (.set 3 (.cat false (.var 3) (.lst false (.cons (.tup (.cons (.op .mul (.int 2) (.var 5)) (.cons (.blt .tuple (.cons (.comp false (.op .mul (.int 2) (.var 7)) (.v 7) (.seq (.var 6)) (.nil)) (.nil))) (.nil)))) (.cons (.cat false (.var 1) (.tup (.cons (.int 0) (.nil)))) (.cons (.var 6) (.cons (.tup (.cons (.bl true) (.cons (.cat false (.var 6) (.tup (.cons (.int 0) (.nil)))) (.nil)))) (.nil)))))))) [some (.ref 1), some (.d (sh (s, ns))), some (.d (.int i)), some (.d (.lst (L1 s ns))), none, some (.d (.int s)), some (.d (.tup (di ns))), none] s1 = .ok (.nx [some (.ref 1), some (.d (sh (s, ns))), some (.d (.int i)), some (.d (.lst (L1 s ns ++ L2 s ns))), none, some (.d (.int s)), some (.d (.tup (di ns))), none]) s1 := by
    simp only [s_set_, e_lst_, e_cat_, e_op_, e_tup_, e_blt_, e_var_, e_bl_, e_int__, es_cons_, es_nil_, List.getElem?_cons_succ, List.getElem?_cons_zero, bind_ok, op_mul_ (mul_ok sm2 ss), dbl, tupd, mkTup_1, mkTup_2, z1, z2, e2, c12, then_ok, List.set_cons_succ, List.set_cons_zero]
  have xi := ix_di hi s1
  have t5 : evS (P.ctx (m - 1)) (.set 4 (.call 20 (.cons (.var 0) (.cons (.lst false (.cons (.op .add (.idx (.var 6) (.var 2)) (.int 1)) (.cons (.op .sub (.neg (.int 1)) (.idx (.var 6) (.var 2))) (.cons (.non) (.cons (.str "1") (.nil)))))) (.nil))))) [some (.ref 1), some (.d (sh (s, ns))), some (.d (.int i)), some (.d (.lst (L1 s ns ++ L2 s ns))), none, some (.d (.int s)), some (.d (.tup (di ns))), none] s1 = .ok (.nx [some (.ref 1), some (.d (sh (s, ns))), some (.d (.int i)), some (.d (.lst (L1 s ns ++ L2 s ns))), some (.d o), some (.d (.int s)), some (.d (.tup (di ns))), none]) s2 := by
    have ng : ∀ st, negW (.d (.int 1)) st = .ok (.d (.int (-1))) st := fun st => rfl
    simp only [s_set_, e_call_, e_lst_, e_op_, e_idx_, e_neg_, e_var_, e_non_, e_str_, e_int__, es_cons_, es_nil_, List.getElem?_cons_succ, List.getElem?_cons_zero, bind_ok, xi, ng, op_add_, op_sub_, e3, ctx_call, c2, then_ok, List.set_cons_succ, List.set_cons_zero]
  have t6 : evS (P.ctx (m - 1)) (.ret (.call 20 (.cons (.var 0) (.cons (.cat false (.var 3) (.rep false (.lst false (.cons (.tup (.cons (.var 5) (.cons (.cat false (.cat false (.slc (.var 6) (.non) (.var 2)) (.tup (.cons (.var 4) (.nil)))) (.slc (.var 6) (.op .add (.var 2) (.int 1)) (.non))) (.nil)))) (.nil))) (.int 3))) (.nil))))) [some (.ref 1), some (.d (sh (s, ns))), some (.d (.int i)), some (.d (.lst (L1 s ns ++ L2 s ns))), some (.d o), some (.d (.int s)), some (.d (.tup (di ns))), none] s2 = .ok (.ret (.d x)) s3 := by
    have pn : ∀ w, partW E.non.isNon w = some none := fun w => rfl
    have pv : ∀ j (z : Int), partW (E.var j).isNon (.d (.int z)) = some (some z) := fun j z => rfl
    have po : ∀ a b (z : Int), partW (E.op .add a b).isNon (.d (.int z)) = some (some z) := fun a b z => rfl
    simp only [s_ret_, e_call_, e_lst_, e_cat_, e_rep_, e_slc_, e_op_, e_tup_, e_var_, e_non_, e_int__, es_cons_, es_nil_, List.getElem?_cons_succ, List.getElem?_cons_zero, bind_ok, pn, pv, po, op_add_, sl1, sl2, mkTup_1, k1, k2, mkTup_2, mkLst_1, rep3]
    have cc := c123 s2
    unfold lastD at cc c3
    simp only [cc, bind_ok, ctx_call, c3, then_ok]
  rw [st0]
  unfold d32
  rw [ss_cons_, t1, next_nx, ss_cons_, t2, next_nx, ss_cons_, t3, next_nx, ss_cons_, t4, next_nx, ss_cons_, t5, next_nx, ss_cons_, t6, next_ret]
end K07
namespace K07
open Mi
/-! ### none of them is a share -/
theorem odd_bad {m : Nat} (hm : 6 ≤ m) {many : Nat} (h8 : many ≤ 8) {s : Int} {ns : List Int} (hp : Sh many 240000 (s, ns)) {i : Nat} (hi : i < ns.length) {o : D} (ho : o ∈ odds ns[i]) (st : Store) : callD P m 10 [.d (.int many), .d (lastD s ns i o)] st = .ok (.d (.bl false)) st := by
  have len : ns.length = many := hp.len
  have s1 : 1 ≤ s := hp.pos
  have top : s ≤ 240000 := hp.top
  have sum : ns.sum = s := hp.sum
  have nn := hp.nn
  have ll : ((di ns).take i ++ [o] ++ (di ns).drop (i + 1)).length = many := by
    simp only [List.length_append, List.length_take, List.length_drop, di_len, List.length_singleton]
    omega
  have parts : ∀ y, ∃ zs : List Int, zs = ns.take i ++ [y] ++ ns.drop (i + 1) ∧ (di ns).take i ++ [D.int y] ++ (di ns).drop (i + 1) = di zs ∧ zs.length = many ∧ zs.sum = s - ns[i] + y := fun y => by
    refine ⟨_, rfl, ?_, ?_, ?_⟩
    · unfold di; simp [List.map_take, List.map_drop]
    · simp only [List.length_append, List.length_take, List.length_drop, List.length_singleton]; omega
    · have e : ns.sum = (ns.take i).sum + (ns[i] + (ns.drop (i + 1)).sum) := by
        rw [← List.sum_cons, ← List.drop_eq_getElem_cons hi, ← List.sum_append, List.take_append_drop]
      simp only [List.sum_append, List.sum_cons, List.sum_nil]
      omega
  have ni : 0 ≤ ns[i] := nn _ (List.getElem_mem hi)
  have li : ns[i] ≤ s := by
    have := mem_le_sum nn _ (List.getElem_mem hi)
    simp only at this; omega
  have small : ∀ y : Int, y.natAbs ≤ 300000 → ∀ zs, zs = ns.take i ++ [y] ++ ns.drop (i + 1) → Sms zs := fun y hy zs e z hz => by
    rw [e] at hz
    have : z ∈ ns ∨ z = y := by
      rcases List.mem_append.mp hz with hz | hz
      · rcases List.mem_append.mp hz with hz | hz
        · exact .inl (List.mem_of_mem_take hz)
        · exact .inr (by simpa using hz)
      · exact .inl (List.mem_of_mem_drop hz)
    rcases this with h | rfl
    · have a := nn z h
      have b := mem_le_sum nn z h
      simp only at b
      unfold Sm; omega
    · unfold Sm; omega
  have row_no : ∀ o : D, isNum o = false → plainD o = true → callD P m 10 [.d (.int many), .d (lastD s ns i o)] st = .ok (.d (.bl false)) st := fun o h1 h2 => by
    refine n10_ (by omega) (n9d (by omega) s1 ?_ (fun ds e => ?_) ?_ st)
    · show List.all ((di ns).take i ++ [o] ++ (di ns).drop (i + 1)) plainD = true
      rw [List.all_eq_true]
      intro z hz
      rcases List.mem_append.mp hz with hz | hz
      · rcases List.mem_append.mp hz with hz | hz
        · obtain ⟨w, _, rfl⟩ := List.mem_map.mp (List.mem_of_mem_take hz); rfl
        · rw [List.mem_singleton.mp hz]; exact h2
      · obtain ⟨w, _, rfl⟩ := List.mem_map.mp (List.mem_of_mem_drop hz); rfl
    · cases e
      have := di_len ns
      simp only [List.length_append, List.length_take, List.length_drop, List.length_singleton]; omega
    · show (decide (((di ns).take i ++ [o] ++ (di ns).drop (i + 1)).length = many) && ((di ns).take i ++ [o] ++ (di ns).drop (i + 1)).all isNum) = false
      rw [List.all_append, List.all_append]
      simp [h1]
  have int_no : ∀ y : Int, y.natAbs ≤ 300000 → y ≠ ns[i] → callD P m 10 [.d (.int many), .d (lastD s ns i (.int y))] st = .ok (.d (.bl false)) st := fun y hy ne => by
    obtain ⟨zs, e0, e1, e2, e3⟩ := parts y
    have k := r10_ (m := m) (by omega) (a := s) (ns := zs) s1 (by unfold Sm; omega) (small y hy zs e0) (by omega) st
    rw [decide_eq_false (show ¬ zs.sum = s by omega), Bool.and_false, e2] at k
    unfold lastD
    rw [e1]
    exact k
  simp only [odds, List.mem_cons, List.not_mem_nil, or_false] at ho
  rcases ho with rfl | rfl | rfl | rfl
  · exact int_no _ (by omega) (by omega)
  · exact int_no _ (by omega) (by omega)
  · exact row_no _ rfl rfl
  · exact row_no _ rfl rfl
theorem bad_all {m : Nat} (hm : 6 ≤ m) {many : Nat} (h2 : 2 ≤ many) (h8 : many ≤ 8) {s : Int} {ns : List Int} (hp : Sh many 240000 (s, ns)) {i : Nat} (hi : i < ns.length) {o x : D} (ho : o ∈ odds ns[i]) (hx : x ∈ L1 s ns ++ L2 s ns ++ [lastD s ns i o, lastD s ns i o, lastD s ns i o]) (st : Store) : callD P m 10 [.d (.int many), .d x] st = .ok (.d (.bl false)) st := by
  have len : ns.length = many := hp.len
  have s1 : 1 ≤ s := hp.pos
  have top : s ≤ 240000 := hp.top
  have sum : ns.sum = s := hp.sum
  have nn := hp.nn
  have dl := di_len ns
  have ss : Sm s := by unfold Sm; omega
  have sns : Sms ns := fun y hy => by
    have a := nn y hy
    have b := mem_le_sum nn y hy
    simp only at b
    unfold Sm; omega
  have longer : plainT (.tup (di ns ++ [.int 0])) = true ∧ rowB many (.tup (di ns ++ [.int 0])) = false := by
    constructor
    · show List.all (di ns ++ [D.int 0]) plainD = true
      rw [List.all_append]
      have : (di ns).all plainD = true := List.all_eq_true.mpr fun z hz => by obtain ⟨w, _, rfl⟩ := List.mem_map.mp hz; rfl
      rw [this]; rfl
    · show (decide ((di ns ++ [D.int 0]).length = many) && _) = false
      rw [decide_eq_false (by rw [List.length_append, dl]; simp; omega)]
      rfl
  rcases List.mem_append.mp hx with hx | hx
  · rcases List.mem_append.mp hx with hx | hx
    · simp only [L1, List.mem_cons, List.not_mem_nil, or_false] at hx
      rcases hx with rfl | rfl | rfl | rfl | rfl | rfl | rfl
      · exact n10_ (by omega) (n9a (by omega) rfl (fun ds e => by cases e) many st)
      · exact n10_ (by omega) (n9a (by omega) rfl (fun ds e => by cases e) many st)
      · exact n10_ (by omega) (n9a (by omega) rfl (fun ds e => by cases e; simp) many st)
      · exact n10_ (by omega) (n9a (by omega) rfl (fun ds e => by cases e) many st)
      · exact n10_ (by omega) (n9d (by omega) s1 rfl (fun ds e => by cases e) rfl st)
      · have k := r10_ (m := m) (by omega) (a := s + 1) (ns := ns) (by omega) (by unfold Sm; omega) sns (by omega) st
        rw [decide_eq_false (show ¬ ns.sum = s + 1 by omega), Bool.and_false, len] at k
        exact k
      · exact n10_ (by omega) (n9d (by omega) s1 longer.1 (fun ds e => by cases e; rw [List.length_append, dl]; simp; omega) longer.2 st)
    · simp only [L2, List.mem_cons, List.not_mem_nil, or_false] at hx
      rcases hx with rfl | rfl | rfl | rfl
      · have k := r10_ (m := m) (by omega) (a := 2 * s) (ns := ns.map fun x => 2 * x) (by omega) (by unfold Sm; omega) (fun y hy => by
          obtain ⟨z, hz, rfl⟩ := List.mem_map.mp hy
          have a := nn z hz
          have b := mem_le_sum nn z hz
          simp only at b
          unfold Sm; omega) (by rw [List.length_map]; omega) st
        have g := gp_mul s ns (t := 2) (by decide)
        have low : gp s ns = 1 := hp.low
        rw [low] at g
        have e : gp (2 * s) (ns.map fun x => 2 * x) = gp (s * 2) (ns.map (· * 2)) := by
          rw [Int.mul_comm]
          congr 1
          exact List.map_congr_left fun x _ => Int.mul_comm 2 x
        rw [decide_eq_false (show ¬ gp (2 * s) (ns.map fun x => 2 * x) = 1 by rw [e]; omega), Bool.and_false, Bool.false_and, List.length_map, len] at k
        exact k
      · exact n10_ (by omega) (n9a (by omega) rfl (fun ds e => by cases e; simp) many st)
      · rcases ns with _ | ⟨a, _ | ⟨b, _ | ⟨c, r⟩⟩⟩
        · simp at len; omega
        · simp at len; omega
        · by_cases ha : 1 ≤ a
          · exact n10_ (by omega) (n9d (b := .int b) (by omega) ha rfl (fun ds e => by cases e) rfl st)
          · exact n10_ (by omega) (n9c (b := .int b) (by omega) (by omega) many st)
        · exact n10_ (by omega) (n9a (by omega) rfl (fun ds e => by cases e; simp [di]) many st)
      · exact n10_ (by omega) (n9b (by omega) rfl rfl many st)
  · have : x = lastD s ns i o := by simpa using hx
    subst this
    exact odd_bad hm h8 hp hi ho st
end K07
namespace K07
open Mi
open PySem (Str PyData)
/-! ### shown texts, likeness -/
structure Nice (p : PyData) (d n : Nat) : Prop where
  lay : p.canLay0 = true
  dep : p.depth ≤ d
  shw : p.showable = true
  txt : Fine p.shown n
theorem Nice.mono {p : PyData} {d n d' n' : Nat} (h : Nice p d n) (hd : d ≤ d') (hn : n ≤ n') : Nice p d' n' := ⟨h.lay, Nat.le_trans h.dep hd, h.shw, h.txt.mono hn⟩
theorem nice_int {i : Int} (h : Sm i) : Nice (.int i) 0 61 := ⟨rfl, Nat.le_refl _, log_show h, fine_int h⟩
theorem fine_join {n : Nat} : ∀ l : List Str, (∀ s ∈ l, Fine s n) → Fine (Str.join ", " l) (l.length * (n + 2))
  | [], _ => by
    show Fine (Str.ofString "") _
    exact (fine_of "" 0 (by decide)).mono (Nat.zero_le _)
  | [x], h => by
    show Fine x _
    exact (h x (by simp)).mono (by simp)
  | x :: y :: r, h => by
    show Fine (x ++ (", " : Str) ++ Str.join ", " (y :: r)) _
    have ih := fine_join (y :: r) fun s hs => h s (List.mem_cons_of_mem x hs)
    refine (((h x (by simp)).app (fine_of ", " 2 (by decide))).app ih).mono ?_
    simp only [List.length_cons, Nat.add_mul]
    omega
theorem nice_tup {d n : Nat} (ps : List PyData) (h : ∀ p ∈ ps, Nice p d n) : Nice (.tuple ps) (d + 1) (ps.length * (n + 2) + 3) where
  lay := by
    show PyData.canLayAll0 ps = true
    induction ps with
    | nil => rfl
    | cons p ps ih =>
      show (p.canLay0 && PyData.canLayAll0 ps) = true
      rw [(h p (by simp)).lay, ih fun q hq => h q (List.mem_cons_of_mem p hq)]; rfl
  dep := by
    show PyData.depthAll ps + 1 ≤ d + 1
    have : PyData.depthAll ps ≤ d := by
      induction ps with
      | nil => exact Nat.zero_le _
      | cons p ps ih =>
        show max p.depth (PyData.depthAll ps) ≤ d
        have := (h p (by simp)).dep
        have := ih fun q hq => h q (List.mem_cons_of_mem p hq)
        omega
    omega
  shw := by
    show PyData.showableAll ps = true
    induction ps with
    | nil => rfl
    | cons p ps ih =>
      show (p.showable && PyData.showableAll ps) = true
      rw [(h p (by simp)).shw, ih fun q hq => h q (List.mem_cons_of_mem p hq)]; rfl
  txt := by
    rw [PyData.shown_tuple]
    have j : Fine (Str.join ", " (PyData.shownAll ps)) (ps.length * (n + 2)) := by
      have := fine_join (n := n) (PyData.shownAll ps) (by
        intro s hs
        have gen : ∀ ps : List PyData, (∀ p ∈ ps, Nice p d n) → s ∈ PyData.shownAll ps → Fine s n := by
          intro ps
          induction ps with
          | nil => intro _ hs; rw [PyData.shownAll_nil] at hs; cases hs
          | cons p ps ih =>
            intro h hs
            rw [PyData.shownAll_cons] at hs
            rcases List.mem_cons.mp hs with rfl | hs
            · exact (h p (by simp)).txt
            · exact ih (fun q hq => h q (List.mem_cons_of_mem p hq)) hs
        exact gen ps h hs)
      rwa [PyData.shownAll_length] at this
    have e : Fine (Str.ofString (if ps.length == 1 then ",)" else ")")) 2 := by
      split
      · exact fine_of _ 2 (by decide)
      · exact fine_of _ 2 (by decide)
    exact (((fine_of "(" 1 (by decide)).app j).app e).mono (by omega)
def shP (p : Int × List Int) : PyData := .tuple [.int p.1, .tuple (p.2.map PyData.int)]
theorem toP_sh (p : Int × List Int) : toP (sh p) = some (shP p) := by
  unfold sh shP di
  simp only [toP, toPs, toPs_ints]
theorem nice_sh {p : Int × List Int} (h1 : Sm p.1) (h2 : Sms p.2) (hl : p.2.length ≤ 8) : Nice (shP p) 2 1028 := by
  have a := nice_tup (d := 0) (n := 61) (p.2.map PyData.int) (fun q hq => by
    obtain ⟨x, hx, rfl⟩ := List.mem_map.mp hq
    exact nice_int (h2 x hx))
  rw [List.length_map] at a
  have a' := a.mono (d' := 1) (n' := 510) (Nat.le_refl _) (by omega)
  exact (nice_tup (d := 1) (n := 510) [.int p.1, .tuple (p.2.map PyData.int)] (fun q hq => by
    simp at hq
    rcases hq with rfl | rfl
    · exact (nice_int h1).mono (by decide) (by decide)
    · exact a')).mono (Nat.le_refl _) (by simp)
theorem lp_sh {S : Int} (hS : Wh S) {xs : List Int} (h : Pts S xs) (hl : xs.length ≤ 8) : Nice (shP (lp S xs)) 2 1028 := by
  have s := lp_sms hS h
  refine nice_sh s.2 (fun x hx => ?_) (by rw [lp_len]; exact hl)
  have nn := lp_nonneg hS.1 h.1
  have a := nn x hx
  have b := mem_le_sum nn x hx
  have c := s.1
  unfold Sm at *
  omega
def apP (p q : Int × List Int) : PyData := .tuple [shP (lp (p.1 * q.1) (both (hr p q) (hr q p))), shP (lp (p.1 * q.1) (more (hr p q) (hr q p))), shP (lp (p.1 * q.1) (more (hr q p) (hr p q)))]
theorem nice_ap {many : Nat} {p q : Int × List Int} (h : Two many p q) (h8 : many ≤ 8) : Nice (apP p q) 3 4000 := by
  have w := h.wh
  have le := hr_eq h.one h.two
  have l1 : (hr p q).length ≤ 8 := by rw [hr_len, h.one.len]; exact h8
  refine (nice_tup (d := 2) (n := 1028) _ (fun z hz => ?_)).mono (Nat.le_refl _) (by simp)
  simp at hz
  rcases hz with rfl | rfl | rfl
  · exact lp_sh w (both_pts h) (by rw [len_both le]; exact l1)
  · exact lp_sh w (more_pts h) (by rw [len_more le]; exact l1)
  · exact lp_sh w (more_pts' h) (by rw [len_more le.symm]; omega)
theorem nice_show {p : PyData} {d n : Nat} (h : Nice p d n) (hd : d ≤ 64) (hn : n ≤ 10000) : showP p = true := by
  refine show_of ?_ h.shw h.txt hn
  unfold PySem.SeqAt.shaped
  rw [h.lay, decide_eq_true (Nat.le_trans h.dep hd)]; rfl
theorem toP_ap (p q : Int × List Int) : toP (apD p q) = some (apP p q) := by
  unfold apD apP
  rw [toP]
  simp only [toPs, toP_sh]
theorem rep_ap {many : Nat} {p q : Int × List Int} (h : Two many p q) (h8 : many ≤ 8) (st : Store) : bltW .repr [.d (apD p q)] st = .ok (.d (.str (apP p q).shown)) st :=
  rep_tup (toP_ap p q) (nice_show (nice_ap h h8) (by decide) (by decide))
theorem eqW_bl (k a b : Bool) (st : Store) : eqW k (.d (.bl a)) (.d (.bl b)) st = .ok (.d (.bl ((a == b) != k))) st := by
  unfold eqW
  rw [rd_d, rd_d]
  have e : pyEq (.bl a) (.bl b) = some (a == b) := by
    unfold pyEq
    have h : ∀ x : Bool, PySem.SeqAt.shaped (.bool x) = true := fun x => rfl
    have t : ∀ x : Bool, toP (.bl x) = some (.bool x) := fun x => rfl
    rw [t, t]
    simp only [h, Bool.and_self, if_true]
    rfl
  simp only [e]
theorem shaped_ok {p : PyData} {d n : Nat} (h : Nice p d n) (hd : d ≤ 64) : PySem.SeqAt.shaped p = true := by
  unfold PySem.SeqAt.shaped
  rw [h.lay, decide_eq_true (Nat.le_trans h.dep hd)]; rfl
theorem eqv_ints : ∀ xs ys : List Int, PyData.eqvAll (xs.map PyData.int) (ys.map PyData.int) = decide (xs = ys)
  | [], [] => rfl
  | [], _ :: _ => rfl
  | _ :: _, [] => rfl
  | x :: xs, y :: ys => by
    have ih := eqv_ints xs ys
    show ((x == y) && PyData.eqvAll (xs.map PyData.int) (ys.map PyData.int)) = _
    rw [ih]
    by_cases h : x = y
    · subst h; simp
    · simp [h]
theorem eq_sh {p q : Int × List Int} (hp : Nice (shP p) 2 1028) (hq : Nice (shP q) 2 1028) (k : Bool) (st : Store) : eqW k (.d (sh p)) (.d (sh q)) st = .ok (.d (.bl (decide (p = q) != k))) st := by
  unfold eqW
  rw [rd_d, rd_d]
  have e : pyEq (sh p) (sh q) = some (decide (p = q)) := by
    unfold pyEq
    rw [toP_sh, toP_sh]
    simp only [shaped_ok hp (by decide), shaped_ok hq (by decide), Bool.and_self, if_true]
    have v : PyData.eqv (shP p) (shP q) = ((p.1 == q.1) && (PyData.eqvAll (p.2.map PyData.int) (q.2.map PyData.int) && true)) := by
      unfold shP
      simp only [PyData.eqv, PyData.eqvAll]
    rw [v, eqv_ints]
    obtain ⟨a, b⟩ := p
    obtain ⟨c, d⟩ := q
    by_cases h : a = c <;> by_cases h2 : b = d <;> simp [h, h2]
  simp only [e]
theorem eq_enc2 (r s : Int × Int) (k : Bool) (st : Store) : eqW k (.d (enc r)) (.d (enc s)) st = .ok (.d (.bl (decide (r = s) != k))) st := by
  unfold eqW
  rw [rd_d, rd_d]
  have e : pyEq (enc r) (enc s) = some (decide (r = s)) := by
    unfold pyEq
    have sp : ∀ r, PySem.SeqAt.shaped (pe r) = true := fun r => rfl
    rw [toP_enc, toP_enc]
    simp only [sp, Bool.and_self, if_true]
    have v : PyData.eqv (pe r) (pe s) = ((r.1 == s.1) && ((r.2 == s.2) && true)) := by
      unfold pe
      simp only [PyData.eqv, PyData.eqvAll]
    rw [v]
    obtain ⟨a, b⟩ := r
    obtain ⟨c, d⟩ := s
    by_cases h : a = c <;> by_cases h2 : b = d <;> simp [h, h2]
  simp only [e]
theorem eq_nil (xs : List Int) (k : Bool) (st : Store) : eqW k (.d (.lst (di xs))) (.d (.lst [])) st = .ok (.d (.bl (decide (xs = []) != k))) st := by
  unfold eqW
  rw [rd_d, rd_d]
  have e : pyEq (.lst (di xs)) (.lst []) = some (decide (xs = [])) := by
    unfold pyEq
    have e3 : toP (.lst (di xs)) = some (.list (xs.map PyData.int)) := by
      unfold toP di; rw [toPs_ints]
    have e4 : toP (.lst []) = some (.list []) := rfl
    rw [e3, e4]
    have dep0 : ∀ ls : List Int, PyData.depthAll (ls.map PyData.int) = 0 := fun ls => by
      induction ls with
      | nil => rfl
      | cons l ls ih =>
        rw [List.map_cons]
        show max 0 (PyData.depthAll (ls.map PyData.int)) = 0
        rw [ih]; rfl
    have e5 : PySem.SeqAt.shaped (.list (xs.map PyData.int)) = true := by
      unfold PySem.SeqAt.shaped
      rw [decide_eq_true (show PyData.depth (.list (xs.map PyData.int)) ≤ 64 by show PyData.depthAll (xs.map PyData.int) + 1 ≤ 64; rw [dep0]; omega)]
      show (PyData.canLayAll0 _ && true) = true
      rw [lay_ints]; rfl
    have e6 : PySem.SeqAt.shaped (.list []) = true := rfl
    simp only [e5, e6, Bool.and_self, if_true]
    have := eqv_ints xs []
    show some (PyData.eqvAll (xs.map PyData.int) []) = _
    rw [show ([] : List PyData) = ([] : List Int).map PyData.int from rfl, this]
  simp only [e]
end K07
namespace K07
open Mi
open PySem (Str PyData)
/-! ### a turn of the law, statement by statement -/

def lb1 : S := .set 3 (.call 31 (.cons (.var 1) (.cons (.int 8) (.nil))))
def lb2 : S := .setT (.t [.v 12, .v 13, .v 14]) (.tup (.cons (.call 30 (.cons (.var 1) (.cons (.var 3) (.nil)))) (.cons (.call 30 (.cons (.var 1) (.cons (.var 3) (.nil)))) (.cons (.call 30 (.cons (.var 1) (.cons (.var 3) (.nil)))) (.nil)))))
def lb3 : S := .ifs (.cmp .eq (.call 19 (.cons (.var 1) (.cons (.int 3) (.nil)))) (.int 0)) (.cons (.set 13 (.call 14 (.cons (.var 3) (.cons (.lst false (.cons (.var 12) (.cons (.var 13) (.nil)))) (.cons (.lst false (.cons (.op .add (.int 1) (.call 19 (.cons (.var 1) (.cons (.int 9) (.nil))))) (.cons (.int 1) (.nil)))) (.nil)))))) (.nil)) (.nil)
def lb4 : S := .par [15, 16] (.cons (.call 28 (.cons (.var 12) (.nil))) (.cons (.call 28 (.cons (.var 13) (.nil))) (.nil)))
def lb5 : S := .set 4 (.comp false (.call 33 (.cons (.idx (.var 17) (.int 0)) (.cons (.idx (.var 17) (.int 1)) (.nil)))) (.v 17) (.zipL (.var 15) (.var 16)) (.nil))
def lb6 : S := .set 5 (.comp false (.call 25 (.cons (.idx (.var 17) (.int 0)) (.cons (.idx (.var 17) (.int 1)) (.nil)))) (.v 17) (.zipL (.var 15) (.var 4)) (.nil))
def lb7 : S := .set 6 (.comp false (.call 25 (.cons (.idx (.var 17) (.int 0)) (.cons (.idx (.var 17) (.int 1)) (.nil)))) (.v 17) (.zipL (.var 16) (.var 4)) (.nil))
def lb8 : S := .set 7 (.callk 16 (.cons (.var 3) (.cons (.var 12) (.nil))) (.cons (.var 13) (.nil)) [0, 1, 2])
def lb9 : S := .ifs (.cmp .ne (.blt .repr (.cons (.var 7) (.nil))) (.blt .repr (.cons (.tup (.cons (.call 29 (.cons (.var 4) (.nil))) (.cons (.call 29 (.cons (.var 5) (.nil))) (.cons (.call 29 (.cons (.var 6) (.nil))) (.nil))))) (.nil)))) (.cons (.ret (.bl false)) (.nil)) (.nil)
def lb10 : S := .set 8 (.callk 15 (.cons (.var 3) (.cons (.var 12) (.nil))) (.cons (.var 13) (.nil)) [0, 1, 2])
def lb11 : S := .ifs (.bool false (.cons (.cmp .ne (.blt .repr (.cons (.var 8) (.nil))) (.blt .repr (.cons (.call 26 (.cons (.var 5) (.nil))) (.nil)))) (.cons (.cmp .ne (.call 15 (.cons (.var 3) (.cons (.var 13) (.cons (.var 12) (.nil))))) (.var 8)) (.cons (.call 23 (.cons (.tup (.cons (.int 1) (.cons (.int 1) (.nil)))) (.cons (.var 8) (.nil)))) (.nil))))) (.cons (.ret (.bl false)) (.nil)) (.nil)
def lb12 : S := .ifs (.bool false (.cons (.cmp .ne (.cmp .eq (.var 8) (.tup (.cons (.int 0) (.cons (.int 1) (.nil))))) (.cmp .eq (.var 12) (.var 13))) (.cons (.cmp .ne (.cmp .eq (.var 8) (.tup (.cons (.int 1) (.cons (.int 1) (.nil))))) (.cmp .eq (.comp false (.int 1) (.v 18) (.seq (.var 4)) (.cons (.cmp .gt (.idx (.var 18) (.int 0)) (.int 0)) (.nil))) (.lst false (.nil)))) (.nil)))) (.cons (.ret (.bl false)) (.nil)) (.nil)
def lb13 : S := .ifs (.cmp .ne (.call 15 (.cons (.var 3) (.cons (.var 12) (.cons (.var 12) (.nil))))) (.tup (.cons (.int 0) (.cons (.int 1) (.nil))))) (.cons (.ret (.bl false)) (.nil)) (.nil)
def lb14 : S := .set 9 (.call 24 (.cons (.call 15 (.cons (.var 3) (.cons (.var 12) (.cons (.var 14) (.nil))))) (.cons (.call 15 (.cons (.var 3) (.cons (.var 14) (.cons (.var 13) (.nil))))) (.nil))))
def lb15 : S := .ifs (.call 23 (.cons (.var 9) (.cons (.var 8) (.nil)))) (.cons (.ret (.bl false)) (.nil)) (.nil)
def lb16 : S := .set 10 (.call 32 (.cons (.var 1) (.cons (.var 12) (.nil))))
def lb17 : S := .ifs (.cmp .eq (.var 3) (.int 1)) (.cons (.set 10 (.non)) (.nil)) (.nil)
def lb18 : S := .for_ (.v 11) (.seq (.lst false (.cons (.fnv 15) (.cons (.fnv 16) (.nil))))) (.cons (.ifs (.not (.isin (.caught (.callv 11 (.cons (.call 20 (.cons (.var 1) (.cons (.lst false (.cons (.int 0) (.cons (.int 9) (.cons (.non) (.cons (.bl true) (.nil)))))) (.nil)))) (.cons (.var 10) (.cons (.non) (.nil)))))) [.exc 1])) (.cons (.ret (.bl false)) (.nil)) (.nil)) (.cons (.ifs (.not (.isin (.caught (.callv 11 (.cons (.var 3) (.cons (.var 10) (.cons (.non) (.nil)))))) [.exc 2])) (.cons (.ret (.bl false)) (.nil)) (.nil)) (.cons (.ifs (.not (.isin (.caught (.callv 11 (.cons (.var 3) (.cons (.var 12) (.cons (.var 10) (.nil)))))) [.exc 2])) (.cons (.ret (.bl false)) (.nil)) (.nil)) (.nil))))
def lawB : Ss := .cons lb1 (.cons lb2 (.cons lb3 (.cons lb4 (.cons lb5 (.cons lb6 (.cons lb7 (.cons lb8 (.cons lb9 (.cons lb10 (.cons lb11 (.cons lb12 (.cons lb13 (.cons lb14 (.cons lb15 (.cons lb16 (.cons lb17 (.cons lb18 (.nil))))))))))))))))))

def ar (p q r : Int × List Int) : Int × Int := nr ((nr (more (hr p r) (hr r p)).sum (p.1 * r.1)).1 * (nr (more (hr r q) (hr q r)).sum (r.1 * q.1)).2 + (nr (more (hr r q) (hr q r)).sum (r.1 * q.1)).1 * (nr (more (hr p r) (hr r p)).sum (p.1 * r.1)).2) ((nr (more (hr p r) (hr r p)).sum (p.1 * r.1)).2 * (nr (more (hr r q) (hr q r)).sum (r.1 * q.1)).2)
section
variable {m many : Nat} {p q r : Int × List Int} {a : D} {e2 e3 e4 e5 e6 e7 e8 e9 e10 e11 e12 e13 e14 e15 e16 e17 e18 : Option W} {st : Store}
theorem up {s : Int × List Int} (h : Sh many 240000 s) : Sh many (10 ^ 12) s := ⟨h.pos, h.len, h.nn, h.sum, h.low, Int.le_trans h.top (by decide)⟩

theorem t1_ (hm : 8 ≤ m) {k : Nat} (hk : k < 10 ^ 17) (h : Dr k st []) : ∃ (many : Nat) (st' : Store), 1 ≤ many ∧ many ≤ 8 ∧ Dr (k + 1) st' [] ∧ evS (P.ctx m) lb1 [some (.d a), some (.ref 1), e2, e3, e4, e5, e6, e7, e8, e9, e10, e11, e12, e13, e14, e15, e16, e17, e18] st = .ok (.nx [some (.d a), some (.ref 1), e2, some (.d (.int many)), e4, e5, e6, e7, e8, e9, e10, e11, e12, e13, e14, e15, e16, e17, e18]) st' := by
  obtain ⟨many, st', h1, h8, d, c⟩ := r31_ (m := m) (by omega) (by omega) h
  refine ⟨many, st', h1, h8, d, ?_⟩
  unfold lb1
  simp only [s_set_, e_call_, e_var_, e_int__, es_cons_, es_nil_, List.getElem?_cons_succ, List.getElem?_cons_zero, bind_ok, ctx_call, c, then_ok, List.set_cons_succ, List.set_cons_zero]

theorem t2_ (hm : 8 ≤ m) {k : Nat} (hk : k < 10 ^ 17) (h1 : 1 ≤ many) (h8 : many ≤ 8) (h : Dr k st []) : ∃ (p q r : Int × List Int) (st' : Store), Sh many 240000 p ∧ Sh many 240000 q ∧ Sh many 240000 r ∧ Dr (k + 60) st' [] ∧ evS (P.ctx m) lb2 [some (.d a), some (.ref 1), e2, some (.d (.int many)), e4, e5, e6, e7, e8, e9, e10, e11, e12, e13, e14, e15, e16, e17, e18] st = .ok (.nx [some (.d a), some (.ref 1), e2, some (.d (.int many)), e4, e5, e6, e7, e8, e9, e10, e11, some (.d (sh p)), some (.d (sh q)), some (.d (sh r)), e15, e16, e17, e18]) st' := by
  obtain ⟨p, s1, hp, d1, c1⟩ := r30_ (m := m) (by omega) (by omega) h h1 h8
  obtain ⟨q, s2, hq, d2, c2⟩ := r30_ (m := m) (by omega) (by omega) d1 h1 h8
  obtain ⟨r, s3, hr, d3, c3⟩ := r30_ (m := m) (by omega) (by omega) d2 h1 h8
  refine ⟨p, q, r, s3, hp, hq, hr, d3, ?_⟩
  have asg : asgT (.t [.v 12, .v 13, .v 14]) (.d (.tup [sh p, sh q, sh r])) [some (.d a), some (.ref 1), e2, some (.d (.int many)), e4, e5, e6, e7, e8, e9, e10, e11, e12, e13, e14, e15, e16, e17, e18] s3 = some [some (.d a), some (.ref 1), e2, some (.d (.int many)), e4, e5, e6, e7, e8, e9, e10, e11, some (.d (sh p)), some (.d (sh q)), some (.d (sh r)), e15, e16, e17, e18] := rfl
  unfold lb2
  simp only [s_setT_, e_tup_, e_call_, e_var_, es_cons_, es_nil_, List.getElem?_cons_succ, List.getElem?_cons_zero, bind_ok, ctx_call, c1, c2, c3, mkTup_3, then_ok, asg]

theorem t3_ (hm : 8 ≤ m) {k : Nat} (hk : k < 10 ^ 17) (h1 : 1 ≤ many) (h8 : many ≤ 8) (hp : Sh many 240000 p) (hq : Sh many 240000 q) (h : Dr k st []) : ∃ (q' : Int × List Int) (st' : Store), Two many p q' ∧ Dr (k + 2) st' [] ∧ evS (P.ctx m) lb3 [some (.d a), some (.ref 1), e2, some (.d (.int many)), e4, e5, e6, e7, e8, e9, e10, e11, some (.d (sh p)), some (.d (sh q)), some (.d (sh r)), e15, e16, e17, e18] st = .ok (.nx [some (.d a), some (.ref 1), e2, some (.d (.int many)), e4, e5, e6, e7, e8, e9, e10, e11, some (.d (sh p)), some (.d (sh q')), some (.d (sh r)), e15, e16, e17, e18]) st' := by
  obtain ⟨x, s1, _, _, d1, c1⟩ := take (m := m) (by omega) (by omega) h (n := 3) (by decide) (by unfold Sm; decide)
  by_cases z : x = 0
  · obtain ⟨y, s2, y0, y9, d2, c2⟩ := take (m := m) (by omega) (by omega) d1 (n := 9) (by decide) (by unfold Sm; decide)
    have mx := mix_sh (v := 1 + y) (by omega) (by omega) hp hq
    have c3 := r14_ (m := m) (by omega) (v := 1 + y) (by omega) (by omega) h1 h8 hp hq s2
    refine ⟨_, s2, ⟨up hp, mx, by omega⟩, d2, ?_⟩
    unfold lb3
    simp only [s_ifs_, t_cmp_, e_call_, e_lst_, e_op_, op_add_, e_var_, e_int__, es_cons_, es_nil_, List.getElem?_cons_succ, List.getElem?_cons_zero, bind_ok, ctx_call, c1, z, cmp_eq_, eqW_int, decide_true, Bool.true_bne, Bool.not_false, tru_bl, then_ok, if_true, ss_cons_, ss_nil_, s_set_, mkLst_2, c2, c3, next_nx, List.set_cons_succ, List.set_cons_zero]
  · refine ⟨q, s1, ⟨up hp, up hq, by omega⟩, d1.mono (by omega), ?_⟩
    unfold lb3
    simp only [s_ifs_, t_cmp_, e_call_, e_var_, e_int__, es_cons_, es_nil_, List.getElem?_cons_succ, List.getElem?_cons_zero, bind_ok, ctx_call, c1, cmp_eq_, eqW_int, z, decide_false, Bool.false_bne, tru_bl, then_ok, Bool.false_eq_true, if_false, ss_nil_]

theorem rows_here (T : Two many p q) : p.2.map (er p.1) = (hr p q).map (er (p.1 * q.1)) := by
  unfold hr
  rw [List.map_map]
  exact List.map_congr_left fun x _ => by
    show er p.1 x = er (p.1 * q.1) (x * q.1)
    unfold er
    rw [nr_scale (by have := T.one.pos; omega) (by have := T.two.pos; omega)]
theorem rows_there (T : Two many p q) : q.2.map (er q.1) = (hr q p).map (er (p.1 * q.1)) := by
  rw [rows_here T.swap, Int.mul_comm]
theorem zw_er (S : Int) (f : Int → Int → Int) (xs ys : List Int) : List.zipWith (fun x y => er S (f x y)) xs ys = (List.zipWith f xs ys).map (er S) := by rw [List.map_zipWith]
theorem mem_zip {xs ys : List Int} {z : Int × Int} (h : z ∈ xs.zip ys) : z.1 ∈ xs ∧ z.2 ∈ ys := List.of_mem_zip h
theorem pair_ix (x y : D) (st : Store) : idxW (.d (.tup [x, y])) (.d (.int 0)) st = .ok (.d x) st ∧ idxW (.d (.tup [x, y])) (.d (.int 1)) st = .ok (.d y) st := ⟨ix0 _ _ _, ix1 _ _ _ _⟩

theorem t4_ (hm : 8 ≤ m) (T : Two many p q) (h8 : many ≤ 8) : evS (P.ctx m) lb4 [some (.d a), some (.ref 1), e2, some (.d (.int many)), e4, e5, e6, e7, e8, e9, e10, e11, some (.d (sh p)), some (.d (sh q)), some (.d (sh r)), e15, e16, e17, e18] st = .ok (.nx [some (.d a), some (.ref 1), e2, some (.d (.int many)), e4, e5, e6, e7, e8, e9, e10, e11, some (.d (sh p)), some (.d (sh q)), some (.d (sh r)), some (.d (.lst ((hr p q).map (er (p.1 * q.1))))), some (.d (.lst ((hr q p).map (er (p.1 * q.1))))), e17, e18]) st := by
  obtain ⟨a1, a2⟩ := sh_sm T
  obtain ⟨b1, b2⟩ := sh_sm T.swap
  have c1 := r28_ (m := m) (by omega) (p := p) (by have := T.one.pos; omega) a1 a2 (by rw [T.one.len]; omega) st
  have c2 := r28_ (m := m) (by omega) (p := q) (by have := T.two.pos; omega) b1 b2 (by rw [T.two.len]; omega) st
  rw [rows_here T] at c1
  rw [rows_there T] at c2
  unfold lb4
  simp only [s_par_, e_call_, e_var_, es_cons_, es_nil_, List.getElem?_cons_succ, List.getElem?_cons_zero, bind_ok, ctx_call, c1, c2, then_ok, parSet, List.set_cons_succ, List.set_cons_zero]

theorem t5_ (hm : 8 ≤ m) (T : Two many p q) (h8 : many ≤ 8) : evS (P.ctx m) lb5 [some (.d a), some (.ref 1), e2, some (.d (.int many)), e4, e5, e6, e7, e8, e9, e10, e11, some (.d (sh p)), some (.d (sh q)), some (.d (sh r)), some (.d (.lst ((hr p q).map (er (p.1 * q.1))))), some (.d (.lst ((hr q p).map (er (p.1 * q.1))))), e17, e18] st = .ok (.nx [some (.d a), some (.ref 1), e2, some (.d (.int many)), some (.d (.lst ((both (hr p q) (hr q p)).map (er (p.1 * q.1))))), e5, e6, e7, e8, e9, e10, e11, some (.d (sh p)), some (.d (sh q)), some (.d (sh r)), some (.d (.lst ((hr p q).map (er (p.1 * q.1))))), some (.d (.lst ((hr q p).map (er (p.1 * q.1))))), e17, e18]) st := by
  have le := hr_eq T.one T.two
  have l1 : (hr p q).length ≤ 8 := by rw [hr_len, T.one.len]; exact h8
  have lb := len_both le
  have c := comp_zipN (C := P.ctx m) (env := [some (.d a), some (.ref 1), e2, some (.d (.int many)), e4, e5, e6, e7, e8, e9, e10, e11, some (.d (sh p)), some (.d (sh q)), some (.d (sh r)), some (.d (.lst ((hr p q).map (er (p.1 * q.1))))), some (.d (.lst ((hr q p).map (er (p.1 * q.1))))), e17, e18]) (st := st) (a := .var 15) (b := .var 16) (elt := .call 33 (.cons (.idx (.var 17) (.int 0)) (.cons (.idx (.var 17) (.int 1)) (.nil)))) (i := 17) (er (p.1 * q.1)) (er (p.1 * q.1)) (fun x y => er (p.1 * q.1) (mn x y)) (hr p q) (hr q p) (by omega) (by simp) (by simp) (by omega) (fun z hz => by
    obtain ⟨z1, z2⟩ := mem_zip hz
    have k := r33_ (m := m) (by omega) T.wh ((hr_pts T).pt _ z1) ((hr_pts' T).pt _ z2) st
    obtain ⟨i0, i1⟩ := pair_ix (er (p.1 * q.1) z.1) (er (p.1 * q.1) z.2) st
    simp only [e_call_, e_idx_, e_var_, e_int__, es_cons_, es_nil_, List.set_cons_succ, List.set_cons_zero, List.getElem?_cons_succ, List.getElem?_cons_zero, bind_ok, i0, i1, ctx_call]
    exact k)
  rw [zw_er] at c
  change evE _ _ _ _ = .ok (.d (.lst ((both (hr p q) (hr q p)).map (er (p.1 * q.1))))) st at c
  unfold lb5
  rw [s_set_, c]
  simp only [then_ok, List.set_cons_succ, List.set_cons_zero]

theorem t6_ (hm : 8 ≤ m) (T : Two many p q) (h8 : many ≤ 8) : evS (P.ctx m) lb6 [some (.d a), some (.ref 1), e2, some (.d (.int many)), some (.d (.lst ((both (hr p q) (hr q p)).map (er (p.1 * q.1))))), e5, e6, e7, e8, e9, e10, e11, some (.d (sh p)), some (.d (sh q)), some (.d (sh r)), some (.d (.lst ((hr p q).map (er (p.1 * q.1))))), some (.d (.lst ((hr q p).map (er (p.1 * q.1))))), e17, e18] st = .ok (.nx [some (.d a), some (.ref 1), e2, some (.d (.int many)), some (.d (.lst ((both (hr p q) (hr q p)).map (er (p.1 * q.1))))), some (.d (.lst ((more (hr p q) (hr q p)).map (er (p.1 * q.1))))), e6, e7, e8, e9, e10, e11, some (.d (sh p)), some (.d (sh q)), some (.d (sh r)), some (.d (.lst ((hr p q).map (er (p.1 * q.1))))), some (.d (.lst ((hr q p).map (er (p.1 * q.1))))), e17, e18]) st := by
  have le := hr_eq T.one T.two
  have l1 : (hr p q).length ≤ 8 := by rw [hr_len, T.one.len]; exact h8
  have lb := len_both le
  have c := comp_zipN (C := P.ctx m) (env := [some (.d a), some (.ref 1), e2, some (.d (.int many)), some (.d (.lst ((both (hr p q) (hr q p)).map (er (p.1 * q.1))))), e5, e6, e7, e8, e9, e10, e11, some (.d (sh p)), some (.d (sh q)), some (.d (sh r)), some (.d (.lst ((hr p q).map (er (p.1 * q.1))))), some (.d (.lst ((hr q p).map (er (p.1 * q.1))))), e17, e18]) (st := st) (a := .var 15) (b := .var 4) (elt := .call 25 (.cons (.idx (.var 17) (.int 0)) (.cons (.idx (.var 17) (.int 1)) (.nil)))) (i := 17) (er (p.1 * q.1)) (er (p.1 * q.1)) (fun x y => er (p.1 * q.1) (x - y)) (hr p q) (both (hr p q) (hr q p)) (by omega) (by simp) (by simp) (by omega) (fun z hz => by
    obtain ⟨z1, z2⟩ := mem_zip hz
    have k := sub_at (m := m) (by omega) T.wh ((hr_pts T).pt _ z1) ((both_pts T).pt _ z2) st
    obtain ⟨i0, i1⟩ := pair_ix (er (p.1 * q.1) z.1) (er (p.1 * q.1) z.2) st
    simp only [e_call_, e_idx_, e_var_, e_int__, es_cons_, es_nil_, List.set_cons_succ, List.set_cons_zero, List.getElem?_cons_succ, List.getElem?_cons_zero, bind_ok, i0, i1, ctx_call]
    exact k)
  rw [zw_er, more_eq] at c
  unfold lb6
  rw [s_set_, c]
  simp only [then_ok, List.set_cons_succ, List.set_cons_zero]

theorem t7_ (hm : 8 ≤ m) (T : Two many p q) (h8 : many ≤ 8) : evS (P.ctx m) lb7 [some (.d a), some (.ref 1), e2, some (.d (.int many)), some (.d (.lst ((both (hr p q) (hr q p)).map (er (p.1 * q.1))))), some (.d (.lst ((more (hr p q) (hr q p)).map (er (p.1 * q.1))))), e6, e7, e8, e9, e10, e11, some (.d (sh p)), some (.d (sh q)), some (.d (sh r)), some (.d (.lst ((hr p q).map (er (p.1 * q.1))))), some (.d (.lst ((hr q p).map (er (p.1 * q.1))))), e17, e18] st = .ok (.nx [some (.d a), some (.ref 1), e2, some (.d (.int many)), some (.d (.lst ((both (hr p q) (hr q p)).map (er (p.1 * q.1))))), some (.d (.lst ((more (hr p q) (hr q p)).map (er (p.1 * q.1))))), some (.d (.lst ((more (hr q p) (hr p q)).map (er (p.1 * q.1))))), e7, e8, e9, e10, e11, some (.d (sh p)), some (.d (sh q)), some (.d (sh r)), some (.d (.lst ((hr p q).map (er (p.1 * q.1))))), some (.d (.lst ((hr q p).map (er (p.1 * q.1))))), e17, e18]) st := by
  have le := hr_eq T.one T.two
  have l1 : (hr p q).length ≤ 8 := by rw [hr_len, T.one.len]; exact h8
  have lb := len_both le
  have c := comp_zipN (C := P.ctx m) (env := [some (.d a), some (.ref 1), e2, some (.d (.int many)), some (.d (.lst ((both (hr p q) (hr q p)).map (er (p.1 * q.1))))), some (.d (.lst ((more (hr p q) (hr q p)).map (er (p.1 * q.1))))), e6, e7, e8, e9, e10, e11, some (.d (sh p)), some (.d (sh q)), some (.d (sh r)), some (.d (.lst ((hr p q).map (er (p.1 * q.1))))), some (.d (.lst ((hr q p).map (er (p.1 * q.1))))), e17, e18]) (st := st) (a := .var 16) (b := .var 4) (elt := .call 25 (.cons (.idx (.var 17) (.int 0)) (.cons (.idx (.var 17) (.int 1)) (.nil)))) (i := 17) (er (p.1 * q.1)) (er (p.1 * q.1)) (fun x y => er (p.1 * q.1) (x - y)) (hr q p) (both (hr p q) (hr q p)) (by omega) (by simp) (by simp) (by omega) (fun z hz => by
    obtain ⟨z1, z2⟩ := mem_zip hz
    have k := sub_at (m := m) (by omega) T.wh ((hr_pts' T).pt _ z1) ((both_pts T).pt _ z2) st
    obtain ⟨i0, i1⟩ := pair_ix (er (p.1 * q.1) z.1) (er (p.1 * q.1) z.2) st
    simp only [e_call_, e_idx_, e_var_, e_int__, es_cons_, es_nil_, List.set_cons_succ, List.set_cons_zero, List.getElem?_cons_succ, List.getElem?_cons_zero, bind_ok, i0, i1, ctx_call]
    exact k)
  rw [zw_er, more_eq'] at c
  unfold lb7
  rw [s_set_, c]
  simp only [then_ok, List.set_cons_succ, List.set_cons_zero]

theorem pm3 (x y z : W) : permW [0, 1, 2] ([x, y] ++ [z]) = some [x, y, z] := rfl
theorem t8_ (hm : 8 ≤ m) (T : Two many p q) (h1 : 1 ≤ many) (h8 : many ≤ 8) : evS (P.ctx m) lb8 [some (.d a), some (.ref 1), e2, some (.d (.int many)), some (.d (.lst ((both (hr p q) (hr q p)).map (er (p.1 * q.1))))), some (.d (.lst ((more (hr p q) (hr q p)).map (er (p.1 * q.1))))), some (.d (.lst ((more (hr q p) (hr p q)).map (er (p.1 * q.1))))), e7, e8, e9, e10, e11, some (.d (sh p)), some (.d (sh q)), some (.d (sh r)), some (.d (.lst ((hr p q).map (er (p.1 * q.1))))), some (.d (.lst ((hr q p).map (er (p.1 * q.1))))), e17, e18] st = .ok (.nx [some (.d a), some (.ref 1), e2, some (.d (.int many)), some (.d (.lst ((both (hr p q) (hr q p)).map (er (p.1 * q.1))))), some (.d (.lst ((more (hr p q) (hr q p)).map (er (p.1 * q.1))))), some (.d (.lst ((more (hr q p) (hr p q)).map (er (p.1 * q.1))))), some (.d (apD p q)), e8, e9, e10, e11, some (.d (sh p)), some (.d (sh q)), some (.d (sh r)), some (.d (.lst ((hr p q).map (er (p.1 * q.1))))), some (.d (.lst ((hr q p).map (er (p.1 * q.1))))), e17, e18]) st := by
  have c := r16_ (m := m) (by omega) h1 h8 T st
  unfold lb8
  simp only [s_set_, e_callk_, e_var_, es_cons_, es_nil_, List.getElem?_cons_succ, List.getElem?_cons_zero, bind_ok, pm3, ctx_call, c, then_ok, List.set_cons_succ, List.set_cons_zero]
theorem t9_ (hm : 8 ≤ m) (T : Two many p q) (h1 : 1 ≤ many) (h8 : many ≤ 8) : evS (P.ctx m) lb9 [some (.d a), some (.ref 1), e2, some (.d (.int many)), some (.d (.lst ((both (hr p q) (hr q p)).map (er (p.1 * q.1))))), some (.d (.lst ((more (hr p q) (hr q p)).map (er (p.1 * q.1))))), some (.d (.lst ((more (hr q p) (hr p q)).map (er (p.1 * q.1))))), some (.d (apD p q)), e8, e9, e10, e11, some (.d (sh p)), some (.d (sh q)), some (.d (sh r)), some (.d (.lst ((hr p q).map (er (p.1 * q.1))))), some (.d (.lst ((hr q p).map (er (p.1 * q.1))))), e17, e18] st = .ok (.nx [some (.d a), some (.ref 1), e2, some (.d (.int many)), some (.d (.lst ((both (hr p q) (hr q p)).map (er (p.1 * q.1))))), some (.d (.lst ((more (hr p q) (hr q p)).map (er (p.1 * q.1))))), some (.d (.lst ((more (hr q p) (hr p q)).map (er (p.1 * q.1))))), some (.d (apD p q)), e8, e9, e10, e11, some (.d (sh p)), some (.d (sh q)), some (.d (sh r)), some (.d (.lst ((hr p q).map (er (p.1 * q.1))))), some (.d (.lst ((hr q p).map (er (p.1 * q.1))))), e17, e18]) st := by
  have le := hr_eq T.one T.two
  have l1 : (hr p q).length ≤ 8 := by rw [hr_len, T.one.len]; exact h8
  have c1 := r29_ (m := m) (by omega) T.wh (both_pts T) (by rw [len_both le]; omega) st
  have c2 := r29_ (m := m) (by omega) T.wh (more_pts T) (by rw [len_more le]; omega) st
  have c3 := r29_ (m := m) (by omega) T.wh (more_pts' T) (by rw [len_more le.symm]; omega) st
  have rp := rep_ap T h8 st
  have rp' := rp
  unfold apD at rp'
  have q := eq_str (nice_ap T h8).txt true st
  unfold lb9
  simp only [s_ifs_, t_cmp_, e_blt_, e_tup_, e_call_, e_var_, es_cons_, es_nil_, List.getElem?_cons_succ, List.getElem?_cons_zero, bind_ok, ctx_call, rp, c1, c2, c3, mkTup_3, rp', cmp_ne_, q, Bool.not_true, tru_bl, then_ok, Bool.false_eq_true, if_false, ss_nil_]

theorem t10_ (hm : 8 ≤ m) (T : Two many p q) (h1 : 1 ≤ many) (h8 : many ≤ 8) : evS (P.ctx m) lb10 [some (.d a), some (.ref 1), e2, some (.d (.int many)), some (.d (.lst ((both (hr p q) (hr q p)).map (er (p.1 * q.1))))), some (.d (.lst ((more (hr p q) (hr q p)).map (er (p.1 * q.1))))), some (.d (.lst ((more (hr q p) (hr p q)).map (er (p.1 * q.1))))), some (.d (apD p q)), e8, e9, e10, e11, some (.d (sh p)), some (.d (sh q)), some (.d (sh r)), some (.d (.lst ((hr p q).map (er (p.1 * q.1))))), some (.d (.lst ((hr q p).map (er (p.1 * q.1))))), e17, e18] st = .ok (.nx [some (.d a), some (.ref 1), e2, some (.d (.int many)), some (.d (.lst ((both (hr p q) (hr q p)).map (er (p.1 * q.1))))), some (.d (.lst ((more (hr p q) (hr q p)).map (er (p.1 * q.1))))), some (.d (.lst ((more (hr q p) (hr p q)).map (er (p.1 * q.1))))), some (.d (apD p q)), some (.d (er (p.1 * q.1) (more (hr p q) (hr q p)).sum)), e9, e10, e11, some (.d (sh p)), some (.d (sh q)), some (.d (sh r)), some (.d (.lst ((hr p q).map (er (p.1 * q.1))))), some (.d (.lst ((hr q p).map (er (p.1 * q.1))))), e17, e18]) st := by
  have c := r15_ (m := m) (by omega) h1 h8 T st
  unfold lb10
  simp only [s_set_, e_callk_, e_var_, es_cons_, es_nil_, List.getElem?_cons_succ, List.getElem?_cons_zero, bind_ok, pm3, ctx_call, c, then_ok, List.set_cons_succ, List.set_cons_zero]
theorem gap_pt (T : Two many p q) : Pt (p.1 * q.1) (more (hr p q) (hr q p)).sum := gap_bounds T.one T.two
theorem one_er (T : Two many p q) : (.tup [.int 1, .int 1] : D) = er (p.1 * q.1) (p.1 * q.1) := by unfold er; rw [nr_one T.wh.1]; rfl
theorem zero_er (T : Two many p q) : (.tup [.int 0, .int 1] : D) = er (p.1 * q.1) 0 := by unfold er; rw [nr_zero T.wh.1]; rfl
theorem sm_er (T : Two many p q) : Sm (nr (more (hr p q) (hr q p)).sum (p.1 * q.1)).1 ∧ Sm (nr (more (hr p q) (hr q p)).sum (p.1 * q.1)).2 := ⟨sm_of (nr_tn T.wh (gap_pt T)).1.1, sm_of (nr_tn T.wh (gap_pt T)).1.2⟩
theorem t11_ (hm : 8 ≤ m) (T : Two many p q) (h1 : 1 ≤ many) (h8 : many ≤ 8) : evS (P.ctx m) lb11 [some (.d a), some (.ref 1), e2, some (.d (.int many)), some (.d (.lst ((both (hr p q) (hr q p)).map (er (p.1 * q.1))))), some (.d (.lst ((more (hr p q) (hr q p)).map (er (p.1 * q.1))))), some (.d (.lst ((more (hr q p) (hr p q)).map (er (p.1 * q.1))))), some (.d (apD p q)), some (.d (er (p.1 * q.1) (more (hr p q) (hr q p)).sum)), e9, e10, e11, some (.d (sh p)), some (.d (sh q)), some (.d (sh r)), some (.d (.lst ((hr p q).map (er (p.1 * q.1))))), some (.d (.lst ((hr q p).map (er (p.1 * q.1))))), e17, e18] st = .ok (.nx [some (.d a), some (.ref 1), e2, some (.d (.int many)), some (.d (.lst ((both (hr p q) (hr q p)).map (er (p.1 * q.1))))), some (.d (.lst ((more (hr p q) (hr q p)).map (er (p.1 * q.1))))), some (.d (.lst ((more (hr q p) (hr p q)).map (er (p.1 * q.1))))), some (.d (apD p q)), some (.d (er (p.1 * q.1) (more (hr p q) (hr q p)).sum)), e9, e10, e11, some (.d (sh p)), some (.d (sh q)), some (.d (sh r)), some (.d (.lst ((hr p q).map (er (p.1 * q.1))))), some (.d (.lst ((hr q p).map (er (p.1 * q.1))))), e17, e18]) st := by
  obtain ⟨s1, s2⟩ := sm_er T
  have rp := rep_enc s1 s2 st
  have q1 := eq_str (fine_enc s1 s2) true st
  have c1 := r26_ (m := m) (by omega) T.wh (more_pts T) st
  have c2 := r15_ (m := m) (by omega) h1 h8 T.swap st
  rw [← more_same (hr_eq T.one T.two) (sums T.one T.two), Int.mul_comm q.1 p.1] at c2
  have q2 := eq_enc (nr (more (hr p q) (hr q p)).sum (p.1 * q.1)) true st
  have c3 := less_at (m := m) (by omega) T.wh (x := p.1 * q.1) (y := (more (hr p q) (hr q p)).sum) ⟨by have := T.wh.1; omega, Int.le_refl _⟩ (gap_pt T) st
  rw [decide_eq_false (show ¬ p.1 * q.1 < (more (hr p q) (hr q p)).sum by have := (gap_pt T).2; omega)] at c3
  have o := one_er T
  unfold er at c1 c2 o
  unfold lb11
  simp only [s_ifs_, t_bool_, ts_more_, ts_one_, t_cmp_, t_call_, e_blt_, e_tup_, e_call_, e_var_, e_int__, es_cons_, es_nil_, List.getElem?_cons_succ, List.getElem?_cons_zero, bind_ok, ctx_call, er, rp, c1, cmp_ne_, q1, Bool.not_true, tru_bl, if_true, c2, q2, mkTup_2, o, c3, then_ok, Bool.false_eq_true, if_false, ss_nil_]
theorem t12_ (hm : 8 ≤ m) (T : Two many p q) (h1 : 1 ≤ many) (h8 : many ≤ 8) : evS (P.ctx m) lb12 [some (.d a), some (.ref 1), e2, some (.d (.int many)), some (.d (.lst ((both (hr p q) (hr q p)).map (er (p.1 * q.1))))), some (.d (.lst ((more (hr p q) (hr q p)).map (er (p.1 * q.1))))), some (.d (.lst ((more (hr q p) (hr p q)).map (er (p.1 * q.1))))), some (.d (apD p q)), some (.d (er (p.1 * q.1) (more (hr p q) (hr q p)).sum)), e9, e10, e11, some (.d (sh p)), some (.d (sh q)), some (.d (sh r)), some (.d (.lst ((hr p q).map (er (p.1 * q.1))))), some (.d (.lst ((hr q p).map (er (p.1 * q.1))))), e17, e18] st = .ok (.nx [some (.d a), some (.ref 1), e2, some (.d (.int many)), some (.d (.lst ((both (hr p q) (hr q p)).map (er (p.1 * q.1))))), some (.d (.lst ((more (hr p q) (hr q p)).map (er (p.1 * q.1))))), some (.d (.lst ((more (hr q p) (hr p q)).map (er (p.1 * q.1))))), some (.d (apD p q)), some (.d (er (p.1 * q.1) (more (hr p q) (hr q p)).sum)), e9, e10, e11, some (.d (sh p)), some (.d (sh q)), some (.d (sh r)), some (.d (.lst ((hr p q).map (er (p.1 * q.1))))), some (.d (.lst ((hr q p).map (er (p.1 * q.1))))), e17, e18]) st := by
  have z := zero_er T
  have o := one_er T
  have ez := eq_enc2 (nr (more (hr p q) (hr q p)).sum (p.1 * q.1)) (nr 0 (p.1 * q.1)) false st
  have eo := eq_enc2 (nr (more (hr p q) (hr q p)).sum (p.1 * q.1)) (nr (p.1 * q.1) (p.1 * q.1)) false st
  obtain ⟨a1, a2⟩ := sh_sm T
  obtain ⟨b1, b2⟩ := sh_sm T.swap
  have es := eq_sh (nice_sh a1 a2 (by rw [T.one.len]; exact h8)) (nice_sh b1 b2 (by rw [T.two.len]; exact h8)) false st
  have d1 : decide (nr (more (hr p q) (hr q p)).sum (p.1 * q.1) = nr 0 (p.1 * q.1)) = decide (p = q) := by
    have := gap_zero T.one T.two
    by_cases h : p = q
    · rw [decide_eq_true h, decide_eq_true (by rw [this.mpr h])]
    · rw [decide_eq_false h, decide_eq_false fun g => h (this.mp (nr_inj T.wh.1 g))]
  have d2 : decide (nr (more (hr p q) (hr q p)).sum (p.1 * q.1) = nr (p.1 * q.1) (p.1 * q.1)) = decide (((both (hr p q) (hr q p)).filter fun x => decide (0 < x)).map (fun _ => (1 : Int)) = []) := by
    have := gap_one T.one T.two
    by_cases h : (both (hr p q) (hr q p)).filter (fun x => decide (0 < x)) = []
    · rw [decide_eq_true (show _ = [] by rw [h]; rfl), decide_eq_true (by rw [this.mpr h])]
    · rw [decide_eq_false (fun g => h (List.map_eq_nil_iff.mp g)), decide_eq_false fun g => h (this.mp (nr_inj T.wh.1 g))]
  rw [d1] at ez
  rw [d2] at eo
  have le := hr_eq T.one T.two
  have l1 : (hr p q).length ≤ 8 := by rw [hr_len, T.one.len]; exact h8
  have cf := comp_flt (C := P.ctx m) (env := [some (.d a), some (.ref 1), e2, some (.d (.int many)), some (.d (.lst ((both (hr p q) (hr q p)).map (er (p.1 * q.1))))), some (.d (.lst ((more (hr p q) (hr q p)).map (er (p.1 * q.1))))), some (.d (.lst ((more (hr q p) (hr p q)).map (er (p.1 * q.1))))), some (.d (apD p q)), some (.d (er (p.1 * q.1) (more (hr p q) (hr q p)).sum)), e9, e10, e11, some (.d (sh p)), some (.d (sh q)), some (.d (sh r)), some (.d (.lst ((hr p q).map (er (p.1 * q.1))))), some (.d (.lst ((hr q p).map (er (p.1 * q.1))))), e17, e18]) (st := st) (a := .var 4) (c := .cmp .gt (.idx (.var 18) (.int 0)) (.int 0)) (elt := .int 1) (i := 18) (er (p.1 * q.1)) (fun _ => D.int 1) (fun x => decide (0 < x)) (both (hr p q) (hr q p)) (.inl rfl) (by simp) (by rw [len_both le]; omega) (fun x hx => by
    have i0 : idxW (.d (er (p.1 * q.1) x)) (.d (.int 0)) st = .ok (.d (.int (nr x (p.1 * q.1)).1)) st := ix0 _ _ _
    have e : decide (0 < (nr x (p.1 * q.1)).1) = decide (0 < x) := by simp only [nr_pos T.wh.1]
    simp only [t_cmp_, e_idx_, e_var_, e_int__, List.set_cons_succ, List.set_cons_zero, List.getElem?_cons_succ, List.getElem?_cons_zero, bind_ok, i0, cmp_gt_, e, tru_bl]) (fun x hx _ => by simp)
  have en := eq_nil (((both (hr p q) (hr q p)).filter fun x => decide (0 < x)).map fun _ => 1) false st
  have di1 : di (((both (hr p q) (hr q p)).filter fun x => decide (0 < x)).map fun _ => 1) = ((both (hr p q) (hr q p)).filter fun x => decide (0 < x)).map (fun _ => D.int 1) := by unfold di; rw [List.map_map]; rfl
  rw [di1] at en
  have same : ∀ k : Bool, eqW true (.d (.bl (k != false))) (.d (.bl (k != false))) st = .ok (.d (.bl false)) st := fun k => by rw [eqW_bl]; cases k <;> rfl
  have s1 := same (decide (p = q))
  have s2 := same (decide (((both (hr p q) (hr q p)).filter fun x => decide (0 < x)).map (fun _ => (1 : Int)) = []))
  unfold er at z o
  unfold lb12
  simp only [s_ifs_, t_bool_, ts_more_, ts_one_, t_cmp_, e_cmp_, e_tup_, e_var_, e_int__, e_lst_, es_cons_, es_nil_, List.getElem?_cons_succ, List.getElem?_cons_zero, bind_ok, mkTup_2, mkLst_0, er, z, o, cmp_eq_, cmp_ne_, ez, es, s1, tru_bl, Bool.false_eq_true, if_false, if_true, eo, cf, en, s2, ite_self, then_ok, ss_nil_]
theorem t13_ (hm : 8 ≤ m) (T : Two many p q) (h1 : 1 ≤ many) (h8 : many ≤ 8) : evS (P.ctx m) lb13 [some (.d a), some (.ref 1), e2, some (.d (.int many)), some (.d (.lst ((both (hr p q) (hr q p)).map (er (p.1 * q.1))))), some (.d (.lst ((more (hr p q) (hr q p)).map (er (p.1 * q.1))))), some (.d (.lst ((more (hr q p) (hr p q)).map (er (p.1 * q.1))))), some (.d (apD p q)), some (.d (er (p.1 * q.1) (more (hr p q) (hr q p)).sum)), e9, e10, e11, some (.d (sh p)), some (.d (sh q)), some (.d (sh r)), some (.d (.lst ((hr p q).map (er (p.1 * q.1))))), some (.d (.lst ((hr q p).map (er (p.1 * q.1))))), e17, e18] st = .ok (.nx [some (.d a), some (.ref 1), e2, some (.d (.int many)), some (.d (.lst ((both (hr p q) (hr q p)).map (er (p.1 * q.1))))), some (.d (.lst ((more (hr p q) (hr q p)).map (er (p.1 * q.1))))), some (.d (.lst ((more (hr q p) (hr p q)).map (er (p.1 * q.1))))), some (.d (apD p q)), some (.d (er (p.1 * q.1) (more (hr p q) (hr q p)).sum)), e9, e10, e11, some (.d (sh p)), some (.d (sh q)), some (.d (sh r)), some (.d (.lst ((hr p q).map (er (p.1 * q.1))))), some (.d (.lst ((hr q p).map (er (p.1 * q.1))))), e17, e18]) st := by
  have T' : Two many p p := ⟨T.one, T.one, T.few⟩
  have c := r15_ (m := m) (by omega) h1 h8 T' st
  rw [more_self] at c
  have z := zero_er T'
  have q := eq_enc (nr 0 (p.1 * p.1)) true st
  unfold er at c z
  unfold lb13
  simp only [s_ifs_, t_cmp_, e_call_, e_tup_, e_var_, e_int__, es_cons_, es_nil_, List.getElem?_cons_succ, List.getElem?_cons_zero, bind_ok, ctx_call, c, mkTup_2, z, cmp_ne_, q, Bool.not_true, tru_bl, then_ok, Bool.false_eq_true, if_false, ss_nil_]

theorem t14_ (hm : 8 ≤ m) (T : Two many p q) (hr_ : Sh many (10 ^ 12) r) (h1 : 1 ≤ many) (h8 : many ≤ 8) : evS (P.ctx m) lb14 [some (.d a), some (.ref 1), e2, some (.d (.int many)), some (.d (.lst ((both (hr p q) (hr q p)).map (er (p.1 * q.1))))), some (.d (.lst ((more (hr p q) (hr q p)).map (er (p.1 * q.1))))), some (.d (.lst ((more (hr q p) (hr p q)).map (er (p.1 * q.1))))), some (.d (apD p q)), some (.d (er (p.1 * q.1) (more (hr p q) (hr q p)).sum)), e9, e10, e11, some (.d (sh p)), some (.d (sh q)), some (.d (sh r)), some (.d (.lst ((hr p q).map (er (p.1 * q.1))))), some (.d (.lst ((hr q p).map (er (p.1 * q.1))))), e17, e18] st = .ok (.nx [some (.d a), some (.ref 1), e2, some (.d (.int many)), some (.d (.lst ((both (hr p q) (hr q p)).map (er (p.1 * q.1))))), some (.d (.lst ((more (hr p q) (hr q p)).map (er (p.1 * q.1))))), some (.d (.lst ((more (hr q p) (hr p q)).map (er (p.1 * q.1))))), some (.d (apD p q)), some (.d (er (p.1 * q.1) (more (hr p q) (hr q p)).sum)), some (.d (enc (ar p q r))), e10, e11, some (.d (sh p)), some (.d (sh q)), some (.d (sh r)), some (.d (.lst ((hr p q).map (er (p.1 * q.1))))), some (.d (.lst ((hr q p).map (er (p.1 * q.1))))), e17, e18]) st := by
  have T1 : Two many p r := ⟨T.one, hr_, T.few⟩
  have T2 : Two many r q := ⟨hr_, T.two, T.few⟩
  have c1 := r15_ (m := m) (by omega) h1 h8 T1 st
  have c2 := r15_ (m := m) (by omega) h1 h8 T2 st
  have n1 := nr_tn T1.wh (gap_pt T1)
  have n2 := nr_tn T2.wh (gap_pt T2)
  have c3 := r24_ (m := m) (by omega) n1.1 n2.1 n1.2 n2.2 st
  unfold lb14
  simp only [s_set_, e_call_, e_var_, es_cons_, es_nil_, List.getElem?_cons_succ, List.getElem?_cons_zero, bind_ok, ctx_call, c1, c2, er, c3, then_ok, List.set_cons_succ, List.set_cons_zero]
  rfl
theorem way_round (T : Two many p q) (hr_ : Sh many (10 ^ 12) r) : ¬ ((ar p q r).1 * (nr (more (hr p q) (hr q p)).sum (p.1 * q.1)).2 < (nr (more (hr p q) (hr q p)).sum (p.1 * q.1)).1 * (ar p q r).2) := by
  have T1 : Two many p r := ⟨T.one, hr_, T.few⟩
  have T2 : Two many r q := ⟨hr_, T.two, T.few⟩
  have P1 : 0 < p.1 := by have := T.one.pos; omega
  have Q1 : 0 < q.1 := by have := T.two.pos; omega
  have R1 : 0 < r.1 := by have := hr_.pos; omega
  have B : 0 < p.1 * r.1 * (r.1 * q.1) := Int.mul_pos (Int.mul_pos P1 R1) (Int.mul_pos R1 Q1)
  have e : ar p q r = nr ((more (hr p r) (hr r p)).sum * (r.1 * q.1) + (more (hr r q) (hr q r)).sum * (p.1 * r.1)) (p.1 * r.1 * (r.1 * q.1)) := by
    obtain ⟨a1, _, a3, _, _⟩ := nr_spec (X := (more (hr p r) (hr r p)).sum) (Y := p.1 * r.1) (by have := T1.wh.1; omega)
    obtain ⟨b1, _, b3, _, _⟩ := nr_spec (X := (more (hr r q) (hr q r)).sum) (Y := r.1 * q.1) (by have := T2.wh.1; omega)
    unfold ar
    refine nr_same (Int.mul_pos (by omega) (by omega)) B ?_
    generalize (nr (more (hr p r) (hr r p)).sum (p.1 * r.1)).1 = x1 at *
    generalize (nr (more (hr p r) (hr r p)).sum (p.1 * r.1)).2 = x2 at *
    generalize (nr (more (hr r q) (hr q r)).sum (r.1 * q.1)).1 = y1 at *
    generalize (nr (more (hr r q) (hr q r)).sum (r.1 * q.1)).2 = y2 at *
    generalize (more (hr p r) (hr r p)).sum = A at *
    generalize (more (hr r q) (hr q r)).sum = C at *
    generalize p.1 * r.1 = U at *
    generalize r.1 * q.1 = V at *
    grind
  rw [e, nr_lt B T.wh.1]
  have t := tri (p := p.1) (q := q.1) (r := r.1) (by omega) (by omega) (by omega) p.2 q.2 r.2 (by rw [T.one.len, T.two.len]) (by rw [T.one.len, hr_.len])
  change (more (hr p q) (hr q p)).sum * r.1 ≤ (more (hr p r) (hr r p)).sum * q.1 + (more (hr r q) (hr q r)).sum * p.1 at t
  have pos : 0 ≤ p.1 * q.1 * r.1 := Int.mul_nonneg (Int.mul_nonneg (by omega) (by omega)) (by omega)
  have u := Int.mul_le_mul_of_nonneg_right t pos
  generalize (more (hr p q) (hr q p)).sum = G at *
  generalize (more (hr p r) (hr r p)).sum = A at *
  generalize (more (hr r q) (hr q r)).sum = C at *
  have l : G * (p.1 * r.1 * (r.1 * q.1)) = G * r.1 * (p.1 * q.1 * r.1) := by grind
  have k : (A * (r.1 * q.1) + C * (p.1 * r.1)) * (p.1 * q.1) = (A * q.1 + C * p.1) * (p.1 * q.1 * r.1) := by grind
  rw [l, k]
  omega
theorem t15_ (hm : 8 ≤ m) (T : Two many p q) (hr_ : Sh many (10 ^ 12) r) (h1 : 1 ≤ many) (h8 : many ≤ 8) : evS (P.ctx m) lb15 [some (.d a), some (.ref 1), e2, some (.d (.int many)), some (.d (.lst ((both (hr p q) (hr q p)).map (er (p.1 * q.1))))), some (.d (.lst ((more (hr p q) (hr q p)).map (er (p.1 * q.1))))), some (.d (.lst ((more (hr q p) (hr p q)).map (er (p.1 * q.1))))), some (.d (apD p q)), some (.d (er (p.1 * q.1) (more (hr p q) (hr q p)).sum)), some (.d (enc (ar p q r))), e10, e11, some (.d (sh p)), some (.d (sh q)), some (.d (sh r)), some (.d (.lst ((hr p q).map (er (p.1 * q.1))))), some (.d (.lst ((hr q p).map (er (p.1 * q.1))))), e17, e18] st = .ok (.nx [some (.d a), some (.ref 1), e2, some (.d (.int many)), some (.d (.lst ((both (hr p q) (hr q p)).map (er (p.1 * q.1))))), some (.d (.lst ((more (hr p q) (hr q p)).map (er (p.1 * q.1))))), some (.d (.lst ((more (hr q p) (hr p q)).map (er (p.1 * q.1))))), some (.d (apD p q)), some (.d (er (p.1 * q.1) (more (hr p q) (hr q p)).sum)), some (.d (enc (ar p q r))), e10, e11, some (.d (sh p)), some (.d (sh q)), some (.d (sh r)), some (.d (.lst ((hr p q).map (er (p.1 * q.1))))), some (.d (.lst ((hr q p).map (er (p.1 * q.1))))), e17, e18]) st := by
  have T1 : Two many p r := ⟨T.one, hr_, T.few⟩
  have T2 : Two many r q := ⟨hr_, T.two, T.few⟩
  have n1 := nr_tn T1.wh (gap_pt T1)
  have n2 := nr_tn T2.wh (gap_pt T2)
  obtain ⟨s1, s2⟩ := sm_er T
  have sa : Sm (ar p q r).1 ∧ Sm (ar p q r).2 := by
    have sx := (add_sm n1.1.1 n2.1.2 n2.1.1 n1.1.2).1
    have sy := mul_sm n1.1.2 n2.1.2
    obtain ⟨_, _, _, k4, k5⟩ := nr_spec (X := (nr (more (hr p r) (hr r p)).sum (p.1 * r.1)).1 * (nr (more (hr r q) (hr q r)).sum (r.1 * q.1)).2 + (nr (more (hr r q) (hr q r)).sum (r.1 * q.1)).1 * (nr (more (hr p r) (hr r p)).sum (p.1 * r.1)).2) (Y := (nr (more (hr p r) (hr r p)).sum (p.1 * r.1)).2 * (nr (more (hr r q) (hr q r)).sum (r.1 * q.1)).2) (Int.ne_of_gt (Int.mul_pos (by omega) (by omega)))
    exact ⟨Nat.lt_of_le_of_lt k4 sx, Nat.lt_of_le_of_lt k5 sy⟩
  have c := r23_ (m := m) (by omega) sa.1 sa.2 s1 s2 st
  rw [decide_eq_false (way_round T hr_)] at c
  unfold lb15
  simp only [s_ifs_, t_call_, e_var_, es_cons_, es_nil_, List.getElem?_cons_succ, List.getElem?_cons_zero, bind_ok, ctx_call, er, c, tru_bl, then_ok, Bool.false_eq_true, if_false, ss_nil_]

theorem t16_ (hm : 8 ≤ m) {k : Nat} (hk : k < 10 ^ 17) (h1 : 1 ≤ many) (h8 : many ≤ 8) (hp : Sh many 240000 p) (h : Dr k st []) : ∃ (x : D) (st' : Store), (2 ≤ many → ∀ n st, 6 ≤ n → callD P n 10 [.d (.int many), .d x] st = .ok (.d (.bl false)) st) ∧ Dr (k + 3) st' [] ∧ evS (P.ctx m) lb16 [some (.d a), some (.ref 1), e2, some (.d (.int many)), some (.d (.lst ((both (hr p q) (hr q p)).map (er (p.1 * q.1))))), some (.d (.lst ((more (hr p q) (hr q p)).map (er (p.1 * q.1))))), some (.d (.lst ((more (hr q p) (hr p q)).map (er (p.1 * q.1))))), some (.d (apD p q)), some (.d (er (p.1 * q.1) (more (hr p q) (hr q p)).sum)), some (.d (enc (ar p q r))), e10, e11, some (.d (sh p)), some (.d (sh q)), some (.d (sh r)), some (.d (.lst ((hr p q).map (er (p.1 * q.1))))), some (.d (.lst ((hr q p).map (er (p.1 * q.1))))), e17, e18] st = .ok (.nx [some (.d a), some (.ref 1), e2, some (.d (.int many)), some (.d (.lst ((both (hr p q) (hr q p)).map (er (p.1 * q.1))))), some (.d (.lst ((more (hr p q) (hr q p)).map (er (p.1 * q.1))))), some (.d (.lst ((more (hr q p) (hr p q)).map (er (p.1 * q.1))))), some (.d (apD p q)), some (.d (er (p.1 * q.1) (more (hr p q) (hr q p)).sum)), some (.d (enc (ar p q r))), some (.d (x)), e11, some (.d (sh p)), some (.d (sh q)), some (.d (sh r)), some (.d (.lst ((hr p q).map (er (p.1 * q.1))))), some (.d (.lst ((hr q p).map (er (p.1 * q.1))))), e17, e18]) st' := by
  obtain ⟨i, hi, o, x, st', ho, hx, d, c⟩ := r32_ (m := m) (by omega) (by omega) h h1 h8 hp
  refine ⟨x, st', fun h2 n st hn => ?_, d, ?_⟩
  · obtain ⟨s, ns⟩ := p
    exact bad_all hn h2 h8 hp hi ho hx st
  · unfold lb16
    simp only [s_set_, e_call_, e_var_, es_cons_, es_nil_, List.getElem?_cons_succ, List.getElem?_cons_zero, bind_ok, ctx_call, c, then_ok, List.set_cons_succ, List.set_cons_zero]
theorem t17_ (hm : 8 ≤ m) (h1 : 1 ≤ many) {x : D} (hx : 2 ≤ many → ∀ n st, 6 ≤ n → callD P n 10 [.d (.int many), .d x] st = .ok (.d (.bl false)) st) : ∃ y : D, (∀ n st, 6 ≤ n → callD P n 10 [.d (.int many), .d y] st = .ok (.d (.bl false)) st) ∧ evS (P.ctx m) lb17 [some (.d a), some (.ref 1), e2, some (.d (.int many)), some (.d (.lst ((both (hr p q) (hr q p)).map (er (p.1 * q.1))))), some (.d (.lst ((more (hr p q) (hr q p)).map (er (p.1 * q.1))))), some (.d (.lst ((more (hr q p) (hr p q)).map (er (p.1 * q.1))))), some (.d (apD p q)), some (.d (er (p.1 * q.1) (more (hr p q) (hr q p)).sum)), some (.d (enc (ar p q r))), some (.d (x)), e11, some (.d (sh p)), some (.d (sh q)), some (.d (sh r)), some (.d (.lst ((hr p q).map (er (p.1 * q.1))))), some (.d (.lst ((hr q p).map (er (p.1 * q.1))))), e17, e18] st = .ok (.nx [some (.d a), some (.ref 1), e2, some (.d (.int many)), some (.d (.lst ((both (hr p q) (hr q p)).map (er (p.1 * q.1))))), some (.d (.lst ((more (hr p q) (hr q p)).map (er (p.1 * q.1))))), some (.d (.lst ((more (hr q p) (hr p q)).map (er (p.1 * q.1))))), some (.d (apD p q)), some (.d (er (p.1 * q.1) (more (hr p q) (hr q p)).sum)), some (.d (enc (ar p q r))), some (.d (y)), e11, some (.d (sh p)), some (.d (sh q)), some (.d (sh r)), some (.d (.lst ((hr p q).map (er (p.1 * q.1))))), some (.d (.lst ((hr q p).map (er (p.1 * q.1))))), e17, e18]) st := by
  by_cases z : many = 1
  · subst z
    refine ⟨.non, fun n st hn => n10_ (by omega) (n9a (by omega) rfl (fun ds e => by cases e) 1 st), ?_⟩
    have e1 : eqW false (.d (.int ((1 : Nat) : Int))) (.d (.int 1)) st = .ok (.d (.bl true)) st := by rw [eqW_int]; rfl
    unfold lb17
    simp only [s_ifs_, t_cmp_, e_var_, e_int__, List.getElem?_cons_succ, List.getElem?_cons_zero, bind_ok, cmp_eq_, e1, tru_bl, then_ok, if_true, ss_cons_, ss_nil_, s_set_, e_non_, next_nx, List.set_cons_succ, List.set_cons_zero]
  · refine ⟨x, hx (by omega), ?_⟩
    have e1 : eqW false (.d (.int (many : Int))) (.d (.int 1)) st = .ok (.d (.bl false)) st := by
      rw [eqW_int, decide_eq_false (show ¬ (many : Int) = 1 by omega)]; rfl
    unfold lb17
    simp only [s_ifs_, t_cmp_, e_var_, e_int__, List.getElem?_cons_succ, List.getElem?_cons_zero, bind_ok, cmp_eq_, e1, tru_bl, then_ok, Bool.false_eq_true, if_false, ss_nil_]

def workB : Ss := .cons (.ifs (.not (.isin (.caught (.callv 11 (.cons (.call 20 (.cons (.var 1) (.cons (.lst false (.cons (.int 0) (.cons (.int 9) (.cons (.non) (.cons (.bl true) (.nil)))))) (.nil)))) (.cons (.var 10) (.cons (.non) (.nil)))))) [.exc 1])) (.cons (.ret (.bl false)) (.nil)) (.nil)) (.cons (.ifs (.not (.isin (.caught (.callv 11 (.cons (.var 3) (.cons (.var 10) (.cons (.non) (.nil)))))) [.exc 2])) (.cons (.ret (.bl false)) (.nil)) (.nil)) (.cons (.ifs (.not (.isin (.caught (.callv 11 (.cons (.var 3) (.cons (.var 12) (.cons (.var 10) (.nil)))))) [.exc 2])) (.cons (.ret (.bl false)) (.nil)) (.nil)) (.nil)))
theorem sub10 (n : Nat) : (P.ctx n).sub 1 0 = true := rfl
theorem sub20 (n : Nat) : (P.ctx n).sub 2 0 = true := rfl
theorem sub11 (n : Nat) : (P.ctx n).sub 1 1 = true := rfl
theorem sub22 (n : Nat) : (P.ctx n).sub 2 2 = true := rfl
theorem isE (n c : Nat) (fs : List (Str × D)) (st : Store) (h : (P.ctx n).sub c c = true) : isW (P.ctx n) [.exc c] (.d (.exc c fs)) st = .ok (.d (.bl true)) st := by
  show Res.ok (W.d (D.bl ((P.ctx n).sub c c))) st = _
  rw [h]
theorem work_at (hm : 8 ≤ m) {k : Nat} (hk : k < 10 ^ 17) (T : Two many p q) (h1 : 1 ≤ many) (h8 : many ≤ 8) {y : D} (hy : ∀ n st, 6 ≤ n → callD P n 10 [.d (.int many), .d y] st = .ok (.d (.bl false)) st) (h : Dr k st []) {f : Nat} (hf : f ∈ [15, 16]) :
    ∃ st' : Store, Dr (k + 1) st' [] ∧ evSs (P.ctx m) workB [some (.d a), some (.ref 1), e2, some (.d (.int many)), some (.d (.lst ((both (hr p q) (hr q p)).map (er (p.1 * q.1))))), some (.d (.lst ((more (hr p q) (hr q p)).map (er (p.1 * q.1))))), some (.d (.lst ((more (hr q p) (hr p q)).map (er (p.1 * q.1))))), some (.d (apD p q)), some (.d (er (p.1 * q.1) (more (hr p q) (hr q p)).sum)), some (.d (enc (ar p q r))), some (.d (y)), some (.d (.fn f)), some (.d (sh p)), some (.d (sh q)), some (.d (sh r)), some (.d (.lst ((hr p q).map (er (p.1 * q.1))))), some (.d (.lst ((hr q p).map (er (p.1 * q.1))))), e17, e18] st = .ok (.nx [some (.d a), some (.ref 1), e2, some (.d (.int many)), some (.d (.lst ((both (hr p q) (hr q p)).map (er (p.1 * q.1))))), some (.d (.lst ((more (hr p q) (hr q p)).map (er (p.1 * q.1))))), some (.d (.lst ((more (hr q p) (hr p q)).map (er (p.1 * q.1))))), some (.d (apD p q)), some (.d (er (p.1 * q.1) (more (hr p q) (hr q p)).sum)), some (.d (enc (ar p q r))), some (.d (y)), some (.d (.fn f)), some (.d (sh p)), some (.d (sh q)), some (.d (sh r)), some (.d (.lst ((hr p q).map (er (p.1 * q.1))))), some (.d (.lst ((hr q p).map (er (p.1 * q.1))))), e17, e18]) st' := by
  obtain ⟨z, st', z1, d, c⟩ := pick (m := m) (by omega) (by omega) h (ds := [.int 0, .int 9, .non, .bl true]) (by decide) (by decide)
  refine ⟨st', d, ?_⟩
  have pz : plainD z = true ∧ inB 1 8 z = false := by
    simp at z1
    rcases z1 with rfl | rfl | rfl | rfl <;> exact ⟨rfl, by decide⟩
  obtain ⟨f1, k1⟩ := bad_many (m := m) (by omega) hf pz.1 pz.2 (.d y) (.d .non) st'
  obtain ⟨f2, k2⟩ := bad_one (m := m) (by omega) hf h1 h8 (hy (m - 2) st' (by omega)) (.d .non)
  obtain ⟨f3, k3⟩ := bad_two (m := m) (by omega) hf h1 h8 T.one (hy (m - 2) st' (by omega))
  have four : ∀ s : Store, mkLst false [.d (.int 0), .d (.int 9), .d .non, .d (.bl true)] s = .ok (.d (.lst [.int 0, .int 9, .non, .bl true])) s := fun s => mkLst_map (ds := [.int 0, .int 9, .non, .bl true]) (by decide)
  have i1 := isE m 1 f1 st' (sub11 m)
  have i2 := isE m 2 f2 st' (sub22 m)
  have i3 := isE m 2 f3 st' (sub22 m)
  unfold workB
  simp only [ss_cons_, ss_nil_, s_ifs_, t_not_, t_isin_, e_caught_, e_callv_, e_call_, e_lst_, e_var_, e_non_, e_bl_, e_int__, es_cons_, es_nil_, List.getElem?_cons_succ, List.getElem?_cons_zero, bind_ok, four, ctx_call, c, k1, sub10, if_true, i1, tru_bl, Bool.not_true, then_ok, Bool.false_eq_true, if_false, next_nx, k2, sub20, i2, k3, i3]
theorem t18_ (hm : 8 ≤ m) {k : Nat} (hk : k + 5 < 10 ^ 17) (T : Two many p q) (h1 : 1 ≤ many) (h8 : many ≤ 8) {y : D} (hy : ∀ n st, 6 ≤ n → callD P n 10 [.d (.int many), .d y] st = .ok (.d (.bl false)) st) (h : Dr k st []) :
    ∃ (f11 : Option W) (st' : Store), Dr (k + 2) st' [] ∧ evS (P.ctx m) lb18 [some (.d a), some (.ref 1), e2, some (.d (.int many)), some (.d (.lst ((both (hr p q) (hr q p)).map (er (p.1 * q.1))))), some (.d (.lst ((more (hr p q) (hr q p)).map (er (p.1 * q.1))))), some (.d (.lst ((more (hr q p) (hr p q)).map (er (p.1 * q.1))))), some (.d (apD p q)), some (.d (er (p.1 * q.1) (more (hr p q) (hr q p)).sum)), some (.d (enc (ar p q r))), some (.d (y)), e11, some (.d (sh p)), some (.d (sh q)), some (.d (sh r)), some (.d (.lst ((hr p q).map (er (p.1 * q.1))))), some (.d (.lst ((hr q p).map (er (p.1 * q.1))))), e17, e18] st = .ok (.nx [some (.d a), some (.ref 1), e2, some (.d (.int many)), some (.d (.lst ((both (hr p q) (hr q p)).map (er (p.1 * q.1))))), some (.d (.lst ((more (hr p q) (hr q p)).map (er (p.1 * q.1))))), some (.d (.lst ((more (hr q p) (hr p q)).map (er (p.1 * q.1))))), some (.d (apD p q)), some (.d (er (p.1 * q.1) (more (hr p q) (hr q p)).sum)), some (.d (enc (ar p q r))), some (.d (y)), f11, some (.d (sh p)), some (.d (sh q)), some (.d (sh r)), some (.d (.lst ((hr p q).map (er (p.1 * q.1))))), some (.d (.lst ((hr q p).map (er (p.1 * q.1))))), e17, e18]) st' := by
  obtain ⟨env1, st1, c1, ⟨f11, rfl⟩, d1⟩ := fors_dat (f := forF (P.ctx m) (.v 11) workB) [.d (.fn 15), .d (.fn 16)] (fun j env s => (∃ f11, env = [some (.d a), some (.ref 1), e2, some (.d (.int many)), some (.d (.lst ((both (hr p q) (hr q p)).map (er (p.1 * q.1))))), some (.d (.lst ((more (hr p q) (hr q p)).map (er (p.1 * q.1))))), some (.d (.lst ((more (hr q p) (hr p q)).map (er (p.1 * q.1))))), some (.d (apD p q)), some (.d (er (p.1 * q.1) (more (hr p q) (hr q p)).sum)), some (.d (enc (ar p q r))), some (.d (y)), f11, some (.d (sh p)), some (.d (sh q)), some (.d (sh r)), some (.d (.lst ((hr p q).map (er (p.1 * q.1))))), some (.d (.lst ((hr q p).map (er (p.1 * q.1))))), e17, e18]) ∧ Dr (k + j) s []) [some (.d a), some (.ref 1), e2, some (.d (.int many)), some (.d (.lst ((both (hr p q) (hr q p)).map (er (p.1 * q.1))))), some (.d (.lst ((more (hr p q) (hr q p)).map (er (p.1 * q.1))))), some (.d (.lst ((more (hr q p) (hr p q)).map (er (p.1 * q.1))))), some (.d (apD p q)), some (.d (er (p.1 * q.1) (more (hr p q) (hr q p)).sum)), some (.d (enc (ar p q r))), some (.d (y)), e11, some (.d (sh p)), some (.d (sh q)), some (.d (sh r)), some (.d (.lst ((hr p q).map (er (p.1 * q.1))))), some (.d (.lst ((hr q p).map (er (p.1 * q.1))))), e17, e18] st ⟨⟨_, rfl⟩, h⟩ (fun j w env s hj ⟨⟨f11, he⟩, hd⟩ => by
    subst he
    obtain ⟨f, rfl, hf⟩ : ∃ f, w = .d (.fn f) ∧ f ∈ [15, 16] := by
      have := List.mem_of_getElem? hj
      simp at this
      rcases this with rfl | rfl <;> exact ⟨_, rfl, by decide⟩
    have hj2 : j < 2 := (List.getElem?_eq_some_iff.mp hj).1
    obtain ⟨st', d', c'⟩ := work_at (m := m) hm (by omega) T h1 h8 hy hd hf
    exact ⟨_, st', .inl (by rw [forF_v]; exact c'), ⟨⟨_, rfl⟩, d'⟩⟩)
  refine ⟨f11, st1, d1, ?_⟩
  have ls : evE (P.ctx m) (.lst false (.cons (.fnv 15) (.cons (.fnv 16) (.nil)))) [some (.d a), some (.ref 1), e2, some (.d (.int many)), some (.d (.lst ((both (hr p q) (hr q p)).map (er (p.1 * q.1))))), some (.d (.lst ((more (hr p q) (hr q p)).map (er (p.1 * q.1))))), some (.d (.lst ((more (hr q p) (hr p q)).map (er (p.1 * q.1))))), some (.d (apD p q)), some (.d (er (p.1 * q.1) (more (hr p q) (hr q p)).sum)), some (.d (enc (ar p q r))), some (.d (y)), e11, some (.d (sh p)), some (.d (sh q)), some (.d (sh r)), some (.d (.lst ((hr p q).map (er (p.1 * q.1))))), some (.d (.lst ((hr q p).map (er (p.1 * q.1))))), e17, e18] st = .ok (.d (.lst [.fn 15, .fn 16])) st := by simp
  show evS (P.ctx m) (.for_ (.v 11) (.seq (.lst false (.cons (.fnv 15) (.cons (.fnv 16) (.nil))))) workB) _ st = _
  rw [s_for_, i_seq_, ls, bind_ok]
  exact c1
theorem lap (hm : 8 ≤ m) {k : Nat} (hk : k + 200 < 10 ^ 17) (h : Dr k st []) :
    ∃ (f3 f4 f5 f6 f7 f8 f9 f10 f11 f12 f13 f14 f15 f16 : Option W) (st' : Store), Dr (k + 100) st' [] ∧ evSs (P.ctx m) lawB [some (.d a), some (.ref 1), e2, e3, e4, e5, e6, e7, e8, e9, e10, e11, e12, e13, e14, e15, e16, e17, e18] st = .ok (.nx [some (.d a), some (.ref 1), e2, f3, f4, f5, f6, f7, f8, f9, f10, f11, f12, f13, f14, f15, f16, e17, e18]) st' := by
  obtain ⟨many, s1, h1, h8, d1, c1⟩ := t1_ (m := m) (a := a) (e2 := e2) (e3 := e3) (e4 := e4) (e5 := e5) (e6 := e6) (e7 := e7) (e8 := e8) (e9 := e9) (e10 := e10) (e11 := e11) (e12 := e12) (e13 := e13) (e14 := e14) (e15 := e15) (e16 := e16) (e17 := e17) (e18 := e18) hm (by omega) h
  obtain ⟨p, q0, r, s2, hp, hq, h3, d2, c2⟩ := t2_ (m := m) (a := a) (e2 := e2) (e4 := e4) (e5 := e5) (e6 := e6) (e7 := e7) (e8 := e8) (e9 := e9) (e10 := e10) (e11 := e11) (e12 := e12) (e13 := e13) (e14 := e14) (e15 := e15) (e16 := e16) (e17 := e17) (e18 := e18) hm (by omega) h1 h8 d1
  obtain ⟨q, s3, T, d3, c3⟩ := t3_ (m := m) (a := a) (r := r) (e2 := e2) (e4 := e4) (e5 := e5) (e6 := e6) (e7 := e7) (e8 := e8) (e9 := e9) (e10 := e10) (e11 := e11) (e15 := e15) (e16 := e16) (e17 := e17) (e18 := e18) hm (by omega) h1 h8 hp hq d2
  obtain ⟨x, s4, hx, d4, c16⟩ := t16_ (m := m) (a := a) (q := q) (r := r) (e2 := e2) (e10 := e10) (e11 := e11) (e17 := e17) (e18 := e18) hm (by omega) h1 h8 hp d3
  obtain ⟨y, hy, c17⟩ := t17_ (m := m) (a := a) (p := p) (q := q) (r := r) (st := s4) (e2 := e2) (e11 := e11) (e17 := e17) (e18 := e18) hm h1 hx
  obtain ⟨f11, s5, d5, c18⟩ := t18_ (m := m) (a := a) (r := r) (e2 := e2) (e11 := e11) (e17 := e17) (e18 := e18) hm (by omega) T h1 h8 hy d4
  refine ⟨some (.d (.int many)), some (.d (.lst ((both (hr p q) (hr q p)).map (er (p.1 * q.1))))), some (.d (.lst ((more (hr p q) (hr q p)).map (er (p.1 * q.1))))), some (.d (.lst ((more (hr q p) (hr p q)).map (er (p.1 * q.1))))), some (.d (apD p q)), some (.d (er (p.1 * q.1) (more (hr p q) (hr q p)).sum)), some (.d (enc (ar p q r))), some (.d (y)), f11, some (.d (sh p)), some (.d (sh q)), some (.d (sh r)), some (.d (.lst ((hr p q).map (er (p.1 * q.1))))), some (.d (.lst ((hr q p).map (er (p.1 * q.1))))), s5, d5.mono (by omega), ?_⟩
  unfold lawB
  rw [ss_cons_, c1, next_nx, ss_cons_, c2, next_nx, ss_cons_, c3, next_nx, ss_cons_, t4_ hm T h8, next_nx, ss_cons_, t5_ hm T h8, next_nx, ss_cons_, t6_ hm T h8, next_nx, ss_cons_, t7_ hm T h8, next_nx, ss_cons_, t8_ hm T h1 h8, next_nx, ss_cons_, t9_ hm T h1 h8, next_nx, ss_cons_, t10_ hm T h1 h8, next_nx, ss_cons_, t11_ hm T h1 h8, next_nx, ss_cons_, t12_ hm T h1 h8, next_nx, ss_cons_, t13_ hm T h1 h8, next_nx, ss_cons_, t14_ hm T (up h3) h1 h8, next_nx, ss_cons_, t15_ hm T (up h3) h1 h8, next_nx, ss_cons_, c16, next_nx, ss_cons_, c17, next_nx, ss_cons_, c18, next_nx, ss_nil_]
end
end K07

namespace K07
open Mi
theorem pure_law (ns : List Int) (h : ns.length ≤ 63) : ∃ st, callD P 10 34 [.d (.lst (ns.map D.int))] [] = .ok (.d (.bl true)) st := by
  obtain ⟨st0, d0, c0⟩ := begun (m := 9) (by omega) ns h
  obtain ⟨N, hN, hNe⟩ : ∃ N : Nat, N ≤ 6 ∧ evE (P.ctx 9) (.op .add (.int 2) (.blt .min (.cons (.blt .len (.cons (.var 0) (.nil))) (.cons (.int 4) (.nil))))) [some (.d (.lst (ns.map D.int))), some (.ref 1), none, none, none, none, none, none, none, none, none, none, none, none, none, none, none, none, none] st0 = .ok (.d (.int (N : Int))) st0 := by
    have l : bltW .len [.d (.lst (ns.map D.int))] st0 = .ok (.d (.int (ns.length : Int))) st0 := by
      rw [len_lst, List.length_map]
    have mi : ∀ x : Int, bltW .min [.d (.int x), .d (.int 4)] st0 = .ok (.d (.int (if 4 < x then 4 else x))) st0 := fun x => rfl
    by_cases h4 : ns.length ≤ 4
    · refine ⟨2 + ns.length, by omega, ?_⟩
      simp only [e_op_, e_int__, e_blt_, e_var_, es_cons_, es_nil_, List.getElem?_cons_zero, bind_ok, l, mi, if_neg (show ¬ (4 : Int) < (ns.length : Int) by omega), op_add_]
      rfl
    · refine ⟨6, by omega, ?_⟩
      simp only [e_op_, e_int__, e_blt_, e_var_, es_cons_, es_nil_, List.getElem?_cons_zero, bind_ok, l, mi, if_pos (show (4 : Int) < (ns.length : Int) by omega), op_add_]
      rfl
  obtain ⟨env1, st1, c1, ⟨e2, e3, e4, e5, e6, e7, e8, e9, e10, e11, e12, e13, e14, e15, e16, rfl⟩, d1⟩ := fors_run (look := (Src.one (.rng 0 N)).at) (over := (Src.one (.rng 0 N)).over) (f := forF (P.ctx 9) (.v 2) lawB) (fun i env st => (∃ e2 e3 e4 e5 e6 e7 e8 e9 e10 e11 e12 e13 e14 e15 e16, env = [some (.d (.lst (ns.map D.int))), some (.ref 1), e2, e3, e4, e5, e6, e7, e8, e9, e10, e11, e12, e13, e14, e15, e16, none, none]) ∧ Dr (100 * i) st []) N 0 _ st0 ⟨⟨none, none, none, none, none, none, none, none, none, none, none, none, none, none, none, rfl⟩, d0⟩ (fun j env st _ hj ⟨⟨e2, e3, e4, e5, e6, e7, e8, e9, e10, e11, e12, e13, e14, e15, e16, he⟩, hd⟩ => by
    subst he
    obtain ⟨f3, f4, f5, f6, f7, f8, f9, f10, f11, f12, f13, f14, f15, f16, st', hd', c⟩ := lap (m := 9) (a := .lst (ns.map D.int)) (e2 := some (.d (.int (j : Nat)))) (e3 := e3) (e4 := e4) (e5 := e5) (e6 := e6) (e7 := e7) (e8 := e8) (e9 := e9) (e10 := e10) (e11 := e11) (e12 := e12) (e13 := e13) (e14 := e14) (e15 := e15) (e16 := e16) (e17 := none) (e18 := none) (by omega) (k := 100 * j) (by omega) hd
    have lt : j < N := by omega
    refine ⟨.one (.d (.int (j : Nat))), _, st', by simp [Src.at, Sq.at, lt], .inl (by rw [forF_v]; exact c), ⟨_, _, _, _, _, _, _, _, _, _, _, _, _, _, _, rfl⟩, hd'⟩) (fun _ _ _ => by simp [Src.over, Sq.over])
  refine ⟨st1.take 0, ?_⟩
  rw [go1 (by omega) (d := d34) rfl]
  refine (runD_ret (w := .d (.bl true)) (st1 := st1) rfl ?_).trans rfl
  show evSs (P.ctx 9) (.cons (.set 1 (.call 17 (.cons (.var 0) (.nil)))) (.cons (.for_ (.v 2) (.rng (.cons (.op .add (.int 2) (.blt .min (.cons (.blt .len (.cons (.var 0) (.nil))) (.cons (.int 4) (.nil))))) (.nil))) lawB) (.cons (.ret (.bl true)) (.nil)))) [some (.d (.lst (ns.map D.int))), none, none, none, none, none, none, none, none, none, none, none, none, none, none, none, none, none, none] [] = _
  have s1 : evS (P.ctx 9) (.set 1 (.call 17 (.cons (.var 0) (.nil)))) [some (.d (.lst (ns.map D.int))), none, none, none, none, none, none, none, none, none, none, none, none, none, none, none, none, none, none] [] = .ok (.nx [some (.d (.lst (ns.map D.int))), some (.ref 1), none, none, none, none, none, none, none, none, none, none, none, none, none, none, none, none, none]) st0 := by
    simp only [s_set_, e_call_, e_var_, es_cons_, es_nil_, List.getElem?_cons_zero, bind_ok, ctx_call, c0, then_ok, List.set_cons_succ, List.set_cons_zero]
  rw [ss_cons_, s1, next_nx, ss_cons_, s_for_, src_rng (N := N) (by omega) hNe, then_ok]
  have ln : (Src.one (.rng 0 N)).len = N := rfl
  rw [ln, c1]
  simp
end K07
namespace K07
open PySem PySem.W PySem.Spec L2 Mi
abbrev R : PySem.W.OpenRow := PySem.W.OpenLaw.row PySem.Challenge.rw_stoppedso_k07_how_far_shares_are_apart
abbrev hk : PySem.W.Hook := hookM L 5
def ob (s : PySem.W.SharedT) : He.AlX := L.seen 5 (HandSHeadRun.getT s)
theorem ob_eq (s : PySem.W.SharedT) : ob s = hk.obs s.abs := seen_eq (HandSHeadRun.getT_eq s)
def loose : List PySem.Str := [("__name__" : PySem.Str), ("StopError" : PySem.Str), ("BadCount" : PySem.Str), ("BadShare" : PySem.Str), ("BadShares" : PySem.Str), ("BadWeights" : PySem.Str), ("is_number" : PySem.Str), ("is_between" : PySem.Str), ("is_list" : PySem.Str), ("is_row" : PySem.Str), ("is_count_row" : PySem.Str), ("divisor_of" : PySem.Str), ("least_pair" : PySem.Str), ("need_many" : PySem.Str), ("ratio_of" : PySem.Str), ("is_pair_of" : PySem.Str), ("is_share_of" : PySem.Str), ("need_share" : PySem.Str), ("mean_of" : PySem.Str), ("apart_of" : PySem.Str), ("mixed" : PySem.Str), ("parting" : PySem.Str), ("apart" : PySem.Str), ("_law_begun" : PySem.Str), ("_law_blend" : PySem.Str), ("_law_take" : PySem.Str), ("_law_pick" : PySem.Str), ("_law_caught" : PySem.Str), ("_law_divisor" : PySem.Str), ("_law_ratio" : PySem.Str), ("_law_less" : PySem.Str), ("_law_add" : PySem.Str), ("_law_minus" : PySem.Str), ("_law_total" : PySem.Str), ("_law_pair" : PySem.Str), ("_law_ratios_of" : PySem.Str), ("_law_pair_of" : PySem.Str), ("_law_share" : PySem.Str), ("_law_some_many" : PySem.Str), ("_law_bad_share" : PySem.Str), ("_law_lesser" : PySem.Str)]
theorem chk : L.checked = true := by decide +kernel
theorem e1 : opening R.prog = plainProg R.prog.main.scope.names := by kernel_rfl
theorem e2 (s) : fenceModules? R.prog s = some s := by kernel_rfl
theorem run (w : World) : HandSHeadRun.RunEq R (PySem.W.view R.prog [45]) hk ob 4000 loose w := by
  intro os
  kernel_rfl
theorem pure_turns (ns : List Int) (h : ns.length ≤ 63) (_ : ∀ z ∈ ns, Builtin.Int.intBits z ≤ 1048576) : ∃ turns st, callD (L.prog turns) 10 34 [.d (.lst (ns.map D.int))] [] = .ok (.d (.bl true)) st := ⟨PT, pure_law ns h⟩
end K07
open PySem PySem.W PySem.Calls PyProof.Rows
theorem PySem.Challenge.cw_stoppedso_k07_how_far_shares_are_apart_holds : PySem.Challenge.rw_stoppedso_k07_how_far_shares_are_apart.Holds := by
  w_on; o_law
  refine HandSHeadRun.head_any (r := OpenLaw.row PySem.Challenge.rw_stoppedso_k07_how_far_shares_are_apart) (q := view (OpenLaw.row PySem.Challenge.rw_stoppedso_k07_how_far_shares_are_apart).prog [45]) (H := K07.hk) (ob := K07.ob) (M := 4000) (loose := K07.loose) (d := HandSHeadRun.topDef (OpenLaw.row PySem.Challenge.rw_stoppedso_k07_how_far_shares_are_apart).prog 45) (kwd := []) K07.ob_eq
    K07.e1 K07.e2 K07.run (by kernel_rfl) (by kernel_rfl) (by kernel_rfl) (by rfl) (by first | assumption | decide +kernel) (by decide +kernel) ⟨rfl, rfl, rfl, rfl, rfl, by decide +kernel⟩ ?hw ?hc
  case hw => w_witness2
  case hc => exact Mi.walkM (L := K07.L) (n := 10) (f := 34) (y := "_law_script") rfl (by kernel_rfl) K07.chk rfl ⟨rfl, by decide, by decide⟩ (by kernel_rfl) (by kernel_rfl) K07.pure_turns
