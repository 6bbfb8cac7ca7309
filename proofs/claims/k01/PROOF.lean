import PyProof.Rows.All
import Wide.All
import OpenK.AllK
import Wide.FinOn
import HandS.ForMost
import HandS.Exc
import HandS.Flow
import KE.DataEq
import KE.DataCmp
import HandS.TupAny
import HandS.TupMul
import HandS.Zip
import KE.DataAny
import KE.DataMinMax
import KE.KTupSum
import PyProof.ReprRoads
import HandS.Defaults
import HandS.IsInst
import HandS.Codes
import HandS.HeadEnd
import KE.KStateDown
import HandS.Head0
import HandS.Head1
import HandS.Head2
import HandS.HeadHook1
import HandS.HeadHook2
import PySem.Challenge.RW_rootfigures_k01_whole_rows_of_one_judged
set_option linter.all false
set_option maxRecDepth 100000
namespace Ev
open PySem

/-! data, the store, results -/
inductive D where
  | non | bl (b : Bool) | int (i : Int) | str (x : Str) | tup (ds : List D) | lst (ds : List D) | fro (ds : List D) | ref (n : Nat) | dic
  deriving Inhabited
inductive SO where
  | lst (ds : List D)
abbrev Store := List SO
abbrev Env := List (Option D)
/-- an exception: its class's name, its field -/
structure Xn where
  cls : Str
  arg : Option D
inductive Rs (α : Type) where
  | ok (a : α) (S : Store)
  | ex (x : Xn) (S : Store)
abbrev M (α : Type) := Store → Option (Rs α)
def M.pure {α : Type} (a : α) : M α := fun S => some (.ok a S)
def M.bind {α β : Type} (x : M α) (f : α → M β) : M β := fun S => match x S with
  | some (.ok a S') => f a S'
  | some (.ex x S') => some (.ex x S')
  | none => none
def stuck {α : Type} : M α := fun _ => none
def opt {α : Type} : Option α → M α
  | some a => M.pure a
  | none => stuck
def raiseM {α : Type} (x : Xn) : M α := fun S => some (.ex x S)
/-- no exception may come -/
def noX {α : Type} (x : M α) : M α := fun S => match x S with
  | some (.ok a S') => some (.ok a S')
  | _ => none
def alloc (o : SO) : M D := fun S => some (.ok (.ref S.length) (S ++ [o]))
def getO (n : Nat) : M SO := fun S => match S[n]? with
  | some o => some (.ok o S)
  | none => none
def putO (n : Nat) (o : SO) : M Unit := fun S => if n < S.length then some (.ok () (S.set n o)) else none

/-! the syntax -/
inductive Op where | add | sub | mul | fdiv | mod | pow
  deriving DecidableEq
inductive Cm where | eq | ne | lt | le | gt | ge | isN | notN | inn | nin
  deriving DecidableEq
inductive Bi where | len | abs | int | tuple | list | any | all | max | min | sum | repr | max2 | min2
  deriving DecidableEq
inductive Ty where | int | bool | str | tuple | list
  deriving DecidableEq
inductive Me where | append | extend | pop
  deriving DecidableEq
inductive Tg where | name (i : Nat) | tup (ts : List Tg)
inductive Sk where | seq | rng1 | rng2 | rng3 | enum | zip
  deriving DecidableEq
inductive E where
  | var (i : Nat) | c (d : D)
  | tup (es : List E) | lst (es : List E) | new (es : List E)
  | bin (o : Op) (a b : E) | neg (a : E) | notE (a : E) | andE (a b : E) | orE (a b : E)
  | cmp (o : Cm) (a b : E) | chain (o p : Cm) (a b c : E) | ifE (c a b : E)
  | idx (a b : E) | sl (a : E) (l : Bool) (lo : E) (h : Bool) (hi : E)
  | call (f : Nat) (es : List E) | bi (b : Bi) (es : List E) | isi (a : E) (t : Ty) | dic (es : List E) | never | meth (m : Me) (o : E) (es : List E)
  | comp (vs : List Nat) (tg : Tg) (k : Sk) (src : List E) (conds : List E) (elt : E)
inductive S where
  | set (tg : Tg) (e : E) | par (i j : Nat) (a b : E) | par3 (i j l : Nat) (a b c : E)
  | setI (o i e : E) | aug (o : Op) (i : Nat) (e : E) | augI (o : Op) (x i e : E)
  | ex (e : E) | ret (e : E) | retN
  | ifS (c : E) (a b : List S) | forS (tg : Tg) (k : Sk) (src : List E) (body : List S) | whileS (c : E) (body : List S)
  | brk | cont | pass | never

/-! operations on values -/
def sizeMax : Nat := 16777216
def liftD (p : Bool) (d : D) : Option D := if p then some d else none
def listRep {α : Type} (l : List α) (k : Int) : List α := (List.replicate k.toNat l).flatten
def mulOk (i j : Int) : Bool := (decide (-(2 ^ 64) < i) && decide (i < 2 ^ 64)) || (decide (-(2 ^ 64) < j) && decide (j < 2 ^ 64))
def repOk (n : Nat) (k : Int) : Bool := decide (-(2 ^ 62) ≤ k) && decide (k < 2 ^ 62) && decide (n * k.toNat ≤ sizeMax)
def binV : Op → D → D → Option D
  | .add, .int i, .int j => some (.int (i + j))
  | .add, .tup a, .tup b => liftD (decide (a.length + b.length ≤ sizeMax)) (.tup (a ++ b))
  | .add, .lst a, .lst b => liftD (decide (a.length + b.length ≤ sizeMax)) (.lst (a ++ b))
  | .add, .str a, .str b => liftD (decide (a.length + b.length ≤ sizeMax)) (.str (a ++ b))
  | .sub, .int i, .int j => some (.int (i - j))
  | .mul, .int i, .int j => liftD (mulOk i j) (.int (i * j))
  | .mul, .tup a, .int k => liftD (repOk a.length k) (.tup (listRep a k))
  | .mul, .lst a, .int k => liftD (repOk a.length k) (.lst (listRep a k))
  | .fdiv, .int i, .int j => liftD (decide (j ≠ 0) && decide (j.natAbs < 1073741824)) (.int (i.fdiv j))
  | .mod, .int i, .int j => liftD (decide (j ≠ 0)) (.int (i.fmod j))
  | .pow, .int i, .int j => liftD (decide (0 ≤ j) && decide (j ≤ 1000000) && decide (i.natAbs < 2 ^ 64)) (.int (i ^ j.toNat))
  | _, _, _ => none
/-- a op= b, of ints -/
def augV : Op → D → D → Option D
  | .add, .int i, .int j => some (.int (i + j))
  | .sub, .int i, .int j => some (.int (i - j))
  | _, _, _ => none
def _root_.PySem.PyData.isNone : PyData → Bool
  | .none => true
  | _ => false
mutual
def toP : D → Option PyData
  | .non => some .none
  | .bl b => some (.bool b)
  | .int i => some (.int i)
  | .str x => some (.str x)
  | .tup ds => (toPs ds).map .tuple
  | .lst ds => (toPs ds).map .list
  | .fro _ => none
  | .ref _ => none
  | .dic => none
def toPs : List D → Option (List PyData)
  | [] => some []
  | d :: ds => match toP d, toPs ds with
    | some p, some ps => some (p :: ps)
    | _, _ => none
end
def eqD (a b : D) : Option Bool := match toP a, toP b with
  | some p, some q => if min p.depth q.depth ≤ 60 then some (PyData.eqv p q) else none
  | _, _ => none
/-- a < b of alike data -/
def ltD (a b : D) : Option Bool := match toP a, toP b with
  | some p, some q => if min p.depth q.depth ≤ 60 && W.alike p q && !p.isNone then some (W.dataLt p q) else none
  | _, _ => none
def toI : D → Option Int
  | .int i => some i
  | _ => none
def toIs : List D → Option (List Int)
  | [] => some []
  | d :: ds => match toI d, toIs ds with
    | some i, some is => some (i :: is)
    | _, _ => none
def isNon : D → Bool
  | .non => true
  | _ => false
def inAll (a : D) (ds : List D) : Option Bool := match toP a, toPs ds with
  | some p, some ps => if min (PyData.depthAll ps) p.depth ≤ 60 then some (ps.any fun y => PyData.eqv y p) else none
  | _, _ => none
def inD (a : D) : D → Option Bool
  | .tup ds => inAll a ds
  | .lst ds => inAll a ds
  | _ => none
/-- comparisons of values that stand alone -/
def cmpV : Cm → D → D → Option Bool
  | .eq, a, b => eqD a b
  | .ne, a, b => (eqD a b).map (!·)
  | .lt, .int i, .int j => some (decide (i < j))
  | .le, .int i, .int j => some (decide (i ≤ j))
  | .gt, .int i, .int j => some (decide (j < i))
  | .ge, .int i, .int j => some (decide (j ≤ i))
  | .lt, a, b => ltD a b
  | .gt, a, b => ltD b a
  | .le, a, b => (ltD b a).map (!·)
  | .ge, a, b => (ltD a b).map (!·)
  | .inn, a, b => inD a b
  | .nin, a, b => (inD a b).map (!·)
  | .isN, a, .non => some (isNon a)
  | .notN, a, .non => some (!isNon a)
  | _, _, _ => none
def idxV : D → D → Option D
  | .tup ds, .int i => L2.atI ds i
  | .lst ds, .int i => L2.atI ds i
  | .fro ds, .int i => L2.atI ds i
  | .str x, .int i => if x.length ≤ sizeMax then (L2.atI x.cps.toList i).map fun c => .str ⟨#[c]⟩ else none
  | _, _ => none
def cutD (ds : List D) (lo hi : Option Int) : List D := (ds.drop (HT.sIx ds.length 0 lo)).take (HT.sIx ds.length ds.length hi - HT.sIx ds.length 0 lo)
def slV : D → Option Int → Option Int → Option D
  | .tup ds, lo, hi => some (.tup (cutD ds lo hi))
  | .lst ds, lo, hi => some (.lst (cutD ds lo hi))
  | .fro ds, lo, hi => some (.lst (cutD ds lo hi))
  | _, _, _ => none
def truV : D → Option Bool
  | .non => some false
  | .bl b => some b
  | .int i => some (i != 0)
  | .str x => if x.length ≤ sizeMax then some ((x.length : Int) != 0) else none
  | .tup ds => some (!ds.isEmpty)
  | .lst ds => some (!ds.isEmpty)
  | .fro ds => some (!ds.isEmpty)
  | .ref _ => none
  | .dic => none
/-- the truth of an item of any, all: no text -/
def truN : D → Option Bool
  | .non => some false
  | .bl b => some b
  | .int i => some (i != 0)
  | .tup ds => some (!ds.isEmpty)
  | .lst ds => some (!ds.isEmpty)
  | _ => none
def truNs : List D → Option (List Bool)
  | [] => some []
  | d :: ds => match truN d, truNs ds with
    | some b, some bs => some (b :: bs)
    | _, _ => none
def itemsV : D → Option (List D)
  | .tup ds => some ds
  | .lst ds => some ds
  | .fro ds => some ds
  | _ => none
def maxI : List Int → Option Int
  | [] => none
  | x :: xs => some (xs.foldl max x)
def minI : List Int → Option Int
  | [] => none
  | x :: xs => some (xs.foldl min x)
def lenV : D → Option Nat
  | .tup ds => some ds.length
  | .lst ds => some ds.length
  | .fro ds => some ds.length
  | .str x => if x.length ≤ sizeMax then some x.length else none
  | _ => none
def reprV (d : D) : Option D := match toP d with
  | some p => if p.showable && !p.hasDict && decide (p.shown.length ≤ sizeMax) && decide (p.depth ≤ 32) then some (.str p.shown) else none
  | none => none
def one1 (f : D → Option D) : List D → Option D
  | [d] => f d
  | _ => none
def two2 (f : Int → Int → D) : List D → Option D
  | [.int i, .int j] => some (f i j)
  | _ => none
def absV : D → Option D
  | .int i => some (.int (if i < 0 then -i else i))
  | _ => none
def intV : D → Option D
  | .int i => some (.int i)
  | .bl b => some (.int (if b then 1 else 0))
  | _ => none
def anyV (d : D) : Option D := (itemsV d).bind fun ds => (toPs ds).bind fun _ => (truNs ds).map fun bs => .bl (bs.any id)
def allV (d : D) : Option D := (itemsV d).bind fun ds => (toPs ds).bind fun _ => (truNs ds).map fun bs => .bl (bs.all id)
def maxV (d : D) : Option D := (itemsV d).bind fun ds => (toIs ds).bind fun ns => (maxI ns).map .int
def minV (d : D) : Option D := (itemsV d).bind fun ds => (toIs ds).bind fun ns => (minI ns).map .int
def sumV (d : D) : Option D := (itemsV d).bind fun ds => (toIs ds).map fun ns => .int ns.sum
def biV : Bi → List D → Option D
  | .len => one1 fun d => (lenV d).map fun n => .int (n : Nat)
  | .abs => one1 absV
  | .int => one1 intV
  | .tuple => one1 fun d => (itemsV d).map .tup
  | .list => one1 fun d => (itemsV d).map .lst
  | .any => one1 anyV
  | .all => one1 allV
  | .max => one1 maxV
  | .min => one1 minV
  | .sum => one1 sumV
  | .repr => one1 reprV
  | .max2 => two2 fun i j => .int (if j > i then j else i)
  | .min2 => two2 fun i j => .int (if j < i then j else i)
def isiV : D → Ty → Option Bool
  | .ref _, _ => none
  | .int _, .int => some true
  | .bl _, .int => some true
  | .bl _, .bool => some true
  | .str _, .str => some true
  | .tup _, .tuple => some true
  | .lst _, .list => some true
  | .fro _, .list => some true
  | _, _ => some false

/-! control -/
inductive Fl where | nx | rt (d : D) | bk | ct
def asg : Tg → D → Env → Option Env
  | .name i, d, ρ => if i < ρ.length then some (ρ.set i (some d)) else none
  | .tup ts, .tup ds, ρ => asgs ts ds ρ
  | .tup _, _, _ => none
where asgs : List Tg → List D → Env → Option Env
  | [], [], ρ => some ρ
  | t :: ts, d :: ds, ρ => match asg t d ρ with
    | some ρ' => asgs ts ds ρ'
    | none => none
  | _, _, _ => none
/-- what a loop walks: known items; a list of the store as it stands at each turn -/
inductive Src where | items (ds : List D) | ref (n : Nat)
def inRg (i : Int) : Bool := decide (-(2 ^ 62) ≤ i) && decide (i < 2 ^ 62)
def rangeD (lo : Int) (n : Nat) : List D := (List.range n).map fun k => .int (lo + (k : Nat))
def rangeC (lo c : Int) (n : Nat) : List D := (List.range n).map fun k => .int (lo + (k : Nat) * c)
def srcOf : Sk → List D → Option Src
  | .seq, [.ref n] => some (.ref n)
  | .seq, [d] => (itemsV d).map .items
  | .rng1, [.int j] => if inRg j then some (.items (rangeD 0 j.toNat)) else none
  | .rng2, [.int i, .int j] => if inRg i && inRg j then some (.items (rangeD i (j - i).toNat)) else none
  | .rng3, [.int i, .int j, .int c] => if decide (c ≠ 0) && decide (c.natAbs < 1073741824) && Builtin.Range.small i j c && decide (0 ≤ Builtin.Range.rangeSize i j c) then some (.items (rangeC i c (Builtin.Range.rangeSize i j c).toNat)) else none
  | .enum, [d] => (itemsV d).map fun ds => .items (ds.zipIdx.map fun (x, k) => .tup [.int (k : Nat), x])
  | .zip, [d, e] => do let ds ← itemsV d; let es ← itemsV e; pure (.items ((ds.zip es).map fun (x, y) => .tup [x, y]))
  | _, _ => none
def loopL (turn : D → Env → M (Fl × Env)) : List D → Env → M (Fl × Env)
  | [], ρ => M.pure (.nx, ρ)
  | d :: ds, ρ => M.bind (turn d ρ) fun (f, ρ') => match f with
    | .nx => loopL turn ds ρ'
    | .ct => loopL turn ds ρ'
    | .bk => M.pure (.nx, ρ')
    | .rt v => M.pure (.rt v, ρ')
def loopR (turn : D → Env → M (Fl × Env)) (n : Nat) (i : Nat) (ρ : Env) (S : Store) : Option (Rs (Fl × Env)) :=
  match S[n]? with
  | some (.lst ds) => (match ds[i]? with
    | none => some (.ok (.nx, ρ) S)
    | some d => (match turn d ρ S with
      | some (.ok (.nx, ρ') S') => loopR turn n (i + 1) ρ' S'
      | some (.ok (.ct, ρ') S') => loopR turn n (i + 1) ρ' S'
      | some (.ok (.bk, ρ') S') => some (.ok (.nx, ρ') S')
      | some (.ok (.rt v, ρ') S') => some (.ok (.rt v, ρ') S')
      | some (.ex x S') => some (.ex x S')
      | none => none))
  | none => none
partial_fixpoint
def loopM (turn : D → Env → M (Fl × Env)) : Src → Env → M (Fl × Env)
  | .items ds, ρ => loopL turn ds ρ
  | .ref n, ρ => loopR turn n 0 ρ
def whileM (c : Env → M Bool) (b : Env → M (Fl × Env)) (ρ : Env) (S : Store) : Option (Rs (Fl × Env)) :=
  match c ρ S with
  | some (.ok true S1) => (match b ρ S1 with
    | some (.ok (.nx, ρ') S') => whileM c b ρ' S'
    | some (.ok (.ct, ρ') S') => whileM c b ρ' S'
    | some (.ok (.bk, ρ') S') => some (.ok (.nx, ρ') S')
    | some (.ok (.rt v, ρ') S') => some (.ok (.rt v, ρ') S')
    | some (.ex x S') => some (.ex x S')
    | none => none)
  | some (.ok false S1) => some (.ok (.nx, ρ) S1)
  | some (.ex x S') => some (.ex x S')
  | none => none
partial_fixpoint
/-- a comprehension: f tells the new item, if any -/
def compL (f : D → M (Option D)) : List D → List D → M (List D)
  | [], acc => M.pure acc
  | d :: ds, acc => M.bind (f d) fun o => match o with
    | none => compL f ds acc
    | some y => if acc.length < sizeMax then compL f ds (acc ++ [y]) else stuck
def compR (f : D → M (Option D)) (n : Nat) (i : Nat) (acc : List D) (S : Store) : Option (Rs (List D)) :=
  match S[n]? with
  | some (.lst ds) => (match ds[i]? with
    | none => some (.ok acc S)
    | some d => (match f d S with
      | some (.ok none S') => compR f n (i + 1) acc S'
      | some (.ok (some y) S') => if acc.length < sizeMax then compR f n (i + 1) (acc ++ [y]) S' else none
      | some (.ex x S') => some (.ex x S')
      | none => none))
  | none => none
partial_fixpoint
def compM (f : D → M (Option D)) : Src → M (List D)
  | .items ds => compL f ds []
  | .ref n => compR f n 0 []
def wipeD (ρ : Env) : List Nat → Env
  | [] => ρ
  | v :: vs => (wipeD ρ vs).set v none

/-! evaluation -/
/-- a value of the store, as it stands now -/
def peekP (S : Store) : D → Option D
  | .ref n => match S[n]? with
    | some (.lst ds) => some (.lst ds)
    | none => none
  | d => some d
def peek (d : D) : M D := fun S => match peekP S d with
  | some d => some (.ok d S)
  | none => none
def truP (S : Store) (d : D) : Option Bool := (peekP S d).bind truV
def truM (d : D) : M Bool := fun S => match truP S d with
  | some b => some (.ok b S)
  | none => none
/-- what a built-in reads of a list of the store, it reads as the list stands -/
def biReads : Bi → Bool
  | .len => true | .tuple => true | .list => true | .any => true | .all => true | .max => true | .min => true | .sum => true
  | _ => false
def biM (b : Bi) (ds : List D) : M D := match ds with
  | [d] => if biReads b then M.bind (peek d) fun d => opt (biV b [d]) else opt (biV b [d])
  | ds => opt (biV b ds)
def partM : Bool → D → Option (Option Int)
  | false, _ => some none
  | true, .int i => some (some i)
  | true, _ => none
def seqIx (n : Nat) (i : Int) : Option Nat := L2.ixN n i
/-- what a method is asked of -/
def meReady : Me → D → M Unit
  | _, .ref n => M.bind (getO n) fun o => match o with
    | .lst _ => M.pure ()
  | _, _ => stuck
def appM : D → List D → M D
  | .ref n, [d] => M.bind (getO n) fun o => match o with
    | .lst ds => if ds.length < sizeMax then M.bind (putO n (.lst (ds ++ [d]))) fun _ => M.pure .non else stuck
  | _, _ => stuck
def extM : D → List D → M D
  | .ref n, [.lst es] => M.bind (getO n) fun o => match o with
    | .lst ds => if ds.length + es.length ≤ sizeMax then M.bind (putO n (.lst (ds ++ es))) fun _ => M.pure .non else stuck
  | _, _ => stuck
def popM : D → List D → M D
  | .ref n, [] => M.bind (getO n) fun o => match o with
    | .lst ds => match ds[ds.length - 1]? with
      | some y => M.bind (putO n (.lst ds.dropLast)) fun _ => M.pure y
      | none => stuck
  | _, _ => stuck
def meM : Me → D → List D → M D
  | .append => appM
  | .extend => extM
  | .pop => popM
def getIM : D → D → M D
  | .ref n, .int k => M.bind (getO n) fun o => match o with
    | .lst ds => opt (L2.atI ds k)
  | _, _ => stuck
def setIM : D → D → D → M Unit
  | .ref n, .int k, v => M.bind (getO n) fun o => match o with
    | .lst ds => match L2.ixN ds.length k with
      | some j => putO n (.lst (ds.set j v))
      | none => stuck
  | _, _, _ => stuck

variable (call : Nat → List D → M D)
def testsM : List (Env → M D) → Env → M Bool
  | [], _ => M.pure true
  | c :: cs, ρ => M.bind (c ρ) fun d => M.bind (truM d) fun t => if t then testsM cs ρ else M.pure false
mutual
def evE : E → Env → M D
  | .var i, ρ => match ρ[i]? with
    | some (some d) => M.pure d
    | _ => stuck
  | .c d, _ => M.pure d
  | .tup es, ρ => M.bind (evEs es ρ) fun ds => M.pure (.tup ds)
  | .lst es, ρ => M.bind (evEs es ρ) fun ds => M.pure (.lst ds)
  | .new es, ρ => M.bind (evEs es ρ) fun ds => alloc (.lst ds)
  | .bin o a b, ρ => M.bind (evE a ρ) fun x => M.bind (evE b ρ) fun y => opt (binV o x y)
  | .neg a, ρ => M.bind (evE a ρ) fun x => match x with
    | .int i => M.pure (.int (-i))
    | _ => stuck
  | .notE a, ρ => M.bind (evE a ρ) fun x => M.bind (truM x) fun t => M.pure (.bl (!t))
  | .andE a b, ρ => M.bind (evE a ρ) fun x => M.bind (truM x) fun t => if t then evE b ρ else M.pure x
  | .orE a b, ρ => M.bind (evE a ρ) fun x => M.bind (truM x) fun t => if t then M.pure x else evE b ρ
  | .cmp o a b, ρ => M.bind (evE a ρ) fun x => M.bind (evE b ρ) fun y => M.bind (opt (cmpV o x y)) fun t => M.pure (.bl t)
  | .chain o p a b c, ρ => M.bind (evE a ρ) fun x => M.bind (evE b ρ) fun y => M.bind (opt (cmpV o x y)) fun t =>
      if t then M.bind (evE c ρ) fun z => M.bind (opt (cmpV p y z)) fun t => M.pure (.bl t) else M.pure (.bl false)
  | .ifE c a b, ρ => M.bind (evE c ρ) fun x => M.bind (truM x) fun t => if t then evE a ρ else evE b ρ
  | .idx a b, ρ => M.bind (evE a ρ) fun x => M.bind (evE b ρ) fun y => M.bind (peek x) fun x => opt (idxV x y)
  | .sl a l lo h hi, ρ => M.bind (evE a ρ) fun x => M.bind (if l then evE lo ρ else M.pure .non) fun y => M.bind (opt (partM l y)) fun y =>
      M.bind (if h then evE hi ρ else M.pure .non) fun z => M.bind (opt (partM h z)) fun z => M.bind (peek x) fun x => opt (slV x y z)
  | .call f es, ρ => M.bind (evEs es ρ) fun ds => call f ds
  | .bi b es, ρ => M.bind (evEs es ρ) fun ds => biM b ds
  | .isi a t, ρ => M.bind (evE a ρ) fun x => M.bind (peek x) fun x => M.bind (opt (isiV x t)) fun b => M.pure (.bl b)
  | .meth m o es, ρ => M.bind (evE o ρ) fun x => M.bind (meReady m x) fun _ => M.bind (evEs es ρ) fun ds => meM m x ds
  | .never, _ => stuck
  | .dic es, ρ => M.bind (evEs es ρ) fun _ => M.pure .dic
  | .comp vs tg k src conds elt, ρ => M.bind (evEs src ρ) fun ds => M.bind (opt (srcOf k ds)) fun sc =>
      M.bind (compM (fun d => match asg tg d (wipeD ρ vs) with
        | some ρ' => noX (M.bind (evTs conds ρ') fun t => if t then M.bind (evE elt ρ') fun y => M.pure (some y) else M.pure none)
        | none => stuck) sc) fun ds => M.pure (.lst ds)
def evEs : List E → Env → M (List D)
  | [], _ => M.pure []
  | e :: es, ρ => M.bind (evE e ρ) fun d => M.bind (evEs es ρ) fun ds => M.pure (d :: ds)
def evTs : List E → Env → M Bool
  | [], _ => M.pure true
  | e :: es, ρ => M.bind (evE e ρ) fun d => M.bind (truM d) fun t => if t then evTs es ρ else M.pure false
end
def evT (e : E) (ρ : Env) : M Bool := M.bind (evE call e ρ) truM
mutual
def exS : S → Env → M (Fl × Env)
  | .set tg e, ρ => M.bind (evE call e ρ) fun d => match asg tg d ρ with
    | some ρ' => M.pure (.nx, ρ')
    | none => stuck
  | .par i j a b, ρ => M.bind (evE call a ρ) fun x => M.bind (evE call b ρ) fun y => M.pure (.nx, (ρ.set i (some x)).set j (some y))
  | .par3 i j l a b c, ρ => M.bind (evE call a ρ) fun x => M.bind (evE call b ρ) fun y => M.bind (evE call c ρ) fun z => M.pure (.nx, ((ρ.set l (some z)).set j (some y)).set i (some x))
  | .setI o i e, ρ => M.bind (evE call e ρ) fun v => M.bind (evE call o ρ) fun x => M.bind (evE call i ρ) fun y => M.bind (setIM x y v) fun _ => M.pure (.nx, ρ)
  | .aug o i e, ρ => match ρ[i]? with
    | some (some x) => M.bind (evE call e ρ) fun y => M.bind (opt (augV o x y)) fun z => M.pure (.nx, ρ.set i (some z))
    | _ => stuck
  | .augI o x i e, ρ => M.bind (evE call x ρ) fun x => M.bind (evE call i ρ) fun y => M.bind (getIM x y) fun old =>
      M.bind (evE call e ρ) fun v => M.bind (opt (augV o old v)) fun z => M.bind (setIM x y z) fun _ => M.pure (.nx, ρ)
  | .ex e, ρ => M.bind (evE call e ρ) fun _ => M.pure (.nx, ρ)
  | .ret e, ρ => M.bind (evE call e ρ) fun d => M.pure (.rt d, ρ)
  | .retN, ρ => M.pure (.rt .non, ρ)
  | .ifS c a b, ρ => M.bind (evT call c ρ) fun t => if t then exSs a ρ else exSs b ρ
  | .forS tg k src body, ρ => M.bind (evEs call src ρ) fun ds => M.bind (opt (srcOf k ds)) fun sc =>
      loopM (fun d ρ => match asg tg d ρ with
        | some ρ' => exSs body ρ'
        | none => stuck) sc ρ
  | .whileS c body, ρ => whileM (evT call c) (exSs body) ρ
  | .brk, ρ => M.pure (.bk, ρ)
  | .cont, ρ => M.pure (.ct, ρ)
  | .pass, ρ => M.pure (.nx, ρ)
  | .never, _ => stuck
def exSs : List S → Env → M (Fl × Env)
  | [], ρ => M.pure (.nx, ρ)
  | s :: ss, ρ => M.bind (exS s ρ) fun (f, ρ') => match f with
    | .nx => exSs ss ρ'
    | f => M.pure (f, ρ')
end
structure Fd where
  np : Nat
  n : Nat
  body : List S
def outM (r : Fl × Env) : M D := match r.1 with
  | .rt d => M.pure d
  | .nx => M.pure .non
  | _ => stuck
/-- a call, so deep at most -/
def callV (prog : Nat → Option Fd) : Nat → Nat → List D → M D
  | 0, _, _ => stuck
  | k + 1, f, ds => match prog f with
    | some fd => if ds.length = fd.np then M.bind (exSs (callV prog k) fd.body (ds.map some ++ List.replicate (fd.n - fd.np) none)) outM else stuck
    | none => stuck
end Ev
set_option linter.all false
set_option maxRecDepth 100000
set_option maxHeartbeats 1000000
namespace Ev
open PySem PySem.Spec PyProof.Rows L2

/-- a list that is never written: the script, an object of the module -/
def FroAt (K : PySem.W.Frag) (H : Hp) (a : Addr) (xs : List V) : Prop := (∃ o, H a = some (.frz o (.lst xs))) ∨ ∀ H', SqL K H' a xs
theorem FroAt.sq {K : PySem.W.Frag} {H : Hp} {a : Addr} {xs : List V} (h : FroAt K H a xs) : SqL K H a xs := by
  rcases h with ⟨o, h⟩ | h
  · exact .inl (.inr ⟨o, h⟩)
  · exact h H
/-- where the store's lists lie; lists that are kept from reach -/
structure Am where
  l : List Addr
  p : List Addr
instance : Membership Addr Am := ⟨fun m a => a ∈ m.l ∨ a ∈ m.p⟩
def Am.push (m : Am) (a : Addr) : Am := ⟨m.l ++ [a], m.p⟩
/-! how values stand for data -/
mutual
def VD (K : PySem.W.Frag) (m : Am) (H : Hp) : D → V → Prop
  | .non, v => v = .non
  | .bl b, v => v = .bl b
  | .int i, v => v = .int i
  | .str x, v => v = .str x
  | .tup ds, v => ∃ a xs, v = .ref a ∧ SqT K H a xs ∧ VDs K m H ds xs
  | .lst ds, v => ∃ a xs, v = .ref a ∧ H a = some (.lst xs) ∧ a ∉ m ∧ VDs K m H ds xs
  | .fro ds, v => ∃ a xs, v = .ref a ∧ FroAt K H a xs ∧ VDs K m H ds xs
  | .ref n, v => ∃ a, v = .ref a ∧ m.l[n]? = some a
  | .dic, v => ∃ a kvs, v = .ref a ∧ H a = some (.dK kvs)
def VDs (K : PySem.W.Frag) (m : Am) (H : Hp) : List D → List V → Prop
  | [], vs => vs = []
  | d :: ds, vs => ∃ v r, vs = v :: r ∧ VD K m H d v ∧ VDs K m H ds r
end
/-- an object of the store -/
def SOR (K : PySem.W.Frag) (m : Am) (H : Hp) (a : Addr) : SO → Prop
  | .lst ds => ∃ xs, H a = some (.lst xs) ∧ VDs K m H ds xs
structure Sto (K : PySem.W.Frag) (m : Am) (H : Hp) (S : Store) : Prop where
  nd : m.l.Nodup
  dis : ∀ a ∈ m.p, a ∉ m.l
  pro : ∀ a ∈ m.p, ∃ xs, H a = some (.lst xs)
  len : m.l.length = S.length
  obj : ∀ (i : Nat) (a : Addr) (o : SO), m.l[i]? = some a → S[i]? = some o → SOR K m H a o
/-- a step: the store's objects may change, new ones come, all else stays -/
structure Stw (m : Am) (H : Hp) (m' : Am) (H' : Hp) : Prop where
  ext : ∃ e, m'.l = m.l ++ e ∧ m'.p = m.p ∧ ∀ a ∈ e, H a = none
  keep : ∀ a o, H a = some o → a ∉ m → H' a = some o
  there : ∀ a, H a ≠ none → H' a ≠ none
structure Stp (m : Am) (H : Hp) (m' : Am) (H' : Hp) : Prop extends Stw m H m' H' where
  pro : ∀ a ∈ m.p, H' a = H a
def EnvR (K : PySem.W.Frag) (m : Am) (H : Hp) (σ : L2.St) (ρ : Env) : Prop :=
  ρ.length = σ.length ∧ ∀ (i : Nat) (d : D), ρ[i]? = some (some d) → ∃ v, σ[i]? = some (some v) ∧ VD K m H d v

section
variable {K : PySem.W.Frag} {m m' m'' : Am} {H H' H'' : Hp} {S S' : Store} {a p : Addr} {i : Nat}
theorem Am.of (h : m.l[i]? = some a) : a ∈ m := .inl (List.mem_of_getElem? h)
theorem Am.nin (h : a ∉ m) : a ∉ m.l ∧ a ∉ m.p := ⟨fun z => h (.inl z), fun z => h (.inr z)⟩
theorem Sto.there (s : Sto K m H S) (h : a ∈ m) : ∃ xs, H a = some (.lst xs) := by
  rcases h with h | h
  · obtain ⟨i, hi⟩ := List.getElem?_of_mem h
    have hl : i < S.length := by
      have := (List.getElem?_eq_some_iff.mp hi).1
      have := s.len
      omega
    have q := s.obj i a S[i] hi (List.getElem?_eq_getElem hl)
    cases e : S[i] with
    | lst ds =>
      rw [e] at q
      obtain ⟨xs, q, _⟩ := q
      exact ⟨xs, q⟩
  · exact s.pro a h
theorem Stw.nin (h : Stw m H m' H') (n : a ∉ m) (q : H a ≠ none) : a ∉ m' := by
  obtain ⟨e, he, hp, hn⟩ := h.ext
  rintro (hm | hm)
  · rw [he] at hm
    rcases List.mem_append.mp hm with hm | hm
    · exact n (.inl hm)
    · exact q (hn a hm)
  · rw [hp] at hm
    exact n (.inr hm)
theorem Stw.trans (h1 : Stw m H m' H') (h2 : Stw m' H' m'' H'') : Stw m H m'' H'' := by
  obtain ⟨e, he, hp, hn⟩ := h1.ext
  obtain ⟨e', he', hp', hn'⟩ := h2.ext
  refine ⟨⟨e ++ e', by rw [he', he, List.append_assoc], by rw [hp', hp], fun a ha => ?_⟩, fun a o q n => h2.keep a o (h1.keep a o q n) (h1.nin n (by rw [q]; simp)), fun a q => h2.there a (h1.there a q)⟩
  rcases List.mem_append.mp ha with ha | ha
  · exact hn a ha
  · have q := hn' a ha
    cases z : H a with
    | none => rfl
    | some o => exact absurd q (h1.there a (by rw [z]; simp))
theorem Stp.refl : Stp m H m H := ⟨⟨⟨[], by simp, rfl, fun _ h => by simp at h⟩, fun _ _ h _ => h, fun _ h => h⟩, fun _ _ => rfl⟩
theorem Stp.trans (h1 : Stp m H m' H') (h2 : Stp m' H' m'' H'') : Stp m H m'' H'' := by
  obtain ⟨e, he, hp, hn⟩ := h1.ext
  exact ⟨h1.toStw.trans h2.toStw, fun a ha => (h2.pro a (by rw [hp]; exact ha)).trans (h1.pro a ha)⟩
theorem Stp.nin (h : Stp m H m' H') (n : a ∉ m) (q : H a ≠ none) : a ∉ m' := h.toStw.nin n q
theorem Stw.ix (h : Stw m H m' H') {n : Nat} (q : m.l[n]? = some a) : m'.l[n]? = some a := by
  obtain ⟨e, he, _, hn⟩ := h.ext
  rw [he, List.getElem?_append_left (List.getElem?_eq_some_iff.mp q).1]
  exact q
theorem Stp.ix (h : Stp m H m' H') {n : Nat} (q : m.l[n]? = some a) : m'.l[n]? = some a := h.toStw.ix q
theorem Sto.notLst (s : Sto K m H S) {o : HO} (h : H a = some o) (n : ∀ xs, o ≠ .lst xs) : a ∉ m := fun hm => by
  obtain ⟨xs, q⟩ := s.there hm
  rw [h] at q
  cases q
  exact n xs rfl
/-- what a step leaves to data -/
structure Stx (m : Am) (H : Hp) (m' : Am) (H' : Hp) : Prop where
  keep : ∀ a o, H a = some o → a ∉ m → H' a = some o
  nin : ∀ a o, H a = some o → a ∉ m → a ∉ m'
  ix : ∀ (n : Nat) (a : Addr), m.l[n]? = some a → m'.l[n]? = some a
theorem Stw.x (h : Stw m H m' H') : Stx m H m' H' := ⟨h.keep, fun a o q n => h.nin n (by rw [q]; simp), fun n a q => h.ix q⟩
theorem Stp.x (h : Stp m H m' H') : Stx m H m' H' := h.toStw.x
theorem Stx.trans (h1 : Stx m H m' H') (h2 : Stx m' H' m'' H'') : Stx m H m'' H'' :=
  ⟨fun a o q n => h2.keep a o (h1.keep a o q n) (h1.nin a o q n), fun a o q n => h2.nin a o (h1.keep a o q n) (h1.nin a o q n), fun n a q => h2.ix n a (h1.ix n a q)⟩
theorem Stx.sqT (s : Sto K m H S) (h : Stx m H m' H') {xs : List V} (q : SqT K H a xs) : SqT K H' a xs := by
  rcases q with (q | ⟨o, q⟩) | q
  · exact .inl (.inl (h.keep a _ q (s.notLst q (fun _ z => by cases z))))
  · exact .inl (.inr ⟨o, h.keep a _ q (s.notLst q (fun _ z => by cases z))⟩)
  · exact .inr q
theorem Stp.sqT (s : Sto K m H S) (h : Stp m H m' H') {xs : List V} (q : SqT K H a xs) : SqT K H' a xs := h.x.sqT s q
theorem Stp.sqL (h : Stp m H m' H') (n : a ∉ m) {xs : List V} (q : SqL K H a xs) : SqL K H' a xs := by
  rcases q with (q | ⟨o, q⟩) | q
  · exact .inl (.inl (h.keep a _ q n))
  · exact .inl (.inr ⟨o, h.keep a _ q n⟩)
  · exact .inr q
mutual
theorem VD.monox (s : Sto K m H S) (h : Stx m H m' H') : ∀ (d : D) (v : V), VD K m H d v → VD K m' H' d v
  | .non, _, q => q
  | .bl _, _, q => q
  | .int _, _, q => q
  | .str _, _, q => q
  | .tup ds, _, q => by
    obtain ⟨a, xs, e, q1, q2⟩ := q
    exact ⟨a, xs, e, h.sqT s q1, VDs.monox s h ds xs q2⟩
  | .lst ds, _, q => by
    obtain ⟨a, xs, e, q1, n, q2⟩ := q
    exact ⟨a, xs, e, h.keep a _ q1 n, h.nin a _ q1 n, VDs.monox s h ds xs q2⟩
  | .fro ds, _, q => by
    obtain ⟨a, xs, e, q1, q2⟩ := q
    refine ⟨a, xs, e, ?_, VDs.monox s h ds xs q2⟩
    rcases q1 with ⟨o, q1⟩ | q1
    · exact .inl ⟨o, h.keep a _ q1 (s.notLst q1 (fun _ z => by cases z))⟩
    · exact .inr q1
  | .ref n, _, q => by
    obtain ⟨a, e, q⟩ := q
    exact ⟨a, e, h.ix _ _ q⟩
  | .dic, _, q => by
    obtain ⟨a, kvs, e, q⟩ := q
    exact ⟨a, kvs, e, h.keep a _ q (s.notLst q (fun _ z => by cases z))⟩
theorem VDs.monox (s : Sto K m H S) (h : Stx m H m' H') : ∀ (ds : List D) (vs : List V), VDs K m H ds vs → VDs K m' H' ds vs
  | [], _, q => q
  | d :: ds, _, q => by
    obtain ⟨v, r, e, q1, q2⟩ := q
    exact ⟨v, r, e, VD.monox s h d v q1, VDs.monox s h ds r q2⟩
end
theorem VD.monow (s : Sto K m H S) (h : Stw m H m' H') (d : D) (v : V) (q : VD K m H d v) : VD K m' H' d v := VD.monox s h.x d v q
theorem VDs.monow (s : Sto K m H S) (h : Stw m H m' H') (d : List D) (v : List V) (q : VDs K m H d v) : VDs K m' H' d v := VDs.monox s h.x d v q
theorem VD.mono (s : Sto K m H S) (h : Stp m H m' H') (d : D) (v : V) (q : VD K m H d v) : VD K m' H' d v := VD.monow s h.toStw d v q
theorem VDs.mono (s : Sto K m H S) (h : Stp m H m' H') (d : List D) (v : List V) (q : VDs K m H d v) : VDs K m' H' d v := VDs.monow s h.toStw d v q
theorem VDs.length : ∀ {ds : List D} {vs : List V}, VDs K m H ds vs → vs.length = ds.length
  | [], _, q => by
    have e : _ = [] := q
    rw [e]
    rfl
  | d :: ds, _, q => by
    obtain ⟨v, r, e, _, q2⟩ := q
    rw [e, List.length_cons, List.length_cons, VDs.length q2]
theorem VDs.get : ∀ {ds : List D} {vs : List V}, VDs K m H ds vs → ∀ {i : Nat} {d : D}, ds[i]? = some d → ∃ v, vs[i]? = some v ∧ VD K m H d v
  | [], _, _, i, d, h => by simp at h
  | d :: ds, _, q, i, d', h => by
    obtain ⟨v, r, e, q1, q2⟩ := q
    subst e
    cases i with
    | zero =>
      cases h
      exact ⟨v, rfl, q1⟩
    | succ i =>
      obtain ⟨v', h1, h2⟩ := VDs.get q2 (i := i) (d := d') (by simpa using h)
      exact ⟨v', by simpa using h1, h2⟩
theorem VDs.append : ∀ {ds es : List D} {vs ws : List V}, VDs K m H ds vs → VDs K m H es ws → VDs K m H (ds ++ es) (vs ++ ws)
  | [], _, _, _, q, r => by
    have e : _ = [] := q
    rw [e]
    exact r
  | d :: ds, _, _, _, q, r => by
    obtain ⟨v, t, e, q1, q2⟩ := q
    subst e
    exact ⟨v, _, rfl, q1, VDs.append q2 r⟩
theorem VDs.drop : ∀ {ds : List D} {vs : List V} (n : Nat), VDs K m H ds vs → VDs K m H (ds.drop n) (vs.drop n)
  | _, _, 0, q => q
  | [], _, n + 1, q => by
    have e : _ = [] := q
    rw [e]
    rfl
  | d :: ds, _, n + 1, q => by
    obtain ⟨v, t, e, q1, q2⟩ := q
    subst e
    exact VDs.drop n q2
theorem VDs.take : ∀ {ds : List D} {vs : List V} (n : Nat), VDs K m H ds vs → VDs K m H (ds.take n) (vs.take n)
  | _, _, 0, q => rfl
  | [], _, n + 1, q => by
    have e : _ = [] := q
    rw [e]
    rfl
  | d :: ds, _, n + 1, q => by
    obtain ⟨v, t, e, q1, q2⟩ := q
    subst e
    exact ⟨v, _, rfl, q1, VDs.take n q2⟩
theorem VDs.set : ∀ {ds : List D} {vs : List V} (n : Nat) {d : D} {v : V}, VDs K m H ds vs → VD K m H d v → VDs K m H (ds.set n d) (vs.set n v)
  | [], _, _, _, _, q, _ => by
    have e : _ = [] := q
    rw [e]
    rfl
  | d :: ds, _, 0, _, _, q, r => by
    obtain ⟨v, t, e, q1, q2⟩ := q
    subst e
    exact ⟨_, _, rfl, r, q2⟩
  | d :: ds, _, n + 1, _, _, q, r => by
    obtain ⟨v, t, e, q1, q2⟩ := q
    subst e
    exact ⟨_, _, rfl, q1, VDs.set n q2 r⟩
theorem VDs.dropLast {ds : List D} {vs : List V} (q : VDs K m H ds vs) : VDs K m H ds.dropLast vs.dropLast := by
  rw [List.dropLast_eq_take, List.dropLast_eq_take, q.length]
  exact q.take _
theorem VDs.rep {ds : List D} {vs : List V} (q : VDs K m H ds vs) : ∀ n : Nat, VDs K m H (List.replicate n ds).flatten (List.replicate n vs).flatten
  | 0 => rfl
  | n + 1 => by
    rw [List.replicate_succ, List.replicate_succ, List.flatten_cons, List.flatten_cons]
    exact q.append (VDs.rep q n)
theorem VDs.one {d : D} {v : V} (q : VD K m H d v) : VDs K m H [d] [v] := ⟨v, [], rfl, q, rfl⟩
theorem VDs.at {ds : List D} {vs : List V} (q : VDs K m H ds vs) {i : Int} {d : D} (h : atI ds i = some d) : ∃ v, atI vs i = some v ∧ VD K m H d v := by
  unfold atI at h ⊢
  rw [q.length]
  cases e : ixN ds.length i with
  | none =>
    rw [e] at h
    cases h
  | some j =>
    rw [e] at h
    exact q.get h
theorem VDs.cut {ds : List D} {vs : List V} (q : VDs K m H ds vs) (lo hi : Option Int) : VDs K m H (cutD ds lo hi) (cutV vs lo hi) := by
  unfold cutD cutV
  rw [q.length]
  exact (q.drop _).take _

/-! ### the steps that there are -/
/-- an object of no consequence comes -/
theorem Stw.fresh {o : HO} (hp : H p = none) : Stw m H m (upd H p o) :=
  ⟨⟨[], by simp, rfl, fun _ h => by simp at h⟩, fun a u q _ => by rw [upd_ne (ne_of_none q hp)]; exact q, fun a q => by
    unfold upd
    split
    · simp
    · exact q⟩
theorem Sto.nin (s : Sto K m H S) (hp : H p = none) : p ∉ m := fun h => by
    obtain ⟨xs, q⟩ := s.there h
    rw [hp] at q
    cases q
theorem Stp.fresh (s : Sto K m H S) {o : HO} (hp : H p = none) : Stp m H m (upd H p o) :=
  ⟨Stw.fresh hp, fun a ha => upd_ne fun e => s.nin hp (.inr (e ▸ ha))⟩
theorem Sto.mono (s : Sto K m H S) (h : Stw m H m H') (k : ∀ a ∈ m.l, H' a = H a) (kp : ∀ a ∈ m.p, ∃ xs, H' a = some (.lst xs)) : Sto K m H' S :=
  ⟨s.nd, s.dis, kp, s.len, fun i a o h1 h2 => by
    have q := s.obj i a o h1 h2
    cases o with
    | lst ds =>
      obtain ⟨xs, q1, q2⟩ := q
      exact ⟨xs, by rw [k a (List.mem_of_getElem? h1)]; exact q1, VDs.monow s h ds xs q2⟩⟩
theorem Sto.fresh (s : Sto K m H S) {o : HO} (hp : H p = none) : Sto K m (upd H p o) S :=
  s.mono (Stw.fresh hp) (fun a ha => upd_ne fun e => s.nin hp (.inl (e ▸ ha))) fun a ha => by
    have ne : a ≠ p := fun e => s.nin hp (.inr (e ▸ ha))
    rw [upd_ne ne]
    exact s.pro a ha
/-- a new pure list -/
theorem VD.newL (s : Sto K m H S) (hp : H p = none) {ds : List D} {xs : List V} (q : VDs K m H ds xs) : VD K m (upd H p (.lst xs)) (.lst ds) (.ref p) :=
  ⟨p, xs, rfl, upd_same, s.nin hp, VDs.mono s (Stp.fresh s hp) ds xs q⟩
theorem VD.newT (s : Sto K m H S) (hp : H p = none) {ds : List D} {xs : List V} (q : VDs K m H ds xs) : VD K m (upd H p (.tup xs)) (.tup ds) (.ref p) :=
  ⟨p, xs, rfl, SqT.of upd_same, VDs.mono s (Stp.fresh s hp) ds xs q⟩
/-- a list that stands in the map written -/
theorem Stw.write {xs xs' : List V} (h : a ∈ m) (q : H a = some (.lst xs)) : Stw m H m (upd H a (.lst xs')) :=
  ⟨⟨[], by simp, rfl, fun _ h => by simp at h⟩, fun b u q' n => by rw [upd_ne (fun e : b = a => n (by rw [e]; exact h))]; exact q', fun b q' => by
    unfold upd
    split
    · simp
    · exact q'⟩
theorem Stp.write (s : Sto K m H S) {xs xs' : List V} (h : a ∈ m.l) (q : H a = some (.lst xs)) : Stp m H m (upd H a (.lst xs')) :=
  ⟨Stw.write (.inl h) q, fun b hb => upd_ne fun e => s.dis b hb (by rw [e]; exact h)⟩
theorem nodup_get {α : Type} {l : List α} (h : l.Nodup) {i j : Nat} {a : α} (h1 : l[i]? = some a) (h2 : l[j]? = some a) : i = j := by
  obtain ⟨l1, e1⟩ := List.getElem?_eq_some_iff.mp h1
  obtain ⟨l2, e2⟩ := List.getElem?_eq_some_iff.mp h2
  exact (List.getElem_inj h).mp (e1.trans e2.symm)
theorem Sto.write (s : Sto K m H S) {n : Nat} {ds ds' : List D} {xs' : List V} (ha : m.l[n]? = some a) (hn : S[n]? = some (.lst ds)) (q : VDs K m H ds' xs') :
    Sto K m (upd H a (.lst xs')) (S.set n (.lst ds')) ∧ Stp m H m (upd H a (.lst xs')) := by
  have hm := List.mem_of_getElem? ha
  obtain ⟨xs, hx⟩ := s.there (.inl hm)
  have st : Stp m H m (upd H a (.lst xs')) := Stp.write s hm hx
  refine ⟨⟨s.nd, s.dis, fun b hb => by rw [st.pro b hb]; exact s.pro b hb, by rw [List.length_set]; exact s.len, fun i b o h1 h2 => ?_⟩, st⟩
  by_cases hi : i = n
  · subst hi
    rw [ha] at h1
    cases h1
    have hl : i < S.length := (List.getElem?_eq_some_iff.mp hn).1
    rw [List.getElem?_set_self hl] at h2
    cases h2
    exact ⟨xs', upd_same, VDs.mono s st ds' xs' q⟩
  · rw [List.getElem?_set_ne (fun e => hi e.symm)] at h2
    have q := s.obj i b o h1 h2
    have ne : b ≠ a := fun e => hi (nodup_get s.nd (e ▸ h1) ha)
    cases o with
    | lst es =>
      obtain ⟨ys, q1, q2⟩ := q
      exact ⟨ys, by rw [upd_ne ne]; exact q1, VDs.mono s st es ys q2⟩
/-- a new list of the store -/
theorem Sto.new (s : Sto K m H S) (hp : H p = none) {ds : List D} {xs : List V} (q : VDs K m H ds xs) :
    Sto K (m.push p) (upd H p (.lst xs)) (S ++ [.lst ds]) ∧ Stp m H (m.push p) (upd H p (.lst xs)) := by
  have f := Stp.fresh s (o := .lst xs) hp
  have st : Stp m H (m.push p) (upd H p (.lst xs)) := ⟨⟨⟨[p], rfl, rfl, fun a ha => by
    have e : a = p := by simpa using ha
    rw [e]
    exact hp⟩, f.keep, f.there⟩, f.pro⟩
  have hnp := Am.nin (s.nin hp)
  refine ⟨⟨?_, fun a ha hm => ?_, fun a ha => by rw [f.pro a ha]; exact s.pro a ha, by simp [Am.push, s.len], fun i b o h1 h2 => ?_⟩, st⟩
  · show (m.l ++ [p]).Nodup
    rw [List.nodup_append]
    refine ⟨s.nd, by simp, fun a ha b hb e => ?_⟩
    have e' : b = p := by simpa using hb
    subst e'
    subst e
    exact hnp.1 ha
  · rcases List.mem_append.mp hm with hm | hm
    · exact s.dis a ha hm
    · have e : a = p := by simpa using hm
      exact hnp.2 (e ▸ ha)
  · have h1 : (m.l ++ [p])[i]? = some b := h1
    by_cases hi : i < m.l.length
    · rw [List.getElem?_append_left hi] at h1
      rw [List.getElem?_append_left (by rw [← s.len]; exact hi)] at h2
      have q := s.obj i b o h1 h2
      cases o with
      | lst es =>
        obtain ⟨ys, q1, q2⟩ := q
        exact ⟨ys, by rw [upd_ne (ne_of_none q1 hp)]; exact q1, VDs.mono s st es ys q2⟩
    · have hl := (List.getElem?_eq_some_iff.mp h1).1
      rw [List.length_append, List.length_singleton] at hl
      have e : i = m.l.length := by omega
      subst e
      rw [List.getElem?_append_right (Nat.le_refl _), Nat.sub_self] at h1
      rw [s.len, List.getElem?_append_right (Nat.le_refl _), Nat.sub_self] at h2
      cases h1
      cases h2
      exact ⟨xs, upd_same, VDs.mono s st ds xs q⟩
/-! ### a list kept from reach -/
def Am.hold (m : Am) (a : Addr) : Am := ⟨m.l, a :: m.p⟩
theorem hold_mem {m : Am} {a b : Addr} (h : b ∈ m) : b ∈ m.hold a := h.elim .inl fun z => .inr (List.mem_cons_of_mem _ z)
theorem hold_nin {m : Am} {a b : Addr} (h : b ∉ m.hold a) : b ∉ m ∧ b ≠ a := ⟨fun z => h (hold_mem z), fun z => h (.inr (z ▸ List.mem_cons_self))⟩
mutual
theorem VD.free : ∀ (d : D) (v : V), VD K (m.hold p) H d v → VD K m H d v
  | .non, _, q => q
  | .bl _, _, q => q
  | .int _, _, q => q
  | .str _, _, q => q
  | .tup ds, _, q => by
    obtain ⟨a, xs, e, q1, q2⟩ := q
    exact ⟨a, xs, e, q1, VDs.free ds xs q2⟩
  | .lst ds, _, q => by
    obtain ⟨a, xs, e, q1, n, q2⟩ := q
    exact ⟨a, xs, e, q1, (hold_nin n).1, VDs.free ds xs q2⟩
  | .fro ds, _, q => by
    obtain ⟨a, xs, e, q1, q2⟩ := q
    exact ⟨a, xs, e, q1, VDs.free ds xs q2⟩
  | .ref n, _, q => q
  | .dic, _, q => q
theorem VDs.free : ∀ (ds : List D) (vs : List V), VDs K (m.hold p) H ds vs → VDs K m H ds vs
  | [], _, q => q
  | d :: ds, _, q => by
    obtain ⟨v, r, e, q1, q2⟩ := q
    exact ⟨v, r, e, VD.free d v q1, VDs.free ds r q2⟩
end
/-- the kept list let go -/
theorem Sto.free (s : Sto K (m.hold p) H S) : Sto K m H S :=
  ⟨s.nd, fun a ha => s.dis a (List.mem_cons_of_mem _ ha), fun a ha => s.pro a (List.mem_cons_of_mem _ ha), s.len, fun i a o h1 h2 => by
    have q := s.obj i a o h1 h2
    cases o with
    | lst ds =>
      obtain ⟨xs, q1, q2⟩ := q
      exact ⟨xs, q1, VDs.free ds xs q2⟩⟩
theorem Sto.pnin (s : Sto K (m.hold p) H S) (n : p ∉ m.p) : p ∉ m := fun h => h.elim (s.dis p List.mem_cons_self) n
/-- a new list, kept from reach -/
theorem Stx.hold (s : Sto K m H S) (hp : H p = none) (o : HO) : Stx m H (m.hold p) (upd H p o) :=
  ⟨fun a u q n => by rw [upd_ne (ne_of_none q hp)]; exact q, fun a u q n z => by
    rcases z with z | z
    · exact n (.inl z)
    · rcases List.mem_cons.mp z with z | z
      · exact ne_of_none q hp z
      · exact n (.inr z), fun _ _ q => q⟩
theorem Sto.hold (s : Sto K m H S) (hp : H p = none) (xs : List V) : Sto K (m.hold p) (upd H p (.lst xs)) S :=
  ⟨s.nd, fun a ha hm => by
    rcases List.mem_cons.mp ha with z | z
    · exact s.nin hp (.inl (z ▸ hm))
    · exact s.dis a z hm, fun a ha => by
    rcases List.mem_cons.mp ha with z | z
    · exact ⟨xs, by rw [z]; exact upd_same⟩
    · have ne : a ≠ p := fun e => s.nin hp (.inr (e ▸ z))
      rw [upd_ne ne]
      exact s.pro a z, s.len, fun i a o h1 h2 => by
    have q := s.obj i a o h1 h2
    cases o with
    | lst ds =>
      obtain ⟨ys, q1, q2⟩ := q
      exact ⟨ys, by rw [upd_ne (ne_of_none q1 hp)]; exact q1, VDs.monox s (Stx.hold s hp _) ds ys q2⟩⟩
theorem Stw.hold (hp : H p = none) {o : HO} (h : Stw (m.hold p) (upd H p o) (m'.hold p) H') : Stw m H m' H' := by
  obtain ⟨e, he, hq, hn⟩ := h.ext
  refine ⟨⟨e, he, (List.cons_inj_right p).mp hq, fun a ha => ?_⟩, fun a o' q n => ?_, fun a q => ?_⟩
  · have q := hn a ha
    unfold upd at q
    split at q
    · cases q
    · exact q
  · have ne := ne_of_none q hp
    refine h.keep a o' (by rw [upd_ne ne]; exact q) fun z => ?_
    rcases z with z | z
    · exact n (.inl z)
    · rcases List.mem_cons.mp z with z | z
      · exact ne z
      · exact n (.inr z)
  · refine h.there a ?_
    unfold upd
    split
    · simp
    · exact q
/-- the kept list is written -/
theorem Sto.wrote (s : Sto K (m.hold p) H S) (n : p ∉ m.p) (xs : List V) : Stw (m.hold p) H (m.hold p) (upd H p (.lst xs)) ∧ Sto K (m.hold p) (upd H p (.lst xs)) S := by
  obtain ⟨ys, q⟩ := s.pro p List.mem_cons_self
  have st : Stw (m.hold p) H (m.hold p) (upd H p (.lst xs)) := Stw.write (.inr List.mem_cons_self) q
  refine ⟨st, s.mono st (fun a ha => upd_ne fun e => s.dis p List.mem_cons_self (e ▸ ha)) fun a ha => ?_⟩
  by_cases e : a = p
  · exact ⟨xs, by rw [e]; exact upd_same⟩
  · rw [upd_ne e]
    exact s.pro a ha
theorem EnvR.monox {σ : L2.St} {ρ : Env} (s : Sto K m H S) (h : Stx m H m' H') (e : EnvR K m H σ ρ) : EnvR K m' H' σ ρ :=
  ⟨e.1, fun i d q => by
    obtain ⟨v, h1, h2⟩ := e.2 i d q
    exact ⟨v, h1, VD.monox s h d v h2⟩⟩
theorem EnvR.monow {σ : L2.St} {ρ : Env} (s : Sto K m H S) (h : Stw m H m' H') (e : EnvR K m H σ ρ) : EnvR K m' H' σ ρ :=
  ⟨e.1, fun i d q => by
    obtain ⟨v, h1, h2⟩ := e.2 i d q
    exact ⟨v, h1, VD.monow s h d v h2⟩⟩
theorem EnvR.hold {σ : L2.St} {ρ : Env} (s : Sto K m H S) (hp : H p = none) (o : HO) (e : EnvR K m H σ ρ) : EnvR K (m.hold p) (upd H p o) σ ρ :=
  ⟨e.1, fun i d q => by
    obtain ⟨v, h1, h2⟩ := e.2 i d q
    exact ⟨v, h1, VD.monox s (Stx.hold s hp o) d v h2⟩⟩
theorem EnvR.free {σ : L2.St} {ρ : Env} (e : EnvR K (m.hold p) H σ ρ) : EnvR K m H σ ρ :=
  ⟨e.1, fun i d q => by
    obtain ⟨v, h1, h2⟩ := e.2 i d q
    exact ⟨v, h1, VD.free d v h2⟩⟩
theorem EnvR.mono {σ : L2.St} {ρ : Env} (s : Sto K m H S) (h : Stp m H m' H') (e : EnvR K m H σ ρ) : EnvR K m' H' σ ρ :=
  ⟨e.1, fun i d q => by
    obtain ⟨v, h1, h2⟩ := e.2 i d q
    exact ⟨v, h1, VD.mono s h d v h2⟩⟩
theorem EnvR.set {σ : L2.St} {ρ : Env} (e : EnvR K m H σ ρ) {i : Nat} {d : D} {v : V} (q : VD K m H d v) : EnvR K m H (σ.set i (some v)) (ρ.set i (some d)) :=
  ⟨by rw [List.length_set, List.length_set]; exact e.1, fun j d' h => by
    by_cases hj : i = j
    · subst hj
      by_cases hl : i < ρ.length
      · rw [List.getElem?_set_self hl] at h
        cases h
        exact ⟨v, by rw [List.getElem?_set_self (by rw [← e.1]; exact hl)], q⟩
      · rw [List.getElem?_eq_none (by rw [List.length_set]; omega)] at h
        cases h
    · rw [List.getElem?_set_ne hj] at h
      obtain ⟨v', h1, h2⟩ := e.2 j d' h
      exact ⟨v', by rw [List.getElem?_set_ne hj]; exact h1, h2⟩⟩
theorem EnvR.wipe {σ : L2.St} {ρ : Env} (e : EnvR K m H σ ρ) : ∀ vs : List Nat, EnvR K m H (wipe σ vs) (wipeD ρ vs)
  | [] => e
  | v :: vs => by
    have ih := EnvR.wipe e vs
    unfold L2.wipe wipeD
    refine ⟨by rw [List.length_set, List.length_set]; exact ih.1, fun j d' h => ?_⟩
    by_cases hj : v = j
    · subst hj
      by_cases hl : v < (wipeD ρ vs).length
      · rw [List.getElem?_set_self hl] at h
        cases h
      · rw [List.getElem?_eq_none (by rw [List.length_set]; omega)] at h
        cases h
    · rw [List.getElem?_set_ne hj] at h
      obtain ⟨v', h1, h2⟩ := ih.2 j d' h
      exact ⟨v', by rw [List.getElem?_set_ne hj]; exact h1, h2⟩
end
end Ev
set_option Elab.async false
set_option linter.all false
set_option maxRecDepth 100000
set_option maxHeartbeats 4000000
namespace Ev
open PySem PySem.Spec PyProof.Rows L2
theorem sm_eq : sizeMax = sizeLine := by rw [sizeLine_eq]; rfl
theorem lift_some {p : Bool} {d d' : D} (h : liftD p d = some d') : p = true ∧ d = d' := by
  unfold liftD at h
  split at h
  · cases h
    exact ⟨by assumption, rfl⟩
  · cases h
/-- what is handed on: the value behind any later step -/
def Hnd (K : PySem.W.Frag) (m : Am) (H : Hp) (S : Store) (Q : VK) (d : D) : Prop := ∀ m' H' v, Stp m H m' H' → Sto K m' H' S → VD K m' H' d v → Q v H'
section
variable {K : PySem.W.Frag} {m : Am} {H : Hp} {S : Store} {Q : VK}
theorem Hnd.same {d : D} {v : V} (q : Hnd K m H S Q d) (s : Sto K m H S) (h : VD K m H d v) : Q v H := q m H v Stp.refl s h
theorem Hnd.tupN {ds : List D} {xs : List V} (q : Hnd K m H S Q (.tup ds)) (s : Sto K m H S) (h : VDs K m H ds xs) : ∀ p, H p = none → Q (.ref p) (upd H p (.tup xs)) :=
  fun p hp => q m _ _ (Stp.fresh s hp) (s.fresh hp) (VD.newT s hp h)
theorem Hnd.lstN {ds : List D} {xs : List V} (q : Hnd K m H S Q (.lst ds)) (s : Sto K m H S) (h : VDs K m H ds xs) : ∀ p, H p = none → Q (.ref p) (upd H p (.lst xs)) :=
  fun p hp => q m _ _ (Stp.fresh s hp) (s.fresh hp) (VD.newL s hp h)
theorem Hnd.tupS {ds : List D} {a : Addr} {xs : List V} (q : Hnd K m H S Q (.tup ds)) (s : Sto K m H S) (e : SqT K H a xs) (h : VDs K m H ds xs) : Q (.ref a) H :=
  q.same s ⟨a, xs, rfl, e, h⟩
mutual
theorem VD.dp : ∀ {d : D} {v : V} {p : PyData}, VD K m H d v → toP d = some p → Dp K H v p
  | .non, _, p, q, e => by
    cases e
    have q : _ = _ := q
    subst q
    exact .non
  | .bl b, _, p, q, e => by
    cases e
    have q : _ = _ := q
    subst q
    exact .bl b
  | .int i, _, p, q, e => by
    cases e
    have q : _ = _ := q
    subst q
    exact .int i
  | .str x, _, p, q, e => by
    cases e
    have q : _ = _ := q
    subst q
    exact .str x
  | .tup ds, _, p, q, e => by
    obtain ⟨a, xs, rfl, q1, q2⟩ := q
    unfold toP at e
    cases e1 : toPs ds with
    | none =>
      rw [e1] at e
      cases e
    | some ps =>
      rw [e1] at e
      cases e
      exact .tup q1 (VDs.dp q2 e1)
  | .lst ds, _, p, q, e => by
    obtain ⟨a, xs, rfl, q1, _, q2⟩ := q
    unfold toP at e
    cases e1 : toPs ds with
    | none =>
      rw [e1] at e
      cases e
    | some ps =>
      rw [e1] at e
      cases e
      exact .lst (SqL.of q1) (VDs.dp q2 e1)
  | .fro _, _, _, _, e => by cases e
  | .ref _, _, _, _, e => by cases e
  | .dic, _, _, _, e => by cases e
theorem VDs.dp : ∀ {ds : List D} {vs : List V} {ps : List PyData}, VDs K m H ds vs → toPs ds = some ps → DpAll K H vs ps
  | [], _, ps, q, e => by
    cases e
    have q : _ = _ := q
    subst q
    exact .nil
  | d :: ds, _, ps, q, e => by
    obtain ⟨v, r, rfl, q1, q2⟩ := q
    unfold toPs at e
    split at e
    · rename_i p ps' e1 e2
      cases e
      exact .cons (VD.dp q1 e1) (VDs.dp q2 e2)
    · cases e
end
theorem VDs.nil_iff {ds : List D} {vs : List V} (q : VDs K m H ds vs) : vs = [] ↔ ds = [] := by
  cases ds with
  | nil => exact ⟨fun _ => rfl, fun _ => q⟩
  | cons d ds =>
    obtain ⟨v, r, rfl, _⟩ := q
    simp
theorem VDs.empty {ds : List D} {vs : List V} (q : VDs K m H ds vs) : (!ds.isEmpty) = !vs.isEmpty := by
  cases ds with
  | nil =>
    have q : vs = _ := q
    subst q
    rfl
  | cons d ds =>
    obtain ⟨_, _, rfl, _⟩ := q
    rfl
theorem VDs.ints : ∀ {ds : List D} {vs : List V} {ns : List Int}, VDs K m H ds vs → toIs ds = some ns → vs = ns.map V.int
  | [], _, _, q, e => by
    cases e
    exact q
  | d :: ds, _, ns, q, e => by
    obtain ⟨v, r, rfl, q1, q2⟩ := q
    unfold toIs at e
    split at e
    · rename_i i is e1 e2
      cases e
      cases d with
      | int j =>
        have ej : j = i := Option.some.inj e1
        have q1 : v = .int j := q1
        rw [q1, VDs.ints q2 e2, ej]
        rfl
      | _ => cases e1
    · cases e
end
def opOf : Op → Operator
  | .add => .Add | .sub => .Sub | .mul => .Mult | .fdiv => .FloorDiv | .mod => .Mod | .pow => .Pow
def rBin (K : PySem.W.Frag) (o : Op) : R2 := fun x y H Q => ∃ m S a b d, Sto K m H S ∧ VD K m H a x ∧ VD K m H b y ∧ binV o a b = some d ∧ Hnd K m H S Q d
section
variable {X : Cx}
/-- t * k, all of them -/
theorem tuple_mul1 (l : Addr) (items : Array Value) (n : Nat) (dd : Option Addr) (sl : Array (Option Value)) (x : Int) (u : Tok) (c0 : (decide (x < -(2 ^ 63)) || decide (x ≥ 2 ^ 63)) = false) (c1 : (items.isEmpty || x == 1) = true) :
    Meets (Builtin.«tuple.__mul__» ⟨[.ref l, .int x u], []⟩) (fun _ R s => s.heap.get? l = some { cls := .type "tuple", dict := dd, data := .seq items n, slots := sl } ∧
      R (.ok (.ret (Value.ref l))) s) :=
  .of_wp fun prog w A R s h => by
    obtain ⟨hp, g, d, tk, os⟩ := s
    obtain ⟨hl, h⟩ := h
    have f1 := AutoSeq1.idx_int
    wp_walk using wpAny_loadPart' hl
    refine wpAny_ite_false (decide_eq_false (by rw [c0]; exact Bool.false_ne_true)) ?_; wp_walk using wpAny_loadPart' hl
    exact ⟨_, rfl, h⟩
theorem tuple_mul0 (l : Addr) (items : Array Value) (n : Nat) (dd : Option Addr) (sl : Array (Option Value)) (x : Int) (u : Tok) (c0 : (decide (x < -(2 ^ 63)) || decide (x ≥ 2 ^ 63)) = false) (c1 : (items.isEmpty || x == 1) = false) (c2 : (decide (x ≤ 0) || items.isEmpty) = true) :
    Meets (Builtin.«tuple.__mul__» ⟨[.ref l, .int x u], []⟩) (fun _ R s => s.heap.get? l = some { cls := .type "tuple", dict := dd, data := .seq items n, slots := sl } ∧
      R (.ok (.ret (Value.ref s.heap.objs.size))) { s with heap := s.heap.push { cls := Value.type "tuple", data := Data.seq #[] }, toks := s.toks }) :=
  .of_wp fun prog w A R s h => by
    obtain ⟨hp, g, d, tk, os⟩ := s
    obtain ⟨hl, h⟩ := h
    have f1 := AutoSeq1.idx_int
    wp_walk using wpAny_loadPart' hl
    refine wpAny_ite_false (decide_eq_false (by rw [c0]; exact Bool.false_ne_true)) ?_; wp_walk using wpAny_loadPart' hl
    repeat (first
      | (refine wpAny_ite_false (decide_eq_false (show ¬ (items.isEmpty || x == 1) = true by rw [c1]; exact Bool.false_ne_true)) ?_; wp_walk using wpAny_loadPart' hl)
      | (refine wpAny_ite_true (decide_eq_true c2) ?_; wp_walk using wpAny_loadPart' hl))
    exact ⟨_, rfl, h⟩
theorem repOk_ok {n : Nat} {k : Int} (h : repOk n k = true) : -(2 ^ 62) ≤ k ∧ k < 2 ^ 62 ∧ n * k.toNat ≤ sizeMax := by
  unfold repOk at h
  simp only [Bool.and_eq_true, decide_eq_true_eq] at h
  exact ⟨h.1.1, h.1.2, h.2⟩
/-- t * k -/
def rRepA (K : PySem.W.Frag) : R2 := fun x y H Q => ∃ l k xs, x = .ref l ∧ y = .int k ∧ SqT K H l xs ∧ repOk xs.length k = true ∧
  (SqT K H l (listRep xs k) → Q (.ref l) H) ∧ (∀ p, H p = none → Q (.ref p) (upd H p (.tup (listRep xs k))))
theorem op_repA : OpR X (binaryOp .Mult) (rRepA X.K) := by
  intro pins s σ H x y v u Q I rx ry h
  obtain ⟨l, k, xs, rfl, rfl, hT, hk, q0, q⟩ := h
  obtain ⟨k1, k2, k3⟩ := repOk_ok hk
  rw [sm_eq] at k3
  cases rx
  obtain ⟨t, rfl⟩ := ry
  obtain ⟨its, r, ⟨⟨cls, dd, data, sl⟩, ho, hc, n, hd⟩, hs⟩ := I.tuple hT
  simp only at hc hd
  subst hc hd
  have hle : its.length = xs.length := r.length.symm
  have c0 : (decide (k < -(2 ^ 63)) || decide (k ≥ 2 ^ 63)) = false := by
    rw [decide_eq_false (by omega), decide_eq_false (by omega)] <;> rfl
  by_cases e1 : (its.toArray.isEmpty || k == 1) = true
  · have same : listRep xs k = xs := by
      unfold listRep
      rcases Bool.or_eq_true_iff.mp e1 with e | e
      · have : its = [] := by simpa using e
        have : xs = [] := List.eq_nil_of_length_eq_zero (by rw [← hle, this]; rfl)
        subst this
        rw [List.flatten_replicate_nil]
      · have : k = 1 := by simpa using e
        subst this
        simp
    refine wpAny_binaryOp_repeat_ref (T := "tuple") (U := "int") (by decide) ⟨_, ho, rfl⟩ (fun s' => typeIs_int s' k t) noFill_tuple_mul F.fills_int_mul F.slot_int_rmul repeat_tuple F.slot_int_index.lookup
      (call_meets F.slot_int_rmul (typeIs_int s k t) F.entry_int_rmul (F.args_int_rmul_2 _ _) (int_rmul_tuple k t l its.toArray n dd sl)
        ⟨ho, rfl, ⟨_, ho, rfl⟩, call_meets F.slot_tuple_mul ⟨_, ho, rfl⟩ F.entry_tuple_mul (F.args_tuple_mul_2 _ _) (tuple_mul1 l its.toArray n dd sl k t c0 e1) ⟨ho, ?_⟩⟩)
    exact ⟨.ref l, H, I, rfl, q0 (by rw [same]; exact hT)⟩
  · have e1 : (its.toArray.isEmpty || k == 1) = false := by simpa using e1
    by_cases e2 : (decide (k ≤ 0) || its.toArray.isEmpty) = true
    · have same : listRep xs k = [] := by
        unfold listRep
        rcases Bool.or_eq_true_iff.mp e2 with e | e
        · have : k ≤ 0 := of_decide_eq_true e
          rw [Int.toNat_of_nonpos this]
          rfl
        · rw [e, Bool.true_or] at e1
          cases e1
      refine wpAny_binaryOp_repeat_ref (T := "tuple") (U := "int") (by decide) ⟨_, ho, rfl⟩ (fun s' => typeIs_int s' k t) noFill_tuple_mul F.fills_int_mul F.slot_int_rmul repeat_tuple F.slot_int_index.lookup
        (call_meets F.slot_int_rmul (typeIs_int s k t) F.entry_int_rmul (F.args_int_rmul_2 _ _) (int_rmul_tuple k t l its.toArray n dd sl)
          ⟨ho, rfl, ⟨_, ho, rfl⟩, call_meets F.slot_tuple_mul ⟨_, ho, rfl⟩ F.entry_tuple_mul (F.args_tuple_mul_2 _ _) (tuple_mul0 l its.toArray n dd sl k t c0 e1 e2) ⟨ho, ?_⟩⟩)
      refine ⟨.ref s.heap.objs.size, _, I.laid (t' := s.toks) (o := .tup (listRep xs k)) (fun b ob q => Heap.get?_push_of_some _ q) (Nat.le_refl _) ?_, rfl, q _ (I.hok.fresh (Nat.le_refl _))⟩
      rw [same]
      exact ⟨by show 0 ≤ sizeLine; omega, [], .nil, IsTup.new _ _⟩
    · have e2 : (decide (k ≤ 0) || its.toArray.isEmpty) = false := by simpa using e2
      have kp : 0 < k := by
        have := (Bool.or_eq_false_iff.mp e2).1
        have := of_decide_eq_false this
        omega
      have hm : ((its.toArray.size : Nat) : Int) * k ≤ sizeLine := by
        rw [List.size_toArray, hle]
        have : ((xs.length * k.toNat : Nat) : Int) ≤ (sizeLine : Nat) := by omega
        rw [Int.natCast_mul, Int.toNat_of_nonneg (by omega)] at this
        exact this
      have flen : (List.replicate k.toNat its).flatten.length ≤ sizeLine := by
        rw [PyProof.Rows.lm_len_rep_flat, hle, Nat.mul_comm]
        exact k3
      have c4 : Builtin.Tuple.tupleTooMany (((its.toArray.size : Nat) : Int) * k) = false := by
        unfold Builtin.Tuple.tupleTooMany
        exact decide_eq_false (by omega)
      refine wpAny_binaryOp_repeat_ref (T := "tuple") (U := "int") (by decide) ⟨_, ho, rfl⟩ (fun s' => typeIs_int s' k t) noFill_tuple_mul F.fills_int_mul F.slot_int_rmul repeat_tuple F.slot_int_index.lookup
        (call_meets F.slot_int_rmul (typeIs_int s k t) F.entry_int_rmul (F.args_int_rmul_2 _ _) (int_rmul_tuple k t l its.toArray n dd sl)
          ⟨ho, rfl, ⟨_, ho, rfl⟩, call_meets F.slot_tuple_mul ⟨_, ho, rfl⟩ F.entry_tuple_mul (F.args_tuple_mul_2 _ _) (tuple_mulW l its.toArray n dd sl k t c0 e1 e2 (by rw [sizeLine_eq] at hm; omega) c4 (by rw [size_rep, List.size_toArray]; exact flen)) ⟨ho, ?_⟩⟩)
      rw [size_rep]
      refine ⟨.ref s.heap.objs.size, _, I.laid (t' := s.toks) (o := .tup (listRep xs k)) (fun b ob q => Heap.get?_push_of_some _ q) (Nat.le_refl _) ?_, rfl, q _ (I.hok.fresh (Nat.le_refl _))⟩
      exact ⟨by unfold listRep; rw [PyProof.Rows.lm_len_rep_flat, Nat.mul_comm]; exact k3, _, r.rep k.toNat, IsTup.new _ _⟩
theorem op_bin (o : Op) : OpR X (binaryOp (opOf o)) (rBin X.K o) := by
  intro pins s σ H x y v u Q I rx ry h
  obtain ⟨m, S, a, b, d, st, va, vb, e, q⟩ := h
  have sz := sm_eq
  unfold binV at e
  split at e
  · cases e
    have va : x = _ := va
    have vb : y = _ := vb
    subst va vb
    exact op_add pins s σ H _ _ v u Q I rx ry ⟨_, _, rfl, rfl, q.same st rfl⟩
  · rename_i as bs
    obtain ⟨hl, rfl⟩ := lift_some e
    have hl := of_decide_eq_true hl
    obtain ⟨p1, xs, rfl, t1, r1⟩ := va
    obtain ⟨p2, ys, rfl, t2, r2⟩ := vb
    refine op_catA pins s σ H _ _ v u Q I rx ry ⟨p1, p2, xs, ys, rfl, rfl, t1, t2, by rw [r1.length, r2.length, ← sz]; exact hl, fun e => ?_, fun _ e => ?_, fun _ _ => q.tupN st (r1.append r2)⟩
    · exact q.tupS st t2 (by rw [r1.nil_iff.mp e]; exact r2)
    · exact q.tupS st t1 (by rw [r2.nil_iff.mp e, List.append_nil]; exact r1)
  · rename_i as bs
    obtain ⟨hl, rfl⟩ := lift_some e
    have hl := of_decide_eq_true hl
    obtain ⟨p1, xs, rfl, t1, n1, r1⟩ := va
    obtain ⟨p2, ys, rfl, t2, n2, r2⟩ := vb
    exact op_cat pins s σ H _ _ v u Q I rx ry ⟨p1, p2, xs, ys, rfl, rfl, t1, t2, by rw [r1.length, r2.length, ← sz]; exact hl, q.lstN st (r1.append r2)⟩
  · rename_i as bs
    obtain ⟨hl, rfl⟩ := lift_some e
    have hl := of_decide_eq_true hl
    have va : x = _ := va
    have vb : y = _ := vb
    subst va vb
    exact op_add_str pins s σ H _ _ v u Q I rx ry ⟨_, _, rfl, rfl, by rw [← sz]; exact hl, q.same st rfl⟩
  · cases e
    have va : x = _ := va
    have vb : y = _ := vb
    subst va vb
    exact op_sub pins s σ H _ _ v u Q I rx ry ⟨_, _, rfl, rfl, q.same st rfl⟩
  · obtain ⟨hl, rfl⟩ := lift_some e
    have va : x = _ := va
    have vb : y = _ := vb
    subst va vb
    refine op_mul pins s σ H _ _ v u Q I rx ry ⟨_, _, rfl, rfl, ?_, q.same st rfl⟩
    unfold mulOk at hl
    simp only [Bool.or_eq_true, Bool.and_eq_true, decide_eq_true_eq] at hl
    exact hl
  · obtain ⟨hl, rfl⟩ := lift_some e
    obtain ⟨p1, xs, rfl, t1, r1⟩ := va
    have vb : y = _ := vb
    subst vb
    exact op_repA pins s σ H _ _ v u Q I rx ry ⟨p1, _, xs, rfl, rfl, t1, by rw [r1.length]; exact hl, fun e => q.tupS st e (r1.rep _), q.tupN st (r1.rep _)⟩
  · obtain ⟨hl, rfl⟩ := lift_some e
    obtain ⟨p1, xs, rfl, t1, n1, r1⟩ := va
    have vb : y = _ := vb
    subst vb
    obtain ⟨k1, k2, k3⟩ := repOk_ok hl
    exact op_rep pins s σ H _ _ v u Q I rx ry ⟨p1, _, xs, rfl, rfl, t1, by omega, by omega, by rw [r1.length, ← sz]; exact k3, q.lstN st (r1.rep _)⟩
  · obtain ⟨hl, rfl⟩ := lift_some e
    have va : x = _ := va
    have vb : y = _ := vb
    subst va vb
    simp only [Bool.and_eq_true, decide_eq_true_eq] at hl
    exact op_fdivN pins s σ H _ _ v u Q I rx ry ⟨_, _, rfl, rfl, hl, q.same st rfl⟩
  · obtain ⟨hl, rfl⟩ := lift_some e
    have va : x = _ := va
    have vb : y = _ := vb
    subst va vb
    exact op_modN pins s σ H _ _ v u Q I rx ry ⟨_, _, rfl, rfl, of_decide_eq_true hl, q.same st rfl⟩
  · obtain ⟨hl, rfl⟩ := lift_some e
    have va : x = _ := va
    have vb : y = _ := vb
    subst va vb
    simp only [Bool.and_eq_true, decide_eq_true_eq] at hl
    exact op_pow pins s σ H _ _ v u Q I rx ry ⟨_, _, rfl, rfl, ⟨hl.1.1, hl.1.2, hl.2⟩, q.same st rfl⟩
  · cases e
def rAug (K : PySem.W.Frag) (o : Op) : R2 := fun x y H Q => ∃ m S a b d, Sto K m H S ∧ VD K m H a x ∧ VD K m H b y ∧ augV o a b = some d ∧ Hnd K m H S Q d
theorem op_aug (o : Op) : OpR X (inplaceOp (opOf o)) (rAug X.K o) := by
  intro pins s σ H x y v u Q I rx ry h
  obtain ⟨m, S, a, b, d, st, va, vb, e, q⟩ := h
  unfold augV at e
  split at e
  · cases e
    have va : x = _ := va
    have vb : y = _ := vb
    subst va vb
    exact iop_add pins s σ H _ _ v u Q I rx ry ⟨_, _, rfl, rfl, q.same st rfl⟩
  · cases e
    have va : x = _ := va
    have vb : y = _ := vb
    subst va vb
    exact iop_sub pins s σ H _ _ v u Q I rx ry ⟨_, _, rfl, rfl, q.same st rfl⟩
  · cases e

/-! ### comparisons -/
def cmOf : Cm → CmpOp
  | .eq => .Eq | .ne => .NotEq | .lt => .Lt | .le => .LtE | .gt => .Gt | .ge => .GtE | .isN => .Is | .notN => .IsNot | .inn => .In | .nin => .NotIn
/-- a value alone: a list of the store is told as a list -/
def HndB (H : Hp) (Q : VK) (b : Bool) : Prop := Q (.bl b) H
def rCmp (K : PySem.W.Frag) (o : Cm) : R2 := fun x y H Q => ∃ m S a b t, Sto K m H S ∧ VD K m H a x ∧ VD K m H b y ∧ cmpV o a b = some t ∧ Q (.bl t) H
mutual
theorem toP_plain : ∀ {d : D} {p : PyData}, toP d = some p → p.plain = true
  | .non, _, e => by
    cases e
    rfl
  | .bl _, _, e => by
    cases e
    rfl
  | .int _, _, e => by
    cases e
    rfl
  | .str _, _, e => by
    cases e
    rfl
  | .tup ds, _, e => by
    unfold toP at e
    obtain ⟨ps, e1, rfl⟩ := Option.map_eq_some_iff.mp e
    exact toPs_plain e1
  | .lst ds, _, e => by
    unfold toP at e
    obtain ⟨ps, e1, rfl⟩ := Option.map_eq_some_iff.mp e
    exact toPs_plain e1
  | .fro _, _, e => by cases e
  | .ref _, _, e => by cases e
  | .dic, _, e => by cases e
theorem toPs_plain : ∀ {ds : List D} {ps : List PyData}, toPs ds = some ps → PyData.plainAll ps = true
  | [], _, e => by
    cases e
    rfl
  | d :: ds, _, e => by
    unfold toPs at e
    split at e
    · rename_i p ps' e1 e2
      cases e
      show (PyData.plain p && PyData.plainAll ps') = true
      rw [toP_plain e1, toPs_plain e2]
      rfl
    · cases e
end
section
variable {pins : List (Addr × Obj)} {σ : L2.St} {H : Hp} {s : Shared} {m : Am}
theorem VD.reads (I : L2.Inv X pins σ H s) {d : D} {v : V} {u : Value} {p : PyData} (h : VD X.K m H d v) (r : L2.RelV v u) (e : toP d = some p) : ∃ as, Reads s.heap u p as := Dp.reads I p v u (h.dp e) r
theorem VDs.reads (I : L2.Inv X pins σ H s) {ds : List D} {vs : List V} {us : List Value} {ps : List PyData} (h : VDs X.K m H ds vs) (r : Vals vs us) (e : toPs ds = some ps) : ∃ as, ReadsAll s.heap us ps as := Dp.readsAll I ps vs us (h.dp e) r
end
theorem eqD_ok {a b : D} {t : Bool} (h : eqD a b = some t) : ∃ p q, toP a = some p ∧ toP b = some q ∧ min p.depth q.depth ≤ 60 ∧ t = PyData.eqv p q := by
  unfold eqD at h
  split at h
  · rename_i p q e1 e2
    split at h
    · cases h
      exact ⟨p, q, e1, e2, by assumption, rfl⟩
    · cases h
  · cases h
theorem inAll_ok {a : D} {ds : List D} {t : Bool} (h : inAll a ds = some t) : ∃ p ps, toP a = some p ∧ toPs ds = some ps ∧ min (PyData.depthAll ps) p.depth ≤ 60 ∧ t = ps.any fun y => PyData.eqv y p := by
  unfold inAll at h
  split at h
  · rename_i p q e1 e2
    split at h
    · cases h
      exact ⟨p, q, e1, e2, by assumption, rfl⟩
    · cases h
  · cases h
theorem ltD_ok {a b : D} {t : Bool} (h : ltD a b = some t) : ∃ p q, toP a = some p ∧ toP b = some q ∧ min p.depth q.depth ≤ 60 ∧ W.alike p q = true ∧ p ≠ .none ∧ t = W.dataLt p q := by
  unfold ltD at h
  split at h
  · rename_i p q e1 e2
    split at h
    · rename_i c
      simp only [Bool.and_eq_true, decide_eq_true_eq] at c
      cases h
      refine ⟨p, q, e1, e2, c.1.1, c.1.2, fun z => ?_, rfl⟩
      rw [z] at c
      exact absurd c.2 (by decide)
    · cases h
  · cases h
theorem isNon_eq {K : PySem.W.Frag} {m : Am} {H : Hp} {d : D} {v : V} (h : VD K m H d v) : decide (v = .non) = isNon d := by
  cases d with
  | non =>
    have h : v = _ := h
    subst h
    rfl
  | bl b =>
    have h : v = _ := h
    subst h
    rfl
  | int b =>
    have h : v = _ := h
    subst h
    rfl
  | str b =>
    have h : v = _ := h
    subst h
    rfl
  | tup ds =>
    obtain ⟨a, xs, rfl, _⟩ := h
    rfl
  | lst ds =>
    obtain ⟨a, xs, rfl, _⟩ := h
    rfl
  | fro ds =>
    obtain ⟨a, xs, rfl, _⟩ := h
    rfl
  | ref n =>
    obtain ⟨a, rfl, _⟩ := h
    rfl
  | dic =>
    obtain ⟨a, _, rfl, _⟩ := h
    rfl
theorem op_cmp (hu : X.A.units + 64 < cLine) (o : Cm) : OpR X (compareOp (cmOf o)) (rCmp X.K o) := by
  intro pins s σ H x y v u Q I rx ry h
  obtain ⟨m, S, a, b, t, st, va, vb, e, q⟩ := h
  have fin : ∀ {b : Bool}, b = t → EP X pins σ Q (.bool b) s := fun {b} eb => ⟨.bl b, H, I, rfl, by rw [eb]; exact q⟩
  have lt_ : ∀ {a b : D} {x y : V} {v u : Value} {t' : Bool}, VD X.K m H a x → VD X.K m H b y → L2.RelV x v → L2.RelV y u → ltD a b = some t' → (t' = t → wpAny (model X.prog X.w) X.A (compareOp .Lt v u) (EP X pins σ Q) X.xe s) ∧ ((!t') = t → wpAny (model X.prog X.w) X.A (compareOp .GtE v u) (EP X pins σ Q) X.xe s) := fun {a b x y v u t'} va vb rx ry e => by
    obtain ⟨p, p', e1, e2, e3, e4, e5, rfl⟩ := ltD_ok e
    obtain ⟨as, r1⟩ := va.reads I rx e1
    obtain ⟨bs, r2⟩ := vb.reads I ry e2
    exact ⟨fun z => W.lt_data r1 r2 e4 e5 (by omega) (fin z), fun z => W.ge_data r1 r2 e4 e5 (by omega) (fin z)⟩
  have gt_ : ∀ {a b : D} {x y : V} {v u : Value} {t' : Bool}, VD X.K m H a x → VD X.K m H b y → L2.RelV x v → L2.RelV y u → ltD b a = some t' → (t' = t → wpAny (model X.prog X.w) X.A (compareOp .Gt v u) (EP X pins σ Q) X.xe s) ∧ ((!t') = t → wpAny (model X.prog X.w) X.A (compareOp .LtE v u) (EP X pins σ Q) X.xe s) := fun {a b x y v u t'} va vb rx ry e => by
    obtain ⟨p, p', e1, e2, e3, e4, e5, rfl⟩ := ltD_ok e
    obtain ⟨as, r1⟩ := vb.reads I ry e1
    obtain ⟨bs, r2⟩ := va.reads I rx e2
    have e6 := W.ne_none_both e4 e5
    rw [W.alike_comm] at e4
    exact ⟨fun z => W.gt_data r2 r1 e4 e6 (by omega) (fin z), fun z => W.le_data r2 r1 e4 e6 (by omega) (fin z)⟩
  have eq_ : ∀ {a b : D} {x y : V} {v u : Value} {t' : Bool}, VD X.K m H a x → VD X.K m H b y → L2.RelV x v → L2.RelV y u → eqD a b = some t' → (t' = t → wpAny (model X.prog X.w) X.A (compareOp .Eq v u) (EP X pins σ Q) X.xe s) ∧ ((!t') = t → wpAny (model X.prog X.w) X.A (compareOp .NotEq v u) (EP X pins σ Q) X.xe s) := fun {a b x y v u t'} va vb rx ry e => by
    obtain ⟨p, p', e1, e2, e3, rfl⟩ := eqD_ok e
    obtain ⟨as, r1⟩ := va.reads I rx e1
    obtain ⟨bs, r2⟩ := vb.reads I ry e2
    exact ⟨fun z => SeqAt.eq_plain r1 r2 (toP_plain e1) (toP_plain e2) (by omega) (fin z), fun z => SeqAt.ne_plain r1 r2 (toP_plain e1) (toP_plain e2) (by omega) (fin z)⟩
  have in_ : ∀ {a b : D} {x y : V} {v u : Value} {t' : Bool}, VD X.K m H a x → VD X.K m H b y → L2.RelV x v → L2.RelV y u → inD a b = some t' → (t' = t → wpAny (model X.prog X.w) X.A (compareOp .In v u) (EP X pins σ Q) X.xe s) ∧ ((!t') = t → wpAny (model X.prog X.w) X.A (compareOp .NotIn v u) (EP X pins σ Q) X.xe s) := fun {a b x y v u t'} va vb rx ry e => by
    cases b with
    | tup ds =>
      obtain ⟨p, ps, e1, e2, e3, rfl⟩ := inAll_ok e
      obtain ⟨as, r1⟩ := va.reads I rx e1
      obtain ⟨bs, r2⟩ := vb.reads I ry (show toP (.tup ds) = some (.tuple ps) by unfold toP; rw [e2]; rfl)
      exact ⟨fun z => SeqAt.in_tuple_data r2 r1 (toPs_plain e2) (toP_plain e1) (by omega) (fin z), fun z => SeqAt.notIn_tuple_data r2 r1 (toPs_plain e2) (toP_plain e1) (by omega) (fin z)⟩
    | lst ds =>
      obtain ⟨p, ps, e1, e2, e3, rfl⟩ := inAll_ok e
      obtain ⟨as, r1⟩ := va.reads I rx e1
      obtain ⟨bs, r2⟩ := vb.reads I ry (show toP (.lst ds) = some (.list ps) by unfold toP; rw [e2]; rfl)
      exact ⟨fun z => SeqAt.in_list_data r2 r1 (toPs_plain e2) (toP_plain e1) (by omega) (fin z), fun z => SeqAt.notIn_list_data r2 r1 (toPs_plain e2) (toP_plain e1) (by omega) (fin z)⟩
    | _ => cases e
  unfold cmpV at e
  split at e
  · exact (eq_ va vb rx ry e).1 rfl
  · obtain ⟨t', e0, e'⟩ := Option.map_eq_some_iff.mp e
    exact (eq_ va vb rx ry e0).2 e'
  · cases e
    have va : x = _ := va
    have vb : y = _ := vb
    subst va vb
    exact op_lt pins s σ H _ _ v u Q I rx ry ⟨_, _, rfl, rfl, q⟩
  · cases e
    have va : x = _ := va
    have vb : y = _ := vb
    subst va vb
    exact op_le pins s σ H _ _ v u Q I rx ry ⟨_, _, rfl, rfl, q⟩
  · cases e
    have va : x = _ := va
    have vb : y = _ := vb
    subst va vb
    exact op_gt pins s σ H _ _ v u Q I rx ry ⟨_, _, rfl, rfl, q⟩
  · cases e
    have va : x = _ := va
    have vb : y = _ := vb
    subst va vb
    exact op_ge pins s σ H _ _ v u Q I rx ry ⟨_, _, rfl, rfl, q⟩
  · exact (lt_ va vb rx ry e).1 rfl
  · exact (gt_ va vb rx ry e).1 rfl
  · obtain ⟨t', e0, e'⟩ := Option.map_eq_some_iff.mp e
    exact (gt_ va vb rx ry e0).2 e'
  · obtain ⟨t', e0, e'⟩ := Option.map_eq_some_iff.mp e
    exact (lt_ va vb rx ry e0).2 e'
  · exact (in_ va vb rx ry e).1 rfl
  · obtain ⟨t', e0, e'⟩ := Option.map_eq_some_iff.mp e
    exact (in_ va vb rx ry e0).2 e'
  · cases e
    have vb : y = _ := vb
    subst vb
    exact op_isN pins s σ H _ _ v u Q I rx ry ⟨rfl, by rw [isNon_eq va]; exact q⟩
  · cases e
    have vb : y = _ := vb
    subst vb
    exact op_notN pins s σ H _ _ v u Q I rx ry ⟨rfl, by rw [isNon_eq va]; exact q⟩
  · cases e

/-! ### a value as it stands: a list of the store is read as a list -/
/-- what a value is read as -/
inductive Peek (K : PySem.W.Frag) (m : Am) (H : Hp) : D → V → Prop where
  | val {d : D} {v : V} : VD K m H d v → Peek K m H d v
  | lst {ds : List D} {a : Addr} {xs : List V} : H a = some (.lst xs) → VDs K m H ds xs → Peek K m H (.lst ds) (.ref a)
theorem Peek.sq {K : PySem.W.Frag} {m : Am} {H : Hp} {d : D} {v : V} {ds : List D} (p : Peek K m H d v) (h : itemsV d = some ds) : ∃ a xs, v = .ref a ∧ VDs K m H ds xs ∧ ((d = .tup ds ∧ SqT K H a xs) ∨ ((d = .lst ds ∨ d = .fro ds) ∧ SqL K H a xs)) := by
  cases p with
  | val p =>
    unfold itemsV at h
    split at h
    · cases h
      obtain ⟨a, xs, rfl, q1, q2⟩ := p
      exact ⟨a, xs, rfl, q2, .inl ⟨rfl, q1⟩⟩
    · cases h
      obtain ⟨a, xs, rfl, q1, _, q2⟩ := p
      exact ⟨a, xs, rfl, q2, .inr ⟨.inl rfl, SqL.of q1⟩⟩
    · cases h
      obtain ⟨a, xs, rfl, q1, q2⟩ := p
      exact ⟨a, xs, rfl, q2, .inr ⟨.inr rfl, q1.sq⟩⟩
    · cases h
  | lst q1 q2 =>
    cases h
    exact ⟨_, _, rfl, q2, .inr ⟨.inl rfl, SqL.of q1⟩⟩
def rIdx (K : PySem.W.Frag) : R2 := fun x y H Q => ∃ m S a b d, Sto K m H S ∧ Peek K m H a x ∧ VD K m H b y ∧ idxV a b = some d ∧ Hnd K m H S Q d
theorem ix_any : IxR X (rIdx X.K) := by
  intro value slice pins s σ H x y v u Q I rx ry h hs
  obtain ⟨m, S, a, b, d, st, va, vb, e, q⟩ := h
  unfold idxV at e
  split at e
  · obtain ⟨p, xs, rfl, r, ⟨_, t⟩ | ⟨z, _⟩⟩ := va.sq rfl
    · have vb : y = _ := vb
      subst vb
      obtain ⟨w, e', r'⟩ := r.at e
      exact ix_tup value slice pins s σ H _ _ v u Q I rx ry ⟨p, xs, _, w, rfl, rfl, t, e', q.same st r'⟩ hs
    · rcases z with z | z <;> cases z
  · obtain ⟨p, xs, rfl, r, ⟨z, _⟩ | ⟨_, t⟩⟩ := va.sq rfl
    · cases z
    · have vb : y = _ := vb
      subst vb
      obtain ⟨w, e', r'⟩ := r.at e
      exact ix_list value slice pins s σ H _ _ v u Q I rx ry ⟨p, xs, _, w, rfl, rfl, t, e', q.same st r'⟩ hs
  · obtain ⟨p, xs, rfl, r, ⟨z, _⟩ | ⟨_, t⟩⟩ := va.sq rfl
    · cases z
    · have vb : y = _ := vb
      subst vb
      obtain ⟨w, e', r'⟩ := r.at e
      exact ix_list value slice pins s σ H _ _ v u Q I rx ry ⟨p, xs, _, w, rfl, rfl, t, e', q.same st r'⟩ hs
  · rename_i z i
    split at e
    · rename_i hz
      cases va with
      | val va =>
        have va : x = _ := va
        have vb : y = _ := vb
        subst va vb
        cases e1 : atI z.cps.toList i with
        | none =>
          rw [e1] at e
          cases e
        | some c =>
          rw [e1] at e
          cases e
          exact ix_str value slice pins s σ H _ _ v u Q I rx ry ⟨z, i, c, rfl, rfl, by rw [← sm_eq]; exact hz, e1, q.same st rfl⟩ hs
    · cases e
  · cases e
def rSl (K : PySem.W.Frag) : V → Option Int → Option Int → Hp → VK → Prop := fun x lo hi H Q => ∃ m S a d, Sto K m H S ∧ Peek K m H a x ∧ slV a lo hi = some d ∧ Hnd K m H S Q d
theorem cut_whole {xs : List V} {lo hi : Option Int} (h : HT.sIx xs.length 0 lo = 0 ∧ HT.sIx xs.length xs.length hi = xs.length) : cutV xs lo hi = xs := by
  unfold cutV
  rw [h.1, h.2]
  simp
theorem sl_any : SlR X (rSl X.K) := by
  intro pins s σ H x v vl vu lo hi sl Q I rx hs pl pu h
  obtain ⟨m, S, a, d, st, va, e, q⟩ := h
  unfold slV at e
  split at e
  · cases e
    obtain ⟨p, xs, rfl, r, ⟨_, t⟩ | ⟨z, _⟩⟩ := va.sq rfl
    · refine sl_tupA pins s σ H _ v vl vu _ _ sl Q I rx hs pl pu ⟨p, xs, rfl, t, fun w => ?_, fun _ => q.tupN st (r.cut _ _)⟩
      refine q.tupS st t ?_
      have := r.cut lo hi
      rw [cut_whole w] at this
      exact this
    · rcases z with z | z <;> cases z
  · cases e
    obtain ⟨p, xs, rfl, r, ⟨z, _⟩ | ⟨_, t⟩⟩ := va.sq rfl
    · cases z
    · exact sl_list pins s σ H _ v vl vu _ _ sl Q I rx hs pl pu ⟨p, xs, rfl, t, q.lstN st (r.cut _ _)⟩
  · cases e
    obtain ⟨p, xs, rfl, r, ⟨z, _⟩ | ⟨_, t⟩⟩ := va.sq rfl
    · cases z
    · exact sl_list pins s σ H _ v vl vu _ _ sl Q I rx hs pl pu ⟨p, xs, rfl, t, q.lstN st (r.cut _ _)⟩
  · cases e
/-- truth -/
theorem Peek.tru {m : Am} {H : Hp} {d : D} {v : V} {b : Bool} (p : Peek X.K m H d v) (h : truV d = some b) : TruV X.K v H b := by
  unfold truV at h
  split at h
  · cases h
    cases p with
    | val p =>
      have p : v = _ := p
      subst p
      rfl
  · cases h
    cases p with
    | val p =>
      have p : v = _ := p
      subst p
      rfl
  · cases h
    cases p with
    | val p =>
      have p : v = _ := p
      subst p
      rfl
  · rename_i z
    split at h
    · rename_i hz
      cases h
      cases p with
      | val p =>
        have p : v = _ := p
        subst p
        exact ⟨by rw [← sm_eq]; exact hz, rfl⟩
    · cases h
  · cases h
    obtain ⟨a, xs, rfl, r, ⟨_, t⟩ | ⟨z, _⟩⟩ := p.sq rfl
    · refine .inr (.inl ⟨xs, t, ?_⟩)
      exact r.empty
    · rcases z with z | z <;> cases z
  · cases h
    obtain ⟨a, xs, rfl, r, ⟨z, _⟩ | ⟨_, t⟩⟩ := p.sq rfl
    · cases z
    · refine .inl ⟨xs, t, ?_⟩
      exact r.empty
  · cases h
    obtain ⟨a, xs, rfl, r, ⟨z, _⟩ | ⟨_, t⟩⟩ := p.sq rfl
    · cases z
    · refine .inl ⟨xs, t, ?_⟩
      exact r.empty
  · cases h
  · cases h
end
end Ev
set_option Elab.async false
set_option linter.all false
set_option maxRecDepth 100000
set_option maxHeartbeats 4000000
namespace Ev
open PySem PySem.Spec PyProof.Rows L2
/-- arguments as they stand -/
inductive Peeks (K : PySem.W.Frag) (m : Am) (H : Hp) : List D → List V → Prop where
  | nil : Peeks K m H [] []
  | cons {d : D} {v : V} {ds : List D} {vs : List V} : Peek K m H d v → Peeks K m H ds vs → Peeks K m H (d :: ds) (v :: vs)
theorem VDs.peeks {K : PySem.W.Frag} {m : Am} {H : Hp} : ∀ {ds : List D} {vs : List V}, VDs K m H ds vs → Peeks K m H ds vs
  | [], _, h => by
    have h : _ = _ := h
    subst h
    exact .nil
  | d :: ds, _, h => by
    obtain ⟨v, r, rfl, q1, q2⟩ := h
    exact .cons (.val q1) (VDs.peeks q2)
def rBi (K : PySem.W.Frag) (b : Bi) : List V → Hp → VK → Prop := fun vs H Q => ∃ m S ds d, Sto K m H S ∧ Peeks K m H ds vs ∧ biV b ds = some d ∧ Hnd K m H S Q d
theorem one1_ok {f : D → Option D} {ds : List D} {d : D} (h : one1 f ds = some d) : ∃ x, ds = [x] ∧ f x = some d := by
  unfold one1 at h
  split at h
  · exact ⟨_, rfl, h⟩
  · cases h
theorem two2_ok {f : Int → Int → D} {ds : List D} {d : D} (h : two2 f ds = some d) : ∃ i j, ds = [.int i, .int j] ∧ d = f i j := by
  unfold two2 at h
  split at h
  · cases h
    exact ⟨_, _, rfl, rfl⟩
  · cases h
theorem Peeks.one {K : PySem.W.Frag} {m : Am} {H : Hp} {d : D} {vs : List V} (h : Peeks K m H [d] vs) : ∃ v, vs = [v] ∧ Peek K m H d v := by
  cases h with
  | cons p r =>
    cases r
    exact ⟨_, rfl, p⟩
theorem Peeks.two {K : PySem.W.Frag} {m : Am} {H : Hp} {d e : D} {vs : List V} (h : Peeks K m H [d, e] vs) : ∃ v w, vs = [v, w] ∧ Peek K m H d v ∧ Peek K m H e w := by
  cases h with
  | cons p r =>
    cases r with
    | cons p2 r =>
      cases r
      exact ⟨_, _, rfl, p, p2⟩
theorem Peek.int {K : PySem.W.Frag} {m : Am} {H : Hp} {i : Int} {v : V} (h : Peek K m H (.int i) v) : v = .int i := by
  cases h with
  | val h => exact h
theorem Peek.bl {K : PySem.W.Frag} {m : Am} {H : Hp} {i : Bool} {v : V} (h : Peek K m H (.bl i) v) : v = .bl i := by
  cases h with
  | val h => exact h
theorem Peek.str {K : PySem.W.Frag} {m : Am} {H : Hp} {i : Str} {v : V} (h : Peek K m H (.str i) v) : v = .str i := by
  cases h with
  | val h => exact h
section
variable {X : Cx}
/-- the truth of the items -/
theorem truN_ok {m : Am} {H : Hp} {pins : List (Addr × Obj)} {σ : L2.St} {s : Shared} (I : L2.Inv X pins σ H s) {d : D} {v : V} {p : PyData} {b : Bool} (h : VD X.K m H d v) (e : toP d = some p) (t : truN d = some b) : p.truthy = b ∧ p.fits63 := by
  have hl := line63
  have hs : (sizeLine : Nat) < 2 ^ 63 := line63
  have len_ : ∀ {ds : List D} {ps : List PyData}, toPs ds = some ps → ps.length = ds.length := fun {ds} => by
    induction ds with
    | nil =>
      intro ps e1
      cases e1
      rfl
    | cons d ds ih =>
      intro ps e1
      unfold toPs at e1
      split at e1
      · rename_i e2 e3
        cases e1
        rw [List.length_cons, List.length_cons, ih e3]
      · cases e1
  cases d with
  | non =>
    cases t
    cases e
    exact ⟨rfl, trivial⟩
  | bl b =>
    cases t
    cases e
    exact ⟨rfl, trivial⟩
  | int i =>
    cases t
    cases e
    exact ⟨rfl, trivial⟩
  | tup ds =>
    cases t
    unfold toP at e
    obtain ⟨ps, e1, rfl⟩ := Option.map_eq_some_iff.mp e
    obtain ⟨a, xs, rfl, q1, q2⟩ := h
    have hz := (I.tuple q1).choose_spec.2.2
    have l1 := len_ e1
    have l2 := q2.length
    refine ⟨?_, ?_⟩
    · show (!ps.isEmpty) = _
      cases ps <;> cases ds <;> first | rfl | (cases l1)
    · show ((ps.length : Nat) : Int) < 2 ^ 63
      omega
  | lst ds =>
    cases t
    unfold toP at e
    obtain ⟨ps, e1, rfl⟩ := Option.map_eq_some_iff.mp e
    obtain ⟨a, xs, rfl, q1, _, q2⟩ := h
    have hz := (I.list (SqL.of q1)).choose_spec.2.2
    have l1 := len_ e1
    have l2 := q2.length
    refine ⟨?_, ?_⟩
    · show (!ps.isEmpty) = _
      cases ps <;> cases ds <;> first | rfl | (cases l1)
    · show ((ps.length : Nat) : Int) < 2 ^ 63
      omega
  | str x => cases t
  | fro ds => cases t
  | ref n => cases t
  | dic => cases t
theorem truNs_ok {m : Am} {H : Hp} {pins : List (Addr × Obj)} {σ : L2.St} {s : Shared} (I : L2.Inv X pins σ H s) : ∀ {ds : List D} {vs : List V} {ps : List PyData} {bs : List Bool}, VDs X.K m H ds vs → toPs ds = some ps → truNs ds = some bs →
    ps.map PyData.truthy = bs ∧ ∀ x ∈ ps, x.fits63
  | [], _, _, _, _, e, t => by
    cases e
    cases t
    exact ⟨rfl, fun _ h => by cases h⟩
  | d :: ds, _, _, _, h, e, t => by
    obtain ⟨v, r, rfl, q1, q2⟩ := h
    unfold toPs at e
    unfold truNs at t
    split at e
    · rename_i p ps e1 e2
      cases e
      split at t
      · rename_i b bs t1 t2
        cases t
        obtain ⟨a1, a2⟩ := truN_ok I q1 e1 t1
        obtain ⟨b1, b2⟩ := truNs_ok I q2 e2 t2
        refine ⟨by rw [List.map_cons, a1, b1], fun x hx => ?_⟩
        rcases List.mem_cons.mp hx with rfl | hx
        · exact a2
        · exact b2 x hx
      · cases t
    · cases e
theorem any_map {α : Type} (f : α → Bool) : ∀ l : List α, (l.map f).any id = l.any f
  | [] => rfl
  | x :: r => by rw [List.map_cons, List.any_cons, List.any_cons, any_map f r]; rfl
theorem all_map' {α : Type} (f : α → Bool) : ∀ l : List α, (l.map f).all id = l.all f
  | [] => rfl
  | x :: r => by rw [List.map_cons, List.all_cons, List.all_cons, all_map' f r]; rfl
theorem toIs_toPs : ∀ {ds : List D} {ns : List Int}, toIs ds = some ns → toPs ds = some (ns.map PyData.int)
  | [], _, e => by
    cases e
    rfl
  | d :: ds, _, e => by
    unfold toIs at e
    split at e
    · rename_i i is e1 e2
      cases e
      cases d with
      | int j =>
        cases e1
        unfold toPs
        rw [toIs_toPs e2]
        rfl
      | _ => cases e1
    · cases e
theorem alike_ints (n : Int) (ns : List Int) : W.AlikeAll (PyData.int n :: ns.map PyData.int) := by
  have h : ∀ x ∈ (PyData.int n :: ns.map PyData.int), ∃ i, x = PyData.int i := fun x hx => by
    rcases List.mem_cons.mp hx with rfl | hx
    · exact ⟨n, rfl⟩
    · obtain ⟨i, _, rfl⟩ := List.mem_map.mp hx
      exact ⟨i, rfl⟩
  refine ⟨fun x hx y hy => ?_, fun x hx => ?_⟩
  · obtain ⟨i, rfl⟩ := h x hx
    obtain ⟨j, rfl⟩ := h y hy
    rfl
  · obtain ⟨i, rfl⟩ := h x hx
    exact fun z => by cases z
theorem depth_ints (n : Int) : ∀ ns : List Int, PyData.depthAll (PyData.int n :: ns.map PyData.int) = 0
  | [] => rfl
  | k :: r => by
    have := depth_ints k r
    show max 0 (PyData.depthAll (PyData.int k :: r.map PyData.int)) = 0
    rw [this]
    rfl
theorem reads_int {h : Heap} {v : Value} {i : Int} {as : List Addr} (r : Reads h v (.int i) as) : ∃ t, v = .int i t := by
  cases r
  exact ⟨_, rfl⟩
theorem call_len_ : CallR X (.builtin "len") (rBi X.K .len) := by
  intro pins s σ H xs us Q I r h
  obtain ⟨m, S, ds, d, st, pk, e, q⟩ := h
  obtain ⟨x, rfl, e0⟩ := one1_ok e
  obtain ⟨v, rfl, pk1⟩ := pk.one
  obtain ⟨n, en, rfl⟩ := Option.map_eq_some_iff.mp e0
  have q : Q (.int n) H := q.same st rfl
  unfold lenV at en
  split at en
  · cases en
    obtain ⟨a, ys, rfl, r', ⟨_, t⟩ | ⟨z, _⟩⟩ := pk1.sq rfl
    · rw [← r'.length] at q
      exact call_len_seq pins s σ H _ us Q I r ⟨a, ys, rfl, .inr t, q⟩
    · rcases z with z | z <;> cases z
  · cases en
    obtain ⟨a, ys, rfl, r', ⟨z, _⟩ | ⟨_, t⟩⟩ := pk1.sq rfl
    · cases z
    · rw [← r'.length] at q
      exact call_len_seq pins s σ H _ us Q I r ⟨a, ys, rfl, .inl t, q⟩
  · cases en
    obtain ⟨a, ys, rfl, r', ⟨z, _⟩ | ⟨_, t⟩⟩ := pk1.sq rfl
    · cases z
    · rw [← r'.length] at q
      exact call_len_seq pins s σ H _ us Q I r ⟨a, ys, rfl, .inl t, q⟩
  · split at en
    · rename_i hz
      cases en
      have e := pk1.str
      subst e
      exact call_len_str pins s σ H _ us Q I r ⟨_, rfl, by rw [← sm_eq]; exact hz, q⟩
    · cases en
  · cases en
theorem call_abs_ : CallR X (.builtin "abs") (rBi X.K .abs) := by
  intro pins s σ H xs us Q I r h
  obtain ⟨m, S, ds, d, st, pk, e, q⟩ := h
  obtain ⟨x, rfl, e0⟩ := one1_ok e
  obtain ⟨v, rfl, pk1⟩ := pk.one
  cases x <;> first | (cases e0; done) | skip
  cases e0
  have e := pk1.int
  subst e
  exact L2.call_abs pins s σ H _ us Q I r ⟨_, rfl, q.same st rfl⟩
theorem call_int_ : CallR X (.type "int") (rBi X.K .int) := by
  intro pins s σ H xs us Q I r h
  obtain ⟨m, S, ds, d, st, pk, e, q⟩ := h
  obtain ⟨x, rfl, e0⟩ := one1_ok e
  obtain ⟨v, rfl, pk1⟩ := pk.one
  cases x <;> first | (cases e0; done) | skip
  · cases e0
    have e := pk1.bl
    subst e
    exact call_int1 pins s σ H _ us Q I r (.inr ⟨_, rfl, q.same st rfl⟩)
  · cases e0
    have e := pk1.int
    subst e
    exact call_int1 pins s σ H _ us Q I r (.inl ⟨_, rfl, q.same st rfl⟩)
theorem call_tuple_ : CallR X (.type "tuple") (rBi X.K .tuple) := by
  intro pins s σ H xs us Q I r h
  obtain ⟨m, S, ds, d, st, pk, e, q⟩ := h
  obtain ⟨x, rfl, e0⟩ := one1_ok e
  obtain ⟨v, rfl, pk1⟩ := pk.one
  obtain ⟨ds, e1, rfl⟩ := Option.map_eq_some_iff.mp e0
  obtain ⟨a, ys, rfl, r', ⟨_, t⟩ | ⟨_, t⟩⟩ := pk1.sq e1
  · exact call_tuple_of pins s σ H _ us Q I r ⟨a, ys, rfl, .inr ⟨t, q.tupS st t r'⟩⟩
  · exact call_tuple_of pins s σ H _ us Q I r ⟨a, ys, rfl, .inl ⟨t, q.tupN st r'⟩⟩
theorem call_list_ : CallR X (.type "list") (rBi X.K .list) := by
  intro pins s σ H xs us Q I r h
  obtain ⟨m, S, ds, d, st, pk, e, q⟩ := h
  obtain ⟨x, rfl, e0⟩ := one1_ok e
  obtain ⟨v, rfl, pk1⟩ := pk.one
  obtain ⟨ds, e1, rfl⟩ := Option.map_eq_some_iff.mp e0
  obtain ⟨a, ys, rfl, r', ⟨_, t⟩ | ⟨_, t⟩⟩ := pk1.sq e1
  · exact call_list_of pins s σ H _ us Q I r ⟨a, ys, rfl, .inr t, q.lstN st r'⟩
  · exact call_list_of pins s σ H _ us Q I r ⟨a, ys, rfl, .inl t, q.lstN st r'⟩
theorem call_any_ (hc : X.calm = true) : CallR X (.builtin "any") (rBi X.K .any) := by
  intro pins s σ H xs us Q I r h
  obtain ⟨m, S, ds, d, st, pk, e, q⟩ := h
  obtain ⟨x, rfl, e0⟩ := one1_ok e
  obtain ⟨v, rfl, pk1⟩ := pk.one
  obtain ⟨ds, e1, e⟩ := Option.bind_eq_some_iff.mp e0
  obtain ⟨ps, e2, e⟩ := Option.bind_eq_some_iff.mp e
  obtain ⟨bs, e3, rfl⟩ := Option.map_eq_some_iff.mp e
  obtain ⟨a, ys, rfl, r', t⟩ := pk1.sq e1
  obtain ⟨u, rfl, ru⟩ := vals1 r
  cases ru
  obtain ⟨f1, f2⟩ := truNs_ok I r' e2 e3
  have q : Q (.bl (ps.any PyData.truthy)) H := by
    rw [← f1, any_map] at q
    exact q.same st rfl
  rcases t with ⟨_, t⟩ | ⟨_, t⟩
  · obtain ⟨its, rv, p, _⟩ := I.tuple t
    obtain ⟨as, ra⟩ := r'.reads I rv e2
    exact W.any_tuple_data (I.ok.hd hc) p ra (toPs_plain e2) f2 fun h' tk hk => ⟨.bl _, H, I.kept hk, rfl, q⟩
  · obtain ⟨its, rv, p, _⟩ := I.list t
    obtain ⟨as, ra⟩ := r'.reads I rv e2
    exact W.any_list_data (I.ok.hd hc) p.isList ra (toPs_plain e2) f2 fun h' tk hk => ⟨.bl _, H, I.kept hk, rfl, q⟩
theorem call_all_ (hc : X.calm = true) : CallR X (.builtin "all") (rBi X.K .all) := by
  intro pins s σ H xs us Q I r h
  obtain ⟨m, S, ds, d, st, pk, e, q⟩ := h
  obtain ⟨x, rfl, e0⟩ := one1_ok e
  obtain ⟨v, rfl, pk1⟩ := pk.one
  obtain ⟨ds, e1, e⟩ := Option.bind_eq_some_iff.mp e0
  obtain ⟨ps, e2, e⟩ := Option.bind_eq_some_iff.mp e
  obtain ⟨bs, e3, rfl⟩ := Option.map_eq_some_iff.mp e
  obtain ⟨a, ys, rfl, r', t⟩ := pk1.sq e1
  obtain ⟨u, rfl, ru⟩ := vals1 r
  cases ru
  obtain ⟨f1, f2⟩ := truNs_ok I r' e2 e3
  have q : Q (.bl (ps.all PyData.truthy)) H := by
    rw [← f1, all_map'] at q
    exact q.same st rfl
  rcases t with ⟨_, t⟩ | ⟨_, t⟩
  · obtain ⟨its, rv, p, _⟩ := I.tuple t
    obtain ⟨as, ra⟩ := r'.reads I rv e2
    exact W.all_tuple_data (I.ok.hd hc) p ra (toPs_plain e2) f2 fun h' tk hk => ⟨.bl _, H, I.kept hk, rfl, q⟩
  · obtain ⟨its, rv, p, _⟩ := I.list t
    obtain ⟨as, ra⟩ := r'.reads I rv e2
    exact W.all_list_data (I.ok.hd hc) p.isList ra (toPs_plain e2) f2 fun h' tk hk => ⟨.bl _, H, I.kept hk, rfl, q⟩
theorem call_max_ (hc : X.calm = true) (hu : X.A.units + 64 < cLine) : CallR X (.builtin "max") (rBi X.K .max) := by
  intro pins s σ H xs us Q I r h
  obtain ⟨m, S, ds, d, st, pk, e, q⟩ := h
  obtain ⟨x, rfl, e0⟩ := one1_ok e
  obtain ⟨v, rfl, pk1⟩ := pk.one
  obtain ⟨ds, e1, e⟩ := Option.bind_eq_some_iff.mp e0
  obtain ⟨ns, e2, e⟩ := Option.bind_eq_some_iff.mp e
  obtain ⟨k, e3, rfl⟩ := Option.map_eq_some_iff.mp e
  obtain ⟨a, ys, rfl, r', t⟩ := pk1.sq e1
  obtain ⟨u, rfl, ru⟩ := vals1 r
  cases ru
  cases ns with
  | nil => cases e3
  | cons n ns =>
    have e3 : ns.foldl max n = k := Option.some.inj e3
    have q : Q (.int (ns.foldl max n)) H := by
      rw [e3]
      exact q.same st rfl
    have ep := toIs_toPs e2
    rw [List.map_cons] at ep
    have fin : ∀ (v : Value) (h' : Heap) (tk : Nat) (bs : List Addr), Reads h' v (W.maxD (.int n) (ns.map .int)) bs → (∀ b o, s.heap.get? b = some o → h'.get? b = some o) → EP X pins σ Q v { s with heap := h', toks := tk } := fun v h' tk bs rr hk => by
      rw [W.maxD_ints] at rr
      obtain ⟨t, rfl⟩ := reads_int rr
      exact ⟨.int _, H, I.kept hk, ⟨t, rfl⟩, q⟩
    rcases t with ⟨_, t⟩ | ⟨_, t⟩
    · obtain ⟨its, rv, p, _⟩ := I.tuple t
      obtain ⟨as, ra⟩ := r'.reads I rv ep
      exact W.max_tuple_data (I.ok.hd hc) p ra (alike_ints n ns) (by rw [depth_ints]; omega) fun _ v h' tk bs _ rr hk => fin v h' tk bs rr hk
    · obtain ⟨its, rv, p, _⟩ := I.list t
      obtain ⟨as, ra⟩ := r'.reads I rv ep
      exact W.max_list_data (I.ok.hd hc) p.isList ra (alike_ints n ns) (by rw [depth_ints]; omega) fun _ v h' tk bs _ rr hk => fin v h' tk bs rr hk
theorem call_min_ (hc : X.calm = true) (hu : X.A.units + 64 < cLine) : CallR X (.builtin "min") (rBi X.K .min) := by
  intro pins s σ H xs us Q I r h
  obtain ⟨m, S, ds, d, st, pk, e, q⟩ := h
  obtain ⟨x, rfl, e0⟩ := one1_ok e
  obtain ⟨v, rfl, pk1⟩ := pk.one
  obtain ⟨ds, e1, e⟩ := Option.bind_eq_some_iff.mp e0
  obtain ⟨ns, e2, e⟩ := Option.bind_eq_some_iff.mp e
  obtain ⟨k, e3, rfl⟩ := Option.map_eq_some_iff.mp e
  obtain ⟨a, ys, rfl, r', t⟩ := pk1.sq e1
  obtain ⟨u, rfl, ru⟩ := vals1 r
  cases ru
  cases ns with
  | nil => cases e3
  | cons n ns =>
    have e3 : ns.foldl min n = k := Option.some.inj e3
    have q : Q (.int (ns.foldl min n)) H := by
      rw [e3]
      exact q.same st rfl
    have ep := toIs_toPs e2
    rw [List.map_cons] at ep
    have fin : ∀ (v : Value) (h' : Heap) (tk : Nat) (bs : List Addr), Reads h' v (W.minD (.int n) (ns.map .int)) bs → (∀ b o, s.heap.get? b = some o → h'.get? b = some o) → EP X pins σ Q v { s with heap := h', toks := tk } := fun v h' tk bs rr hk => by
      rw [W.minD_ints] at rr
      obtain ⟨t, rfl⟩ := reads_int rr
      exact ⟨.int _, H, I.kept hk, ⟨t, rfl⟩, q⟩
    rcases t with ⟨_, t⟩ | ⟨_, t⟩
    · obtain ⟨its, rv, p, _⟩ := I.tuple t
      obtain ⟨as, ra⟩ := r'.reads I rv ep
      exact W.min_tuple_data (I.ok.hd hc) p ra (alike_ints n ns) (by rw [depth_ints]; omega) fun _ v h' tk bs _ rr hk => fin v h' tk bs rr hk
    · obtain ⟨its, rv, p, _⟩ := I.list t
      obtain ⟨as, ra⟩ := r'.reads I rv ep
      exact W.min_list_data (I.ok.hd hc) p.isList ra (alike_ints n ns) (by rw [depth_ints]; omega) fun _ v h' tk bs _ rr hk => fin v h' tk bs rr hk
theorem call_max2_ (hc : X.calm = true) : CallR X (.builtin "max") (rBi X.K .max2) := by
  intro pins s σ H xs us Q I r h
  obtain ⟨m, S, ds, d, st, pk, e, q⟩ := h
  obtain ⟨i, j, rfl, rfl⟩ := two2_ok e
  obtain ⟨v, w, rfl, p1, p2⟩ := pk.two
  have e1 := p1.int
  have e2 := p2.int
  subst e1 e2
  exact call_max2 hc pins s σ H _ us Q I r ⟨_, _, rfl, q.same st rfl⟩
theorem call_min2_ (hc : X.calm = true) : CallR X (.builtin "min") (rBi X.K .min2) := by
  intro pins s σ H xs us Q I r h
  obtain ⟨m, S, ds, d, st, pk, e, q⟩ := h
  obtain ⟨i, j, rfl, rfl⟩ := two2_ok e
  obtain ⟨v, w, rfl, p1, p2⟩ := pk.two
  have e1 := p1.int
  have e2 := p2.int
  subst e1 e2
  exact call_min2 hc pins s σ H _ us Q I r ⟨_, _, rfl, q.same st rfl⟩
end
end Ev
set_option Elab.async false
set_option linter.all false
set_option maxRecDepth 100000
set_option maxHeartbeats 4000000
namespace Ev
open PySem PySem.Spec PyProof.Rows L2
section
variable {K : PySem.W.Frag} {m : Am} {H : Hp}
mutual
/-- data without refs stand the same beside any store -/
theorem VD.clean : ∀ (d : D) (v : V) (p : PyData), toP d = some p → VD K m H d v → VD K ⟨[], []⟩ H d v
  | .non, _, _, _, q => q
  | .bl _, _, _, _, q => q
  | .int _, _, _, _, q => q
  | .str _, _, _, _, q => q
  | .tup ds, _, p, e, q => by
    obtain ⟨a, xs, e1, q1, q2⟩ := q
    obtain ⟨ps, e2, _⟩ := Option.map_eq_some_iff.mp e
    exact ⟨a, xs, e1, q1, VDs.clean ds xs ps e2 q2⟩
  | .lst ds, _, p, e, q => by
    obtain ⟨a, xs, e1, q1, n, q2⟩ := q
    obtain ⟨ps, e2, _⟩ := Option.map_eq_some_iff.mp e
    exact ⟨a, xs, e1, q1, fun z => (by rcases z with z | z <;> cases z), VDs.clean ds xs ps e2 q2⟩
  | .fro ds, _, p, e, q => by cases e
  | .ref n, _, p, e, q => by cases e
  | .dic, _, p, e, q => by cases e
theorem VDs.clean : ∀ (ds : List D) (vs : List V) (ps : List PyData), toPs ds = some ps → VDs K m H ds vs → VDs K ⟨[], []⟩ H ds vs
  | [], _, _, _, q => q
  | d :: ds, _, ps, e, q => by
    obtain ⟨v, r, e1, q1, q2⟩ := q
    unfold toPs at e
    split at e
    · rename_i p ps' h1 h2
      exact ⟨v, r, e1, VD.clean d v p h1 q1, VDs.clean ds r ps' h2 q2⟩
    · cases e
end
theorem Peek.clean {d : D} {v : V} {p : PyData} (h : Peek K m H d v) (e : toP d = some p) : VD K ⟨[], []⟩ H d v := by
  cases h with
  | val h => exact VD.clean _ _ _ e h
  | lst q1 q2 =>
    obtain ⟨ps, e2, _⟩ := Option.map_eq_some_iff.mp e
    exact ⟨_, _, rfl, q1, fun z => (by rcases z with z | z <;> cases z), VDs.clean _ _ _ e2 q2⟩
end
section
variable {X : Cx}
theorem call_repr_ (hg : X.A.guards = some []) (hu : X.A.units + 64 < cLine) : CallR X (.builtin "repr") (rBi X.K .repr) := by
  intro pins s σ H xs us Q I r h
  obtain ⟨m, S, ds, d, st, pk, e, q⟩ := h
  obtain ⟨x, rfl, e0⟩ := one1_ok e
  obtain ⟨v, rfl, pk1⟩ := pk.one
  obtain ⟨u, rfl, ru⟩ := vals1 r
  unfold reprV at e0
  cases ep : toP x with
  | none =>
    rw [ep] at e0
    cases e0
  | some p =>
    rw [ep] at e0
    dsimp only at e0
    split at e0
    · rename_i hz
      cases e0
      simp only [Bool.and_eq_true, Bool.not_eq_true', decide_eq_true_eq] at hz
      obtain ⟨⟨⟨z1, z2⟩, z3⟩, z4⟩ := hz
      have qq : Q (.str p.shown) H := q.same st rfl
      have vd := pk1.clean ep
      have fin : ∀ (t : Tok) (h' : Heap) (tk : Nat), (∀ b o, s.heap.get? b = some o → h'.get? b = some o) → EP X pins σ Q (.str p.shown t) { s with heap := h', toks := tk } := fun t h' tk hk => ⟨.str p.shown, H, I.kept hk, ⟨t, rfl⟩, qq⟩
      have isref : ∀ a, v = .ref a → wpAny (model X.prog X.w) X.A (PySem.call (.builtin "repr") [u]) (EP X pins σ Q) X.xe s := fun a ea => by
        subst ea
        have ru : u = Value.ref a := ru
        subst ru
        obtain ⟨as, rd⟩ := VD.reads I vd rfl ep
        exact repr_of_reads' rd z1 (fun z => by rw [z2] at z; cases z) hg (by omega) (fun b o z => z) (fun h' t tk hk => fin t h' tk hk) (by rw [← sm_eq]; exact z3)
      cases x with
      | non =>
        cases ep
        have vd : v = _ := vd
        subst vd
        have ru : u = Value.none := ru
        subst ru
        exact PySem.P.repr_of_none (fin _ s.heap _ (fun b o z => z))
      | bl b =>
        cases ep
        have vd : v = _ := vd
        subst vd
        have ru : u = Value.bool b := ru
        subst ru
        refine PySem.P.repr_of_bool ?_
        cases b
        · exact fin _ s.heap _ fun b o z => z
        · exact fin _ s.heap _ fun b o z => z
      | int i =>
        cases ep
        have vd : v = _ := vd
        subst vd
        obtain ⟨t, rfl⟩ := ru
        exact PySem.P.repr_of_int (of_decide_eq_true z1) (fin _ s.heap _ (fun b o z => z))
      | str y =>
        cases ep
        have vd : v = _ := vd
        subst vd
        obtain ⟨t, rfl⟩ := ru
        exact PySem.P.repr_of_str (fin _ s.heap _ (fun b o z => z)) (by rw [← sm_eq]; exact z3)
      | tup ds =>
        obtain ⟨a, xs, rfl, _⟩ := vd
        exact isref a rfl
      | lst ds =>
        obtain ⟨a, xs, rfl, _⟩ := vd
        exact isref a rfl
      | fro ds => cases ep
      | ref n => cases ep
      | dic => cases ep
    · cases e0
end
end Ev
set_option Elab.async false
set_option linter.all false
set_option maxRecDepth 100000
set_option maxHeartbeats 4000000
namespace Ev
open PySem PySem.Spec PyProof.Rows L2
/-- a def's promise where no repr runs around it -/
structure FnG (P : Program) (w : World) (K : PySem.W.Frag) (mg : Str → Option Value) (base : Heap) (k : Nat) (f : Addr) (fd : FuncData) (ps : List Str) (sp : Sp) : Prop where
  len : ∀ vs H Q E, sp vs H Q E → vs.length = ps.length
  run : ∀ (A : Around) (outer : List PySem.Env) (s : Shared) (H : Hp) (args : Args) (us : List Value) (vs : List V) (Q : VK) (E : XK), Room k A → A.guards = some [] → Env0 P w K mg base A outer s H →
    BindsTo s fd args (ps.zip us) → Vals vs us → sp vs H Q E → codeAny (model P w) A (.call (.ref f) args) (CR (CX P w) outer P w H s Q E) s
/-- the body of a def -/
theorem FnG.of {P : Program} {w : World} {K : PySem.W.Frag} {mg : Str → Option Value} {base : Heap} {k : Nat} {f : Addr} {name qual : Str} {params : Arguments} {body : List Stmt} {scope : Scope} {dvs : List V} {kws : List (Str × V)} {fd : FuncData} {N ps : List Str} {sp : Sp}
    (F : FunD K name qual params body scope dvs kws f fd) (sc : FnScope N ps scope) (len : ∀ vs H Q E, sp vs H Q E → vs.length = ps.length)
    (hb : ∀ (cd : Value) (A : Around) (outer : List PySem.Env) (s : Shared) (H : Hp) (vs : List V) (Q : VK) (E : XK), Room k (A.deeper (envOfC qual scope s.heap.objs.size f cd)) → (A.deeper (envOfC qual scope s.heap.objs.size f cd)).guards = some [] → sp vs H Q E →
      ∃ t, PSs (cxOf (CX P w) P w K mg base N qual scope f cd A outer s H E) body t ∧ t { nx := fun _ H' => Q .non H', rt := Q } (start N vs) H) : FnG P w K mg base (k + 1) f fd ps sp := by
  obtain ⟨oc, od, dV, kV, doc, pm, an, cd, ct, osl, e1, lk, hcd, _, _⟩ := F.1
  subst e1
  refine ⟨len, fun A outer s H args us vs Q E hr hg e0 hbd r h => ?_⟩
  have KX : K.In s.heap := e0.mod.kin.keeps fun b o z => (e0.bs b o z).1
  have lim : s.heap.NoLimit := e0.mod.nolimit.keeps fun b o z => (e0.bs b o z).1
  have cells : ∀ y ∈ ps.zip us, scope.names.lookup y.1 = some .local ∨ (scope.names.lookup y.1 = some .cell ∧ ((cellsFrom (s.heap.objs.size + 1) scope.names []).lookup y.1).isSome = true) := fun y hy => by
    rcases sc.par y.1 (List.of_mem_zip (a := y.1) (b := y.2) hy).1 with q | q
    · exact Or.inl q
    · exact Or.inr ⟨q, PySem.W.cellsFrom_some _ _ _ (Or.inl q)⟩
  refine codeAny_call_function hr.depth (KX _ _ lk) rfl sc.co sc.gen rfl (PySem.W.codeRec_of KX hcd) (hbd _ _ _ _ ?_)
  refine wpAny_newFunctionEnv_cells sc.kind cells fun env he s1 x => ?_
  subst he
  refine ⟨lim.keeps x.toInCall.keep, codeAny_func ?_⟩
  obtain ⟨t, ht, hq⟩ := hb cd A outer s H vs Q E (hr.deeper _) (by first | exact hg | (simpa [Around.deeper] using hg)) h
  have J := inv_start (CX := CX P w) (E := E) sc hr.hd e0 (len _ _ _ _ h) r x
  refine wpAny_mono (ht.run [] s1 (start N vs) H _ J hq) (fun fl s2 hs => ?_) fun e s2 hs => hs
  cases fl with
  | ret u =>
    obtain ⟨v, σ2, H2, J2, rv, q2⟩ := hs
    exact ⟨v, H2, J2.os, J2.bare, J2.base, J2.hok, rv, q2⟩
  | next =>
    obtain ⟨σ2, H2, J2, q2⟩ := hs
    exact ⟨V.non, H2, J2.os, J2.bare, J2.base, J2.hok, rfl, q2⟩
  | brk => exact (show False from hs.choose_spec.choose_spec.2).elim
  | cont => exact (show False from hs.choose_spec.choose_spec.2).elim
section
variable {X : Cx} {k : Nat} {f : Addr} {fd : FuncData} {ps : List Str} {sp : Sp} {W : WX} {pins : List (Addr × Obj)} {σ : L2.St} {H : Hp} {s : Shared} {Q : VK}
/-- a callee runs -/
theorem FnG.call (F : FnG X.prog X.w X.K X.mg X.base k f fd ps sp) (hr : Room k X.A) (hg : X.A.guards = some []) (hb : Binds X.K fd ps []) (tk : Takes X W) {us : List Value} {vs : List V} (I : L2.Inv X pins σ H s) (r : Vals vs us)
    (h : sp vs H Q fun c d H' => W c d σ H') : wpAny (model X.prog X.w) X.A (PySem.call (.ref f) us) (EP X pins σ Q) X.xe s := by
  have hl : (us ++ []).length = ps.length := by
    rw [List.append_nil, ← r.length]
    exact F.len _ _ _ _ h
  have b1 := hb s us I.kIn hl
  rw [List.append_nil] at b1
  refine wpAny_call (codeAny_mono (F.run X.A X.stack s H ⟨us, []⟩ us vs Q _ hr hg I.env0 b1 r h) fun res s2 hq => ?_)
  cases res with
  | error e => exact tk e s2 (XE.of_call I (fun _ _ _ z => z) hq)
  | ok fl =>
    cases fl with
    | ret u => exact I.after hq
    | next => exact (show False from hq).elim
    | brk => exact (show False from hq).elim
    | cont => exact (show False from hq).elim
variable {x : Str} {p pos : Pos} {e : Expr} {es : List Expr} {t : TA}
/-- f(e, ..): by the slots as they are -/
def tCallG (sp : Sp) (W : WX) (t : TA) : TE := fun σ H Q => t σ H fun vs H1 => sp vs H1 Q fun c d H' => W c d σ H'
theorem pe_callG (F : FnG X.prog X.w X.K X.mg X.base k f fd ps sp) (hr : Room k X.A) (hg : X.A.guards = some []) (gl : Gl X x) (hm : X.mg x = some (.ref f)) (hk : PySem.W.keepIn X.K (.ref f) = true) (hb : Binds X.K fd ps []) (tk : Takes X W)
    (ha : PA X (e :: es) t) (hd : (x == ("__debug__" : Str)) = false) (he : starEach (e :: es) X.env = (false, eval e X.env) :: starEach es X.env) (hp : (backTo pos (starEach es X.env)).any (·.1) = false) :
    PE X (.Call (.Name x p) (e :: es) [] pos) (tCallG sp W t) := by
  refine ⟨fun pins s σ H Q I h => ?_⟩
  refine wpAny_Call_Name_kw (ld_glob I gl hm ?_ hd)
  refine PySem.W.callWith_K (h₀ := X.base) I.ok.mod.kin hk (thn (ha.run pos pins s σ H _ I h) fun us s1 h1 => ?_) he hp
  obtain ⟨vs, H1, I1, r, q⟩ := h1
  exact ⟨I1.kIn, F.call hr hg hb tk I1 r q⟩
theorem pe_callG0 (F : FnG X.prog X.w X.K X.mg X.base k f fd ps sp) (hr : Room k X.A) (hg : X.A.guards = some []) (gl : Gl X x) (hm : X.mg x = some (.ref f)) (hk : PySem.W.keepIn X.K (.ref f) = true) (hb : Binds X.K fd ps []) (tk : Takes X W)
    (hd : (x == ("__debug__" : Str)) = false) : PE X (.Call (.Name x p) [] [] pos) (tCallG sp W tNil) := by
  refine ⟨fun pins s σ H Q I h => ?_⟩
  refine wpAny_Call_Name_kw (ld_glob I gl hm ?_ hd)
  exact PySem.W.callWith_K0 I.kIn hk (F.call (us := []) hr hg hb tk I .nil h)
end
end Ev
set_option Elab.async false
set_option linter.all false
set_option maxRecDepth 100000
set_option maxHeartbeats 4000000
namespace Ev
open PySem PySem.Spec PyProof.Rows L2

/-! ### readings of the evaluator -/
def Gd {α : Type} (r : Option (Rs α)) (φ : α → Store → Prop) (ψ : Xn → Store → Prop) : Prop := match r with
  | some (.ok a S) => φ a S
  | some (.ex x S) => ψ x S
  | none => False
/-- how an exception stands -/
def XRel (K : PySem.W.Frag) (mg : Str → Option Value) (m : Am) (H : Hp) (x : Xn) (c : Value) (d : Option Addr) : Prop :=
  ∃ C, mg x.cls = some (.ref C) ∧ c = .ref C ∧ match x.arg with
    | none => d = none
    | some a => ∃ da f v, d = some da ∧ H da = some (.xd [(f, v)]) ∧ VD K m H a v
def ExW (K : PySem.W.Frag) (mg : Str → Option Value) (m : Am) (H : Hp) (E : XK) : Xn → Store → Prop := fun x S' => ∀ m' H' c d, Stp m H m' H' → Sto K m' H' S' → XRel K mg m' H' x c d → E c d H'
def OkW (K : PySem.W.Frag) (m : Am) (H : Hp) (Q : VK) : D → Store → Prop := fun d S' => ∀ m' H' v, Stp m H m' H' → Sto K m' H' S' → VD K m' H' d v → Q v H'
def OkB (K : PySem.W.Frag) (m : Am) (H : Hp) (Q : Bool → Hp → Prop) : Bool → Store → Prop := fun b S' => ∀ m' H', Stp m H m' H' → Sto K m' H' S' → Q b H'
def OkL (K : PySem.W.Frag) (m : Am) (H : Hp) (Q : List V → Hp → Prop) : List D → Store → Prop := fun ds S' => ∀ m' H' vs, Stp m H m' H' → Sto K m' H' S' → VDs K m' H' ds vs → Q vs H'
/-- a def as a promise -/
def spC (K : PySem.W.Frag) (mg : Str → Option Value) (cl : List D → M D) (np : Nat) : Sp := fun vs H Q E => vs.length = np ∧ ∃ m S ds, Sto K m H S ∧ VDs K m H ds vs ∧ Gd (cl ds S) (OkW K m H Q) (ExW K mg m H E)
/-- an expression's reading -/
def tev (K : PySem.W.Frag) (mg : Str → Option Value) (W : WX) (call : Nat → List D → M D) (e : E) : TE := fun σ H Q => ∃ m S ρ, Sto K m H S ∧ EnvR K m H σ ρ ∧ Gd (evE call e ρ S) (OkW K m H Q) (ExW K mg m H fun c d H' => W c d σ H')
def ttv (K : PySem.W.Frag) (mg : Str → Option Value) (W : WX) (call : Nat → List D → M D) (e : E) : TT := fun σ H Q => ∃ m S ρ, Sto K m H S ∧ EnvR K m H σ ρ ∧ Gd (evT call e ρ S) (OkB K m H Q) (ExW K mg m H fun c d H' => W c d σ H')
def tevs (K : PySem.W.Frag) (mg : Str → Option Value) (W : WX) (call : Nat → List D → M D) (es : List E) : TA := fun σ H Q => ∃ m S ρ, Sto K m H S ∧ EnvR K m H σ ρ ∧ Gd (evEs call es ρ S) (OkL K m H Q) (ExW K mg m H fun c d H' => W c d σ H')

section
variable {K : PySem.W.Frag} {mg : Str → Option Value} {m m1 : Am} {H H1 : Hp} {S S1 : Store}
theorem Gd.mono {α : Type} {r : Option (Rs α)} {φ φ' : α → Store → Prop} {ψ ψ' : Xn → Store → Prop} (h : Gd r φ ψ) (f : ∀ a S, φ a S → φ' a S) (g : ∀ x S, ψ x S → ψ' x S) : Gd r φ' ψ' := by
  cases r with
  | none => exact h
  | some r => cases r with
    | ok a S => exact f a S h
    | ex x S => exact g x S h
/-- two in a row -/
theorem Gd.bind {α β : Type} {x : M α} {f : α → M β} {φ : β → Store → Prop} {ψ : Xn → Store → Prop} (h : Gd (M.bind x f S) φ ψ) : Gd (x S) (fun a S' => Gd (f a S') φ ψ) ψ := by
  unfold M.bind at h
  cases e : x S with
  | none =>
    rw [e] at h
    exact h
  | some r =>
    rw [e] at h
    cases r with
    | ok a S => exact h
    | ex x S => exact h
theorem Gd.join {α β : Type} {x : M α} {f : α → M β} {φ : β → Store → Prop} {ψ : Xn → Store → Prop} (h : Gd (x S) (fun a S' => Gd (f a S') φ ψ) ψ) : Gd (M.bind x f S) φ ψ := by
  unfold M.bind
  cases e : x S with
  | none =>
    rw [e] at h
    exact h
  | some r =>
    rw [e] at h
    cases r with
    | ok a S => exact h
    | ex x S => exact h
theorem M.assoc {α β γ : Type} (x : M α) (f : α → M β) (g : β → M γ) : M.bind (M.bind x f) g = M.bind x fun a => M.bind (f a) g := by
  funext S
  unfold M.bind
  cases x S with
  | none => rfl
  | some r => cases r <;> rfl
theorem M.left {α β : Type} (a : α) (f : α → M β) : M.bind (M.pure a) f = f a := rfl
theorem Gd.pure {α : Type} {a : α} {φ : α → Store → Prop} {ψ : Xn → Store → Prop} (h : Gd (M.pure a S) φ ψ) : φ a S := h
theorem Gd.opt {α : Type} {o : Option α} {φ : α → Store → Prop} {ψ : Xn → Store → Prop} (h : Gd (opt o S) φ ψ) : ∃ a, o = some a ∧ φ a S := by
  cases o with
  | none => exact False.elim h
  | some a => exact ⟨a, rfl, h⟩
theorem Gd.stuck {α : Type} {φ : α → Store → Prop} {ψ : Xn → Store → Prop} (h : Gd (Ev.stuck (α := α) S) φ ψ) : False := h
theorem OkW.step {Q : VK} (st : Stp m H m1 H1) {d : D} {S' : Store} (h : OkW K m H Q d S') : OkW K m1 H1 Q d S' := fun m' H' v s2 => h m' H' v (st.trans s2)
theorem OkB.step {Q : Bool → Hp → Prop} (st : Stp m H m1 H1) {d : Bool} {S' : Store} (h : OkB K m H Q d S') : OkB K m1 H1 Q d S' := fun m' H' s2 => h m' H' (st.trans s2)
theorem OkL.step {Q : List V → Hp → Prop} (st : Stp m H m1 H1) {d : List D} {S' : Store} (h : OkL K m H Q d S') : OkL K m1 H1 Q d S' := fun m' H' v s2 => h m' H' v (st.trans s2)
theorem ExW.step {E : XK} (st : Stp m H m1 H1) {x : Xn} {S' : Store} (h : ExW K mg m H E x S') : ExW K mg m1 H1 E x S' := fun m' H' c d s2 => h m' H' c d (st.trans s2)
theorem OkW.hnd {Q : VK} {d : D} {S' : Store} (h : OkW K m H Q d S') : Hnd K m H S' Q d := h
end
section
variable {X : Cx} {e : Expr} {st : Stmt} {sts : List Stmt} {es : List Expr}
theorem _root_.L2.PE.wk {t t' : TE} (h : PE X e t) (f : ∀ σ H Q, t' σ H Q → t σ H Q) : PE X e t' := ⟨fun p s σ H Q I q => h.run p s σ H Q I (f σ H Q q)⟩
theorem _root_.L2.PT.wk {t t' : TT} (h : PT X e t) (f : ∀ σ H Q, t' σ H Q → t σ H Q) : PT X e t' := ⟨fun p s σ H Q I q => h.run p s σ H Q I (f σ H Q q)⟩
theorem _root_.L2.PW.wk {t t' : TT} (h : PW X e t) (f : ∀ σ H Q, t' σ H Q → t σ H Q) : PW X e t' := ⟨fun w p s σ H Q I q => h.run w p s σ H Q I (f σ H Q q)⟩
theorem _root_.L2.PA.wk {t t' : TA} (h : PA X es t) (f : ∀ σ H Q, t' σ H Q → t σ H Q) : PA X es t' := ⟨fun o p s σ H Q I q => h.run o p s σ H Q I (f σ H Q q)⟩
theorem _root_.L2.PS.wk {t t' : TS} (h : PS X st t) (f : ∀ D σ H, t' D σ H → t D σ H) : PS X st t' := ⟨fun p s σ H D I q => h.run p s σ H D I (f D σ H q)⟩
theorem _root_.L2.PSs.wk {t t' : TS} (h : PSs X sts t) (f : ∀ D σ H, t' D σ H → t D σ H) : PSs X sts t' := ⟨fun p s σ H D I q => h.run p s σ H D I (f D σ H q)⟩
end
section
variable {K : PySem.W.Frag} {mg : Str → Option Value} {W : WX} {call : Nat → List D → M D} {m : Am} {H : Hp} {S : Store} {σ : L2.St} {ρ : Env}
/-- an expression, then the rest -/
theorem tev_of (s : Sto K m H S) (r : EnvR K m H σ ρ) {e : E} {β : Type} {f : D → M β} {φ : β → Store → Prop} {Q : VK} (h : Gd (M.bind (evE call e ρ) f S) φ (ExW K mg m H fun c d H' => W c d σ H'))
    (k : ∀ d S' m' H' v, Stp m H m' H' → Sto K m' H' S' → EnvR K m' H' σ ρ → VD K m' H' d v → Gd (f d S') φ (ExW K mg m' H' fun c d H' => W c d σ H') → Q v H') : tev K mg W call e σ H Q :=
  ⟨m, S, ρ, s, r, h.bind.mono (fun d S' g m' H' v st s' vd => k d S' m' H' v st s' (r.mono s st) vd (g.mono (fun _ _ z => z) fun _ _ z => z.step st)) fun _ _ z => z⟩
theorem ttv_of (s : Sto K m H S) (r : EnvR K m H σ ρ) {e : E} {β : Type} {f : Bool → M β} {φ : β → Store → Prop} {Q : Bool → Hp → Prop} (h : Gd (M.bind (evT call e ρ) f S) φ (ExW K mg m H fun c d H' => W c d σ H'))
    (k : ∀ d S' m' H', Stp m H m' H' → Sto K m' H' S' → EnvR K m' H' σ ρ → Gd (f d S') φ (ExW K mg m' H' fun c d H' => W c d σ H') → Q d H') : ttv K mg W call e σ H Q :=
  ⟨m, S, ρ, s, r, h.bind.mono (fun d S' g m' H' st s' => k d S' m' H' st s' (r.mono s st) (g.mono (fun _ _ z => z) fun _ _ z => z.step st)) fun _ _ z => z⟩
theorem tevs_of (s : Sto K m H S) (r : EnvR K m H σ ρ) {es : List E} {β : Type} {f : List D → M β} {φ : β → Store → Prop} {Q : List V → Hp → Prop} (h : Gd (M.bind (evEs call es ρ) f S) φ (ExW K mg m H fun c d H' => W c d σ H'))
    (k : ∀ d S' m' H' v, Stp m H m' H' → Sto K m' H' S' → EnvR K m' H' σ ρ → VDs K m' H' d v → Gd (f d S') φ (ExW K mg m' H' fun c d H' => W c d σ H') → Q v H') : tevs K mg W call es σ H Q :=
  ⟨m, S, ρ, s, r, h.bind.mono (fun d S' g m' H' v st s' vd => k d S' m' H' v st s' (r.mono s st) vd (g.mono (fun _ _ z => z) fun _ _ z => z.step st)) fun _ _ z => z⟩
/-- a value as it stands -/
theorem peekP_ok {d d' : D} {v : V} (s : Sto K m H S) (vd : VD K m H d v) (e : peekP S d = some d') : Peek K m H d' v := by
  cases d with
  | ref n =>
    obtain ⟨a, rfl, ha⟩ := vd
    unfold peekP at e
    cases e1 : S[n]? with
    | none =>
      simp only [e1] at e
      cases e
    | some o =>
      have q := s.obj n a o ha e1
      cases o with
      | lst ds =>
        simp only [e1] at e
        cases e
        obtain ⟨xs, q1, q2⟩ := q
        exact .lst q1 q2
  | _ =>
    cases e
    exact .val vd
theorem peek_of {β : Type} {d : D} {v : V} {f : D → M β} {φ : β → Store → Prop} {ψ : Xn → Store → Prop} (s : Sto K m H S) (vd : VD K m H d v) (h : Gd (M.bind (peek d) f S) φ ψ) : ∃ d', Peek K m H d' v ∧ Gd (f d' S) φ ψ := by
  have h := h.bind
  unfold peek at h
  cases e : peekP S d with
  | none =>
    rw [e] at h
    exact False.elim h
  | some d' =>
    rw [e] at h
    exact ⟨d', peekP_ok s vd e, h⟩
theorem truP_ok {X : Cx} {d : D} {v : V} {b : Bool} (s : Sto X.K m H S) (vd : VD X.K m H d v) (e : truP S d = some b) : TruV X.K v H b := by
  obtain ⟨d', e1, e2⟩ := Option.bind_eq_some_iff.mp e
  exact (peekP_ok s vd e1).tru e2
theorem truM_of {β : Type} {d : D} {f : Bool → M β} {φ : β → Store → Prop} {ψ : Xn → Store → Prop} (h : Gd (M.bind (truM d) f S) φ ψ) : ∃ b, truP S d = some b ∧ Gd (f b S) φ ψ := by
  have h := h.bind
  unfold truM at h
  cases e : truP S d with
  | none =>
    rw [e] at h
    exact False.elim h
  | some b =>
    rw [e] at h
    exact ⟨b, rfl, h⟩
end
end Ev
set_option Elab.async false
set_option linter.all false
set_option maxRecDepth 100000
set_option maxHeartbeats 4000000
namespace Ev
open PySem PySem.Spec PyProof.Rows L2
/-! ### the text against the own syntax -/
structure Ck where
  N : List Str
  fns : List (Str × Nat × Nat)
  cs : List (Str × D)
  free : List Str
def vis (sc : Scope) (x : Str) : Bool := match sc.names.lookup x with
  | some .local => true
  | some .cell => true
  | some .free => true
  | _ => false
def glb (sc : Scope) (x : Str) : Bool := match sc.names.lookup x with
  | some .globalImplicit => true
  | _ => false
def loc (sc : Scope) (fc : Str → Bool) (x : Str) : Bool := match sc.names.lookup x with
  | some .local => true
  | some .cell => fc x
  | _ => false
def plainName (x : Str) : Bool := !(x == ("__debug__" : Str)) && !(x == ("__classdict__" : Str)) && !(x == ("__name__" : Str))
def constD : Const → D → Bool
  | .int i, .int j => decide (i = j)
  | .bool a, .bl b => a == b
  | .none, .non => true
  | .str x, .str y => decide (x = y)
  | _, _ => false
def flatD : D → Bool
  | .int _ => true
  | .str _ => true
  | .bl _ => true
  | .non => true
  | _ => false
def sameD : D → D → Bool
  | .int i, .int j => decide (i = j)
  | .bl a, .bl b => a == b
  | .non, .non => true
  | .str x, .str y => decide (x = y)
  | _, _ => false
theorem sameD_eq {a b : D} (h : sameD a b = true) : a = b := by
  cases a <;> cases b <;> first | (cases h; done) | skip
  · rfl
  · have h : _ = true := h
    rw [eq_of_beq h]
  · rw [of_decide_eq_true h]
  · rw [of_decide_eq_true h]
/-- a built-in by name and how many arguments -/
def biName : Bi → Str × Nat
  | .len => ("len", 1) | .abs => ("abs", 1) | .int => ("int", 1) | .tuple => ("tuple", 1) | .list => ("list", 1) | .any => ("any", 1) | .all => ("all", 1)
  | .max => ("max", 1) | .min => ("min", 1) | .sum => ("sum", 1) | .repr => ("repr", 1) | .max2 => ("max", 2) | .min2 => ("min", 2)
def biReady : Bi → Bool
  | .sum => false | _ => true
def tyName : Ty → Str × String
  | .int => ("int", "int") | .bool => ("bool", "bool") | .str => ("str", "str") | .tuple => ("tuple", "tuple") | .list => ("list", "list")
def meName : Me → Str × Nat
  | .append => ("append", 1) | .extend => ("extend", 1) | .pop => ("pop", 0)
/-- what a test's truth is the value's -/
def plainTest : Expr → Bool
  | .UnaryOp .Not _ _ => false
  | .BoolOp _ _ _ => false
  | .IfExp _ _ _ _ => false
  | .Compare _ _ _ _ => false
  | _ => true
def testable : Expr → Bool
  | .IfExp _ _ _ _ => false
  | _ => true
def noStar : Expr → Bool
  | .Starred _ _ => false
  | _ => true
def noSlice : Expr → Bool
  | .Slice _ _ _ _ => false
  | _ => true
def noSet : Expr → Bool
  | .Set _ _ _ => false
  | _ => true
def noCall : Expr → Bool
  | .Call _ _ _ _ => false
  | _ => true
def chkT (c : Ck) (sc : Scope) (fc : Str → Bool) : Nat → Expr → Tg → Bool
  | 0, _, _ => false
  | _ + 1, .Name x _, .name i => decide (c.N[i]? = some x) && loc sc fc x
  | n + 1, .Tuple ts _ _, .tup us => ts.length == us.length && ts.all noStar && (ts.zip us).all fun p => chkT c sc fc n p.1 p.2
  | _ + 1, _, _ => false
def isTup : Expr → Bool
  | .Tuple _ _ _ => true
  | _ => false
def gfree (c : Ck) (sc : Scope) (x : Str) : Bool := glb sc x && c.free.contains x && plainName x
def relSc (scope sc : Scope) : Scope := relS scope sc
/-- what a loop walks -/
def chkI (c : Ck) (sc : Scope) (rec : Expr → E → Bool) (tg : Expr) : Expr → Sk → List E → Bool
  | .Call (.Name x _) [a] [] _, .rng1, [a'] => gfree c sc x && decide (x = "range") && noStar a && rec a a'
  | .Call (.Name x _) [a, b] [] _, .rng2, [a', b'] => gfree c sc x && decide (x = "range") && noStar a && noStar b && rec a a' && rec b b'
  | .Call (.Name x _) [a, b, d] [] _, .rng3, [a', b', d'] => gfree c sc x && decide (x = "range") && noStar a && noStar b && noStar d && rec a a' && rec b b' && rec d d'
  | e, .seq, [e'] => noSet e && rec e e'
  | _, _, _ => false
mutual
def tgN : Tg → List Nat
  | .name i => [i]
  | .tup ts => tgNs ts
def tgNs : List Tg → List Nat
  | [] => []
  | t :: ts => tgN t ++ tgNs ts
end
def ownOf (N : List Str) : List Nat → Option (List (Str × Nat))
  | [] => some []
  | i :: r => match N[i]?, ownOf N r with
    | some x, some o => some ((x, i) :: o)
    | _, _ => none
/-- an expression that only looks at a name, or a constant -/
def chkM (c : Ck) (sc : Scope) : Expr → E → Bool
  | .Name x _, .var i => vis sc x && decide (c.N[i]? = some x) && plainName x
  | .Constant k _ _, .c d => constD k d
  | _, _ => false
def isCon : Option Expr → Bool
  | some (.Constant (.str _) _ _) => true
  | _ => false
def chkE (c : Ck) : Nat → Scope → Expr → E → Bool
  | 0, _, _, _ => false
  | _ + 1, sc, .Name x _, .var i => vis sc x && decide (c.N[i]? = some x) && plainName x
  | _ + 1, sc, .Name x _, .c d => glb sc x && flatD d && plainName x && (match c.cs.lookup x with | some d' => sameD d' d | none => false)
  | _ + 1, _, .Constant k _ _, .c d => constD k d
  | n + 1, sc, .BinOp a op b _, .bin o a' b' => decide (op = opOf o) && chkE c n sc a a' && chkE c n sc b b'
  | n + 1, sc, .UnaryOp .USub a _, .neg a' => chkE c n sc a a'
  | n + 1, sc, .UnaryOp .Not a _, .notE a' => chkE c n sc a a' && testable a
  | n + 1, sc, .BoolOp .And (a :: b :: r) pos, .andE x y => chkE c n sc a x && testable a && chkE c n sc (.BoolOp .And (b :: r) pos) y
  | n + 1, sc, .BoolOp .Or (a :: b :: r) pos, .orE x y => chkE c n sc a x && testable a && chkE c n sc (.BoolOp .Or (b :: r) pos) y
  | n + 1, sc, .BoolOp _ [a] _, e' => chkE c n sc a e' && testable a
  | n + 1, sc, .IfExp t a b _, .ifE t' a' b' => chkE c n sc t t' && testable t && chkE c n sc a a' && chkE c n sc b b'
  | n + 1, sc, .Compare a [op] [b] _, .cmp o a' b' => decide (op = cmOf o) && noSet b && chkE c n sc a a' && chkE c n sc b b'
  | n + 1, sc, .Compare a [op, op2] [b, b2] _, .chain o p a' b' c' => decide (op = cmOf o) && decide (op2 = cmOf p) && noSet b2 && chkE c n sc a a' && chkE c n sc b b' && chkE c n sc b2 c'
  | n + 1, sc, .Tuple es _ _, .tup us => es.length == us.length && decide (es.length ≤ 1000) && es.all noStar && (es.zip us).all fun p => chkE c n sc p.1 p.2
  | n + 1, sc, .List es _, .lst us => es.length == us.length && decide (es.length ≤ 1000) && es.all noStar && (es.zip us).all fun p => chkE c n sc p.1 p.2
  | n + 1, sc, .List es _, .new us => es.length == us.length && decide (es.length ≤ 1000) && es.all noStar && (es.zip us).all fun p => chkE c n sc p.1 p.2
  | n + 1, sc, .Subscript a (.Slice lo hi none _) _, .sl a' l lo' h hi' => chkE c n sc a a' &&
      (match lo with | none => !l | some z => l && chkE c n sc z lo') && (match hi with | none => !h | some z => h && chkE c n sc z hi')
  | n + 1, sc, .Subscript a b _, .idx a' b' => noSlice b && chkE c n sc a a' && chkE c n sc b b'
  | n + 1, sc, .Call (.Name x _) es [] _, .call f us => glb sc x && plainName x && decide (c.fns.lookup x = some (f, us.length)) && es.length == us.length && es.all noStar && (es.zip us).all fun p => chkE c n sc p.1 p.2
  | n + 1, sc, .Call (.Name x _) es [] _, .bi b us => gfree c sc x && decide (biName b = (x, us.length)) && biReady b && es.length == us.length && es.all noStar && (es.zip us).all fun p => chkE c n sc p.1 p.2
  | n + 1, sc, .Call (.Name x _) [a, .Name y _] [] _, .isi a' t => gfree c sc x && decide (x = "isinstance") && gfree c sc y && decide ((tyName t).1 = y) && noStar a && chkE c n sc a a'
  | n + 1, sc, .Call (.Attribute o m apos) es [] pos, .meth me o' us => decide (meName me = (m, us.length)) && noCall o && apos.endLine == pos.line && es.length == us.length && decide (es.length ≤ 5) && es.all noStar && chkE c n sc o o' && (es.zip us).all fun p => chkE c n sc p.1 p.2
  | _ + 1, sc, .Dict keys values _, .dic es => keys.all isCon && !keys.isEmpty && decide (keys.length ≤ 15) && keys.length == values.length && values.length == es.length && (values.zip es).all fun p => chkM c sc p.1 p.2
  | n + 1, sc, .ListComp elt [⟨tg, iter, ifs, 0⟩] scope _, .comp vs tg' k src conds elt' =>
      (match ownOf c.N vs with
        | some own => blkC c.N sc scope own
        | none => false) &&
      chkI c sc (chkE c n sc) tg iter k src &&
      chkT c (relSc scope sc) (fun x => scope.names.lookup x == some .cell) n tg tg' && ((tgN tg').all fun i => vs.contains i) &&
      (match ifs, conds with
        | [], [] => true
        | [i], [i'] => testable i && chkE c n (relSc scope sc) i i'
        | _, _ => false) &&
      chkE c n (relSc scope sc) elt elt'
  | _ + 1, _, _, .never => true
  | _ + 1, _, _, _ => false
end Ev
set_option Elab.async false
set_option linter.all false
set_option maxRecDepth 100000
set_option maxHeartbeats 8000000
namespace Ev
open PySem PySem.Spec PyProof.Rows L2
theorem truM_end {S : Store} {d : D} {φ : Bool → Store → Prop} {ψ : Xn → Store → Prop} (h : Gd (truM d S) φ ψ) : ∃ b, truP S d = some b ∧ φ b S := by
  unfold truM at h
  cases e : truP S d with
  | none =>
    rw [e] at h
    exact False.elim h
  | some b =>
    rw [e] at h
    exact ⟨b, rfl, h⟩
theorem bind_end {α : Type} (x : M α) : M.bind x M.pure = x := by
  funext S
  unfold M.bind
  cases x S with
  | none => rfl
  | some r => cases r <;> rfl
def CallOk (X : Cx) (k : Nat) (call : Nat → List D → M D) (f np : Nat) (x : Str) : Prop := ∃ fa fd ps, X.mg x = some (.ref fa) ∧ PySem.W.keepIn X.K (.ref fa) = true ∧ Binds X.K fd ps [] ∧
  FnG X.prog X.w X.K X.mg X.base k fa fd ps (spC X.K X.mg (call f) np)
/-- where the text is read -/
structure Kx (X : Cx) (c : Ck) (sc : Scope) (fc : Str → Bool) (k : Nat) (call : Nat → List D → M D) (W : WX) : Prop where
  calm : X.calm = true
  N : X.N = c.N
  nd : c.N.Nodup
  sc : X.env.scope = sc
  fc : ∀ x, fc x = true → X.fn x = true
  room : Room k X.A
  guards : X.A.guards = some []
  own : PassesOwn (model X.prog X.w) X.A X.env X.xe
  tk : Takes X W
  free : ∀ x, c.free.contains x = true → X.mg x = none
  cs : ∀ x d, c.cs.lookup x = some d → flatD d = true → ∃ v u, X.mg x = some u ∧ L2.RelV v u ∧ ∀ K m H, VD K m H d v
  calls : ∀ x f np, c.fns.lookup x = some (f, np) → CallOk X k call f np x
theorem star_cons {e : Expr} {es : List Expr} {env : PySem.Env} (h : noStar e = true) : starEach (e :: es) env = (false, eval e env) :: starEach es env := by
  cases e <;> first | rfl | cases h
theorem star_plain {env : PySem.Env} {pos : Pos} : ∀ {es : List Expr}, es.all noStar = true → (backTo pos (starEach es env)).any (·.1) = false
  | [], _ => rfl
  | e :: es, h => by
    rw [List.all_cons, Bool.and_eq_true] at h
    rw [star_cons h.1]
    show (false || (backTo pos (starEach es env)).any (·.1)) = false
    rw [star_plain h.2]
    rfl
theorem star_all {env : PySem.Env} {pos : Pos} : ∀ {es : List Expr}, es.all noStar = true → (backTo pos (starEach es env)).all (fun x => !x.1) = true
  | [], _ => rfl
  | e :: es, h => by
    rw [List.all_cons, Bool.and_eq_true] at h
    rw [star_cons h.1]
    show (true && (backTo pos (starEach es env)).all (fun x => !x.1)) = true
    rw [star_all h.2]
    rfl
theorem vis_ok {sc : Scope} {x : Str} (h : vis sc x = true) : Vis sc x := by
  unfold vis at h
  unfold Vis
  split at h <;> simp_all
theorem glb_ok {X : Cx} {sc : Scope} {x : Str} (e : X.env.scope = sc) (h : glb sc x = true) : Gl X x := by
  unfold glb at h
  show X.env.scope.names.lookup x = _
  rw [e]
  split at h <;> simp_all
theorem plain_ok {x : Str} (h : plainName x = true) : (x == ("__debug__" : Str)) = false ∧ (x == ("__classdict__" : Str)) = false ∧ x ≠ "__name__" := by
  unfold plainName at h
  simp only [Bool.and_eq_true, Bool.not_eq_true'] at h
  exact ⟨h.1.1, h.1.2, fun e => by rw [e] at h; exact absurd h.2 (by decide +kernel)⟩
theorem plain_true {e : Expr} (h : plainTest e = true) (env : PySem.Env) (whole : Sem Value) : isTrue e env whole = (do let v ← whole; standAt e.pos; holding [v] (truthy v)) := by
  cases e with
  | UnaryOp op a pos => cases op <;> first | rfl | cases h
  | BoolOp _ _ _ => cases h
  | IfExp _ _ _ _ => cases h
  | Compare _ _ _ _ => cases h
  | _ => rfl
theorem ix_plain {b : Expr} (h : noSlice b = true) : PlainIx b := by
  intro o i
  cases b <;> first | rfl | cases h
theorem base_plain {o : Expr} {m : Str} {env : PySem.Env} (h : noCall o = true) : attributeBase o m env (eval o env) = eval o env := by
  cases o <;> first | rfl | cases h
theorem set_plain {b : Expr} {op : CmpOp} (h : noSet b = true) : behindInMarks op b = false := by
  cases b <;> first | rfl | cases h
theorem fold_plain {e : Expr} {env : PySem.Env} (h : noSet e = true) : ∀ x, foldedSetIterable e env x = pure x := by
  intro x
  cases e <;> first | rfl | cases h
theorem ba' {a b : Bool} (h : (a && b) = true) : a = true ∧ b = true := Bool.and_eq_true_iff.mp h
section
variable {X : Cx} {c : Ck} {sc : Scope} {fc : Str → Bool} {k : Nat} {call : Nat → List D → M D} {W : WX}
def GE (X : Cx) (W : WX) (call : Nat → List D → M D) (e : Expr) (e' : E) : Prop := PE X e (tev X.K X.mg W call e')
/-- a plain expression as a test -/
theorem GE.test {e : Expr} {e' : E} (h : GE X W call e e') (p : plainTest e = true) : PT X e (ttv X.K X.mg W call e') := by
  refine (pt_truth h (plain_true p X.env)).wk fun σ H Q ⟨m, S, ρ, s, r, g⟩ => ?_
  refine tev_of s r g fun d S1 m1 H1 v st1 s1 r1 vd g1 => ?_
  obtain ⟨b, e, g3⟩ := truM_end g1
  exact ⟨b, truP_ok s1 vd e, (g3 : OkB X.K _ _ Q b S1) m1 H1 st1 s1⟩
theorem tevs_pa : ∀ {es : List Expr} {us : List E}, es.length = us.length → es.all noStar = true → (∀ p ∈ es.zip us, GE X W call p.1 p.2) → PA X es (tevs X.K X.mg W call us)
  | [], [], _, _, _ => pa_nil.wk fun σ H Q ⟨m, S, ρ, s, r, g⟩ => (g : OkL X.K m H Q [] S) m H [] Stp.refl s rfl
  | e :: es, u :: us, hl, hs, h => by
    rw [List.all_cons, Bool.and_eq_true] at hs
    refine (pa_cons (h (e, u) (by simp)) (tevs_pa (by simpa using hl) hs.2 fun p hp => h p (by simp [hp])) (star_cons hs.1)).wk fun σ H Q ⟨m, S, ρ, s, r, g⟩ => ?_
    refine tev_of s r (show Gd (M.bind (evE call u ρ) (fun d => M.bind (evEs call us ρ) fun ds => M.pure (d :: ds)) S) (OkL X.K m H Q) _ from g) fun d S1 m1 H1 v st1 s1 r1 vd g1 => ?_
    refine tevs_of s1 r1 g1 fun ds S2 m2 H2 vs st2 s2 r2 vds g2 => ?_
    exact (g2 : OkL X.K m H Q (d :: ds) S2) m2 H2 (v :: vs) (st1.trans st2) s2 ⟨v, vs, rfl, vd.mono s1 st2, vds⟩
  | [], _ :: _, hl, _, _ => by cases hl
  | _ :: _, [], hl, _, _ => by cases hl
theorem bi_name {b : Bi} {x : Str} {n : Nat} (h : biName b = (x, n)) : (biName b).1 = x ∧ (biName b).2 = n := by rw [h]; exact ⟨rfl, rfl⟩
/-- a call of a built-in, by what is read -/
theorem bi_call {b : Bi} {f : Value} {x : Str} {p pos : Pos} {es : List Expr} {us : List E} (kx : Kx X c sc fc k call W) (g : gfree c sc x = true) (hl : es.length = us.length) (hn : 0 < us.length) (hs : es.all noStar = true)
    (h : ∀ q ∈ es.zip us, GE X W call q.1 q.2) (hf : (∃ id, f = .builtin id) ∨ ∃ T, f = .type T) (hv : bootBuiltins x = some f) (hc : CallR X f (rBi X.K b)) : GE X W call (.Call (.Name x p) es [] pos) (.bi b us) := by
  obtain ⟨g, g3⟩ := ba' g
  obtain ⟨g1, g2⟩ := ba' g
  obtain ⟨n1, n2, n3⟩ := plain_ok g3
  have gl := glb_ok (X := X) kx.sc g1
  have hm := kx.free x g2
  have ha := tevs_pa hl hs h
  cases es with
  | nil =>
    rw [← hl] at hn
    exact absurd hn (Nat.lt_irrefl 0)
  | cons e es =>
    rw [List.all_cons, Bool.and_eq_true] at hs
    have main : PE X (.Call (.Name x p) (e :: es) [] pos) (tCB (rBi X.K b) (tevs X.K X.mg W call us)) := by
      rcases hf with ⟨id, rfl⟩ | ⟨T, rfl⟩
      · exact pe_callB hc gl hm hv ha n3 n1 (star_cons hs.1) (star_plain hs.2)
      · exact pe_callTy hc gl hm hv ha n3 n1 (star_cons hs.1) (star_plain hs.2)
    refine main.wk fun σ H Q ⟨m, S, ρ, s, r, q⟩ => ?_
    refine tevs_of s r (show Gd (M.bind (evEs call us ρ) (fun ds => biM b ds) S) (OkW X.K m H Q) _ from q) fun ds S1 m1 H1 vs st1 s1 r1 vds q1 => ?_
    unfold biM at q1
    split at q1
    · rename_i d
      split at q1
      · obtain ⟨v, r', rfl, vd, e0⟩ := vds
        have e0 : r' = [] := e0
        subst e0
        obtain ⟨d', pk, q2⟩ := peek_of s1 vd q1
        obtain ⟨d2, e2, q3⟩ := q2.opt
        exact ⟨m1, S1, [d'], d2, s1, .cons pk .nil, e2, (q3 : OkW X.K m H Q d2 S1).step st1⟩
      · obtain ⟨d2, e2, q3⟩ := q1.opt
        exact ⟨m1, S1, [d], d2, s1, vds.peeks, e2, (q3 : OkW X.K m H Q d2 S1).step st1⟩
    · obtain ⟨d2, e2, q3⟩ := q1.opt
      exact ⟨m1, S1, ds, d2, s1, vds.peeks, e2, (q3 : OkW X.K m H Q d2 S1).step st1⟩
theorem bi_ok {b : Bi} {x : Str} {p pos : Pos} {es : List Expr} {us : List E} (kx : Kx X c sc fc k call W) (hb : biName b = (x, us.length)) (hr : biReady b = true) (g : gfree c sc x = true) (hl : es.length = us.length) (hs : es.all noStar = true)
    (h : ∀ q ∈ es.zip us, GE X W call q.1 q.2) : GE X W call (.Call (.Name x p) es [] pos) (.bi b us) := by
  obtain ⟨e1, e2⟩ := bi_name hb
  have hu : X.A.units + 64 < cLine := kx.room.units
  have hn : 0 < us.length := by
    rw [← e2]
    cases b <;> decide
  subst e1
  cases b with
  | len => exact bi_call kx g hl hn hs h (.inl ⟨_, rfl⟩) (by decide +kernel) call_len_
  | abs => exact bi_call kx g hl hn hs h (.inl ⟨_, rfl⟩) (by decide +kernel) call_abs_
  | int => exact bi_call kx g hl hn hs h (.inr ⟨_, rfl⟩) (by decide +kernel) call_int_
  | tuple => exact bi_call kx g hl hn hs h (.inr ⟨_, rfl⟩) (by decide +kernel) call_tuple_
  | list => exact bi_call kx g hl hn hs h (.inr ⟨_, rfl⟩) (by decide +kernel) call_list_
  | any => exact bi_call kx g hl hn hs h (.inl ⟨_, rfl⟩) (by decide +kernel) (call_any_ kx.calm)
  | all => exact bi_call kx g hl hn hs h (.inl ⟨_, rfl⟩) (by decide +kernel) (call_all_ kx.calm)
  | max => exact bi_call kx g hl hn hs h (.inl ⟨_, rfl⟩) (by decide +kernel) (call_max_ kx.calm hu)
  | min => exact bi_call kx g hl hn hs h (.inl ⟨_, rfl⟩) (by decide +kernel) (call_min_ kx.calm hu)
  | max2 => exact bi_call kx g hl hn hs h (.inl ⟨_, rfl⟩) (by decide +kernel) (call_max2_ kx.calm)
  | min2 => exact bi_call kx g hl hn hs h (.inl ⟨_, rfl⟩) (by decide +kernel) (call_min2_ kx.calm)
  | sum => cases hr
  | repr => exact bi_call kx g hl hn hs h (.inl ⟨_, rfl⟩) (by decide +kernel) (call_repr_ kx.guards hu)
/-! ### methods, stores -/
def rMe (K : PySem.W.Frag) (me : Me) : V → List V → Hp → VK → Prop := fun x vs H Q => ∃ m S d ds, Sto K m H S ∧ VD K m H d x ∧ VDs K m H ds vs ∧ Gd (meM me d ds S) (OkW K m H Q) fun _ _ => False
theorem getO_of {S : Store} {n : Nat} {β : Type} {f : SO → M β} {φ : β → Store → Prop} {ψ : Xn → Store → Prop} (h : Gd (M.bind (getO n) f S) φ ψ) : ∃ o, S[n]? = some o ∧ Gd (f o S) φ ψ := by
  have h := h.bind
  unfold getO at h
  cases e : S[n]? with
  | none =>
    rw [e] at h
    exact False.elim h
  | some o =>
    rw [e] at h
    exact ⟨o, rfl, h⟩
theorem putO_of {S : Store} {n : Nat} {o : SO} {β : Type} {f : Unit → M β} {φ : β → Store → Prop} {ψ : Xn → Store → Prop} (h : Gd (M.bind (putO n o) f S) φ ψ) : Gd (f () (S.set n o)) φ ψ := by
  have h := h.bind
  unfold putO at h
  split at h
  · exact h
  · exact False.elim h
theorem appM_ok {d : D} {ds : List D} {S : Store} {φ : D → Store → Prop} {ψ : Xn → Store → Prop} (h : Gd (appM d ds S) φ ψ) : ∃ n y ls, d = .ref n ∧ ds = [y] ∧ S[n]? = some (.lst ls) ∧ ls.length < sizeMax ∧ φ .non (S.set n (.lst (ls ++ [y]))) := by
  unfold appM at h
  split at h
  · obtain ⟨o, e1, h⟩ := getO_of h
    cases o with
    | lst ls =>
      dsimp only at h
      by_cases hz : ls.length < sizeMax
      · rw [if_pos hz] at h
        exact ⟨_, _, ls, rfl, rfl, e1, hz, putO_of h⟩
      · rw [if_neg hz] at h
        exact False.elim h
  · exact False.elim h
theorem extM_ok {d : D} {ds : List D} {S : Store} {φ : D → Store → Prop} {ψ : Xn → Store → Prop} (h : Gd (extM d ds S) φ ψ) : ∃ n es ls, d = .ref n ∧ ds = [.lst es] ∧ S[n]? = some (.lst ls) ∧ ls.length + es.length ≤ sizeMax ∧ φ .non (S.set n (.lst (ls ++ es))) := by
  unfold extM at h
  split at h
  · rename_i n es
    obtain ⟨o, e1, h⟩ := getO_of h
    cases o with
    | lst ls =>
      dsimp only at h
      by_cases hz : ls.length + es.length ≤ sizeMax
      · rw [if_pos hz] at h
        exact ⟨_, _, ls, rfl, rfl, e1, hz, putO_of h⟩
      · rw [if_neg hz] at h
        exact False.elim h
  · exact False.elim h
theorem popM_ok {d : D} {ds : List D} {S : Store} {φ : D → Store → Prop} {ψ : Xn → Store → Prop} (h : Gd (popM d ds S) φ ψ) : ∃ n y ls, d = .ref n ∧ ds = [] ∧ S[n]? = some (.lst ls) ∧ ls[ls.length - 1]? = some y ∧ φ y (S.set n (.lst ls.dropLast)) := by
  unfold popM at h
  split at h
  · obtain ⟨o, e1, h⟩ := getO_of h
    cases o with
    | lst ls =>
      dsimp only at h
      cases e2 : ls[ls.length - 1]? with
      | none =>
        rw [e2] at h
        exact False.elim h
      | some y =>
        rw [e2] at h
        exact ⟨_, y, ls, rfl, rfl, e1, e2, putO_of h⟩
  · exact False.elim h
theorem setIM_ok {d i v : D} {S : Store} {φ : Unit → Store → Prop} {ψ : Xn → Store → Prop} (h : Gd (setIM d i v S) φ ψ) : ∃ n k j ls, d = .ref n ∧ i = .int k ∧ S[n]? = some (.lst ls) ∧ ixN ls.length k = some j ∧ φ () (S.set n (.lst (ls.set j v))) := by
  unfold setIM at h
  split at h
  · rename_i n k
    obtain ⟨o, e1, h⟩ := getO_of h
    cases o with
    | lst ls =>
      dsimp only at h
      cases e2 : ixN ls.length k with
      | none =>
        rw [e2] at h
        exact False.elim h
      | some j =>
        rw [e2] at h
        dsimp only at h
        unfold putO at h
        rw [if_pos (List.getElem?_eq_some_iff.mp e1).1] at h
        exact ⟨_, _, j, ls, rfl, rfl, e1, e2, h⟩
  · exact False.elim h
theorem mt_append_ : MtR X "list.append" (rMe X.K .append) := by
  intro pins s σ H x xs v us Q I rx rxs h
  obtain ⟨m, S, d, ds, st, vd, vds, g⟩ := h
  obtain ⟨n, y', ls, rfl, rfl, e1, hz, g⟩ := appM_ok g
  obtain ⟨a, rfl, ha⟩ := vd
  obtain ⟨y, r, rfl, vy, e2⟩ := vds
  have e2 : r = [] := e2
  subst e2
  obtain ⟨ys, q1, q2⟩ := st.obj _ _ _ ha e1
  obtain ⟨s2, t2⟩ := st.write ha e1 (q2.append (VDs.one vy))
  exact mt_append pins s σ H _ _ v us Q I rx rxs ⟨a, ys, y, rfl, rfl, q1, by rw [q2.length, ← sm_eq]; exact hz, g m _ .non t2 s2 rfl⟩
theorem mt_extend_ : MtR X "list.extend" (rMe X.K .extend) := by
  intro pins s σ H x xs v us Q I rx rxs h
  obtain ⟨m, S, d, ds, st, vd, vds, g⟩ := h
  obtain ⟨n, es, ls, rfl, rfl, e1, hz, g⟩ := extM_ok g
  obtain ⟨a, rfl, ha⟩ := vd
  obtain ⟨y, r, rfl, vy, e2⟩ := vds
  have e2 : r = [] := e2
  subst e2
  obtain ⟨b, zs, rfl, p1, _, p2⟩ := vy
  obtain ⟨ys, q1, q2⟩ := st.obj _ _ _ ha e1
  obtain ⟨s2, t2⟩ := st.write ha e1 (q2.append p2)
  exact mt_extend pins s σ H _ _ v us Q I rx rxs ⟨a, b, ys, zs, rfl, rfl, q1, p1, by rw [q2.length, p2.length, ← sm_eq]; exact hz, g m _ .non t2 s2 rfl⟩
theorem mt_pop_ : MtR X "list.pop" (rMe X.K .pop) := by
  intro pins s σ H x xs v us Q I rx rxs h
  obtain ⟨m, S, d, ds, st, vd, vds, g⟩ := h
  obtain ⟨n, y, ls, rfl, rfl, e1, hy, g⟩ := popM_ok g
  obtain ⟨a, rfl, ha⟩ := vd
  have e2 : xs = [] := vds
  subst e2
  obtain ⟨ys, q1, q2⟩ := st.obj _ _ _ ha e1
  obtain ⟨s2, t2⟩ := st.write ha e1 q2.dropLast
  obtain ⟨w, hw, vw⟩ := q2.get hy
  exact mt_pop pins s σ H _ _ v us Q I rx rxs ⟨a, ys, w, rfl, rfl, q1, by rw [q2.length]; exact hw, g m _ w t2 s2 (vw.mono st t2)⟩
def rSetI (K : PySem.W.Frag) : V → V → V → Hp → (Hp → Prop) → Prop := fun o i v H Q => ∃ m S a b d, Sto K m H S ∧ VD K m H a o ∧ VD K m H b i ∧ VD K m H d v ∧ Gd (setIM a b d S) (fun _ S' => ∀ m' H', Stp m H m' H' → Sto K m' H' S' → Q H') fun _ _ => False
theorem set_any : PSet X (rSetI X.K) := by
  intro pins s σ H o i v ov iv u Q I ro ri rv h
  obtain ⟨m, S, a, b, d, st, va, vb, vd, g⟩ := h
  obtain ⟨n, k, j, ls, rfl, rfl, e1, hj, g⟩ := setIM_ok g
  obtain ⟨p, rfl, ha⟩ := va
  have vb : i = _ := vb
  subst vb
  obtain ⟨ys, q1, q2⟩ := st.obj _ _ _ ha e1
  obtain ⟨s2, t2⟩ := st.write ha e1 (q2.set j vd)
  exact set_list pins s σ H _ _ v ov iv u Q I ro ri rv ⟨p, ys, _, j, rfl, rfl, q1, by rw [q2.length]; exact hj, g m _ t2 s2⟩
theorem getIM_ok {d i : D} {S : Store} {φ : D → Store → Prop} {ψ : Xn → Store → Prop} (h : Gd (getIM d i S) φ ψ) : ∃ n k ls y, d = .ref n ∧ i = .int k ∧ S[n]? = some (.lst ls) ∧ atI ls k = some y ∧ φ y S := by
  unfold getIM at h
  split at h
  · obtain ⟨o, e1, h⟩ := getO_of h
    cases o with
    | lst ls =>
      obtain ⟨y, e2, h⟩ := Gd.opt h
      exact ⟨_, _, ls, y, rfl, rfl, e1, e2, h⟩
  · exact False.elim h
/-- o[i] read for o[i] op= e -/
def rGetI (K : PySem.W.Frag) : V → V → Hp → VK → Prop := fun x y H Q => ∃ m S a b, Sto K m H S ∧ VD K m H a x ∧ VD K m H b y ∧ Gd (getIM a b S) (OkW K m H Q) fun _ _ => False
theorem get_any : PGet X (rGetI X.K) := by
  intro pins s σ H x y v u Q I rx ry h
  obtain ⟨m, S, a, b, st, va, vb, g⟩ := h
  obtain ⟨n, i, ls, d, rfl, rfl, e1, e, g⟩ := getIM_ok g
  obtain ⟨p, rfl, ha⟩ := va
  have vb : y = _ := vb
  subst vb
  obtain ⟨xs, q1, r⟩ := st.obj _ _ _ ha e1
  cases rx
  obtain ⟨tk, rfl⟩ := ry
  obtain ⟨w, e', r'⟩ := r.at e
  obtain ⟨its, rv, pl, hz⟩ := I.list (SqL.of q1)
  obtain ⟨j, h1, h2, h3, h4, h5⟩ := atI_get e'
  obtain ⟨z, ez, rz⟩ := rv.get h2
  have hl := rv.length
  have hn := line63
  have fin : EP X pins σ Q z s := ⟨w, H, I, rz, g m H w Stp.refl st r'⟩
  by_cases h0 : 0 ≤ i
  · have hj : i.toNat = j := by
      rw [seqIndex_of h0 h5] at h1
      exact Option.some.inj h1
    exact wpAny_getItem_list pl.isList h0 (by omega) (by rw [hj]; simpa using ez) fin
  · have hj : (i + (its.toArray.size : Int)).toNat = j := by
      rw [seqIndex_neg (by omega) h4] at h1
      rw [List.size_toArray, ← hl]
      exact Option.some.inj h1
    exact wpAny_getItem_list_neg pl.isList (by omega) (by rw [List.size_toArray]; omega) (by omega) (by rw [hj]; simpa using ez) fin
/-! ### isinstance -/
theorem ty_of {m : Am} {H : Hp} {d : D} {v : V} {t : Ty} {b : Bool} (h : Peek X.K m H d v) (e : isiV d t = some b) : ∃ T, TyX X.K H v (.type T) ∧ kitB T (tyName t).2 = some b := by
  have lst_ : ∀ {a : Addr} {xs : List V}, SqL X.K H a xs → TyX X.K H (.ref a) (.type "list") := fun {a xs} q => by
    rcases q with (q | ⟨o, q⟩) | ⟨o, its, n, q, c, _⟩
    · exact .base (.lst q)
    · exact .base (.frz q)
    · exact .kList q c
  have tup_ : ∀ {a : Addr} {xs : List V}, SqT X.K H a xs → TyX X.K H (.ref a) (.type "tuple") := fun {a xs} q => by
    rcases q with (q | ⟨o, q⟩) | ⟨o, its, n, q, c, _⟩
    · exact .base (.tup q)
    · exact .fTuple q
    · exact .kTuple q c
  cases d with
  | ref n => cases e
  | non =>
    cases h with
    | val h =>
      have h : v = _ := h
      subst h
      exact ⟨_, .base .non, by cases t <;> (cases e; decide +kernel)⟩
  | bl _ =>
    cases h with
    | val h =>
      have h : v = _ := h
      subst h
      exact ⟨_, .base (.bl _), by cases t <;> (cases e; decide +kernel)⟩
  | int _ =>
    cases h with
    | val h =>
      have h : v = _ := h
      subst h
      exact ⟨_, .base (.int _), by cases t <;> (cases e; decide +kernel)⟩
  | str _ =>
    cases h with
    | val h =>
      have h : v = _ := h
      subst h
      exact ⟨_, .base (.str _), by cases t <;> (cases e; decide +kernel)⟩
  | dic =>
    cases h with
    | val h =>
      obtain ⟨a, kvs, rfl, q⟩ := h
      exact ⟨_, .base (.dK q), by cases t <;> (cases e; decide +kernel)⟩
  | tup ds =>
    obtain ⟨a, xs, rfl, _, ⟨_, q⟩ | ⟨z, _⟩⟩ := h.sq rfl
    · exact ⟨_, tup_ q, by cases t <;> (cases e; decide +kernel)⟩
    · rcases z with z | z <;> cases z
  | lst ds =>
    obtain ⟨a, xs, rfl, _, ⟨z, _⟩ | ⟨_, q⟩⟩ := h.sq rfl
    · cases z
    · exact ⟨_, lst_ q, by cases t <;> (cases e; decide +kernel)⟩
  | fro ds =>
    obtain ⟨a, xs, rfl, _, ⟨z, _⟩ | ⟨_, q⟩⟩ := h.sq rfl
    · cases z
    · exact ⟨_, lst_ q, by cases t <;> (cases e; decide +kernel)⟩
end
end Ev
set_option Elab.async false
set_option linter.all false
set_option maxRecDepth 100000
set_option maxHeartbeats 8000000
namespace Ev
open PySem PySem.Spec PyProof.Rows L2
section
variable {X : Cx} {c : Ck} {sc : Scope} {fc : Str → Bool} {k : Nat} {call : Nat → List D → M D} {W : WX}
def isBoolOp : Expr → Bool
  | .BoolOp _ _ _ => true
  | _ => false
/-- what is shown of an expression -/
structure SE (X : Cx) (W : WX) (call : Nat → List D → M D) (e : Expr) (e' : E) : Prop where
  val : GE X W call e e'
  test : testable e = true → PT X e (ttv X.K X.mg W call e')
  bool : isBoolOp e = true → PW X e (ttv X.K X.mg W call e')
theorem SE.of {e : Expr} {e' : E} (h : GE X W call e e') (p : plainTest e = true) : SE X W call e e' :=
  ⟨h, fun _ => h.test p, fun b => by cases e <;> first | (cases b; done) | (cases p)⟩
theorem ge_bin {a b : Expr} {a' b' : E} {o : Op} {pos : Pos} (ha : GE X W call a a') (hb : GE X W call b b') : GE X W call (.BinOp a (opOf o) b pos) (.bin o a' b') := by
  refine (pe_op (op_bin o) ha hb).wk fun σ H Q ⟨m, S, ρ, s, r, g⟩ => ?_
  refine tev_of s r g fun d1 S1 m1 H1 v1 t1 s1 r1 vd1 g1 => ?_
  refine tev_of s1 r1 g1 fun d2 S2 m2 H2 v2 t2 s2 r2 vd2 g2 => ?_
  obtain ⟨d, e, g3⟩ := g2.opt
  exact ⟨m2, S2, d1, d2, d, s2, vd1.mono s1 t2, vd2, e, (g3 : OkW X.K m H Q d S2).step (t1.trans t2)⟩
theorem ge_cmp {a b : Expr} {a' b' : E} {o : Cm} {pos : Pos} (kx : Kx X c sc fc k call W) (hn : noSet b = true) (ha : GE X W call a a') (hb : GE X W call b b') : SE X W call (.Compare a [cmOf o] [b] pos) (.cmp o a' b') := by
  have hu : X.A.units + 64 < cLine := kx.room.units
  have red : ∀ {φ : D → Store → Prop} {σ : L2.St} {H : Hp} {m : Am} {S : Store} {ρ : Env} {R : V → Hp → Prop}, Sto X.K m H S → EnvR X.K m H σ ρ →
      Gd (evE call (.cmp o a' b') ρ S) φ (ExW X.K X.mg m H fun c d H' => W c d σ H') →
      (∀ m2 H2 S2 t, Stp m H m2 H2 → Sto X.K m2 H2 S2 → φ (.bl t) S2 → R (.bl t) H2) → tOp (rCmp X.K o) (tev X.K X.mg W call a') (tev X.K X.mg W call b') σ H R := fun {φ σ H m S ρ R} s r g k => by
    refine tev_of s r g fun d1 S1 m1 H1 v1 t1 s1 r1 vd1 g1 => ?_
    refine tev_of s1 r1 g1 fun d2 S2 m2 H2 v2 t2 s2 r2 vd2 g2 => ?_
    obtain ⟨t, e, g3⟩ := Gd.opt (Gd.bind g2)
    exact ⟨m2, S2, d1, d2, t, s2, vd1.mono s1 t2, vd2, e, k m2 H2 S2 t (t1.trans t2) s2 g3⟩
  refine ⟨?_, fun _ => ?_, fun z => by cases z⟩
  · refine (pe_cmpR (op_cmp hu o) ha hb (set_plain hn)).wk fun σ H Q ⟨m, S, ρ, s, r, g⟩ => ?_
    exact red s r g fun m2 H2 S2 t st s2 q => q m2 H2 (.bl t) st s2 rfl
  · refine (pt_cmpR (op_cmp hu o) ha hb (set_plain hn)).wk fun σ H Q ⟨m, S, ρ, s, r, g⟩ => ?_
    have g : Gd (evE call (.cmp o a' b') ρ S) (fun d S' => Gd (truM d S') (OkB X.K m H Q) (ExW X.K X.mg m H fun c d H' => W c d σ H')) _ := Gd.bind g
    refine red s r g fun m2 H2 S2 t st s2 q => ?_
    exact ⟨t, rfl, (q : OkB X.K m H Q t S2) m2 H2 st s2⟩
theorem ge_chain {a b b2 : Expr} {a' b' c' : E} {o p : Cm} {pos : Pos} (kx : Kx X c sc fc k call W) (hn : noSet b2 = true) (ha : GE X W call a a') (hb : GE X W call b b') (hc : GE X W call b2 c') : SE X W call (.Compare a [cmOf o, cmOf p] [b, b2] pos) (.chain o p a' b' c') := by
  have hu : X.A.units + 64 < cLine := kx.room.units
  have hm : lastMarks [cmOf o, cmOf p] [b, b2] = false := set_plain hn
  have red : ∀ {φ : D → Store → Prop} {σ : L2.St} {H : Hp} {m : Am} {S : Store} {ρ : Env} {R : V → Hp → Prop}, Sto X.K m H S → EnvR X.K m H σ ρ →
      Gd (evE call (.chain o p a' b' c') ρ S) φ (ExW X.K X.mg m H fun c d H' => W c d σ H') →
      (∀ m2 H2 S2 t, Stp m H m2 H2 → Sto X.K m2 H2 S2 → φ (.bl t) S2 → R (.bl t) H2) → tChain (rCmp X.K o) (rCmp X.K p) (tev X.K X.mg W call a') (tev X.K X.mg W call b') (tev X.K X.mg W call c') σ H R := fun {φ σ H m S ρ R} s r g k => by
    refine tev_of s r g fun d1 S1 m1 H1 v1 t1 s1 r1 vd1 g1 => ?_
    refine tev_of s1 r1 g1 fun d2 S2 m2 H2 v2 t2 s2 r2 vd2 g2 => ?_
    obtain ⟨t, e, g3⟩ := Gd.opt (Gd.bind g2)
    refine ⟨m2, S2, d1, d2, t, s2, vd1.mono s1 t2, vd2, e, t, rfl, ?_⟩
    cases t with
    | false => exact k m2 H2 S2 false (t1.trans t2) s2 g3
    | true =>
      refine tev_of s2 r2 g3 fun d3 S3 m3 H3 v3 t3 s3 r3 vd3 g4 => ?_
      obtain ⟨t, e, g5⟩ := Gd.opt (Gd.bind g4)
      exact ⟨m3, S3, d2, d3, t, s3, vd2.mono s2 t3, vd3, e, k m3 H3 S3 t ((t1.trans t2).trans t3) s3 g5⟩
  refine ⟨?_, fun _ => ?_, fun z => by cases z⟩
  · refine (pe_chain (op_cmp hu o) (op_cmp hu p) ha hb hc hm).wk fun σ H Q ⟨m, S, ρ, s, r, g⟩ => ?_
    exact red s r g fun m2 H2 S2 t st s2 q => q m2 H2 (.bl t) st s2 rfl
  · refine (pt_chain (op_cmp hu o) (op_cmp hu p) ha hb hc hm).wk fun σ H Q ⟨m, S, ρ, s, r, g⟩ => ?_
    have g : Gd (evE call (.chain o p a' b' c') ρ S) (fun d S' => Gd (truM d S') (OkB X.K m H Q) (ExW X.K X.mg m H fun c d H' => W c d σ H')) _ := Gd.bind g
    refine red s r g fun m2 H2 S2 t st s2 q => ?_
    exact ⟨t, rfl, (q : OkB X.K m H Q t S2) m2 H2 st s2⟩
theorem ge_not {a : Expr} {a' : E} {pos : Pos} (ha : GE X W call a a') (ht : PT X a (ttv X.K X.mg W call a')) : SE X W call (.UnaryOp .Not a pos) (.notE a') := by
  refine ⟨?_, fun _ => ?_, fun z => by cases z⟩
  · refine (pe_notT ha).wk fun σ H Q ⟨m, S, ρ, s, r, g⟩ => ?_
    refine tev_of s r g fun d1 S1 m1 H1 v1 t1 s1 r1 vd1 g1 => ?_
    obtain ⟨b, e, g2⟩ := truM_of g1
    exact ⟨b, truP_ok s1 vd1 e, (g2 : OkW X.K m H Q (.bl !b) S1) m1 H1 _ t1 s1 rfl⟩
  · refine (pt_not ht).wk fun σ H Q ⟨m, S, ρ, s, r, g⟩ => ?_
    have g : Gd (M.bind (evE call a' ρ) (fun x => M.bind (truM x) fun t => M.pure (.bl (!t))) S) (fun d S' => Gd (truM d S') (OkB X.K m H Q) (ExW X.K X.mg m H fun c d H' => W c d σ H')) _ := Gd.bind g
    refine ⟨m, S, ρ, s, r, Gd.join (Gd.mono (Gd.bind g) (fun d S1 g1 => ?_) fun _ _ z => z)⟩
    obtain ⟨b, e, g2⟩ := truM_of g1
    show Gd (truM d S1) _ _
    unfold truM
    rw [e]
    exact fun m1 H1 t1 s1 => (g2 : OkB X.K m H Q (!b) S1) m1 H1 t1 s1
/-- the truth of what a value was found to be is found again -/
theorem tru_again {S : Store} {d : D} {b : Bool} (h : truP S d = some b) {φ : Bool → Store → Prop} {ψ : Xn → Store → Prop} (g : Gd (truM d S) φ ψ) : φ b S := by
  obtain ⟨b', e, g⟩ := truM_end g
  rw [h] at e
  cases e
  exact g
theorem ge_and {a b : Expr} {r : List Expr} {a' b' : E} {pos : Pos} (ha : GE X W call a a') (ta : PT X a (ttv X.K X.mg W call a')) (hb : SE X W call (.BoolOp .And (b :: r) pos) b') : SE X W call (.BoolOp .And (a :: b :: r) pos) (.andE a' b') := by
  have w : PW X (.BoolOp .And (a :: b :: r) pos) (ttv X.K X.mg W call (.andE a' b')) := by
    refine (pw_and ta (hb.bool rfl)).wk fun σ H Q ⟨m, S, ρ, s, r, g⟩ => ?_
    have g : Gd (M.bind (evE call a' ρ) (fun x => M.bind (truM x) fun t => if t then evE call b' ρ else M.pure x) S) (fun d S' => Gd (truM d S') (OkB X.K m H Q) (ExW X.K X.mg m H fun c d H' => W c d σ H')) _ := Gd.bind g
    refine ⟨m, S, ρ, s, r, Gd.join (Gd.mono (Gd.bind g) (fun d S1 g1 => ?_) fun _ _ z => z)⟩
    obtain ⟨t, e1, g2⟩ := truM_of g1
    show Gd (truM d S1) _ _
    unfold truM
    rw [e1]
    intro m1 H1 st1 s1
    cases t with
    | true =>
      refine ⟨m1, S1, ρ, s1, r.mono s st1, Gd.join (Gd.mono g2 (fun d2 S2 g3 => Gd.mono g3 (fun _ _ z => z.step st1) fun _ _ z => z.step st1) fun _ _ z => z.step st1)⟩
    | false => exact (tru_again e1 (g2 : Gd (truM d S1) (OkB X.K m H Q) _) : OkB X.K m H Q false S1) m1 H1 st1 s1
  refine ⟨?_, fun _ => w.pt, fun _ => w⟩
  refine (pe_andT ha hb.val).wk fun σ H Q ⟨m, S, ρ, s, r, g⟩ => ?_
  refine tev_of s r g fun d1 S1 m1 H1 v1 t1 s1 r1 vd1 g1 => ?_
  obtain ⟨b, e, g2⟩ := truM_of g1
  refine ⟨b, truP_ok s1 vd1 e, ?_⟩
  cases b with
  | true => exact ⟨m1, S1, ρ, s1, r1, Gd.mono g2 (fun _ _ z => z.step t1) fun _ _ z => z⟩
  | false => exact (g2 : OkW X.K m H Q d1 S1) m1 H1 v1 t1 s1 vd1
theorem ge_or {a b : Expr} {r : List Expr} {a' b' : E} {pos : Pos} (ha : GE X W call a a') (ta : PT X a (ttv X.K X.mg W call a')) (hb : SE X W call (.BoolOp .Or (b :: r) pos) b') : SE X W call (.BoolOp .Or (a :: b :: r) pos) (.orE a' b') := by
  have w : PW X (.BoolOp .Or (a :: b :: r) pos) (ttv X.K X.mg W call (.orE a' b')) := by
    refine (pw_or ta (hb.bool rfl)).wk fun σ H Q ⟨m, S, ρ, s, r, g⟩ => ?_
    have g : Gd (M.bind (evE call a' ρ) (fun x => M.bind (truM x) fun t => if t then M.pure x else evE call b' ρ) S) (fun d S' => Gd (truM d S') (OkB X.K m H Q) (ExW X.K X.mg m H fun c d H' => W c d σ H')) _ := Gd.bind g
    refine ⟨m, S, ρ, s, r, Gd.join (Gd.mono (Gd.bind g) (fun d S1 g1 => ?_) fun _ _ z => z)⟩
    obtain ⟨t, e1, g2⟩ := truM_of g1
    show Gd (truM d S1) _ _
    unfold truM
    rw [e1]
    intro m1 H1 st1 s1
    cases t with
    | false =>
      refine ⟨m1, S1, ρ, s1, r.mono s st1, Gd.join (Gd.mono g2 (fun d2 S2 g3 => Gd.mono g3 (fun _ _ z => z.step st1) fun _ _ z => z.step st1) fun _ _ z => z.step st1)⟩
    | true => exact (tru_again e1 (g2 : Gd (truM d S1) (OkB X.K m H Q) _) : OkB X.K m H Q true S1) m1 H1 st1 s1
  refine ⟨?_, fun _ => w.pt, fun _ => w⟩
  refine (pe_orT ha hb.val).wk fun σ H Q ⟨m, S, ρ, s, r, g⟩ => ?_
  refine tev_of s r g fun d1 S1 m1 H1 v1 t1 s1 r1 vd1 g1 => ?_
  obtain ⟨b, e, g2⟩ := truM_of g1
  refine ⟨b, truP_ok s1 vd1 e, ?_⟩
  cases b with
  | false => exact ⟨m1, S1, ρ, s1, r1, Gd.mono g2 (fun _ _ z => z.step t1) fun _ _ z => z⟩
  | true => exact (g2 : OkW X.K m H Q d1 S1) m1 H1 v1 t1 s1 vd1
theorem ge_one {op : BoolOp} {a : Expr} {a' : E} {pos : Pos} (ha : GE X W call a a') (ta : PT X a (ttv X.K X.mg W call a')) : SE X W call (.BoolOp op [a] pos) a' := by
  have w : PW X (.BoolOp op [a] pos) (ttv X.K X.mg W call a') := by
    cases op with
    | And => exact pw_and1 ta
    | Or => exact pw_or1 ta
  exact ⟨pe_one ha, fun _ => w.pt, fun _ => w⟩
theorem ge_if {t a b : Expr} {t' a' b' : E} {pos : Pos} (ht : PT X t (ttv X.K X.mg W call t')) (ha : GE X W call a a') (hb : GE X W call b b') : GE X W call (.IfExp t a b pos) (.ifE t' a' b') := by
  refine (pe_ifExp ht ha hb).wk fun σ H Q ⟨m, S, ρ, s, r, g⟩ => ?_
  have g : Gd (M.bind (evE call t' ρ) (fun x => M.bind (truM x) fun t => if t then evE call a' ρ else evE call b' ρ) S) (OkW X.K m H Q) _ := g
  refine ⟨m, S, ρ, s, r, Gd.join (Gd.mono (Gd.bind g) (fun d S1 g1 => ?_) fun _ _ z => z)⟩
  obtain ⟨t, e1, g2⟩ := truM_of g1
  show Gd (truM d S1) _ _
  unfold truM
  rw [e1]
  intro m1 H1 st1 s1
  cases t with
  | true => exact ⟨m1, S1, ρ, s1, r.mono s st1, Gd.mono g2 (fun _ _ z => z.step st1) fun _ _ z => z.step st1⟩
  | false => exact ⟨m1, S1, ρ, s1, r.mono s st1, Gd.mono g2 (fun _ _ z => z.step st1) fun _ _ z => z.step st1⟩
theorem evEs_len : ∀ {us : List E} {ρ : Env} {S : Store} {φ : List D → Store → Prop} {ψ : Xn → Store → Prop}, Gd (evEs call us ρ S) φ ψ → Gd (evEs call us ρ S) (fun ds S' => ds.length = us.length ∧ φ ds S') ψ
  | [], _, _, _, _, h => ⟨rfl, h⟩
  | u :: us, ρ, S, φ, ψ, h => by
    have h : Gd (M.bind (evE call u ρ) (fun d => M.bind (evEs call us ρ) fun ds => M.pure (d :: ds)) S) φ ψ := h
    refine Gd.join (Gd.mono (Gd.bind h) (fun d S1 g1 => Gd.join (Gd.mono (evEs_len (Gd.bind g1)) (fun ds S2 g2 => ?_) fun _ _ z => z)) fun _ _ z => z)
    exact ⟨by rw [List.length_cons, List.length_cons, g2.1], g2.2⟩
theorem tevs_len {us : List E} {σ : L2.St} {H : Hp} {Q : List V → Hp → Prop} (h : tevs X.K X.mg W call us σ H Q) : tevs X.K X.mg W call us σ H fun vs H1 => vs.length = us.length ∧ Q vs H1 := by
  obtain ⟨m, S, ρ, s, r, g⟩ := h
  exact ⟨m, S, ρ, s, r, Gd.mono (evEs_len g) (fun ds S1 g1 m1 H1 vs st s1 vd => ⟨by rw [vd.length, g1.1], g1.2 m1 H1 vs st s1 vd⟩) fun _ _ z => z⟩
theorem ge_tup {es : List Expr} {us : List E} {x : Nat} {pos : Pos} (h : PA X es (tevs X.K X.mg W call us)) (hl : us.length ≤ 1000) : GE X W call (.Tuple es x pos) (.tup us) := by
  refine (pe_tup h).wk fun σ H Q ⟨m, S, ρ, s, r, g⟩ => ?_
  have g : Gd (M.bind (evEs call us ρ) (fun ds => M.pure (.tup ds)) S) (OkW X.K m H Q) _ := g
  refine ⟨m, S, ρ, s, r, Gd.mono (evEs_len (Gd.bind g)) (fun ds S1 g1 m1 H1 vs st s1 vd => ⟨?_, fun p hp => ?_⟩) fun _ _ z => z⟩
  · rw [vd.length, g1.1, sizeLine_eq]
    omega
  · exact ((g1.2 : OkW X.K m H Q (.tup ds) S1).step st).hnd.tupN s1 vd p hp
theorem ge_lst {es : List Expr} {us : List E} {pos : Pos} (h : PA X es (tevs X.K X.mg W call us)) (hl : us.length ≤ 1000) : GE X W call (.List es pos) (.lst us) := by
  refine (pe_lst h).wk fun σ H Q ⟨m, S, ρ, s, r, g⟩ => ?_
  have g : Gd (M.bind (evEs call us ρ) (fun ds => M.pure (.lst ds)) S) (OkW X.K m H Q) _ := g
  refine ⟨m, S, ρ, s, r, Gd.mono (evEs_len (Gd.bind g)) (fun ds S1 g1 m1 H1 vs st s1 vd => ⟨?_, fun p hp => ?_⟩) fun _ _ z => z⟩
  · rw [vd.length, g1.1, sizeLine_eq]
    omega
  · exact ((g1.2 : OkW X.K m H Q (.lst ds) S1).step st).hnd.lstN s1 vd p hp
theorem ge_new {es : List Expr} {us : List E} {pos : Pos} (h : PA X es (tevs X.K X.mg W call us)) (hl : us.length ≤ 1000) : GE X W call (.List es pos) (.new us) := by
  refine (pe_lst h).wk fun σ H Q ⟨m, S, ρ, s, r, g⟩ => ?_
  have g : Gd (M.bind (evEs call us ρ) (fun ds => alloc (.lst ds)) S) (OkW X.K m H Q) _ := g
  refine ⟨m, S, ρ, s, r, Gd.mono (evEs_len (Gd.bind g)) (fun ds S1 g1 m1 H1 vs st s1 vd => ⟨?_, fun p hp => ?_⟩) fun _ _ z => z⟩
  · rw [vd.length, g1.1, sizeLine_eq]
    omega
  · obtain ⟨s2, t2⟩ := s1.new hp vd
    refine (g1.2 : OkW X.K m H Q (.ref S1.length) (S1 ++ [.lst ds])) (m1.push p) _ (.ref p) (st.trans t2) s2 ⟨p, rfl, ?_⟩
    show (m1.l ++ [p])[S1.length]? = some p
    rw [← s1.len, List.getElem?_append_right (Nat.le_refl _), Nat.sub_self]
    rfl
theorem ge_idx {a b : Expr} {a' b' : E} {pos : Pos} (hn : noSlice b = true) (ha : GE X W call a a') (hb : GE X W call b b') : GE X W call (.Subscript a b pos) (.idx a' b') := by
  refine (pe_ix ix_any ha hb (ix_plain hn)).wk fun σ H Q ⟨m, S, ρ, s, r, g⟩ => ?_
  refine tev_of s r g fun d1 S1 m1 H1 v1 t1 s1 r1 vd1 g1 => ?_
  refine tev_of s1 r1 g1 fun d2 S2 m2 H2 v2 t2 s2 r2 vd2 g2 => ?_
  obtain ⟨d3, pk, g3⟩ := peek_of s2 (vd1.mono s1 t2) g2
  obtain ⟨d, e, g4⟩ := g3.opt
  exact ⟨m2, S2, d3, d2, d, s2, pk, vd2, e, (g4 : OkW X.K m H Q d S2).step (t1.trans t2)⟩
/-- a slice's part -/
def tpart (K : PySem.W.Frag) (mg : Str → Option Value) (W : WX) (call : Nat → List D → M D) (l : Bool) (e : E) : TO := fun σ H Q => ∃ m S ρ, Sto K m H S ∧ EnvR K m H σ ρ ∧
  Gd (M.bind (if l then evE call e ρ else M.pure .non) (fun y => opt (partM l y)) S) (fun o S' => ∀ m' H', Stp m H m' H' → Sto K m' H' S' → Q o H') (ExW K mg m H fun c d H' => W c d σ H')
theorem po_any {o : Option Expr} {l : Bool} {e : E} (h : match o with | none => l = false | some z => l = true ∧ GE X W call z e) : PO X o (tpart X.K X.mg W call l e) := by
  cases o with
  | none =>
    have h : l = false := h
    subst h
    refine ⟨fun pins s σ H Q I ⟨m, S, ρ, st, r, g⟩ => po_none.run pins s σ H Q I ?_⟩
    have g : Gd (M.bind (M.pure .non) (fun y => opt (partM false y)) S) (fun o S' => ∀ m' H', Stp m H m' H' → Sto X.K m' H' S' → Q o H') (ExW X.K X.mg m H fun c d H' => W c d σ H') := g
    have g1 : Gd (opt (partM false .non) S) (fun o S' => ∀ m' H', Stp m H m' H' → Sto X.K m' H' S' → Q o H') (ExW X.K X.mg m H fun c d H' => W c d σ H') := Gd.bind g
    obtain ⟨o, e1, g⟩ := g1.opt
    cases e1
    exact g m H Stp.refl st
  | some z =>
    obtain ⟨hl, h⟩ := h
    subst hl
    refine ⟨fun pins s σ H Q I ⟨m, S, ρ, st, r, g⟩ => (po_some h).run pins s σ H Q I ?_⟩
    refine tev_of st r g fun d S1 m1 H1 v t1 s1 r1 vd g1 => ?_
    obtain ⟨o, e1, g2⟩ := g1.opt
    cases d with
    | int i =>
      cases e1
      have vd : v = _ := vd
      exact ⟨i, vd, g2 m1 H1 t1 s1⟩
    | _ => cases e1
theorem tpart_of {K : PySem.W.Frag} {mg : Str → Option Value} {m : Am} {H : Hp} {S : Store} {σ : L2.St} {ρ : Env} (s : Sto K m H S) (r : EnvR K m H σ ρ) {l : Bool} {e : E} {β : Type} {f : Option Int → M β} {φ : β → Store → Prop} {Q : Option Int → Hp → Prop}
    (h : Gd (M.bind (if l then evE call e ρ else M.pure .non) (fun y => M.bind (opt (partM l y)) f) S) φ (ExW K mg m H fun c d H' => W c d σ H'))
    (k : ∀ d S' m' H', Stp m H m' H' → Sto K m' H' S' → EnvR K m' H' σ ρ → Gd (f d S') φ (ExW K mg m' H' fun c d H' => W c d σ H') → Q d H') : tpart K mg W call l e σ H Q :=
  ⟨m, S, ρ, s, r, Gd.join (Gd.mono (Gd.bind h) (fun d S1 g => Gd.mono (Gd.bind g) (fun o S2 g2 m' H' st s' => k o S2 m' H' st s' (r.mono s st) (g2.mono (fun _ _ z => z) fun _ _ z => z.step st)) fun _ _ z => z) fun _ _ z => z)⟩
theorem ge_sl {a : Expr} {lo hi : Option Expr} {a' lo' hi' : E} {l h : Bool} {p2 pos : Pos} (ha : GE X W call a a') (h1 : PO X lo (tpart X.K X.mg W call l lo')) (h2 : PO X hi (tpart X.K X.mg W call h hi')) : GE X W call (.Subscript a (.Slice lo hi none p2) pos) (.sl a' l lo' h hi') := by
  refine (pe_slice sl_any ha h1 h2).wk fun σ H Q ⟨m, S, ρ, s, r, g⟩ => ?_
  refine tev_of s r g fun d1 S1 m1 H1 v1 t1 s1 r1 vd1 g1 => ?_
  refine tpart_of s1 r1 g1 fun o2 S2 m2 H2 t2 s2 r2 g2 => ?_
  refine tpart_of s2 r2 g2 fun o3 S3 m3 H3 t3 s3 r3 g3 => ?_
  obtain ⟨d3, pk, g4⟩ := peek_of s3 ((vd1.mono s1 t2).mono s2 t3) g3
  obtain ⟨d, e, g5⟩ := g4.opt
  exact ⟨m3, S3, d3, d, s3, pk, e, (g5 : OkW X.K m H Q d S3).step ((t1.trans t2).trans t3)⟩
theorem ge_call {x : Str} {f np : Nat} {es : List Expr} {us : List E} {p pos : Pos} (kx : Kx X c sc fc k call W) (gl : glb sc x = true) (pn : plainName x = true) (co : CallOk X k call f np x) (hn : np = us.length) (hl : es.length = us.length) (hs : es.all noStar = true) (ha : PA X es (tevs X.K X.mg W call us)) :
    GE X W call (.Call (.Name x p) es [] pos) (.call f us) := by
  obtain ⟨fa, fd, ps, hm, hk, hb, F⟩ := co
  have gl := glb_ok (X := X) kx.sc gl
  obtain ⟨n1, _, _⟩ := plain_ok pn
  have main : PE X (.Call (.Name x p) es [] pos) (tCallG (spC X.K X.mg (call f) np) W (tevs X.K X.mg W call us)) := by
    cases es with
    | nil =>
      have e : us = [] := List.eq_nil_of_length_eq_zero hl.symm
      subst e
      refine (pe_callG0 F kx.room kx.guards gl hm hk hb kx.tk n1).wk fun σ H Q ⟨m, S, ρ, s, r, g⟩ => ?_
      exact (g : OkL X.K m H _ [] S) m H [] Stp.refl s rfl
    | cons e es =>
      rw [List.all_cons, Bool.and_eq_true] at hs
      exact pe_callG F kx.room kx.guards gl hm hk hb kx.tk ha n1 (star_cons hs.1) (star_plain hs.2)
  refine main.wk fun σ H Q h => ?_
  obtain ⟨m, S, ρ, s, r, g⟩ := h
  have g : Gd (M.bind (evEs call us ρ) (fun ds => call f ds) S) (OkW X.K m H Q) _ := g
  refine ⟨m, S, ρ, s, r, Gd.mono (evEs_len (Gd.bind g)) (fun ds S1 g1 m1 H1 vs st s1 vd => ⟨?_, m1, S1, ds, s1, vd, ?_⟩) fun _ _ z => z⟩
  · rw [vd.length, g1.1, hn]
  · exact Gd.mono g1.2 (fun _ _ z => z.step st) fun _ _ z => z.step st
theorem ge_isi {x y : Str} {a : Expr} {a' : E} {t : Ty} {p p2 pos : Pos} (kx : Kx X c sc fc k call W) (g1 : gfree c sc x = true) (ex : x = "isinstance") (g2 : gfree c sc y = true) (ey : (tyName t).1 = y) (hs : noStar a = true) (ha : GE X W call a a') :
    GE X W call (.Call (.Name x p) [a, .Name y p2] [] pos) (.isi a' t) := by
  obtain ⟨g1, b3⟩ := ba' g1
  obtain ⟨b1, b2⟩ := ba' g1
  obtain ⟨g2, c3⟩ := ba' g2
  obtain ⟨c1, c2⟩ := ba' g2
  obtain ⟨n1, _, n3⟩ := plain_ok b3
  obtain ⟨o1, _, o3⟩ := plain_ok c3
  have hy : bootBuiltins y = some (.type (tyName t).2) := by
    subst ey
    cases t <;> decide +kernel
  have pt : PE X (.Name y p2) (tC (.ty (tyName t).2)) := pe_bltn (glb_ok (X := X) kx.sc c1) (kx.free y c2) hy rfl o3 o1
  have hx : bootBuiltins x = some (.builtin "isinstance") := by
    subst ex
    decide +kernel
  refine (pe_callB call_isi (glb_ok (X := X) kx.sc b1) (kx.free x b2) hx (pa_cons ha (pa_cons pt pa_nil) (star_cons hs)) n3 n1 (star_cons hs)).wk fun σ H Q ⟨m, S, ρ, s, r, g⟩ => ?_
  refine tev_of s r g fun d1 S1 m1 H1 v1 t1 s1 r1 vd1 g1 => ?_
  obtain ⟨d2, pk, g2⟩ := peek_of s1 vd1 g1
  obtain ⟨b, e, g3⟩ := Gd.opt (Gd.bind g2)
  obtain ⟨T, h1, h2⟩ := ty_of pk e
  exact ⟨v1, _, _, _, b, rfl, .ty _, h1, kit_ty h2, (g3 : OkW X.K m H Q (.bl b) S1) m1 H1 _ t1 s1 rfl⟩
theorem Gd.noex {α : Type} {r : Option (Rs α)} {φ : α → Store → Prop} {ψ : Xn → Store → Prop} (h : ∀ x S, r ≠ some (.ex x S)) (g : Gd r φ ψ) : Gd r φ fun _ _ => False := by
  cases r with
  | none => exact g
  | some r => cases r with
    | ok a S => exact g
    | ex x S => exact absurd rfl (h x S)
theorem getO_noex {β : Type} {n : Nat} {f : SO → M β} {S : Store} (h : ∀ o x S', f o S ≠ some (.ex x S')) {x : Xn} {S' : Store} : M.bind (getO n) f S ≠ some (.ex x S') := by
  unfold M.bind getO
  cases S[n]? with
  | none => exact fun z => by cases z
  | some o => exact h o x S'
theorem putO_noex {β : Type} {n : Nat} {o : SO} {a : β} {S : Store} {x : Xn} {S' : Store} : M.bind (putO n o) (fun _ => M.pure a) S ≠ some (.ex x S') := by
  unfold M.bind putO
  by_cases h : n < S.length
  · rw [if_pos h]
    exact fun z => by cases z
  · rw [if_neg h]
    exact fun z => by cases z
theorem appM_noex {d : D} {ds : List D} {S : Store} {x : Xn} {S' : Store} : appM d ds S ≠ some (.ex x S') := by
  unfold appM
  split
  · refine getO_noex fun o x S' => ?_
    cases o with
    | lst ls =>
      dsimp only
      split
      · exact putO_noex
      · exact fun z => by cases z
  · exact fun z => by cases z
theorem extM_noex {d : D} {ds : List D} {S : Store} {x : Xn} {S' : Store} : extM d ds S ≠ some (.ex x S') := by
  unfold extM
  split
  · refine getO_noex fun o x S' => ?_
    cases o with
    | lst ls =>
      dsimp only
      split
      · exact putO_noex
      · exact fun z => by cases z
  · exact fun z => by cases z
theorem popM_noex {d : D} {ds : List D} {S : Store} {x : Xn} {S' : Store} : popM d ds S ≠ some (.ex x S') := by
  unfold popM
  split
  · refine getO_noex fun o x S' => ?_
    cases o with
    | lst ls =>
      dsimp only
      cases ls[ls.length - 1]? with
      | none => exact fun z => by cases z
      | some y => exact putO_noex
  · exact fun z => by cases z
theorem few_ok {e : Expr} {es : List Expr} {env : PySem.Env} {pos : Pos} (h : (e :: es).all noStar = true) (hz : (e :: es).length ≤ 5) : ((backTo pos (starEach (e :: es) env)).all (fun x => !x.1) && (backToKw pos (keywordEach [] env)).all (fun x => x.1.isSome)
      && decide ((e :: es).length + ([] : List Keyword).length + (if ([] : List Keyword).isEmpty then 0 else 1) < 30)) = true := by
  rw [star_all h]
  show (true && true && decide ((e :: es).length + 0 + 0 < 30)) = true
  rw [decide_eq_true (by omega)]
  rfl
theorem ge_meth {o : Expr} {mm : Str} {me : Me} {o' : E} {es : List Expr} {us : List E} {apos pos : Pos} (hm : meName me = (mm, us.length)) (nc : noCall o = true) (ln : (apos.endLine == pos.line) = true) (hl : es.length = us.length) (hs : es.all noStar = true) (hz : es.length ≤ 5)
    (ho : GE X W call o o') (ha : PA X es (tevs X.K X.mg W call us)) : GE X W call (.Call (.Attribute o mm apos) es [] pos) (.meth me o' us) := by
  have red : ∀ {σ : L2.St} {H : Hp} {Q : VK} {m : Am} {S : Store} {ρ : Env}, Sto X.K m H S → EnvR X.K m H σ ρ → Gd (evE call (.meth me o' us) ρ S) (OkW X.K m H Q) (ExW X.K X.mg m H fun c d H' => W c d σ H') →
      tev X.K X.mg W call o' σ H fun x H1 => tyV X.K "list" x H1 ∧ tevs X.K X.mg W call us σ H1 fun xs H2 => rMe X.K me x xs H2 Q := fun {σ H Q m S ρ} s r g => by
    refine tev_of s r g fun d1 S1 m1 H1 v1 t1 s1 r1 vd1 g1 => ?_
    have g2 := Gd.bind g1
    unfold meReady at g2
    split at g2
    · rename_i n
      obtain ⟨a, rfl, ha⟩ := id vd1
      obtain ⟨ol, e, g3⟩ := getO_of g2
      cases ol with
      | lst ls =>
        obtain ⟨xs, q1, _⟩ := s1.obj _ _ _ ha e
        refine ⟨.inl ⟨rfl, xs, SqL.of q1⟩, ?_⟩
        have g3 : Gd (M.bind (evEs call us ρ) (fun ds => meM me (.ref n) ds) S1) (OkW X.K m H Q) _ := g3
        refine tevs_of s1 r1 g3 fun ds S2 m2 H2 vs t2 s2 r2 vds g4 => ?_
        refine ⟨m2, S2, .ref n, ds, s2, vd1.mono s1 t2, vds, ?_⟩
        cases me with
        | append =>
          obtain ⟨_, _, _, _, _, _, _, q⟩ := appM_ok g4
          exact Gd.mono (Gd.noex (fun x S3 => appM_noex) g4) (fun _ _ z => z.step (t1.trans t2)) fun _ _ z => z
        | extend => exact Gd.mono (Gd.noex (fun x S3 => extM_noex) g4) (fun _ _ z => z.step (t1.trans t2)) fun _ _ z => z
        | pop => exact Gd.mono (Gd.noex (fun x S3 => popM_noex) g4) (fun _ _ z => z.step (t1.trans t2)) fun _ _ z => z
    · exact False.elim g2
  obtain ⟨e1, e2⟩ : (meName me).1 = mm ∧ (meName me).2 = us.length := by rw [hm]; exact ⟨rfl, rfl⟩
  subst e1
  cases me with
  | append =>
    match es, hl, hs, hz, ha with
    | [], hl, _, _, _ => rw [← hl] at e2; cases e2
    | e :: es, hl, hs, hz, ha =>
      have hs' := hs
      rw [List.all_cons, Bool.and_eq_true] at hs'
      exact (pe_bm PySem.F.plainAttrs_list PySem.F.slot_list_append PySem.F.type_list_append mt_append_ ho ha (base_plain nc) (few_ok hs hz) ln (star_cons hs'.1) (star_plain hs'.2)).wk fun σ H Q ⟨m, S, ρ, s, r, g⟩ => red s r g
  | extend =>
    match es, hl, hs, hz, ha with
    | [], hl, _, _, _ => rw [← hl] at e2; cases e2
    | e :: es, hl, hs, hz, ha =>
      have hs' := hs
      rw [List.all_cons, Bool.and_eq_true] at hs'
      exact (pe_bm PySem.F.plainAttrs_list PySem.F.slot_list_extend PySem.F.type_list_extend mt_extend_ ho ha (base_plain nc) (few_ok hs hz) ln (star_cons hs'.1) (star_plain hs'.2)).wk fun σ H Q ⟨m, S, ρ, s, r, g⟩ => red s r g
  | pop =>
    have hu : us = [] := List.eq_nil_of_length_eq_zero e2.symm
    subst hu
    have he : es = [] := List.eq_nil_of_length_eq_zero hl
    subst he
    refine (pe_bm0 PySem.F.plainAttrs_list PySem.F.slot_list_pop PySem.F.type_list_pop mt_pop_ ho (base_plain nc) ln).wk fun σ H Q ⟨m, S, ρ, s, r, g⟩ => ?_
    have q := red s r g
    refine (fun (h : ∀ x H1, (tyV X.K "list" x H1 ∧ tevs X.K X.mg W call [] σ H1 fun xs H2 => rMe X.K .pop x xs H2 Q) → (tyV X.K "list" x H1 ∧ rMe X.K .pop x [] H1 Q)) => ?_) fun x H1 ⟨a, m1, S1, ρ1, s1, r1, g1⟩ => ⟨a, (g1 : OkL X.K m1 H1 _ [] S1) m1 H1 [] Stp.refl s1 rfl⟩
    obtain ⟨m, S, ρ, s, r, g⟩ := q
    exact ⟨m, S, ρ, s, r, Gd.mono g (fun d S1 g1 m1 H1 v st s1 vd => h v H1 (g1 m1 H1 v st s1 vd)) fun _ _ z => z⟩
end
end Ev
set_option Elab.async false
set_option linter.all false
set_option maxRecDepth 100000
set_option maxHeartbeats 8000000
namespace Ev
open PySem PySem.Spec PyProof.Rows L2
/-- J walks what is told -/
def SrcJ (K : PySem.W.Frag) (m : Am) (H : Hp) : Src → It → Prop
  | .items ds, J => ∀ m' H' S', Stx m H m' H' → Sto K m' H' S' → ∀ i, (i < ds.length → J.go i H' ∧ ∀ x H'', J.yld i H' x H'' → ∃ d, ds[i]? = some d ∧ H'' = H' ∧ VD K m' H'' d x) ∧ (ds.length ≤ i → J.stop i H')
  | .ref n, J => ∃ a, m.l[n]? = some a ∧ J = Itl K a
/-- what a loop walks, as read -/
def tis (K : PySem.W.Frag) (mg : Str → Option Value) (W : WX) (call : Nat → List D → M D) (k : Sk) (src : List E) : TI := fun σ H R => ∃ m S ρ, Sto K m H S ∧ EnvR K m H σ ρ ∧
  Gd (M.bind (evEs call src ρ) (fun ds => opt (srcOf k ds)) S) (fun sc S' => ∀ m' H' J, Stp m H m' H' → Sto K m' H' S' → SrcJ K m' H' sc J → R J H') (ExW K mg m H fun c d H' => W c d σ H')
theorem _root_.L2.PI.wk {X : Cx} {tg e : Expr} {t t' : TI} (h : PI X tg e t) (f : ∀ σ H R, t' σ H R → t σ H R) : PI X tg e t' := ⟨fun p s σ H R I q => h.run p s σ H R I (f σ H R q)⟩
theorem _root_.L2.PI.or {X : Cx} {tg e : Expr} {t t' : TI} (h : PI X tg e t) (h' : PI X tg e t') : PI X tg e (fun σ H R => t σ H R ∨ t' σ H R) := ⟨fun p s σ H R I q => q.elim (h.run p s σ H R I) (h'.run p s σ H R I)⟩
section
variable {K : PySem.W.Frag} {m : Am} {H : Hp} {S : Store} {a : Addr} {xs : List V} {ds : List D}
/-- a list that stays -/
theorem srcJ_list (q : ∀ m' H' S', Stx m H m' H' → Sto K m' H' S' → SqL K H' a xs ∧ VDs K m' H' ds xs) : SrcJ K m H (.items ds) (Itl K a) := by
  intro m' H' S' st s i
  obtain ⟨q1, q2⟩ := q m' H' S' st s
  refine ⟨fun hi => ?_, fun hi => ⟨xs, q1, by rw [q2.length]; exact hi⟩⟩
  have e : ds[i]? = some ds[i] := List.getElem?_eq_getElem hi
  obtain ⟨v, hv, vd⟩ := q2.get e
  refine ⟨⟨xs, v, q1, hv⟩, fun x H'' y => ?_⟩
  obtain ⟨rfl, f⟩ := y
  have ex := f xs q1
  rw [hv] at ex
  cases ex
  exact ⟨ds[i], e, rfl, vd⟩
theorem srcJ_tup (q : ∀ m' H' S', Stx m H m' H' → Sto K m' H' S' → SqT K H' a xs ∧ VDs K m' H' ds xs) : SrcJ K m H (.items ds) (Itt K a) := by
  intro m' H' S' st s i
  obtain ⟨q1, q2⟩ := q m' H' S' st s
  refine ⟨fun hi => ?_, fun hi => ⟨xs, q1, by rw [q2.length]; exact hi⟩⟩
  have e : ds[i]? = some ds[i] := List.getElem?_eq_getElem hi
  obtain ⟨v, hv, vd⟩ := q2.get e
  refine ⟨⟨xs, v, q1, hv⟩, fun x H'' y => ?_⟩
  obtain ⟨rfl, f⟩ := y
  have ex := f xs q1
  rw [hv] at ex
  cases ex
  exact ⟨ds[i], e, rfl, vd⟩
theorem srcJ_range {lo c : Int} {n : Nat} : SrcJ K m H (.items (rangeC lo c n)) (Itc lo c n) := by
  intro m' H' S' st s i
  have hl : (rangeC lo c n).length = n := by
    unfold rangeC
    rw [List.length_map, List.length_range]
  rw [hl]
  refine ⟨fun hi => ⟨hi, fun x H'' y => ?_⟩, fun hi => hi⟩
  obtain ⟨rfl, rfl⟩ := y
  refine ⟨.int (lo + (i : Nat) * c), ?_, rfl, rfl⟩
  unfold rangeC
  rw [List.getElem?_map, List.getElem?_range hi]
  rfl
theorem srcJ_range1 {lo : Int} {n : Nat} : SrcJ K m H (.items (rangeD lo n)) (Itr lo n) := by
  intro m' H' S' st s i
  have hl : (rangeD lo n).length = n := by
    unfold rangeD
    rw [List.length_map, List.length_range]
  rw [hl]
  refine ⟨fun hi => ⟨hi, fun x H'' y => ?_⟩, fun hi => hi⟩
  obtain ⟨rfl, rfl⟩ := y
  refine ⟨.int (lo + (i : Nat)), ?_, rfl, rfl⟩
  unfold rangeD
  rw [List.getElem?_map, List.getElem?_range hi]
  rfl
end
section
variable {X : Cx} {c : Ck} {sc : Scope} {fc : Str → Bool} {k : Nat} {call : Nat → List D → M D} {W : WX}
/-- a list, a tuple, a list of the store -/
theorem pi_seq_ {tg e : Expr} {e' : E} (h : GE X W call e e') : PI X tg e (tis X.K X.mg W call .seq [e']) := by
  refine ((pi_list h).or (pi_tup h)).wk fun σ H R ⟨m, S, ρ, s, r, g⟩ => ?_
  have g : Gd (M.bind (M.bind (evE call e' ρ) fun d => M.bind (M.pure []) fun ds => M.pure (d :: ds)) (fun ds => opt (srcOf .seq ds)) S) (fun sc S' => ∀ m' H' J, Stp m H m' H' → Sto X.K m' H' S' → SrcJ X.K m' H' sc J → R J H') (ExW X.K X.mg m H fun c d H' => W c d σ H') := g
  have g1 : Gd (evE call e' ρ S) (fun d S1 => Gd (opt (srcOf .seq [d]) S1) (fun sc S' => ∀ m' H' J, Stp m H m' H' → Sto X.K m' H' S' → SrcJ X.K m' H' sc J → R J H') (ExW X.K X.mg m H fun c d H' => W c d σ H')) (ExW X.K X.mg m H fun c d H' => W c d σ H') :=
    Gd.mono (Gd.bind (Gd.bind g)) (fun d S1 z => z) fun _ _ z => z
  -- the value is known to the evaluator ahead of the walk
  cases e0 : evE call e' ρ S with
  | none =>
    rw [e0] at g1
    exact False.elim g1
  | some r0 =>
    rw [e0] at g1
    cases r0 with
    | ex x S1 =>
      refine .inl ⟨m, S, ρ, s, r, ?_⟩
      rw [e0]
      exact g1
    | ok d S1 =>
      obtain ⟨sc, e1, g2⟩ := Gd.opt (show Gd (opt (srcOf .seq [d]) S1) _ _ from g1)
      have fin : ∀ (ds : List D), itemsV d = some ds → sc = .items ds →
          (iList X.K (tev X.K X.mg W call e') σ H R ∨ iTup X.K (tev X.K X.mg W call e') σ H R) := fun ds hd hs => by
        subst hs
        cases d with
        | tup ds' =>
          cases hd
          refine .inr ⟨m, S, ρ, s, r, ?_⟩
          rw [e0]
          intro m1 H1 v st s1 vd
          obtain ⟨a, xs, rfl, q1, q2⟩ := vd
          refine ⟨a, rfl, ⟨xs, q1⟩, g2 m1 H1 _ st s1 (srcJ_tup (xs := xs) fun m' H' S' st' s' => ?_)⟩
          exact ⟨st'.sqT s1 q1, VDs.monox s1 st' _ _ q2⟩
        | lst ds' =>
          cases hd
          refine .inl ⟨m, S, ρ, s, r, ?_⟩
          rw [e0]
          intro m1 H1 v st s1 vd
          obtain ⟨a, xs, rfl, q1, n1, q2⟩ := vd
          refine ⟨a, rfl, ⟨xs, SqL.of q1⟩, g2 m1 H1 _ st s1 (srcJ_list (xs := xs) fun m' H' S' st' s' => ?_)⟩
          exact ⟨SqL.of (st'.keep a _ q1 n1), VDs.monox s1 st' _ _ q2⟩
        | fro ds' =>
          cases hd
          refine .inl ⟨m, S, ρ, s, r, ?_⟩
          rw [e0]
          intro m1 H1 v st s1 vd
          obtain ⟨a, xs, rfl, q1, q2⟩ := id vd
          refine ⟨a, rfl, ⟨xs, q1.sq⟩, g2 m1 H1 _ st s1 (srcJ_list (xs := xs) fun m' H' S' st' s' => ?_)⟩
          rcases q1 with ⟨o, q1⟩ | q1
          · exact ⟨.inl (.inr ⟨o, st'.keep a _ q1 (s1.notLst q1 fun _ z => by cases z)⟩), VDs.monox s1 st' _ _ q2⟩
          · exact ⟨q1 H', VDs.monox s1 st' _ _ q2⟩
        | _ => cases hd
      cases d with
      | ref n =>
        cases e1
        refine .inl ⟨m, S, ρ, s, r, ?_⟩
        rw [e0]
        intro m1 H1 v st s1 vd
        obtain ⟨a, rfl, ha⟩ := vd
        obtain ⟨xs, q⟩ := s1.there (Am.of ha)
        exact ⟨a, rfl, ⟨xs, SqL.of q⟩, g2 m1 H1 _ st s1 ⟨a, ha, rfl⟩⟩
      | tup ds =>
        have e1 : Option.map Src.items (itemsV (.tup ds)) = some sc := e1
        obtain ⟨ds', e2, e3⟩ := Option.map_eq_some_iff.mp e1
        exact fin ds' e2 e3.symm
      | lst ds =>
        have e1 : Option.map Src.items (itemsV (.lst ds)) = some sc := e1
        obtain ⟨ds', e2, e3⟩ := Option.map_eq_some_iff.mp e1
        exact fin ds' e2 e3.symm
      | fro ds =>
        have e1 : Option.map Src.items (itemsV (.fro ds)) = some sc := e1
        obtain ⟨ds', e2, e3⟩ := Option.map_eq_some_iff.mp e1
        exact fin ds' e2 e3.symm
      | _ => cases e1
theorem inRg_ok {i : Int} (h : inRg i = true) : -(2 ^ 62) ≤ i ∧ i < 2 ^ 62 := by
  unfold inRg at h
  simp only [Bool.and_eq_true, decide_eq_true_eq] at h
  exact h
theorem star_one {a : Expr} {env : PySem.Env} (h : noStar a = true) : starEach [a] env = [(false, eval a env)] := by
  rw [star_cons h]
  rfl
theorem range_ok {x : Str} (kx : Kx X c sc fc k call W) (g : gfree c sc x = true) (e : x = "range") : Gl X "range" ∧ X.mg "range" = none := by
  obtain ⟨g, _⟩ := ba' g
  obtain ⟨g1, g2⟩ := ba' g
  subst e
  exact ⟨glb_ok (X := X) kx.sc g1, kx.free _ g2⟩
theorem src1 {ds : List D} {sr : Src} (h : srcOf .rng1 ds = some sr) : ∃ j, ds = [.int j] ∧ inRg j = true ∧ sr = .items (rangeD 0 j.toNat) := by
  unfold srcOf at h
  split at h
  · rename_i e
    cases e
  · rename_i e
    cases e
  · rename_i j _
    by_cases hj : inRg j = true
    · rw [if_pos hj] at h
      cases h
      exact ⟨_, rfl, hj, rfl⟩
    · rw [if_neg hj] at h
      cases h
  all_goals first | (rename_i e; cases e; done) | (rename_i e _; cases e; done) | cases h
theorem src2 {ds : List D} {sr : Src} (h : srcOf .rng2 ds = some sr) : ∃ i j, ds = [.int i, .int j] ∧ inRg i = true ∧ inRg j = true ∧ sr = .items (rangeD i (j - i).toNat) := by
  unfold srcOf at h
  split at h
  all_goals first | (rename_i e; cases e; done) | (rename_i e _; cases e; done) | (cases h; done) | skip
  rename_i i j _
  by_cases hj : (inRg i && inRg j) = true
  · rw [if_pos hj] at h
    cases h
    obtain ⟨h1, h2⟩ := ba' hj
    exact ⟨_, _, rfl, h1, h2, rfl⟩
  · rw [if_neg hj] at h
    cases h
theorem src3 {ds : List D} {sr : Src} (h : srcOf .rng3 ds = some sr) : ∃ i j c, ds = [.int i, .int j, .int c] ∧ RgC i j c (Builtin.Range.rangeSize i j c).toNat ∧ sr = .items (rangeC i c (Builtin.Range.rangeSize i j c).toNat) := by
  unfold srcOf at h
  split at h
  all_goals first | (rename_i e; cases e; done) | (rename_i e _; cases e; done) | (cases h; done) | skip
  rename_i i j c _
  split at h
  · rename_i hz
    cases h
    simp only [Bool.and_eq_true, decide_eq_true_eq] at hz
    obtain ⟨⟨⟨h1, h2⟩, h3⟩, h4⟩ := hz
    exact ⟨i, j, c, rfl, ⟨h1, h2, h3, (Int.toNat_of_nonneg h4).symm⟩, rfl⟩
  · cases h
theorem pi_ok {tg : Expr} {rec : Expr → E → Bool} (kx : Kx X c sc fc k call W) (hr : ∀ e e', rec e e' = true → GE X W call e e') : ∀ {iter : Expr} {kd : Sk} {src : List E}, chkI c sc rec tg iter kd src = true → PI X tg iter (tis X.K X.mg W call kd src) := by
  intro iter kd src h
  unfold chkI at h
  split at h
  · rename_i x _ a _ a'
    simp only [Bool.and_eq_true, decide_eq_true_eq] at h
    obtain ⟨⟨⟨h1, h2⟩, h3⟩, h4⟩ := h
    obtain ⟨gl, hm⟩ := range_ok kx h1 h2
    subst h2
    have pa : PA X [a] (tevs X.K X.mg W call [a']) := tevs_pa rfl (by rw [List.all_cons, h3]; rfl) fun p hp => by
      have e : p = (a, a') := by simpa using hp
      subst e
      exact hr _ _ h4
    refine (pi_range1 gl hm pa (star_one h3)).wk fun σ H R ⟨m, S, ρ, s, r, g⟩ => ?_
    refine tevs_of s r g fun ds S1 m1 H1 vs st s1 r1 vds g1 => ?_
    obtain ⟨sr, e1, g2⟩ := g1.opt
    obtain ⟨j, rfl, hj, rfl⟩ := src1 e1
    obtain ⟨v, r', rfl, vd, e0⟩ := vds
    have e0 : r' = [] := e0
    have vd : v = _ := vd
    subst e0 vd
    obtain ⟨h5, h6⟩ := inRg_ok hj
    exact ⟨j, rfl, h5, h6, g2 m1 H1 _ st s1 srcJ_range1⟩
  · rename_i x _ a b _ a' b'
    simp only [Bool.and_eq_true, decide_eq_true_eq] at h
    obtain ⟨⟨⟨⟨⟨h1, h2⟩, h3⟩, h3'⟩, h4⟩, h4'⟩ := h
    obtain ⟨gl, hm⟩ := range_ok kx h1 h2
    subst h2
    have pa : PA X [a, b] (tevs X.K X.mg W call [a', b']) := tevs_pa rfl (by simp [List.all_cons, h3, h3']) fun p hp => by
      have e : p = (a, a') ∨ p = (b, b') := by simpa using hp
      rcases e with e | e <;> subst e
      · exact hr _ _ h4
      · exact hr _ _ h4'
    refine (pi_range2 gl hm pa (by rw [star_cons h3, star_cons h3']; rfl) (star_one h3')).wk fun σ H R ⟨m, S, ρ, s, r, g⟩ => ?_
    refine tevs_of s r g fun ds S1 m1 H1 vs st s1 r1 vds g1 => ?_
    obtain ⟨sr, e1, g2⟩ := g1.opt
    obtain ⟨i, j, rfl, hi, hj, rfl⟩ := src2 e1
    obtain ⟨v, r', rfl, vd, v2, r2, rfl, vd2, e0⟩ := vds
    have e0 : r2 = [] := e0
    have vd : v = _ := vd
    have vd2 : v2 = _ := vd2
    subst e0 vd vd2
    obtain ⟨h5, h6⟩ := inRg_ok hi
    obtain ⟨h7, h8⟩ := inRg_ok hj
    exact ⟨i, j, rfl, ⟨h5, h6, h7, h8⟩, g2 m1 H1 _ st s1 srcJ_range1⟩
  · rename_i x _ a b d _ a' b' d'
    simp only [Bool.and_eq_true, decide_eq_true_eq] at h
    obtain ⟨⟨⟨⟨⟨⟨⟨h1, h2⟩, h3⟩, h3'⟩, h3''⟩, h4⟩, h4'⟩, h4''⟩ := h
    obtain ⟨gl, hm⟩ := range_ok kx h1 h2
    subst h2
    have pa : PA X [a, b, d] (tevs X.K X.mg W call [a', b', d']) := tevs_pa rfl (by simp [List.all_cons, h3, h3', h3'']) fun p hp => by
      have e : p = (a, a') ∨ p = (b, b') ∨ p = (d, d') := by simpa using hp
      rcases e with e | e | e <;> subst e
      · exact hr _ _ h4
      · exact hr _ _ h4'
      · exact hr _ _ h4''
    refine (pi_range3 gl hm pa (star_cons h3) (star_plain (by simp [List.all_cons, h3', h3'']))).wk fun σ H R ⟨m, S, ρ, s, r, g⟩ => ?_
    refine tevs_of s r g fun ds S1 m1 H1 vs st s1 r1 vds g1 => ?_
    obtain ⟨sr, e1, g2⟩ := g1.opt
    obtain ⟨i, j, q, rfl, hq, rfl⟩ := src3 e1
    obtain ⟨v, r', rfl, vd, v2, r2, rfl, vd2, v3, r3, rfl, vd3, e0⟩ := vds
    have e0 : r3 = [] := e0
    have vd : v = _ := vd
    have vd2 : v2 = _ := vd2
    have vd3 : v3 = _ := vd3
    subst e0 vd vd2 vd3
    exact ⟨i, j, q, _, rfl, hq, g2 m1 H1 _ st s1 srcJ_range⟩
  · rename_i e e'
    simp only [Bool.and_eq_true] at h
    exact pi_seq_ (hr _ _ h.2)
  · cases h
end
end Ev
set_option Elab.async false
set_option linter.all false
set_option maxRecDepth 100000
set_option maxHeartbeats 8000000
namespace Ev
open PySem PySem.Spec PyProof.Rows L2
/-- a target's reading -/
def gR (K : PySem.W.Frag) (tg : Tg) : TG := fun v σ H Q => ∃ m S ρ d ρ', Sto K m H S ∧ EnvR K m H σ ρ ∧ VD K m H d v ∧ asg tg d ρ = some ρ' ∧ ∀ σ', EnvR K m H σ' ρ' → (∀ i, i ∉ tgN tg → σ'[i]? = σ[i]?) → Q σ' H
def gRs (K : PySem.W.Frag) (ts : List Tg) : TGs := fun vs σ H Q => ∃ m S ρ ds ρ', Sto K m H S ∧ EnvR K m H σ ρ ∧ VDs K m H ds vs ∧ asg.asgs ts ds ρ = some ρ' ∧ ∀ σ', EnvR K m H σ' ρ' → (∀ i, i ∉ tgNs ts → σ'[i]? = σ[i]?) → Q σ' H
theorem _root_.L2.PG.wk {X : Cx} {e : Expr} {t t' : TG} (h : PG X e t) (f : ∀ v σ H Q, t' v σ H Q → t v σ H Q) : PG X e t' := ⟨fun p s σ H v u Q I r q => h.run p s σ H v u Q I r (f v σ H Q q)⟩
theorem _root_.L2.PGs.wk {X : Cx} {e : List Expr} {t t' : TGs} (h : PGs X e t) (f : ∀ v σ H Q, t' v σ H Q → t v σ H Q) : PGs X e t' := ⟨fun p s σ H v u Q I r q => h.run p s σ H v u Q I r (f v σ H Q q)⟩
theorem asg_cons {e : Expr} {es : List Expr} {env : PySem.Env} (h : noStar e = true) : assignEach (e :: es) env = (false, assign e env) :: assignEach es env := by
  cases e <;> first | rfl | cases h
theorem asg_len {env : PySem.Env} : ∀ {es : List Expr}, (assignEach es env).length = es.length
  | [] => rfl
  | e :: es => by
    have q : (assignEach (e :: es) env).length = (assignEach es env).length + 1 := by
      cases e <;> rfl
    rw [q, asg_len, List.length_cons]
theorem asg_find {env : PySem.Env} : ∀ {es : List Expr}, es.all noStar = true → (assignEach es env).findIdx? (·.1) = none
  | [], _ => rfl
  | e :: es, h => by
    rw [List.all_cons, Bool.and_eq_true] at h
    rw [asg_cons h.1, List.findIdx?_cons, asg_find h.2]
    rfl
section
variable {X : Cx} {c : Ck} {sc : Scope} {fc : Str → Bool}
theorem pgs_ok (hr : ∀ e t, chkT c sc fc k e t = true → PG X e (gR X.K t)) : ∀ {es : List Expr} {ts : List Tg}, es.length = ts.length → es.all noStar = true → ((es.zip ts).all fun p => chkT c sc fc k p.1 p.2) = true → PGs X es (gRs X.K ts)
  | [], [], _, _, _ => pgs_nil.wk fun vs σ H Q ⟨m, S, ρ, ds, ρ', s, r, vd, e, q⟩ => by
    cases ds with
    | nil =>
      cases e
      exact ⟨vd, q σ r fun _ _ => rfl⟩
    | cons _ _ => cases e
  | e :: es, t :: ts, hl, hs, hz => by
    rw [List.all_cons, Bool.and_eq_true] at hs
    rw [List.zip_cons_cons, List.all_cons, Bool.and_eq_true] at hz
    refine (pgs_cons (hr e t hz.1) (pgs_ok hr (Nat.succ.inj hl) hs.2 hz.2) (by rw [asg_cons hs.1]; rfl)).wk fun vs σ H Q ⟨m, S, ρ, ds, ρ', s, r, vd, ea, q⟩ => ?_
    cases ds with
    | nil => cases ea
    | cons d ds =>
      obtain ⟨v, rs, e1, vd1, vds⟩ := vd
      have ea : (match asg t d ρ with | some ρ' => asg.asgs ts ds ρ' | none => none) = some ρ' := ea
      cases e2 : asg t d ρ with
      | none =>
        rw [e2] at ea
        cases ea
      | some ρ1 =>
        rw [e2] at ea
        refine ⟨v, rs, e1, m, S, ρ, d, ρ1, s, r, vd1, e2, fun σ1 r1 k1 => ?_⟩
        refine ⟨m, S, ρ1, ds, ρ', s, r1, vds, ea, fun σ2 r2 k2 => q σ2 r2 fun i hi => ?_⟩
        have hi : i ∉ tgN t ++ tgNs ts := hi
        rw [List.mem_append, not_or] at hi
        rw [k2 i hi.2, k1 i hi.1]
  | [], _ :: _, hl, _, _ => by cases hl
  | _ :: _, [], hl, _, _ => by cases hl
theorem pg_ok (calm : X.calm = true) (hN : X.N = c.N) (nd : c.N.Nodup) (hsc : X.env.scope = sc) (hfc : ∀ x, fc x = true → X.fn x = true) : ∀ (n : Nat) (e : Expr) (t : Tg), chkT c sc fc n e t = true → PG X e (gR X.K t) := by
  intro n
  induction n with
  | zero =>
    intro e t h
    cases h
  | succ n ih =>
    intro e t h
    unfold chkT at h
    split at h
    · cases h
    · rename_i x p i e0
      obtain ⟨h1, h2⟩ := ba' h
      have hl : Loc X.env.scope x ∧ (X.fn x = true ∨ X.env.scope.names.lookup x = some .local) := by
        rw [hsc]
        unfold loc at h2
        split at h2
        · exact ⟨.inl (by assumption), .inr (by assumption)⟩
        · exact ⟨.inr (by assumption), .inl (hfc x h2)⟩
        · cases h2
      refine (pg_name (by rw [hN]; exact nd) (by rw [hN]; exact of_decide_eq_true h1) hl.1 hl.2).wk fun v σ H Q ⟨m, S, ρ, d, ρ', s, r, vd, ea, q⟩ => ?_
      unfold asg at ea
      split at ea
      · cases ea
        refine q _ (r.set vd) fun j hj => List.getElem?_set_ne fun e => hj ?_
        rw [e]
        exact List.mem_singleton.mpr rfl
      · cases ea
    · rename_i ts kk pp us e0
      cases e0
      simp only [Bool.and_eq_true, beq_iff_eq] at h
      obtain ⟨⟨h1, h2⟩, h3⟩ := h
      refine (pg_tup calm (pgs_ok ih h1 h2 h3) asg_len (asg_find h2)).wk fun v σ H Q ⟨m, S, ρ, d, ρ', s, r, vd, ea, q⟩ => ?_
      cases d with
      | tup ds =>
        obtain ⟨a, xs, rfl, q1, vds⟩ := vd
        have ea : asg.asgs us ds ρ = some ρ' := ea
        refine ⟨a, xs, rfl, q1, ?_, m, S, ρ, ds, ρ', s, r, vds, ea, q⟩
        rw [vds.length, h1]
        have len : ∀ (us : List Tg) (ds : List D) (ρ : Env), asg.asgs us ds ρ = some ρ' → ds.length = us.length := fun us => by
          induction us with
          | nil =>
            intro ds ρ ea
            cases ds with
            | nil => rfl
            | cons _ _ => cases ea
          | cons u us ih =>
            intro ds ρ ea
            cases ds with
            | nil => cases ea
            | cons d ds =>
              have ea : (match asg u d ρ with | some ρ' => asg.asgs us ds ρ' | none => none) = some ρ' := ea
              cases e2 : asg u d ρ with
              | none =>
                rw [e2] at ea
                cases ea
              | some ρ1 =>
                rw [e2] at ea
                rw [List.length_cons, List.length_cons, ih ds ρ1 ea]
        exact len us ds ρ ea
      | _ => cases ea
    · cases h
end
end Ev
set_option Elab.async false
set_option linter.all false
set_option maxRecDepth 100000
set_option maxHeartbeats 8000000
namespace Ev
open PySem PySem.Spec PyProof.Rows L2
/-! ### what a loop walks, by turns -/
def nxt : Src → Nat → Store → Option (Option D)
  | .items ds, i, _ => some ds[i]?
  | .ref n, i, S => match S[n]? with
    | some (.lst ds) => some ds[i]?
    | none => none
theorem nxt_ref {n i : Nat} {S : Store} {ds : List D} (e : S[n]? = some (.lst ds)) : nxt (.ref n) i S = some ds[i]? := by
  show (match S[n]? with
    | some (.lst ds) => some ds[i]?
    | none => none) = some ds[i]?
  rw [e]
theorem nxt_ref0 {n i : Nat} {S : Store} (e : S[n]? = none) : nxt (.ref n) i S = none := by
  show (match S[n]? with
    | some (.lst ds) => some ds[i]?
    | none => none) = none
  rw [e]
def compK (f : D → M (Option D)) (sc : Src) : Nat → Nat → List D → Store → Option (Rs (List D))
  | 0, _, _, _ => none
  | k + 1, i, acc, S => match nxt sc i S with
    | none => none
    | some none => some (.ok acc S)
    | some (some d) => match f d S with
      | some (.ok none S') => compK f sc k (i + 1) acc S'
      | some (.ok (some y) S') => if acc.length < sizeMax then compK f sc k (i + 1) (acc ++ [y]) S' else none
      | some (.ex x S') => some (.ex x S')
      | none => none
theorem drop_get {ds : List D} {i : Nat} {d : D} {r : List D} (h : ds.drop i = d :: r) : ds[i]? = some d ∧ ds.drop (i + 1) = r := by
  have h1 : (ds.drop i)[0]? = some d := by rw [h]; rfl
  rw [List.getElem?_drop] at h1
  refine ⟨h1, ?_⟩
  rw [← List.tail_drop, h]
  rfl
theorem compL_K {f : D → M (Option D)} {ds : List D} : ∀ (rest : List D) (i : Nat) (acc : List D) (S : Store), ds.drop i = rest → compK f (.items ds) (rest.length + 1) i acc S = compL f rest acc S
  | [], i, acc, S, h => by
    have e : ds[i]? = none := List.getElem?_eq_none (List.drop_eq_nil_iff.mp h)
    have nx : nxt (.items ds) i S = some none := by
      show some ds[i]? = _
      rw [e]
    unfold compK
    rw [nx]
    rfl
  | d :: r, i, acc, S, h => by
    obtain ⟨e, h2⟩ := drop_get h
    have ih := fun acc S => compL_K (f := f) r (i + 1) acc S h2
    have nx : nxt (.items ds) i S = some (some d) := by
      show some ds[i]? = _
      rw [e]
    unfold compK
    rw [nx]
    show _ = M.bind (f d) (fun o => match o with
      | none => compL f r acc
      | some y => if acc.length < sizeMax then compL f r (acc ++ [y]) else stuck) S
    unfold M.bind
    show (match f d S with
      | some (.ok none S') => compK f (.items ds) (r.length + 1) (i + 1) acc S'
      | some (.ok (some y) S') => if acc.length < sizeMax then compK f (.items ds) (r.length + 1) (i + 1) (acc ++ [y]) S' else none
      | some (.ex x S') => some (.ex x S')
      | none => none) = _
    cases e1 : f d S with
    | none => rfl
    | some q =>
      cases q with
      | ex x S' => rfl
      | ok o S' =>
        cases o with
        | none => exact ih acc S'
        | some y =>
          dsimp only
          by_cases hz : acc.length < sizeMax
          · rw [if_pos hz, if_pos hz]
            exact ih _ S'
          · rw [if_neg hz, if_neg hz]
            rfl
theorem compR_K {f : D → M (Option D)} {n : Nat} (i : Nat) (acc : List D) (S : Store) (r : Rs (List D)) (h : compR f n i acc S = some r) : ∃ k, compK f (.ref n) k i acc S = some r := by
  refine compR.partial_correctness f n (fun i acc S r => ∃ k, compK f (.ref n) k i acc S = some r) ?_ i acc S r h
  intro R ih i acc S r h
  cases e : S[n]? with
  | none =>
    rw [e] at h
    cases h
  | some o =>
    rw [e] at h
    cases o with
    | lst ds =>
      dsimp only at h
      have nx : nxt (.ref n) i S = some ds[i]? := nxt_ref e
      cases e1 : ds[i]? with
      | none =>
        rw [e1] at h nx
        refine ⟨1, ?_⟩
        unfold compK
        rw [nx]
        exact h
      | some d =>
        rw [e1] at h nx
        dsimp only at h
        cases e2 : f d S with
        | none =>
          rw [e2] at h
          cases h
        | some q =>
          rw [e2] at h
          cases q with
          | ex x S' =>
            refine ⟨1, ?_⟩
            unfold compK
            rw [nx]
            dsimp only
            rw [e2]
            exact h
          | ok o S' =>
            cases o with
            | none =>
              obtain ⟨k, q⟩ := ih _ _ _ _ h
              refine ⟨k + 1, ?_⟩
              unfold compK
              rw [nx]
              dsimp only
              rw [e2]
              exact q
            | some y =>
              dsimp only at h
              by_cases hz : acc.length < sizeMax
              · rw [if_pos hz] at h
                obtain ⟨k, q⟩ := ih _ _ _ _ h
                refine ⟨k + 1, ?_⟩
                unfold compK
                rw [nx]
                dsimp only
                rw [e2]
                dsimp only
                rw [if_pos hz]
                exact q
              · rw [if_neg hz] at h
                cases h
theorem compM_K {f : D → M (Option D)} {sc : Src} {S : Store} {φ : List D → Store → Prop} {ψ : Xn → Store → Prop} (h : Gd (compM f sc S) φ ψ) : ∃ k, Gd (compK f sc k 0 [] S) φ ψ := by
  cases sc with
  | items ds =>
    refine ⟨ds.length + 1, ?_⟩
    rw [compL_K ds 0 [] S (List.drop_zero)]
    exact h
  | ref n =>
    cases e : compM f (.ref n) S with
    | none =>
      rw [e] at h
      exact False.elim h
    | some r =>
      obtain ⟨k, q⟩ := compR_K 0 [] S r e
      exact ⟨k, by rw [q]; rw [e] at h; exact h⟩
theorem compK_step {f : D → M (Option D)} {sc : Src} {S : Store} {k i : Nat} {acc : List D} {φ : List D → Store → Prop} {ψ : Xn → Store → Prop} (h : Gd (compK f sc k i acc S) φ ψ) :
    (nxt sc i S = some none ∧ φ acc S) ∨ ∃ d k', k = k' + 1 ∧ nxt sc i S = some (some d) ∧ Gd (f d S) (fun o S' => match o with
      | none => Gd (compK f sc k' (i + 1) acc S') φ ψ
      | some y => acc.length < sizeMax ∧ Gd (compK f sc k' (i + 1) (acc ++ [y]) S') φ ψ) ψ := by
  cases k with
  | zero => exact False.elim h
  | succ k =>
    unfold compK at h
    cases e : nxt sc i S with
    | none =>
      rw [e] at h
      exact False.elim h
    | some o =>
      rw [e] at h
      cases o with
      | none => exact .inl ⟨rfl, h⟩
      | some d =>
        refine .inr ⟨d, k, rfl, rfl, ?_⟩
        dsimp only at h
        cases e2 : f d S with
        | none =>
          rw [e2] at h
          exact h
        | some q =>
          rw [e2] at h
          cases q with
          | ex x S' => exact h
          | ok o S' =>
            cases o with
            | none => exact h
            | some y =>
              dsimp only at h
              by_cases hz : acc.length < sizeMax
              · rw [if_pos hz] at h
                exact ⟨hz, h⟩
              · rw [if_neg hz] at h
                exact False.elim h
theorem Gd.noX {α : Type} {x : M α} {S : Store} {φ : α → Store → Prop} {ψ : Xn → Store → Prop} (h : Gd (Ev.noX x S) φ ψ) : Gd (x S) φ fun _ _ => False := by
  unfold Ev.noX at h
  cases e : x S with
  | none =>
    rw [e] at h
    exact h
  | some r =>
    rw [e] at h
    cases r with
    | ok a S' => exact h
    | ex _ _ => exact h
/-- what the iterator yields -/
theorem srcJ_nxt {K : PySem.W.Frag} {m m' : Am} {H H' : Hp} {S' : Store} {sc : Src} {J : It} {i : Nat} (j : SrcJ K m H sc J) (st : Stx m H m' H') (s : Sto K m' H' S') :
    (nxt sc i S' = some none → J.stop i H') ∧ ∀ d, nxt sc i S' = some (some d) → J.go i H' ∧ ∀ x H'', J.yld i H' x H'' → H'' = H' ∧ VD K m' H' d x := by
  cases sc with
  | items ds =>
    obtain ⟨j1, j2⟩ := j m' H' S' st s i
    refine ⟨fun e => j2 ?_, fun d e => ?_⟩
    · have e : ds[i]? = none := Option.some.inj e
      exact List.getElem?_eq_none_iff.mp e
    · have e : ds[i]? = some d := Option.some.inj e
      obtain ⟨g, y⟩ := j1 (List.getElem?_eq_some_iff.mp e).1
      refine ⟨g, fun x H'' yl => ?_⟩
      obtain ⟨d', e', eh, vd⟩ := y x H'' yl
      rw [e] at e'
      cases e'
      exact ⟨eh, eh ▸ vd⟩
  | ref n =>
    obtain ⟨a, ha, rfl⟩ := j
    have ha' := st.ix n a ha
    cases e1 : S'[n]? with
    | none => exact ⟨fun e => (by rw [nxt_ref0 e1] at e; cases e), fun d e => by rw [nxt_ref0 e1] at e; cases e⟩
    | some o =>
      cases o with
      | lst ds =>
        obtain ⟨xs, q1, q2⟩ := s.obj n a _ ha' e1
        rw [nxt_ref e1]
        refine ⟨fun e => ⟨xs, SqL.of q1, ?_⟩, fun d e => ?_⟩
        · have e : ds[i]? = none := Option.some.inj e
          rw [q2.length]
          exact List.getElem?_eq_none_iff.mp e
        · have e : ds[i]? = some d := Option.some.inj e
          obtain ⟨v, hv, vd⟩ := q2.get e
          refine ⟨⟨xs, v, SqL.of q1, hv⟩, fun x H'' y => ?_⟩
          obtain ⟨rfl, f⟩ := y
          have ex := f xs (SqL.of q1)
          rw [hv] at ex
          cases ex
          exact ⟨rfl, vd⟩
theorem wipe_eq {σ σ' : L2.St} (hl : σ'.length = σ.length) : ∀ (vs : List Nat), (∀ i, i ∉ vs → σ'[i]? = σ[i]?) → wipe σ' vs = wipe σ vs := by
  intro vs h
  have key : ∀ (σ : L2.St) (vs : List Nat) (i : Nat), (wipe σ vs)[i]? = if i ∈ vs then (if i < σ.length then some none else none) else σ[i]? := by
    intro σ vs i
    induction vs with
    | nil => simp [wipe]
    | cons v vs ih =>
      unfold wipe
      rw [List.getElem?_set]
      by_cases e : v = i
      · subst e
        simp [wipe_length]
      · rw [if_neg e, ih]
        have e' : i ≠ v := fun z => e z.symm
        simp [e']
  refine List.ext_getElem? fun i => ?_
  rw [key, key, hl]
  by_cases hi : i ∈ vs
  · simp [hi]
  · simp [hi, h i hi]
theorem wipe_wipe (σ : L2.St) (vs : List Nat) : wipe (wipe σ vs) vs = wipe σ vs := wipe_eq (wipe_length σ vs) vs fun i hi => wipe_out hi
theorem alen : ∀ (t : Tg) (d : D) (ρ ρ' : Env), asg t d ρ = some ρ' → ρ'.length = ρ.length := by
  intro t
  refine Tg.rec (motive_1 := fun t => ∀ (d : D) (ρ ρ' : Env), asg t d ρ = some ρ' → ρ'.length = ρ.length) (motive_2 := fun ts => ∀ (ds : List D) (ρ ρ' : Env), asg.asgs ts ds ρ = some ρ' → ρ'.length = ρ.length) ?_ ?_ ?_ ?_ t
  · intro i d ρ ρ' h
    unfold asg at h
    split at h
    · cases h
      exact List.length_set
    · cases h
  · intro ts ih d ρ ρ' h
    cases d with
    | tup ds => exact ih ds ρ ρ' h
    | _ => cases h
  · intro ds ρ ρ' h
    cases ds with
    | nil =>
      cases h
      rfl
    | cons _ _ => cases h
  · intro t ts ih1 ih2 ds ρ ρ' h
    cases ds with
    | nil => cases h
    | cons d ds =>
      have h : (match asg t d ρ with | some ρ' => asg.asgs ts ds ρ' | none => none) = some ρ' := h
      cases e2 : asg t d ρ with
      | none =>
        rw [e2] at h
        cases h
      | some ρ1 =>
        rw [e2] at h
        rw [ih2 ds ρ1 ρ' h, ih1 d ρ ρ1 e2]
section
variable {K : PySem.W.Frag} {mg : Str → Option Value} {W : WX} {call : Nat → List D → M D}
/-- a clause's tests -/
def ttvs (K : PySem.W.Frag) (mg : Str → Option Value) (W : WX) (call : Nat → List D → M D) (cs : List E) : TT := fun σ H Q => ∃ m S ρ, Sto K m H S ∧ EnvR K m H σ ρ ∧ Gd (evTs call cs ρ S) (OkB K m H Q) (ExW K mg m H fun c d H' => W c d σ H')
theorem comp_tLc {vs : List Nat} {tg : Tg} {k : Sk} {src conds : List E} {elt : E} {σ : L2.St} {H : Hp} {Q : VK} (ht : ∀ i ∈ tgN tg, i ∈ vs) (h : tev K mg W call (.comp vs tg k src conds elt) σ H Q) :
    tLc (tis K mg W call k src) (gR K tg) (ttvs K mg (fun _ _ _ _ => False) call conds) (tev K mg (fun _ _ _ _ => False) call elt) vs σ H Q := by
  obtain ⟨m, S, ρ, s, r, g⟩ := h
  have g : Gd (M.bind (evEs call src ρ) (fun ds => M.bind (opt (srcOf k ds)) fun sc =>
      M.bind (compM (fun d => match asg tg d (wipeD ρ vs) with
        | some ρ' => noX (M.bind (evTs call conds ρ') fun t => if t then M.bind (evE call elt ρ') fun y => M.pure (some y) else M.pure none)
        | none => stuck) sc) fun ds => M.pure (.lst ds)) S) (OkW K m H Q) (ExW K mg m H fun c d H' => W c d σ H') := g
  refine ⟨m, S, ρ, s, r, Gd.join (Gd.mono (Gd.bind g) (fun ds S1 g1 => ?_) fun _ _ z => z)⟩
  obtain ⟨sc, e1, g2⟩ := Gd.opt (Gd.bind g1)
  rw [e1]
  show ∀ m' H' J, Stp m H m' H' → Sto K m' H' S1 → SrcJ K m' H' sc J → _
  intro m1 H1 J st1 s1 j D hD
  generalize hf : (fun d => match asg tg d (wipeD ρ vs) with
        | some ρ' => noX (M.bind (evTs call conds ρ') fun t => if t then M.bind (evE call elt ρ') fun y => M.pure (some y) else M.pure none)
        | none => stuck) = f at g2
  have g3 : Gd (compM f sc S1) (fun ds S2 => OkW K m H Q (.lst ds) S2) (ExW K mg m H fun c d H' => W c d σ H') := Gd.mono (Gd.bind g2) (fun _ _ z => z) fun _ _ z => z
  obtain ⟨k0, g4⟩ := compM_K g3
  have hDp : D ∉ m1.p := fun z => s1.nin hD (.inr z)
  refine ⟨fun i k' H' => ∃ (m' : Am) (S' : Store) (accD : List Ev.D) (accV : List V), Sto K (m'.hold D) H' S' ∧ Stw (m1.hold D) (upd H1 D (.lst [])) (m'.hold D) H' ∧ (∀ a ∈ m1.p, H' a = H1 a) ∧ H' D = some (.lst accV) ∧ VDs K (m'.hold D) H' accD accV ∧
    Gd (compK f sc k' i accD S') (fun ds S2 => OkW K m H Q (.lst ds) S2) (ExW K mg m H fun c d H' => W c d σ H'), ⟨k0, m1, S1, [], [], s1.hold hD [], Stp.refl.toStw, fun a ha => ?_, upd_same, rfl, g4⟩, ?_⟩
  · have ne : a ≠ D := fun e => hDp (e ▸ ha)
    exact upd_ne ne
  · rintro i k' H' ⟨m', S', accD, accV, s', sw, pr, hDv, va, g5⟩
    have sx : Stx m1 H1 (m'.hold D) H' := (Stx.hold s1 hD _).trans sw.x
    have hmp : m'.p = m1.p := by
      obtain ⟨_, _, hq, _⟩ := sw.ext
      exact (List.cons_inj_right D).mp hq
    have st' : Stp m1 H1 m' H' := ⟨Stw.hold hD sw, pr⟩
    obtain ⟨n1, n2⟩ := srcJ_nxt (i := i) j sx s'
    rcases compK_step g5 with ⟨e, fin⟩ | ⟨d, k1, rfl, e, g6⟩
    · refine .inl ⟨n1 e, ?_⟩
      exact (fin : OkW K m H Q (.lst accD) S') m' H' (.ref D) (st1.trans st') s'.free ⟨D, accV, rfl, hDv, s'.pnin (by rw [hmp]; exact hDp), VDs.free _ _ va⟩
    · obtain ⟨go, yl⟩ := n2 d e
      refine .inr ⟨go, fun H2 => ∃ (m' : Am) (S' : Store) (accD : List Ev.D) (accV : List V), Sto K (m'.hold D) H2 S' ∧ Stw (m1.hold D) (upd H1 D (.lst [])) (m'.hold D) H2 ∧ (∀ a ∈ m1.p, H2 a = H1 a) ∧ H2 D = some (.lst accV) ∧ VDs K (m'.hold D) H2 accD accV ∧
        Gd (compK f sc k1 (i + 1) accD S') (fun ds S2 => OkW K m H Q (.lst ds) S2) (ExW K mg m H fun c d H' => W c d σ H'), fun H2 p => ⟨k1, Nat.lt_succ_self _, p⟩, fun x H'' y => ?_⟩
      obtain ⟨rfl, vd⟩ := yl x H'' y
      rw [← hf] at g6
      dsimp only at g6
      cases ea : asg tg d (wipeD ρ vs) with
      | none =>
        rw [ea] at g6
        exact False.elim g6
      | some ρ' =>
        rw [ea] at g6
        rw [hf] at g6
        dsimp only at g6
        have er : EnvR K (m'.hold D) H'' (wipe σ vs) (wipeD ρ vs) := (EnvR.monox s1 sx (r.mono s st1)).wipe vs
        refine ⟨m'.hold D, S', wipeD ρ vs, d, ρ', s', er, vd, ea, fun σ2 r2 k2 => ⟨?_, ?_⟩⟩
        · have hl : σ2.length = (wipe σ vs).length := by
            rw [← r2.1, alen tg d _ _ ea]
            exact er.1
          rw [← wipe_wipe σ vs]
          exact wipe_eq hl vs fun i hi => k2 i fun z => hi (ht i z)
        · have g7 := Gd.bind g6.noX
          refine ⟨m'.hold D, S', ρ', s', r2, g7.mono (fun b S3 g8 m3 H3 st3 s3 => ?_) fun _ _ z => False.elim z⟩
          have hp3 : m3.p = D :: m'.p := by
            obtain ⟨_, _, hq, _⟩ := st3.ext
            exact hq
          have em3 : m3 = (Am.mk m3.l m'.p).hold D := by
            cases m3
            unfold Am.hold
            dsimp only at hp3 ⊢
            rw [hp3]
          generalize hm4 : Am.mk m3.l m'.p = m4 at em3
          subst em3
          have hp4 : m4.p = m'.p := by rw [← hm4]
          have hD3 : H3 D = some (.lst accV) := (st3.pro D List.mem_cons_self).trans hDv
          have sw3 := sw.trans st3.toStw
          have pr3 : ∀ a ∈ m1.p, H3 a = H1 a := fun a ha => (st3.pro a (List.mem_cons_of_mem _ (by rw [hmp]; exact ha))).trans (pr a ha)
          cases b with
          | false =>
            exact ⟨m4, S3, accD, accV, s3, sw3, pr3, hD3, VDs.mono s' st3 _ _ va, g8⟩
          | true =>
            refine (⟨m4.hold D, S3, ρ', s3, r2.mono s' st3, (Gd.bind g8).mono (fun y S4 g9 m5 H4 v st4 s4 vy => ?_) fun _ _ z => False.elim z⟩ : tev K mg (fun _ _ _ _ => False) call elt σ2 H3 _)
            obtain ⟨hz, g9⟩ := g9
            have hp5 : m5.p = D :: m4.p := by
              obtain ⟨_, _, hq, _⟩ := st4.ext
              exact hq
            have em5 : m5 = (Am.mk m5.l m4.p).hold D := by
              cases m5
              unfold Am.hold
              dsimp only at hp5 ⊢
              rw [hp5]
            generalize hm6 : Am.mk m5.l m4.p = m6 at em5
            subst em5
            have hp6 : m6.p = m4.p := by rw [← hm6]
            have hD4 : H4 D = some (.lst accV) := (st4.pro D List.mem_cons_self).trans hD3
            have va4 := VDs.mono s3 st4 _ _ (VDs.mono s' st3 _ _ va)
            obtain ⟨w1, w2⟩ := s4.wrote (by rw [hp6, hp4, hmp]; exact hDp) (accV ++ [v])
            refine ⟨accV, hD4, by rw [va4.length, ← sm_eq]; exact hz, m6, S4, accD ++ [y], accV ++ [v], w2, (sw3.trans st4.toStw).trans w1, fun a ha => ?_, upd_same, VDs.monow s4 w1 _ _ (va4.append (VDs.one vy)), g9⟩
            have ne : a ≠ D := fun e => hDp (e ▸ ha)
            rw [upd_ne ne]
            exact (st4.pro a (List.mem_cons_of_mem _ (by rw [hp4, hmp]; exact ha))).trans (pr3 a ha)
end
end Ev
set_option Elab.async false
set_option linter.all false
set_option maxRecDepth 100000
set_option maxHeartbeats 8000000
namespace Ev
open PySem PySem.Spec PyProof.Rows L2
section
variable {X : Cx} {c : Ck} {sc : Scope} {fc : Str → Bool} {k : Nat} {call : Nat → List D → M D} {W : WX}
theorem ge_var {x : Str} {p : Pos} {i : Nat} (kx : Kx X c sc fc k call W) (h1 : vis sc x = true) (h2 : c.N[i]? = some x) (h3 : plainName x = true) : SE X W call (.Name x p) (.var i) := by
  obtain ⟨n1, n2, n3⟩ := plain_ok h3
  refine SE.of ((pe_var (i := i) (by rw [kx.N]; exact h2) (by rw [kx.sc]; exact vis_ok h1) n1 n2).wk fun σ H Q ⟨m, S, ρ, s, r, g⟩ => ?_) rfl
  have g : Gd ((match ρ[i]? with
    | some (some d) => M.pure d
    | _ => stuck) S) (OkW X.K m H Q) (ExW X.K X.mg m H fun c d H' => W c d σ H') := g
  cases e : ρ[i]? with
  | none =>
    rw [e] at g
    exact False.elim g
  | some o =>
    rw [e] at g
    cases o with
    | none => exact False.elim g
    | some d =>
      obtain ⟨v, h1, vd⟩ := r.2 i d e
      exact ⟨v, h1, (g : OkW X.K m H Q d S) m H v Stp.refl s vd⟩
theorem ge_con {e : Expr} {d : D} {v : V} (h : PE X e (tC v)) (p : plainTest e = true) (vd : ∀ K m H, VD K m H d v) : SE X W call e (.c d) :=
  SE.of (h.wk fun σ H Q ⟨m, S, ρ, s, r, g⟩ => (g : OkW X.K m H Q d S) m H v Stp.refl s (vd _ _ _)) p
theorem ge_glob {x : Str} {p : Pos} {d : D} (kx : Kx X c sc fc k call W) (h1 : glb sc x = true) (h2 : flatD d = true) (h3 : plainName x = true) (h4 : (match c.cs.lookup x with | some d' => sameD d' d | none => false) = true) : SE X W call (.Name x p) (.c d) := by
  obtain ⟨n1, n2, n3⟩ := plain_ok h3
  cases e : c.cs.lookup x with
  | none =>
    rw [e] at h4
    cases h4
  | some d' =>
    rw [e] at h4
    cases sameD_eq h4
    obtain ⟨v, u, e1, r, vd⟩ := kx.cs x d e h2
    exact ge_con (pe_glob (glb_ok kx.sc h1) e1 r n1) rfl vd
theorem ge_const {q : Const} {j : Nat} {p : Pos} {d : D} (h : constD q d = true) : SE X W call (.Constant q j p) (.c d) := by
  unfold constD at h
  split at h
  · cases of_decide_eq_true h
    exact ge_con pe_int rfl fun _ _ _ => rfl
  · cases eq_of_beq h
    exact ge_con pe_bl rfl fun _ _ _ => rfl
  · exact ge_con pe_non rfl fun _ _ _ => rfl
  · cases of_decide_eq_true h
    exact ge_con pe_str rfl fun _ _ _ => rfl
  · cases h
theorem ge_neg {a : Expr} {a' : E} {p : Pos} (ha : GE X W call a a') : SE X W call (.UnaryOp .USub a p) (.neg a') := by
  refine SE.of ((pe_un un_neg ha).wk fun σ H Q ⟨m, S, ρ, s, r, g⟩ => ?_) rfl
  refine tev_of s r g fun d S1 m1 H1 v st1 s1 r1 vd g1 => ?_
  cases d with
  | int i =>
    have vd : v = _ := vd
    exact ⟨i, vd, (g1 : OkW X.K m H Q (.int (-i)) S1) m1 H1 _ st1 s1 rfl⟩
  | _ => exact False.elim g1
theorem zip_ok {es : List Expr} {us : List E} {f : Expr → E → Bool} (h : ((es.zip us).all fun p => f p.1 p.2) = true) (g : ∀ e u, f e u = true → GE X W call e u) : ∀ p ∈ es.zip us, GE X W call p.1 p.2 := fun p hp => g _ _ (List.all_eq_true.mp h p hp)
/-- what such an expression gives, whatever the heap -/
theorem mild_ok {e : Expr} {e' : E} (kx : Kx X c sc fc k call W) (h : chkM c sc e e' = true) : ∃ t : TE, PE X e t ∧ ∀ (m : Am) (H H' : Hp) (σ : L2.St) (S : Store) (ρ : Env) (d : D) (S' : Store) (Q : VK), EnvR X.K m H σ ρ → evE call e' ρ S = some (.ok d S') → S' = S ∧ ((∀ v, Q v H') → t σ H' Q) := by
  unfold chkM at h
  split at h
  · rename_i x p i
    simp only [Bool.and_eq_true, decide_eq_true_eq] at h
    obtain ⟨⟨h1, h2⟩, h3⟩ := h
    obtain ⟨n1, n2, n3⟩ := plain_ok h3
    refine ⟨_, pe_var (i := i) (by rw [kx.N]; exact h2) (by rw [kx.sc]; exact vis_ok h1) n1 n2, fun m H H' σ S ρ d S' Q r e => ?_⟩
    have e : (match ρ[i]? with
      | some (some d) => M.pure d
      | _ => stuck) S = some (.ok d S') := e
    cases e1 : ρ[i]? with
    | none =>
      rw [e1] at e
      cases e
    | some o =>
      rw [e1] at e
      cases o with
      | none => cases e
      | some d0 =>
        cases e
        obtain ⟨v, hv, _⟩ := r.2 i d e1
        exact ⟨rfl, fun q => ⟨v, hv, q v⟩⟩
  · rename_i q j p d
    have con : ∀ {v : V} {e : Expr}, PE X e (tC v) → ∃ t : TE, PE X e t ∧ ∀ (m : Am) (H H' : Hp) (σ : L2.St) (S : Store) (ρ : Env) (d' : D) (S' : Store) (Q : VK), EnvR X.K m H σ ρ → evE call (.c d) ρ S = some (.ok d' S') → S' = S ∧ ((∀ v, Q v H') → t σ H' Q) := fun {v e} h => ⟨_, h, fun m H H' σ S ρ d' S' Q r e => by
      cases e
      exact ⟨rfl, fun q => q v⟩⟩
    unfold constD at h
    split at h
    · exact con pe_int
    · exact con pe_bl
    · exact con pe_non
    · exact con pe_str
    · cases h
  · cases h
theorem pps_ok (kx : Kx X c sc fc k call W) {pos : Pos} : ∀ {keys : List (Option Expr)} {values : List Expr} {es : List E}, keys.all isCon = true → keys.length = values.length → values.length = es.length → ((values.zip es).all fun p => chkM c sc p.1 p.2) = true →
    ∃ trs, PPs X pos keys values trs ∧ ∀ (m : Am) (H : Hp) (σ : L2.St) (S : Store) (ρ : Env) (ds : List D) (S' : Store) (Q : List (V × V) → Hp → Prop), EnvR X.K m H σ ρ → evEs call es ρ S = some (.ok ds S') → S' = S ∧ ∀ H', (∀ ps : List (V × V), (∃ kvs : List (Key × V), ps = kvs.map (fun kv => (kV kv.1, kv.2)) ∧ kvs.length = keys.length) → Q ps H') → tPairs trs σ H' Q
  | [], [], [], _, _, _, _ => ⟨[], pps_nil, fun m H σ S ρ ds S' Q r e => by
    cases e
    exact ⟨rfl, fun H' q => q [] ⟨[], rfl, rfl⟩⟩⟩
  | key :: keys, v :: values, u :: es, h1, h2, h3, h4 => by
    rw [List.all_cons, Bool.and_eq_true] at h1
    rw [List.zip_cons_cons, List.all_cons, Bool.and_eq_true] at h4
    obtain ⟨trs, p1, p2⟩ := pps_ok kx (keys := keys) (values := values) (es := es) h1.2 (Nat.succ.inj h2) (Nat.succ.inj h3) h4.2
    obtain ⟨t, q1, q2⟩ := mild_ok kx h4.1
    have hk := h1.1
    unfold isCon at hk
    split at hk
    · rename_i x j p
      refine ⟨_, pps_cons pe_str q1 p1, fun m H σ S ρ ds S' Q r e => ?_⟩
      have e : M.bind (evE call u ρ) (fun d => M.bind (evEs call es ρ) fun ds => M.pure (d :: ds)) S = some (.ok ds S') := e
      unfold M.bind at e
      split at e
      · rename_i d S1 e1
        dsimp only at e
        split at e
        · rename_i ds2 S2 e2
          cases e
          obtain ⟨rfl, f1⟩ := q2 m H H σ S ρ d _ (fun _ _ => True) r e1
          obtain ⟨rfl, f2⟩ := p2 m H σ _ ρ ds2 _ (fun ps H' => True) r e2
          refine ⟨rfl, fun H' hq => ?_⟩
          refine (q2 m H H' σ _ ρ d _ _ r e1).2 fun v => ?_
          refine (p2 m H σ _ ρ ds2 _ _ r e2).2 H' fun ps hps => ?_
          obtain ⟨kvs, rfl, hl⟩ := hps
          exact hq _ ⟨(.inr x, v) :: kvs, rfl, by rw [List.length_cons, List.length_cons, hl]⟩
        · cases e
        · cases e
      · cases e
      · cases e
    · cases hk
theorem con_some {keys : List (Option Expr)} (h : keys.all isCon = true) : keys.all (·.isSome) = true := by
  rw [List.all_eq_true] at h ⊢
  intro x hx
  have := h x hx
  unfold isCon at this
  split at this
  · rfl
  · cases this
theorem ge_dic {keys : List (Option Expr)} {values : List Expr} {es : List E} {pos : Pos} (kx : Kx X c sc fc k call W) (h1 : keys.all isCon = true) (h0 : keys.isEmpty = false) (h15 : keys.length ≤ 15) (h2 : keys.length = values.length) (h3 : values.length = es.length)
    (h4 : ((values.zip es).all fun p => chkM c sc p.1 p.2) = true) : GE X W call (.Dict keys values pos) (.dic es) := by
  obtain ⟨trs, p1, p2⟩ := pps_ok kx (pos := pos) h1 h2 h3 h4
  refine (pe_disp p1 (con_some h1) h2 (fun z => by rw [z] at h0; cases h0) h15).wk fun σ H Q ⟨m, S, ρ, s, r, g⟩ => ?_
  have g : Gd (M.bind (evEs call es ρ) (fun _ => M.pure .dic) S) (OkW X.K m H Q) (ExW X.K X.mg m H fun c d H' => W c d σ H') := g
  intro p hp
  cases e : evEs call es ρ S with
  | none =>
    have g := Gd.bind g
    rw [e] at g
    exact False.elim g
  | some q =>
    cases q with
    | ex x S' =>
      exfalso
      have ne : ∀ (es : List E) (vs : List Expr) (S : Store) (x : Xn) (S' : Store), vs.length = es.length → ((vs.zip es).all fun p => chkM c sc p.1 p.2) = true → evEs call es ρ S ≠ some (.ex x S') := by
        intro es
        induction es with
        | nil =>
          intro vs S x S' _ _ h
          cases h
        | cons u us ih =>
          intro vs S x S' hl hz h
          cases vs with
          | nil => cases hl
          | cons v vs =>
            rw [List.zip_cons_cons, List.all_cons, Bool.and_eq_true] at hz
            have h : M.bind (evE call u ρ) (fun d => M.bind (evEs call us ρ) fun ds => M.pure (d :: ds)) S = some (.ex x S') := h
            unfold M.bind at h
            split at h
            · dsimp only at h
              split at h
              · cases h
              · rename_i e2
                exact ih vs _ _ _ (Nat.succ.inj hl) hz.2 e2
              · cases h
            · rename_i e1
              have hm := hz.1
              have nx : ∀ (v : Expr) (u : E) (S : Store) (y : Xn) (S' : Store), chkM c sc v u = true → evE call u ρ S ≠ some (.ex y S') := fun v u S y S' hm h => by
                unfold chkM at hm
                split at hm
                · rename_i i
                  have h : (match ρ[i]? with
                    | some (some d) => M.pure d
                    | _ => stuck) S = some (.ex y S') := h
                  cases e2 : ρ[i]? with
                  | none =>
                    rw [e2] at h
                    cases h
                  | some o =>
                    rw [e2] at h
                    cases o <;> cases h
                · cases h
                · cases hm
              exact absurd e1 (nx v u _ _ _ hm)
            · cases h
      exact ne es values S x S' h3 h4 e
    | ok ds S1 =>
      obtain ⟨rfl, f⟩ := p2 m H σ S ρ ds S1 _ r e
      have g := Gd.bind g
      rw [e] at g
      refine f _ fun ps hps => ?_
      obtain ⟨kvs, e1, hl⟩ := hps
      refine ⟨upd_same, kvs, e1, by rw [hl]; exact h15, ?_⟩
      rw [upd_upd]
      exact (g : OkW X.K m H Q .dic _) m _ (.ref p) (Stp.fresh s hp) (s.fresh hp) ⟨p, _, rfl, upd_same⟩
theorem own_ok {N : List Str} : ∀ {vs : List Nat} {own : List (Str × Nat)}, ownOf N vs = some own → own.map (·.2) = vs
  | [], own, h => by
    cases h
    rfl
  | i :: r, own, h => by
    unfold ownOf at h
    split at h
    · cases h
      rename_i o _ e
      rw [List.map_cons, own_ok e]
    · cases h
/-- the context of a block -/
theorem Kx.blk (kx : Kx X c sc fc k call W) (s : Shared) (H : Hp) (scope : Scope) (C : Addr) (cl : List (Str × Addr)) (fp : List Addr) :
    Kx (X.blk s H scope (compEnvC scope cl C X.env) fp) c (relSc scope sc) (fun x => scope.names.lookup x == some .cell) k call (fun _ _ _ _ => False) where
  calm := kx.calm
  N := kx.N
  nd := kx.nd
  sc := by
    show relS scope X.env.scope = _
    rw [kx.sc]
    rfl
  fc := fun x h => h
  room := kx.room
  guards := kx.guards
  own := PassesOwn.never
  tk := fun u s' ⟨a, B, sI, pins, σ, H, cls, d, e, I, nb, up, sky, na, os, ag, w⟩ => w
  free := kx.free
  cs := kx.cs
  calls := kx.calls
theorem ge_comp {elt tg iter : Expr} {ifs : List Expr} {scope : Scope} {pos : Pos} {vs : List Nat} {tg' : Tg} {kd : Sk} {src conds : List E} {elt' : E} {own : List (Str × Nat)} {n : Nat} (kx : Kx X c sc fc k call W)
    (ho : ownOf c.N vs = some own) (hb : blkC c.N sc scope own = true) (hi : PI X tg iter (tis X.K X.mg W call kd src)) (hs : ∀ x, foldedSetIterable iter X.env x = pure x)
    (ht : chkT c (relSc scope sc) (fun x => scope.names.lookup x == some .cell) n tg tg' = true) (hv : ∀ i ∈ tgN tg', i ∈ vs)
    (hc : ∀ (s : Shared) (H : Hp) (C : Addr) (cl : List (Str × Addr)) (fp : List Addr), PTs (X.blk s H scope (compEnvC scope cl C X.env) fp) ifs (ttvs X.K X.mg (fun _ _ _ _ => False) call conds))
    (he : ∀ (s : Shared) (H : Hp) (C : Addr) (cl : List (Str × Addr)) (fp : List Addr), PE (X.blk s H scope (compEnvC scope cl C X.env) fp) elt (tev X.K X.mg (fun _ _ _ _ => False) call elt')) :
    SE X W call (.ListComp elt [⟨tg, iter, ifs, 0⟩] scope pos) (.comp vs tg' kd src conds elt') := by
  have ok : BlkOk X.N X.env.scope scope own := by
    rw [kx.N, kx.sc]
    exact blkOk_by hb
  refine SE.of ((pe_lc (g := gR X.K tg') kx.calm (by rw [kx.N]; exact kx.nd) hi ok (fun s H C cl fp => ?_) hc he hs).wk fun σ H Q h => ?_) rfl
  · have kb := kx.blk s H scope C cl fp
    exact pg_ok kb.calm kb.N kb.nd kb.sc kb.fc n tg tg' ht
  · rw [own_ok ho]
    exact comp_tLc hv h
end
theorem chkI_fold {c : Ck} {sc : Scope} {rec : Expr → E → Bool} {tg iter : Expr} {kd : Sk} {src : List E} {env : PySem.Env} (h : chkI c sc rec tg iter kd src = true) : ∀ x, foldedSetIterable iter env x = pure x := by
  unfold chkI at h
  split at h
  · exact fun _ => rfl
  · exact fun _ => rfl
  · exact fun _ => rfl
  · exact fold_plain (ba' h).1
  · cases h
theorem ttvs_nil {K : PySem.W.Frag} {mg : Str → Option Value} {W : WX} {call : Nat → List D → M D} {σ : L2.St} {H : Hp} {Q : Bool → Hp → Prop} (h : ttvs K mg W call [] σ H Q) : Q true H := by
  obtain ⟨m, S, ρ, s, r, g⟩ := h
  exact (g : OkB K m H Q true S) m H Stp.refl s
theorem pts_ok {X : Cx} {W : WX} {call : Nat → List D → M D} {rec : Expr → E → Bool} {ifs : List Expr} {conds : List E} (h : (match ifs, conds with
        | [], [] => true
        | [i], [i'] => testable i && rec i i'
        | _, _ => false) = true) (hr : ∀ i i', testable i = true → rec i i' = true → PT X i (ttv X.K X.mg W call i')) : PTs X ifs (ttvs X.K X.mg W call conds) := by
  split at h
  · exact ⟨fun pins s σ H Q I q => pts_nil.run pins s σ H Q I (ttvs_nil q)⟩
  · rename_i i i'
    obtain ⟨h1, h2⟩ := ba' h
    refine ⟨fun pins s σ H Q I q => (pts_one (hr _ _ h1 h2)).run pins s σ H Q I ?_⟩
    obtain ⟨m, S, ρ, st, r, g⟩ := q
    have g : Gd (M.bind (evE call i' ρ) (fun d => M.bind (truM d) fun t => if t then M.pure true else M.pure false) S) (OkB X.K m H Q) (ExW X.K X.mg m H fun c d H' => W c d σ H') := g
    refine ⟨m, S, ρ, st, r, Gd.join (Gd.mono (Gd.bind g) (fun d S1 g1 => ?_) fun _ _ z => z)⟩
    obtain ⟨t, e, g2⟩ := truM_of g1
    show Gd (truM d S1) _ _
    unfold truM
    rw [e]
    cases t with
    | true => exact g2
    | false => exact g2
  · cases h
theorem e_ok {c : Ck} {k : Nat} {call : Nat → List D → M D} : ∀ (n : Nat) {X : Cx} {sc : Scope} {fc : Str → Bool} {W : WX} {e : Expr} {e' : E}, Kx X c sc fc k call W → chkE c n sc e e' = true → SE X W call e e' := by
  intro n
  induction n with
  | zero =>
    intro X sc fc W e e' kx h
    cases h
  | succ n ih =>
    intro X sc fc W e e' kx h
    have ihv : ∀ e e', chkE c n sc e e' = true → GE X W call e e' := fun e e' h => (ih kx h).val
    unfold chkE at h
    split at h
    all_goals first | (cases h; done) | skip
    all_goals first | (rename_i e0; cases e0; done) | (rename_i e0; cases e0) | (rename_i e0 _; cases e0)
    all_goals try simp only [Bool.and_eq_true, decide_eq_true_eq, beq_iff_eq] at h
    · exact ge_var kx h.1.1 h.1.2 h.2
    · exact ge_glob kx h.1.1.1 h.1.1.2 h.1.2 h.2
    · exact ge_const h
    · obtain ⟨⟨rfl, h2⟩, h3⟩ := h
      exact SE.of (ge_bin (ihv _ _ h2) (ihv _ _ h3)) rfl
    · exact ge_neg (ihv _ _ h)
    · exact ge_not (ihv _ _ h.1) ((ih kx h.1).test h.2)
    · exact ge_and (ihv _ _ h.1.1) ((ih kx h.1.1).test h.1.2) (ih kx h.2)
    · exact ge_or (ihv _ _ h.1.1) ((ih kx h.1.1).test h.1.2) (ih kx h.2)
    · exact ge_one (ihv _ _ h.1) ((ih kx h.1).test h.2)
    · refine ⟨ge_if ((ih kx h.1.1.1).test h.1.1.2) (ihv _ _ h.1.2) (ihv _ _ h.2), fun z => (by cases z), fun z => by cases z⟩
    · obtain ⟨⟨⟨rfl, h2⟩, h3⟩, h4⟩ := h
      exact ge_cmp kx h2 (ihv _ _ h3) (ihv _ _ h4)
    · obtain ⟨⟨⟨⟨⟨rfl, rfl⟩, h2⟩, h3⟩, h4⟩, h5⟩ := h
      exact ge_chain kx h2 (ihv _ _ h3) (ihv _ _ h4) (ihv _ _ h5)
    · obtain ⟨⟨⟨h1, h2⟩, h3⟩, h4⟩ := h
      exact SE.of (ge_tup (tevs_pa h1 h3 (zip_ok h4 ihv)) (h1 ▸ h2)) rfl
    · obtain ⟨⟨⟨h1, h2⟩, h3⟩, h4⟩ := h
      exact SE.of (ge_lst (tevs_pa h1 h3 (zip_ok h4 ihv)) (h1 ▸ h2)) rfl
    · obtain ⟨⟨⟨h1, h2⟩, h3⟩, h4⟩ := h
      exact SE.of (ge_new (tevs_pa h1 h3 (zip_ok h4 ihv)) (h1 ▸ h2)) rfl
    · obtain ⟨⟨h1, h2⟩, h3⟩ := h
      refine SE.of (ge_sl (ihv _ _ h1) (po_any ?_) (po_any ?_)) rfl
      · split at h2
        · exact Bool.not_eq_true' _ ▸ h2
        · exact ⟨(ba' h2).1, ihv _ _ (ba' h2).2⟩
      · split at h3
        · exact Bool.not_eq_true' _ ▸ h3
        · exact ⟨(ba' h3).1, ihv _ _ (ba' h3).2⟩
    · exact SE.of (ge_idx h.1.1 (ihv _ _ h.1.2) (ihv _ _ h.2)) rfl
    · obtain ⟨⟨⟨⟨⟨h1, h2⟩, h3⟩, h4⟩, h5⟩, h6⟩ := h
      exact SE.of (ge_call kx h1 h2 (kx.calls _ _ _ h3) rfl h4 h5 (tevs_pa h4 h5 (zip_ok h6 ihv))) rfl
    · obtain ⟨⟨⟨⟨⟨h1, h2⟩, h3⟩, h4⟩, h5⟩, h6⟩ := h
      exact SE.of (bi_ok kx h2 h3 h1 h4 h5 (zip_ok h6 ihv)) rfl
    · obtain ⟨⟨⟨⟨⟨h1, h2⟩, h3⟩, h4⟩, h5⟩, h6⟩ := h
      exact SE.of (ge_isi kx h1 h2 h3 h4 h5 (ihv _ _ h6)) rfl
    · obtain ⟨⟨⟨⟨⟨⟨⟨h1, h2⟩, h3⟩, h4⟩, h5⟩, h6⟩, h7⟩, h8⟩ := h
      exact SE.of (ge_meth h1 h2 (by rw [h3]; exact beq_self_eq_true _) h4 h6 h5 (ihv _ _ h7) (tevs_pa h4 h6 (zip_ok h8 ihv))) rfl
    · obtain ⟨⟨⟨⟨⟨h1, h2⟩, h3⟩, h4⟩, h5⟩, h6⟩ := h
      exact SE.of (ge_dic kx h1 (by simpa using h2) h3 h4 h5 h6) rfl
    · obtain ⟨⟨⟨⟨⟨h1, h2⟩, h3⟩, h4⟩, h5⟩, h6⟩ := h
      split at h1
      · rename_i own e1
        have hv : ∀ i ∈ tgN _, i ∈ _ := fun i hi => List.contains_iff_mem.mp (List.all_eq_true.mp h4 i hi)
        refine ge_comp kx e1 h1 (pi_ok kx ihv h2) ?_ h3 hv (fun s H C cl fp => ?_) (fun s H C cl fp => ?_)
        · exact chkI_fold h2
        · exact pts_ok h5 fun i i' h7 h8 => (ih (kx.blk s H _ C cl fp) h8).test h7
        · exact (ih (kx.blk s H _ C cl fp) h6).val
      · cases h1
    · exact ⟨⟨fun p s σ H Q I ⟨m, S, ρ, st, r, g⟩ => False.elim g⟩, fun _ => ⟨fun p s σ H Q I ⟨m, S, ρ, st, r, g⟩ => False.elim g⟩, fun _ => ⟨fun w p s σ H Q I ⟨m, S, ρ, st, r, g⟩ => False.elim g⟩⟩
end Ev
set_option Elab.async false
set_option linter.all false
set_option maxRecDepth 100000
set_option maxHeartbeats 8000000
namespace Ev
open PySem PySem.Spec PyProof.Rows L2
def isNm : Expr → Bool
  | .Name _ _ => true
  | _ => false
/-- a store that is not swapped -/
def noSwap : Expr → Expr → Bool
  | .Tuple ts _ _, .Tuple vs _ _ => !(ts.length == 2 || ts.length == 3) || vs.length != ts.length || vs.all (foldedForSure 8) || !(ts.all isNm)
  | .List _ _, _ => false
  | _, _ => true
theorem fm_len {α β : Type} {f : α → Option β} {p : α → Bool} (hf : ∀ a, p a = false → f a = none) : ∀ {l : List α}, (l.all p) = false → (l.filterMap f).length < l.length
  | [], h => by cases h
  | a :: l, h => by
    rw [List.all_cons] at h
    cases e : p a with
    | false =>
      rw [List.filterMap_cons, hf a e]
      exact Nat.lt_succ_of_le (List.length_filterMap_le f l)
    | true =>
      rw [e, Bool.true_and] at h
      have ih := fm_len hf h
      rw [List.filterMap_cons]
      cases f a with
      | none => exact Nat.lt_succ_of_lt ih
      | some b =>
        rw [List.length_cons, List.length_cons]
        omega
theorem sw_none {tg e : Expr} {env : PySem.Env} (h : noSwap tg e = true) : swappedStores [tg] e env = pure none := by
  unfold noSwap at h
  split at h
  · rename_i ts _ _ vs _ _
    unfold swappedStores
    dsimp only
    simp only [Bool.or_eq_true, Bool.not_eq_true'] at h
    split
    · rfl
    · rename_i h1
      split
      · rfl
      · split
        · rfl
        · rename_i h3
          split
          · rfl
          · rename_i h4
            exfalso
            rcases h with ((h | h) | h) | h
            · exact h1 (by rw [h]; rfl)
            · exact h1 (by rw [h]; simp)
            · exact h4 h
            · refine h3 ?_
              have q := fm_len (f := fun (x : Expr) => match x with
                | .Name id pos => if env.kindOf id == some .local && pos.line == (ts.head?.map (·.pos.line)).getD 0 then some id else none
                | _ => none) (fun a ha => by cases a <;> first | rfl | cases ha) h
              have q' : _ ≠ ts.length := Nat.ne_of_lt q
              simp only [Bool.or_eq_true, bne_iff_ne, ne_eq]
              exact .inl q'
  · cases h
  · rename_i n2 n1
    cases tg with
    | Tuple ts q1 q2 =>
      cases e with
      | Tuple vs q3 q4 => exact absurd rfl (n1 ts q1 q2 vs q3 q4 rfl)
      | _ => rfl
    | List ts q1 => exact absurd rfl (n2 ts q1)
    | _ => rfl
/-- two local names, stored from the right -/
theorem sw_two {x y : Str} {px py pt pt2 : Pos} {a b : Expr} {kt k2 : Nat} {env : PySem.Env} (hk : env.scope.kind = .function) (hx : env.scope.names.lookup x = some .local) (hy : env.scope.names.lookup y = some .local) (hl : (py.line == px.line) = true) (hxy : x ≠ y)
    (hs : [a, b].all noStar = true) (h1 : [a, b].all (foldedForSure 8) = false) (h2 : [a, b].all (constantsAlone 8) = false) :
    swappedStores [.Tuple [.Name x px, .Name y py] kt pt] (.Tuple [a, b] k2 pt2) env = pure (some [x, y]) := by
  have bk : env.blockKind = .function := by
    unfold Env.blockKind
    rw [hk]
    rfl
  have kx : env.kindOf x = some .local := hx
  have ky : env.kindOf y = some .local := hy
  have ed : ([x, y].eraseDups).length = 2 := by
    have e : (y == x) = false := by simpa using fun z : y = x => hxy z.symm
    simp [List.eraseDups_cons, e]
  unfold swappedStores
  dsimp only
  have px' : (Expr.Name x px).pos.line = px.line := rfl
  simp only [bk, kx, ky, h1, h2, hl, ed, List.filterMap_cons, List.filterMap_nil, List.head?_cons, Option.map_some, Option.getD_some, px', beq_self_eq_true, Bool.and_true, Bool.true_and, List.length_cons, List.length_nil, if_true]
  rw [if_neg (by decide), if_neg ?_]
  · rfl
  · intro z
    rw [List.any_eq_true] at z
    obtain ⟨e, he, q⟩ := z
    have := List.all_eq_true.mp hs e he
    cases e <;> first | (cases q; done) | cases this
theorem sw_three {x y z : Str} {px py pz pt pt2 : Pos} {a b c : Expr} {kt k2 : Nat} {env : PySem.Env} (hk : env.scope.kind = .function) (hx : env.scope.names.lookup x = some .local) (hy : env.scope.names.lookup y = some .local) (hz : env.scope.names.lookup z = some .local)
    (hl : (py.line == px.line) = true) (hl2 : (pz.line == px.line) = true) (hxy : x ≠ y) (hxz : x ≠ z) (hyz : y ≠ z)
    (hs : [a, b, c].all noStar = true) (h1 : [a, b, c].all (foldedForSure 8) = false) (h2 : [a, b, c].all (constantsAlone 8) = false) :
    swappedStores [.Tuple [.Name x px, .Name y py, .Name z pz] kt pt] (.Tuple [a, b, c] k2 pt2) env = pure (some [x, y, z]) := by
  have bk : env.blockKind = .function := by
    unfold Env.blockKind
    rw [hk]
    rfl
  have kx : env.kindOf x = some .local := hx
  have ky : env.kindOf y = some .local := hy
  have kz : env.kindOf z = some .local := hz
  have ed : ([x, y, z].eraseDups).length = 3 := by
    have e : (y == x) = false := by simpa using fun z : y = x => hxy z.symm
    have e2 : (z == x) = false := by simpa using fun q : z = x => hxz q.symm
    have e3 : (z == y) = false := by simpa using fun q : z = y => hyz q.symm
    simp [List.eraseDups_cons, e, e2, e3]
  unfold swappedStores
  dsimp only
  have px' : (Expr.Name x px).pos.line = px.line := rfl
  simp only [bk, kx, ky, kz, h1, h2, hl, hl2, ed, List.filterMap_cons, List.filterMap_nil, List.head?_cons, Option.map_some, Option.getD_some, px', beq_self_eq_true, Bool.and_true, Bool.true_and, List.length_cons, List.length_nil, if_true]
  rw [if_neg (by decide), if_neg ?_]
  · rfl
  · intro z
    rw [List.any_eq_true] at z
    obtain ⟨e, he, q⟩ := z
    have := List.all_eq_true.mp hs e he
    cases e <;> first | (cases q; done) | cases this
section
variable {X : Cx} {pos : Pos}
/-- a, b, c = x, y, z with plain local names, stored from the right -/
def tPar3 (i j l : Nat) (ta : TA) : TS := fun D σ H => ta σ H fun vs H1 => ∃ u v w, vs = [u, v, w] ∧ D.nx (((σ.set l (some w)).set j (some v)).set i (some u)) H1
theorem ps_par3 {i j l : Nat} {x y z : Str} {a b c : Expr} {ta : TA} {px py pz pt : Pos} {kt k2 pt2} (hc : X.calm = true) (hN : X.N.Nodup) (hi : X.N[i]? = some x) (hj : X.N[j]? = some y) (hl : X.N[l]? = some z)
    (hx : X.env.scope.names.lookup x = some .local) (hy : X.env.scope.names.lookup y = some .local) (hz : X.env.scope.names.lookup z = some .local) (ha : PA X [a, b, c] ta)
    (hw : swappedStores [.Tuple [.Name x px, .Name y py, .Name z pz] kt pt] (.Tuple [a, b, c] k2 pt2) X.env = pure (some [x, y, z]))
    (hs : swapsWithSole [.Tuple [.Name x px, .Name y py, .Name z pz] kt pt] (.Tuple [a, b, c] k2 pt2) pos.line X.env = pure false := by rfl) :
    PS X (.Assign [.Tuple [.Name x px, .Name y py, .Name z pz] kt pt] (.Tuple [a, b, c] k2 pt2) pos) (tPar3 i j l ta) := by
  refine ⟨fun pins s σ H D I h => ?_⟩
  rw [exec_Assign_arm]
  refine wpAny_bind (wpAny_standAt ?_)
  rw [hs]
  refine wpAny_bind (wpAny_pure ?_)
  rw [if_neg (by decide)]
  refine wpAny_bind (Tuple_ (thn (ha.run _ pins s σ H _ I h) fun us s1 ⟨vs, H1, I1, r1, q1⟩ => ?_))
  obtain ⟨u, v, w, e1, q1⟩ := q1
  subst e1
  obtain ⟨u1, u2, u3, rfl, ru, rv, rw'⟩ : ∃ u1 u2 u3, us = [u1, u2, u3] ∧ RelV u u1 ∧ RelV v u2 ∧ RelV w u3 := by
    cases r1 with
    | cons p q =>
      cases q with
      | cons p' q' =>
        cases q' with
        | cons p'' q'' =>
          cases q''
          exact ⟨_, _, _, rfl, p, p', p''⟩
  refine wpAny_newObj_type ?_ (by show 3 ≤ sizeLine; decide)
  have I2 : Inv X pins σ H1 { s1 with heap := s1.heap.push { cls := .type "tuple", data := .seq [u1, u2, u3].toArray } } := I1.kept (t' := s1.toks) fun b o e => Heap.get?_push_of_some _ e
  rw [hw]
  refine wpAny_bind (wpAny_pure ?_)
  show wpAny (model X.prog X.w) X.A (do rule "assign.swapped-stores"; let items ← unpackItems (.ref s1.heap.objs.size) 3 none; assignInOrder [fun v => bindName X.env z v, fun v => bindName X.env y v, fun v => bindName X.env x v] items.reverse; pure Flow.next) _ _ _
  refine wpAny_bind (wpAny_rule (wpAny_bind (unpackItems_tuple (items := #[u1, u2, u3]) (I.ok.hd hc) (IsTup.new s1.heap _) fun h' hx' => ?_)))
  have I3 := I2.kept (h' := h') (t' := s1.toks) fun b o e => hx' b o (Nat.ne_of_lt (Heap.lt_size e)) e
  show wpAny _ _ (assignInOrder [fun v => bindName X.env z v, fun v => bindName X.env y v, fun v => bindName X.env x v] [u3, u2, u1] >>= fun _ => pure Flow.next) _ _ _
  refine wpAny_bind (assignInOrder_cons (wpAny_bindName (store_ok I3 hN hl (.inl hz) rw' (fun s2 I4 => ?_) (.inr hz))))
  refine assignInOrder_cons (wpAny_bindName (store_ok I4 hN hj (.inl hy) rv (fun s3 I5 => ?_) (.inr hy)))
  refine assignInOrder_cons (wpAny_bindName (store_ok I5 hN hi (.inl hx) ru (fun s4 I6 => assignInOrder_nil (wpAny_pure ?_)) (.inr hx)))
  exact ⟨_, H1, I6, q1⟩
end
end Ev
set_option Elab.async false
set_option linter.all false
set_option maxRecDepth 100000
set_option maxHeartbeats 8000000
namespace Ev
open PySem PySem.Spec PyProof.Rows L2
/-! ### statements against the own syntax -/
def isComp : Expr → Bool
  | .ListComp _ _ _ _ => true
  | .SetComp _ _ _ _ => true
  | .DictComp _ _ _ _ _ => true
  | _ => false
def locl (sc : Scope) (x : Str) : Bool := match sc.names.lookup x with
  | some .local => true
  | _ => false
def chkC (c : Ck) (n : Nat) (sc : Scope) (elt : Expr) (tg iter : Expr) (ifs : List Expr) (scope : Scope) (vs : List Nat) (tg' : Tg) (k : Sk) (src conds : List E) (elt' : E) : Bool :=
  (match ownOf c.N vs with
        | some own => blkC c.N sc scope own
        | none => false) &&
      chkI c sc (chkE c n sc) tg iter k src &&
      chkT c (relSc scope sc) (fun x => scope.names.lookup x == some .cell) n tg tg' && ((tgN tg').all fun i => vs.contains i) &&
      (match ifs, conds with
        | [], [] => true
        | [i], [i'] => testable i && chkE c n (relSc scope sc) i i'
        | _, _ => false) &&
      chkE c n (relSc scope sc) elt elt'
def inA (A : List Nat) (i : Nat) : Bool := A.contains i
mutual
def chkS (c : Ck) (fc : Str → Bool) (sc : Scope) (A : List Nat) : Nat → Stmt → S → Bool
  | 0, _, _ => false
  | n + 1, .Assign [.Name y py] (.ListComp elt [⟨tg, iter, ifs, 0⟩] scope pos) spos, .set (.name i) (.comp vs tg' k src conds elt') =>
    inA A i && decide (c.N[i]? = some y) && locl sc y && (py.line == pos.line) && !(scope.names.any fun (n, k) => n == y && (k == .local || k == .cell)) && chkC c n sc elt tg iter ifs scope vs tg' k src conds elt'
  | n + 1, .Assign [.Tuple [.Name x px, .Name y py] _ _] (.Tuple [a, b] _ _) _, .par i j a' b' =>
    inA A i && inA A j && decide (c.N[i]? = some x) && decide (c.N[j]? = some y) && decide (i ≠ j) && locl sc x && locl sc y && (py.line == px.line) && decide (x ≠ y) && [a, b].all noStar && ![a, b].all (foldedForSure 8) && ![a, b].all (constantsAlone 8) &&
      chkE c n sc a a' && chkE c n sc b b'
  | n + 1, .Assign [.Tuple [.Name x px, .Name y py, .Name z pz] _ _] (.Tuple [a, b, d] _ _) _, .par3 i j l a' b' d' =>
    inA A i && inA A j && inA A l && decide (c.N[i]? = some x) && decide (c.N[j]? = some y) && decide (c.N[l]? = some z) && locl sc x && locl sc y && locl sc z && (py.line == px.line) && (pz.line == px.line) && decide (x ≠ y) && decide (x ≠ z) && decide (y ≠ z) &&
      [a, b, d].all noStar && ![a, b, d].all (foldedForSure 8) && ![a, b, d].all (constantsAlone 8) && chkE c n sc a a' && chkE c n sc b b' && chkE c n sc d d'
  | n + 1, .Assign [.Subscript o i _] e _, .setI o' i' e' => noSlice i && !isComp e && chkE c n sc o o' && chkE c n sc i i' && chkE c n sc e e'
  | n + 1, .Assign [tg] e _, .set tg' e' => !isComp e && noStar tg && noSwap tg e && chkT c sc fc n tg tg' && ((tgN tg').all fun i => inA A i) && chkE c n sc e e'
  | n + 1, .AugAssign (.Name x _) op e _, .aug o i e' => inA A i && decide (op = opOf o) && decide (c.N[i]? = some x) && loc sc fc x && chkE c n sc e e'
  | n + 1, .AugAssign (.Subscript o i _) op e _, .augI q o' i' e' => noSlice i && decide (op = opOf q) && chkE c n sc o o' && chkE c n sc i i' && chkE c n sc e e'
  | _ + 1, .Expr (.Constant (.str _) _ _) _, .pass => true
  | n + 1, .Expr e _, .ex e' => !isComp e && chkE c n sc e e'
  | n + 1, .Return (some e) _, .ret e' => chkE c n sc e e'
  | _ + 1, .Return none _, .retN => true
  | n + 1, .If t a b _, .ifS t' a' b' => testable t && chkE c n sc t t' && chkSs c fc sc A n a a' && chkSs c fc sc A n b b'
  | n + 1, .For tg iter body [] _, .forS tg' k src body' => chkI c sc (chkE c n sc) tg iter k src && chkT c sc fc n tg tg' && ((tgN tg').all fun i => inA A i) && chkSs c fc sc A n body body'
  | n + 1, .While t body [] _, .whileS t' body' => testable t && chkE c n sc t t' && chkSs c fc sc A n body body'
  | _ + 1, .Break _, .brk => true
  | _ + 1, .Continue _, .cont => true
  | _ + 1, .Pass _, .pass => true
  | _ + 1, _, .never => true
  | _ + 1, _, _ => false
def chkSs (c : Ck) (fc : Str → Bool) (sc : Scope) (A : List Nat) : Nat → List Stmt → List S → Bool
  | 0, _, _ => false
  | _ + 1, [], [] => true
  | n + 1, s :: ss, t :: ts => chkS c fc sc A n s t && chkSs c fc sc A n ss ts
  | _ + 1, _, _ => false
end
/-! ### readings of statements -/
def Agr (A : List Nat) (σ σ' : L2.St) : Prop := ∀ i, i ∉ A → σ'[i]? = σ[i]?
theorem Agr.refl {A : List Nat} {σ : L2.St} : Agr A σ σ := fun _ _ => rfl
theorem Agr.trans {A : List Nat} {σ σ1 σ2 : L2.St} (h : Agr A σ σ1) (h2 : Agr A σ1 σ2) : Agr A σ σ2 := fun i hi => (h2 i hi).trans (h i hi)
def OkF (K : PySem.W.Frag) (m : Am) (H : Hp) (A : List Nat) (σ : L2.St) (Dn : Ends) : Fl × Env → Store → Prop := fun r S' => ∀ m' H' σ', Stp m H m' H' → Sto K m' H' S' → EnvR K m' H' σ' r.2 → Agr A σ σ' → match r.1 with
  | .nx => Dn.nx σ' H'
  | .bk => Dn.bk σ' H'
  | .ct => Dn.ct σ' H'
  | .rt d => ∀ v, VD K m' H' d v → Dn.rt v H'
def ExS (K : PySem.W.Frag) (mg : Str → Option Value) (m : Am) (H : Hp) (A : List Nat) (σ : L2.St) (W : WX) : Xn → Store → Prop := fun x S' => ∀ m' H' c d σ', Stp m H m' H' → Sto K m' H' S' → XRel K mg m' H' x c d → Agr A σ σ' → W c d σ' H'
def sR (K : PySem.W.Frag) (mg : Str → Option Value) (W : WX) (A : List Nat) (f : Env → M (Fl × Env)) : TS := fun Dn σ H => ∃ m S ρ, Sto K m H S ∧ EnvR K m H σ ρ ∧ Gd (f ρ S) (OkF K m H A σ Dn) (ExS K mg m H A σ W)
section
variable {K : PySem.W.Frag} {mg : Str → Option Value} {W : WX} {A : List Nat} {m m1 : Am} {H H1 : Hp} {σ σ1 : L2.St} {Dn : Ends} {S : Store} {call : Nat → List D → M D} {ρ : Env}
theorem OkF.step (st : Stp m H m1 H1) (a : Agr A σ σ1) {r : Fl × Env} {S' : Store} (h : OkF K m H A σ Dn r S') : OkF K m1 H1 A σ1 Dn r S' := fun m' H' σ' s2 s e a2 => h m' H' σ' (st.trans s2) s e (a.trans a2)
theorem ExS.step (st : Stp m H m1 H1) (a : Agr A σ σ1) {r : Xn} {S' : Store} (h : ExS K mg m H A σ W r S') : ExS K mg m1 H1 A σ1 W r S' := fun m' H' c d σ' s2 s x a2 => h m' H' c d σ' (st.trans s2) s x (a.trans a2)
theorem ExS.ex {r : Xn} {S' : Store} (h : ExS K mg m H A σ W r S') : ExW K mg m H (fun c d H' => W c d σ H') r S' := fun m' H' c d st s x => h m' H' c d σ st s x .refl
theorem Agr.set {i : Nat} {v : Option V} (h : inA A i = true) : Agr A σ (σ.set i v) := fun j hj => List.getElem?_set_ne fun e => hj (by rw [← e]; exact List.contains_iff_mem.mp h)
/-- an expression of a statement, then the rest -/
theorem sev_of (s : Sto K m H S) (r : EnvR K m H σ ρ) {e : E} {β : Type} {f : D → M β} {φ : β → Store → Prop} {Q : VK} (h : Gd (M.bind (evE call e ρ) f S) φ (ExS K mg m H A σ W))
    (k : ∀ d S' m' H' v, Stp m H m' H' → Sto K m' H' S' → EnvR K m' H' σ ρ → VD K m' H' d v → Gd (f d S') φ (ExS K mg m' H' A σ W) → Q v H') : tev K mg W call e σ H Q :=
  ⟨m, S, ρ, s, r, h.bind.mono (fun d S' g m' H' v st s' vd => k d S' m' H' v st s' (r.mono s st) vd (g.mono (fun _ _ z => z) fun _ _ z => z.step st .refl)) fun _ _ z => z.ex⟩
theorem stv_of (s : Sto K m H S) (r : EnvR K m H σ ρ) {e : E} {β : Type} {f : Bool → M β} {φ : β → Store → Prop} {Q : Bool → Hp → Prop} (h : Gd (M.bind (evT call e ρ) f S) φ (ExS K mg m H A σ W))
    (k : ∀ d S' m' H', Stp m H m' H' → Sto K m' H' S' → EnvR K m' H' σ ρ → Gd (f d S') φ (ExS K mg m' H' A σ W) → Q d H') : ttv K mg W call e σ H Q :=
  ⟨m, S, ρ, s, r, h.bind.mono (fun d S' g m' H' st s' => k d S' m' H' st s' (r.mono s st) (g.mono (fun _ _ z => z) fun _ _ z => z.step st .refl)) fun _ _ z => z.ex⟩
end
section
variable {X : Cx} {c : Ck} {sc : Scope} {fc : Str → Bool} {k : Nat} {call : Nat → List D → M D} {W : WX} {A : List Nat}
def GS (X : Cx) (W : WX) (A : List Nat) (call : Nat → List D → M D) (s : Stmt) (s' : Ev.S) : Prop := PS X s (sR X.K X.mg W A (exS call s'))
def GSs (X : Cx) (W : WX) (A : List Nat) (call : Nat → List D → M D) (s : List Stmt) (s' : List Ev.S) : Prop := PSs X s (sR X.K X.mg W A (exSs call s'))
theorem asub_plain {o i : Expr} {pos : Pos} {env : PySem.Env} (h : noSlice i = true) : ∀ v, assign (.Subscript o i pos) env v = (do
      let ov ← holding [v] (eval o env)
      let iv ← holding [v, ov] (eval i env)
      standAt pos
      holding [v, ov, iv] (setItem ov iv v)
      release [v, ov, iv] []) := by
  intro v
  cases i <;> first | rfl | cases h
theorem swapsW_none {e : Expr} {t : Option Expr} {n : Nat} {env : PySem.Env} (h : isComp e = false) : swapsWith e t n env = pure false := by
  cases e <;> first | (cases h; done) | skip
  all_goals rfl
/-- target = e -/
theorem gs_set {tg e : Expr} {tg' : Tg} {e' : E} {n : Nat} {pos : Pos} (kx : Kx X c sc fc k call W) (h1 : isComp e = false) (h2 : noStar tg = true) (h3 : noSwap tg e = true) (h4 : chkT c sc fc n tg tg' = true) (h5 : ∀ i ∈ tgN tg', i ∈ A) (he : GE X W call e e') :
    GS X W A call (.Assign [tg] e pos) (.set tg' e') := by
  refine (ps_asg he (pg_ok kx.calm kx.N kx.nd kx.sc kx.fc n tg tg' h4) (swapsW_none h1) (sw_none h3) (by rw [asg_cons h2]; rfl)).wk fun Dn σ H ⟨m, S, ρ, s, r, g⟩ => ?_
  refine sev_of s r (show Gd (M.bind (evE call e' ρ) (fun d => match asg tg' d ρ with
    | some ρ' => M.pure (.nx, ρ')
    | none => stuck) S) (OkF X.K m H A σ Dn) _ from g) fun d S1 m1 H1 v st1 s1 r1 vd g1 => ?_
  cases ea : asg tg' d ρ with
  | none =>
    rw [ea] at g1
    exact False.elim g1
  | some ρ' =>
    rw [ea] at g1
    refine ⟨m1, S1, ρ, d, ρ', s1, r1, vd, ea, fun σ' r' ag => ?_⟩
    exact (g1 : OkF X.K m H A σ Dn (.nx, ρ') S1) m1 H1 σ' st1 s1 r' fun i hi => ag i fun z => hi (h5 i z)
/-- name = a comprehension on the same line -/
theorem gs_comp {elt tg iter : Expr} {ifs : List Expr} {scope : Scope} {pos py spos : Pos} {y : Str} {i : Nat} {vs : List Nat} {tg' : Tg} {kd : Sk} {src conds : List E} {elt' : E} {own : List (Str × Nat)} {n : Nat} (kx : Kx X c sc fc k call W)
    (hk : X.env.scope.kind = .function) (hA : inA A i = true) (hy : c.N[i]? = some y) (hl : locl sc y = true) (hln : (py.line == pos.line) = true) (hown : (scope.names.any fun (n, k) => n == y && (k == .local || k == .cell)) = false)
    (ho : ownOf c.N vs = some own) (hb : blkC c.N sc scope own = true) (hi : PI X tg iter (tis X.K X.mg W call kd src)) (hs : ∀ x, foldedSetIterable iter X.env x = pure x)
    (ht : chkT c (relSc scope sc) (fun x => scope.names.lookup x == some .cell) n tg tg' = true) (hv : ∀ i ∈ tgN tg', i ∈ vs)
    (hc : ∀ (s : Shared) (H : Hp) (C : Addr) (cl : List (Str × Addr)) (fp : List Addr), PTs (X.blk s H scope (compEnvC scope cl C X.env) fp) ifs (ttvs X.K X.mg (fun _ _ _ _ => False) call conds))
    (he : ∀ (s : Shared) (H : Hp) (C : Addr) (cl : List (Str × Addr)) (fp : List Addr), PE (X.blk s H scope (compEnvC scope cl C X.env) fp) elt (tev X.K X.mg (fun _ _ _ _ => False) call elt')) :
    GS X W A call (.Assign [.Name y py] (.ListComp elt [⟨tg, iter, ifs, 0⟩] scope pos) spos) (.set (.name i) (.comp vs tg' kd src conds elt')) := by
  have ok : BlkOk X.N X.env.scope scope own := by
    rw [kx.N, kx.sc]
    exact blkOk_by hb
  have hyl : X.env.scope.names.lookup y = some .local := by
    rw [kx.sc]
    unfold locl at hl
    split at hl
    · assumption
    · cases hl
  refine (ps_setLc (g := gR X.K tg') (i := i) kx.calm (by rw [kx.N]; exact kx.nd) (by rw [kx.N]; exact hy) hyl (sw_true hk hyl hln hown) hi ok (fun s H C cl fp => ?_) hc he hs).wk fun Dn σ H ⟨m, S, ρ, s, r, g⟩ => ?_
  · have kb := kx.blk s H scope C cl fp
    exact pg_ok kb.calm kb.N kb.nd kb.sc kb.fc n tg tg' ht
  · rw [own_ok ho]
    refine comp_tLc hv (sev_of s r (show Gd (M.bind (evE call (.comp vs tg' kd src conds elt') ρ) (fun d => match asg (.name i) d ρ with
      | some ρ' => M.pure (.nx, ρ')
      | none => stuck) S) (OkF X.K m H A σ Dn) _ from g) fun d S1 m1 H1 v st1 s1 r1 vd g1 => ?_)
    cases ea : asg (.name i) d ρ with
    | none =>
      rw [ea] at g1
      exact False.elim g1
    | some ρ' =>
      rw [ea] at g1
      unfold asg at ea
      split at ea
      · cases ea
        exact (g1 : OkF X.K m H A σ Dn (.nx, ρ.set i (some d)) S1) m1 H1 (σ.set i (some v)) st1 s1 (r1.set vd) (Agr.set hA)
      · cases ea
theorem locl_ok {x : Str} (kx : Kx X c sc fc k call W) (h : locl sc x = true) : X.env.scope.names.lookup x = some .local := by
  rw [kx.sc]
  unfold locl at h
  split at h
  · assumption
  · cases h
theorem sevs_of {K : PySem.W.Frag} {mg : Str → Option Value} {m : Am} {H : Hp} {σ : L2.St} {S : Store} {ρ : Env} (s : Sto K m H S) (r : EnvR K m H σ ρ) {es : List E} {β : Type} {f : List D → M β} {φ : β → Store → Prop} {Q : List V → Hp → Prop} (h : Gd (M.bind (evEs call es ρ) f S) φ (ExS K mg m H A σ W))
    (k : ∀ ds S' m' H' vs, Stp m H m' H' → Sto K m' H' S' → EnvR K m' H' σ ρ → VDs K m' H' ds vs → Gd (f ds S') φ (ExS K mg m' H' A σ W) → Q vs H') : tevs K mg W call es σ H Q :=
  ⟨m, S, ρ, s, r, h.bind.mono (fun d S' g m' H' v st s' vd => k d S' m' H' v st s' (r.mono s st) vd (g.mono (fun _ _ z => z) fun _ _ z => z.step st .refl)) fun _ _ z => z.ex⟩
theorem gs_par {x y : Str} {px py pt pt2 spos : Pos} {a b : Expr} {kt k2 i j : Nat} {a' b' : E} (kx : Kx X c sc fc k call W) (hk : X.env.scope.kind = .function) (hA : inA A i = true) (hA2 : inA A j = true) (hi : c.N[i]? = some x) (hj : c.N[j]? = some y) (hij : i ≠ j)
    (hx : locl sc x = true) (hy : locl sc y = true) (hl : (py.line == px.line) = true) (hxy : x ≠ y) (hs : [a, b].all noStar = true) (h1 : [a, b].all (foldedForSure 8) = false) (h2 : [a, b].all (constantsAlone 8) = false) (ha : GE X W call a a') (hb : GE X W call b b') :
    GS X W A call (.Assign [.Tuple [.Name x px, .Name y py] kt pt] (.Tuple [a, b] k2 pt2) spos) (.par i j a' b') := by
  have pa : PA X [a, b] (tevs X.K X.mg W call [a', b']) := tevs_pa rfl hs fun p hp => by
    have e : p = (a, a') ∨ p = (b, b') := by simpa using hp
    rcases e with e | e <;> subst e
    · exact ha
    · exact hb
  refine (ps_par kx.calm (by rw [kx.N]; exact kx.nd) (by rw [kx.N]; exact hi) (by rw [kx.N]; exact hj) hij (locl_ok kx hx) (locl_ok kx hy) pa (sw_two hk (locl_ok kx hx) (locl_ok kx hy) hl hxy hs h1 h2) rfl).wk fun Dn σ H ⟨m, S, ρ, s, r, g⟩ => ?_
  have g : Gd (M.bind (evEs call [a', b'] ρ) (fun ds => match ds with
    | [u, v] => M.pure (.nx, (ρ.set i (some u)).set j (some v))
    | _ => stuck) S) (OkF X.K m H A σ Dn) (ExS X.K X.mg m H A σ W) := by
    have g0 : Gd (M.bind (evE call a' ρ) (fun x => M.bind (evE call b' ρ) fun y => (M.pure (Fl.nx, (ρ.set i (some x)).set j (some y)) : M (Fl × Env))) S) (OkF X.K m H A σ Dn) (ExS X.K X.mg m H A σ W) := g
    simp only [evEs, M.assoc, M.left]
    exact g0
  refine sevs_of s r g fun ds S1 m1 H1 vs st1 s1 r1 vds g1 => ?_
  match ds, vds, g1 with
  | [u, v], vds, g1 =>
    obtain ⟨xu, _, rfl, vu, xv, _, rfl, vv, e0⟩ := vds
    have e0 : _ = [] := e0
    subst e0
    refine ⟨xu, xv, rfl, ?_⟩
    exact (g1 : OkF X.K m H A σ Dn (.nx, (ρ.set i (some u)).set j (some v)) S1) m1 H1 _ st1 s1 ((r1.set vu).set vv) ((Agr.set hA).trans (Agr.set hA2))
  | [], _, g1 => exact False.elim g1
  | [_], _, g1 => exact False.elim g1
  | _ :: _ :: _ :: _, _, g1 => exact False.elim g1
theorem gs_par3 {x y z : Str} {px py pz pt pt2 spos : Pos} {a b d : Expr} {kt k2 i j l : Nat} {a' b' d' : E} (kx : Kx X c sc fc k call W) (hk : X.env.scope.kind = .function) (hA : inA A i = true) (hA2 : inA A j = true) (hA3 : inA A l = true) (hi : c.N[i]? = some x) (hj : c.N[j]? = some y) (hl : c.N[l]? = some z)
    (hx : locl sc x = true) (hy : locl sc y = true) (hz : locl sc z = true) (hl1 : (py.line == px.line) = true) (hl2 : (pz.line == px.line) = true) (hxy : x ≠ y) (hxz : x ≠ z) (hyz : y ≠ z) (hs : [a, b, d].all noStar = true) (h1 : [a, b, d].all (foldedForSure 8) = false) (h2 : [a, b, d].all (constantsAlone 8) = false)
    (ha : GE X W call a a') (hb : GE X W call b b') (hd : GE X W call d d') :
    GS X W A call (.Assign [.Tuple [.Name x px, .Name y py, .Name z pz] kt pt] (.Tuple [a, b, d] k2 pt2) spos) (.par3 i j l a' b' d') := by
  have pa : PA X [a, b, d] (tevs X.K X.mg W call [a', b', d']) := tevs_pa rfl hs fun p hp => by
    have e : p = (a, a') ∨ p = (b, b') ∨ p = (d, d') := by simpa using hp
    rcases e with e | e | e <;> subst e
    · exact ha
    · exact hb
    · exact hd
  refine (ps_par3 kx.calm (by rw [kx.N]; exact kx.nd) (by rw [kx.N]; exact hi) (by rw [kx.N]; exact hj) (by rw [kx.N]; exact hl) (locl_ok kx hx) (locl_ok kx hy) (locl_ok kx hz) pa (sw_three hk (locl_ok kx hx) (locl_ok kx hy) (locl_ok kx hz) hl1 hl2 hxy hxz hyz hs h1 h2) rfl).wk fun Dn σ H ⟨m, S, ρ, s, r, g⟩ => ?_
  have g : Gd (M.bind (evEs call [a', b', d'] ρ) (fun ds => match ds with
    | [u, v, w] => M.pure (.nx, ((ρ.set l (some w)).set j (some v)).set i (some u))
    | _ => stuck) S) (OkF X.K m H A σ Dn) (ExS X.K X.mg m H A σ W) := by
    have g0 : Gd (M.bind (evE call a' ρ) (fun x => M.bind (evE call b' ρ) fun y => M.bind (evE call d' ρ) fun z => (M.pure (Fl.nx, ((ρ.set l (some z)).set j (some y)).set i (some x)) : M (Fl × Env))) S) (OkF X.K m H A σ Dn) (ExS X.K X.mg m H A σ W) := g
    simp only [evEs, M.assoc, M.left]
    exact g0
  refine sevs_of s r g fun ds S1 m1 H1 vs st1 s1 r1 vds g1 => ?_
  match ds, vds, g1 with
  | [u, v, w], vds, g1 =>
    obtain ⟨xu, _, rfl, vu, xv, _, rfl, vv, xw, _, rfl, vw, e0⟩ := vds
    have e0 : _ = [] := e0
    subst e0
    refine ⟨xu, xv, xw, rfl, ?_⟩
    exact (g1 : OkF X.K m H A σ Dn (.nx, ((ρ.set l (some w)).set j (some v)).set i (some u)) S1) m1 H1 _ st1 s1 (((r1.set vw).set vv).set vu) (((Agr.set hA3).trans (Agr.set hA2)).trans (Agr.set hA))
  | [], _, g1 => exact False.elim g1
  | [_], _, g1 => exact False.elim g1
  | [_, _], _, g1 => exact False.elim g1
  | _ :: _ :: _ :: _ :: _, _, g1 => exact False.elim g1
/-- o[i] = e -/
theorem gs_setI {o i e : Expr} {o' i' e' : E} {p pos : Pos} (hn : noSlice i = true) (h1 : isComp e = false) (ho : GE X W call o o') (hi : GE X W call i i') (he : GE X W call e e') : GS X W A call (.Assign [.Subscript o i p] e pos) (.setI o' i' e') := by
  refine (ps_asg he (pg_sub ho hi set_any (asub_plain hn)) (show swapsWithSole [.Subscript o i p] e pos.line X.env = pure false from swapsW_none (t := some (.Subscript o i p)) (n := pos.line) (env := X.env) h1) (sw_none rfl) rfl).wk fun Dn σ H ⟨m, S, ρ, s, r, g⟩ => ?_
  refine sev_of s r (show Gd (M.bind (evE call e' ρ) (fun v => M.bind (evE call o' ρ) fun x => M.bind (evE call i' ρ) fun y => M.bind (setIM x y v) fun _ => M.pure (.nx, ρ)) S) (OkF X.K m H A σ Dn) _ from g) fun d S1 m1 H1 v st1 s1 r1 vd g1 => ?_
  refine sev_of s1 r1 g1 fun d2 S2 m2 H2 v2 st2 s2 r2 vd2 g2 => ?_
  refine sev_of s2 r2 g2 fun d3 S3 m3 H3 v3 st3 s3 r3 vd3 g3 => ?_
  refine ⟨m3, S3, d2, d3, d, s3, vd2.mono s2 st3, vd3, (vd.mono s1 st2).mono s2 st3, ?_⟩
  obtain ⟨n, q, j, ls, e1, e2, e3, e4, g4⟩ := setIM_ok (Gd.bind g3)
  have st : Stp m H m3 H3 := (st1.trans st2).trans st3
  subst e1 e2
  unfold setIM
  refine Gd.join ?_
  show Gd (getO n S3) _ _
  unfold getO
  rw [e3]
  show Gd ((match ixN ls.length q with | some j => putO n (.lst (ls.set j d)) | none => stuck) S3) _ _
  rw [e4]
  show Gd (putO n (.lst (ls.set j d)) S3) _ _
  unfold putO
  rw [if_pos (List.getElem?_eq_some_iff.mp e3).1]
  intro m' H' st' s'
  exact (g4 : OkF X.K m H A σ Dn (.nx, ρ) _) m' H' σ (st.trans st') s' (EnvR.mono s3 st' r3) .refl
end
end Ev
set_option Elab.async false
set_option linter.all false
set_option maxRecDepth 100000
set_option maxHeartbeats 8000000
namespace Ev
open PySem PySem.Spec PyProof.Rows L2
/-! ### loops by fuel -/
def loopK (turn : D → Env → M (Fl × Env)) (sc : Src) : Nat → Nat → Env → M (Fl × Env)
  | 0, _, _ => fun _ => none
  | k + 1, i, ρ => fun S => match nxt sc i S with
    | none => none
    | some none => some (.ok (.nx, ρ) S)
    | some (some d) => match turn d ρ S with
      | some (.ok (.nx, ρ') S') => loopK turn sc k (i + 1) ρ' S'
      | some (.ok (.ct, ρ') S') => loopK turn sc k (i + 1) ρ' S'
      | some (.ok (.bk, ρ') S') => some (.ok (.nx, ρ') S')
      | some (.ok (.rt v, ρ') S') => some (.ok (.rt v, ρ') S')
      | some (.ex x S') => some (.ex x S')
      | none => none
theorem loopL_K {turn : D → Env → M (Fl × Env)} {ds : List D} : ∀ (rest : List D) (i : Nat) (ρ : Env) (S : Store), ds.drop i = rest → loopK turn (.items ds) (rest.length + 1) i ρ S = loopL turn rest ρ S
  | [], i, ρ, S, h => by
    have e : ds[i]? = none := List.getElem?_eq_none (List.drop_eq_nil_iff.mp h)
    have nx : nxt (.items ds) i S = some none := by
      show some ds[i]? = _
      rw [e]
    unfold loopK
    rw [nx]
    rfl
  | d :: r, i, ρ, S, h => by
    obtain ⟨e, h2⟩ := drop_get h
    have ih := fun ρ S => loopL_K (turn := turn) r (i + 1) ρ S h2
    have nx : nxt (.items ds) i S = some (some d) := by
      show some ds[i]? = _
      rw [e]
    unfold loopK
    rw [nx]
    show _ = M.bind (turn d ρ) (fun (f, ρ') => match f with
      | .nx => loopL turn r ρ'
      | .ct => loopL turn r ρ'
      | .bk => M.pure (.nx, ρ')
      | .rt v => M.pure (.rt v, ρ')) S
    unfold M.bind
    show (match turn d ρ S with
      | some (.ok (.nx, ρ') S') => loopK turn (.items ds) (r.length + 1) (i + 1) ρ' S'
      | some (.ok (.ct, ρ') S') => loopK turn (.items ds) (r.length + 1) (i + 1) ρ' S'
      | some (.ok (.bk, ρ') S') => some (.ok (.nx, ρ') S')
      | some (.ok (.rt v, ρ') S') => some (.ok (.rt v, ρ') S')
      | some (.ex x S') => some (.ex x S')
      | none => none) = _
    cases e1 : turn d ρ S with
    | none => rfl
    | some q =>
      cases q with
      | ex x S' => rfl
      | ok o S' =>
        obtain ⟨f, ρ'⟩ := o
        cases f with
        | nx => exact ih ρ' S'
        | ct => exact ih ρ' S'
        | bk => rfl
        | rt v => rfl
theorem loopR_K {turn : D → Env → M (Fl × Env)} {n : Nat} (i : Nat) (ρ : Env) (S : Store) (r : Rs (Fl × Env)) (h : loopR turn n i ρ S = some r) : ∃ k, loopK turn (.ref n) k i ρ S = some r := by
  refine loopR.partial_correctness turn n (fun i ρ S r => ∃ k, loopK turn (.ref n) k i ρ S = some r) ?_ i ρ S r h
  intro R ih i ρ S r h
  cases e : S[n]? with
  | none =>
    rw [e] at h
    cases h
  | some o =>
    rw [e] at h
    cases o with
    | lst ds =>
      dsimp only at h
      have nx : nxt (.ref n) i S = some ds[i]? := nxt_ref e
      have one : ∀ k, loopK turn (.ref n) (k + 1) i ρ S = (match nxt (.ref n) i S with
        | none => none
        | some none => some (.ok (.nx, ρ) S)
        | some (some d) => match turn d ρ S with
          | some (.ok (.nx, ρ') S') => loopK turn (.ref n) k (i + 1) ρ' S'
          | some (.ok (.ct, ρ') S') => loopK turn (.ref n) k (i + 1) ρ' S'
          | some (.ok (.bk, ρ') S') => some (.ok (.nx, ρ') S')
          | some (.ok (.rt v, ρ') S') => some (.ok (.rt v, ρ') S')
          | some (.ex x S') => some (.ex x S')
          | none => none) := fun k => rfl
      cases e1 : ds[i]? with
      | none =>
        rw [e1] at h nx
        exact ⟨1, by rw [one, nx]; exact h⟩
      | some d =>
        rw [e1] at h nx
        dsimp only at h
        cases e2 : turn d ρ S with
        | none =>
          rw [e2] at h
          cases h
        | some q =>
          rw [e2] at h
          cases q with
          | ex x S' => exact ⟨1, by rw [one, nx]; dsimp only; rw [e2]; exact h⟩
          | ok o S' =>
            obtain ⟨f, ρ'⟩ := o
            cases f with
            | nx =>
              obtain ⟨k, q⟩ := ih _ _ _ _ h
              exact ⟨k + 1, by rw [one, nx]; dsimp only; rw [e2]; exact q⟩
            | ct =>
              obtain ⟨k, q⟩ := ih _ _ _ _ h
              exact ⟨k + 1, by rw [one, nx]; dsimp only; rw [e2]; exact q⟩
            | bk => exact ⟨1, by rw [one, nx]; dsimp only; rw [e2]; exact h⟩
            | rt v => exact ⟨1, by rw [one, nx]; dsimp only; rw [e2]; exact h⟩
theorem loopM_K {turn : D → Env → M (Fl × Env)} {sc : Src} {ρ : Env} {S : Store} {φ : Fl × Env → Store → Prop} {ψ : Xn → Store → Prop} (h : Gd (loopM turn sc ρ S) φ ψ) : ∃ k, Gd (loopK turn sc k 0 ρ S) φ ψ := by
  cases sc with
  | items ds =>
    refine ⟨ds.length + 1, ?_⟩
    rw [loopL_K ds 0 ρ S List.drop_zero]
    exact h
  | ref n =>
    cases e : loopM turn (.ref n) ρ S with
    | none =>
      rw [e] at h
      exact False.elim h
    | some r =>
      obtain ⟨k, q⟩ := loopR_K 0 ρ S r e
      exact ⟨k, by rw [q]; rw [e] at h; exact h⟩
theorem loopK_step {turn : D → Env → M (Fl × Env)} {sc : Src} {S : Store} {k i : Nat} {ρ : Env} {φ : Fl × Env → Store → Prop} {ψ : Xn → Store → Prop} (h : Gd (loopK turn sc k i ρ S) φ ψ) :
    (nxt sc i S = some none ∧ φ (.nx, ρ) S) ∨ ∃ d k', k = k' + 1 ∧ nxt sc i S = some (some d) ∧ Gd (turn d ρ S) (fun r S' => match r.1 with
      | .nx => Gd (loopK turn sc k' (i + 1) r.2 S') φ ψ
      | .ct => Gd (loopK turn sc k' (i + 1) r.2 S') φ ψ
      | .bk => φ (.nx, r.2) S'
      | .rt v => φ (.rt v, r.2) S') ψ := by
  cases k with
  | zero => exact False.elim h
  | succ k =>
    unfold loopK at h
    cases e : nxt sc i S with
    | none =>
      rw [e] at h
      exact False.elim h
    | some o =>
      rw [e] at h
      cases o with
      | none => exact .inl ⟨rfl, h⟩
      | some d =>
        refine .inr ⟨d, k, rfl, rfl, ?_⟩
        dsimp only at h
        cases e2 : turn d ρ S with
        | none =>
          rw [e2] at h
          exact h
        | some q =>
          rw [e2] at h
          cases q with
          | ex x S' => exact h
          | ok o S' =>
            obtain ⟨f, ρ'⟩ := o
            cases f <;> exact h
def whileK (c : Env → M Bool) (b : Env → M (Fl × Env)) : Nat → Env → M (Fl × Env)
  | 0, _ => fun _ => none
  | k + 1, ρ => fun S => match c ρ S with
    | some (.ok true S1) => (match b ρ S1 with
      | some (.ok (.nx, ρ') S') => whileK c b k ρ' S'
      | some (.ok (.ct, ρ') S') => whileK c b k ρ' S'
      | some (.ok (.bk, ρ') S') => some (.ok (.nx, ρ') S')
      | some (.ok (.rt v, ρ') S') => some (.ok (.rt v, ρ') S')
      | some (.ex x S') => some (.ex x S')
      | none => none)
    | some (.ok false S1) => some (.ok (.nx, ρ) S1)
    | some (.ex x S') => some (.ex x S')
    | none => none
theorem whileM_K' {c : Env → M Bool} {b : Env → M (Fl × Env)} (ρ : Env) (S : Store) (r : Rs (Fl × Env)) (h : whileM c b ρ S = some r) : ∃ k, whileK c b k ρ S = some r := by
  refine whileM.partial_correctness c b (fun ρ S r => ∃ k, whileK c b k ρ S = some r) ?_ ρ S r h
  intro R ih ρ S r h
  have one : ∀ k, whileK c b (k + 1) ρ S = (match c ρ S with
    | some (.ok true S1) => (match b ρ S1 with
      | some (.ok (.nx, ρ') S') => whileK c b k ρ' S'
      | some (.ok (.ct, ρ') S') => whileK c b k ρ' S'
      | some (.ok (.bk, ρ') S') => some (.ok (.nx, ρ') S')
      | some (.ok (.rt v, ρ') S') => some (.ok (.rt v, ρ') S')
      | some (.ex x S') => some (.ex x S')
      | none => none)
    | some (.ok false S1) => some (.ok (.nx, ρ) S1)
    | some (.ex x S') => some (.ex x S')
    | none => none) := fun k => rfl
  cases e : c ρ S with
  | none =>
    rw [e] at h
    cases h
  | some q =>
    rw [e] at h
    cases q with
    | ex x S' => exact ⟨1, by rw [one, e]; exact h⟩
    | ok t S1 =>
      cases t with
      | false => exact ⟨1, by rw [one, e]; exact h⟩
      | true =>
        dsimp only at h
        cases e2 : b ρ S1 with
        | none =>
          rw [e2] at h
          cases h
        | some q =>
          rw [e2] at h
          cases q with
          | ex x S' => exact ⟨1, by rw [one, e]; dsimp only; rw [e2]; exact h⟩
          | ok o S' =>
            obtain ⟨f, ρ'⟩ := o
            cases f with
            | nx =>
              obtain ⟨k, q⟩ := ih _ _ _ h
              exact ⟨k + 1, by rw [one, e]; dsimp only; rw [e2]; exact q⟩
            | ct =>
              obtain ⟨k, q⟩ := ih _ _ _ h
              exact ⟨k + 1, by rw [one, e]; dsimp only; rw [e2]; exact q⟩
            | bk => exact ⟨1, by rw [one, e]; dsimp only; rw [e2]; exact h⟩
            | rt v => exact ⟨1, by rw [one, e]; dsimp only; rw [e2]; exact h⟩
theorem whileM_K {c : Env → M Bool} {b : Env → M (Fl × Env)} {ρ : Env} {S : Store} {φ : Fl × Env → Store → Prop} {ψ : Xn → Store → Prop} (h : Gd (whileM c b ρ S) φ ψ) : ∃ k, Gd (whileK c b k ρ S) φ ψ := by
  cases e : whileM c b ρ S with
  | none =>
    rw [e] at h
    exact False.elim h
  | some r =>
    obtain ⟨k, q⟩ := whileM_K' ρ S r e
    exact ⟨k, by rw [q]; rw [e] at h; exact h⟩
theorem whileK_step {c : Env → M Bool} {b : Env → M (Fl × Env)} {S : Store} {k : Nat} {ρ : Env} {φ : Fl × Env → Store → Prop} {ψ : Xn → Store → Prop} (h : Gd (whileK c b k ρ S) φ ψ) :
    ∃ k', k = k' + 1 ∧ Gd (c ρ S) (fun t S1 => match t with
      | false => φ (.nx, ρ) S1
      | true => Gd (b ρ S1) (fun r S' => match r.1 with
        | .nx => Gd (whileK c b k' r.2 S') φ ψ
        | .ct => Gd (whileK c b k' r.2 S') φ ψ
        | .bk => φ (.nx, r.2) S'
        | .rt v => φ (.rt v, r.2) S') ψ) ψ := by
  cases k with
  | zero => exact False.elim h
  | succ k =>
    refine ⟨k, rfl, ?_⟩
    unfold whileK at h
    cases e : c ρ S with
    | none =>
      rw [e] at h
      exact h
    | some q =>
      rw [e] at h
      cases q with
      | ex x S' => exact h
      | ok t S1 =>
        cases t with
        | false => exact h
        | true =>
          show Gd (b ρ S1) _ _
          dsimp only at h
          cases e2 : b ρ S1 with
          | none =>
            rw [e2] at h
            exact h
          | some q =>
            rw [e2] at h
            cases q with
            | ex x S' => exact h
            | ok o S' =>
              obtain ⟨f, ρ'⟩ := o
              cases f <;> exact h
section
variable {X : Cx} {c : Ck} {sc : Scope} {fc : Str → Bool} {k : Nat} {call : Nat → List D → M D} {W : WX} {A : List Nat}
theorem gs_for {tg iter : Expr} {body : List Stmt} {pos : Pos} {tg' : Tg} {kd : Sk} {src : List E} {body' : List Ev.S} {n : Nat} (kx : Kx X c sc fc k call W) (hi : PI X tg iter (tis X.K X.mg W call kd src)) (hs : ∀ x, foldedSetIterable iter X.env x = pure x)
    (ht : chkT c sc fc n tg tg' = true) (h5 : ∀ i ∈ tgN tg', i ∈ A) (hb : GSs X W A call body body') : GS X W A call (.For tg iter body [] pos) (.forS tg' kd src body') := by
  refine (ps_for kx.own kx.calm hi (pg_ok kx.calm kx.N kx.nd kx.sc kx.fc n tg tg' ht) hb hs).wk fun Dn σ H ⟨m, S, ρ, s, r, g⟩ => ?_
  have g : Gd (M.bind (evEs call src ρ) (fun ds => M.bind (opt (srcOf kd ds)) fun sc => loopM (fun d ρ => match asg tg' d ρ with
        | some ρ' => exSs call body' ρ'
        | none => stuck) sc ρ) S) (OkF X.K m H A σ Dn) (ExS X.K X.mg m H A σ W) := g
  refine ⟨m, S, ρ, s, r, Gd.join (Gd.mono (Gd.bind g) (fun ds S1 g1 => ?_) fun _ _ z => z.ex)⟩
  obtain ⟨sr, e1, g2⟩ := Gd.opt (Gd.bind g1)
  rw [e1]
  show ∀ m' H' J, Stp m H m' H' → Sto X.K m' H' S1 → SrcJ X.K m' H' sr J → _
  intro m1 H1 J st1 s1 j
  generalize hf : (fun d ρ => match asg tg' d ρ with
        | some ρ' => exSs call body' ρ'
        | none => stuck) = turn at g2
  obtain ⟨k0, g4⟩ := loopM_K g2
  refine ⟨fun i k' σ' H' => ∃ (m' : Am) (S' : Store) (ρ' : Env), Sto X.K m' H' S' ∧ EnvR X.K m' H' σ' ρ' ∧ Stp m1 H1 m' H' ∧ Agr A σ σ' ∧ Gd (loopK turn sr k' i ρ' S') (OkF X.K m H A σ Dn) (ExS X.K X.mg m H A σ W),
    ⟨k0, m1, S1, ρ, s1, r.mono s st1, Stp.refl, Agr.refl, g4⟩, ?_⟩
  rintro i k' σ' H' ⟨m', S', ρ', s', r', st', ag, g5⟩
  obtain ⟨n1, n2⟩ := srcJ_nxt (i := i) j st'.x s'
  rcases loopK_step g5 with ⟨e, fin⟩ | ⟨d, k1, rfl, e, g6⟩
  · exact .inl ⟨n1 e, (fin : OkF X.K m H A σ Dn (.nx, ρ') S') m' H' σ' (st1.trans st') s' r' ag⟩
  · obtain ⟨go, yl⟩ := n2 d e
    refine .inr ⟨go, fun σ2 H2 => ∃ (m' : Am) (S' : Store) (ρ' : Env), Sto X.K m' H2 S' ∧ EnvR X.K m' H2 σ2 ρ' ∧ Stp m1 H1 m' H2 ∧ Agr A σ σ2 ∧ Gd (loopK turn sr k1 (i + 1) ρ' S') (OkF X.K m H A σ Dn) (ExS X.K X.mg m H A σ W),
      fun σ2 H2 p => ⟨k1, Nat.lt_succ_self _, p⟩, fun x H'' y => ?_⟩
    obtain ⟨rfl, vd⟩ := yl x H'' y
    rw [← hf] at g6
    dsimp only at g6
    cases ea : asg tg' d ρ' with
    | none =>
      rw [ea] at g6
      exact False.elim g6
    | some ρ2 =>
      rw [ea] at g6
      rw [hf] at g6
      refine ⟨m', S', ρ', d, ρ2, s', r', vd, ea, fun σ2 r2 k2 => ?_⟩
      have ag2 : Agr A σ σ2 := ag.trans fun i hi => k2 i fun z => hi (h5 i z)
      refine ⟨m', S', ρ2, s', r2, Gd.mono g6 (fun q S3 g7 m3 H3 σ3 st3 s3 r3 ag3 => ?_) fun _ _ z => z.step (st1.trans st') ag2⟩
      obtain ⟨f, ρ3⟩ := q
      cases f with
      | nx => exact ⟨m3, S3, ρ3, s3, r3, st'.trans st3, ag2.trans ag3, g7⟩
      | ct => exact ⟨m3, S3, ρ3, s3, r3, st'.trans st3, ag2.trans ag3, g7⟩
      | bk => exact (g7 : OkF X.K m H A σ Dn (.nx, ρ3) S3) m3 H3 σ3 ((st1.trans st').trans st3) s3 r3 (ag2.trans ag3)
      | rt v => exact (g7 : OkF X.K m H A σ Dn (.rt v, ρ3) S3) m3 H3 σ3 ((st1.trans st').trans st3) s3 r3 (ag2.trans ag3)
theorem gs_while {t : Expr} {body : List Stmt} {pos : Pos} {t' : E} {body' : List Ev.S} (kx : Kx X c sc fc k call W) (ht : PT X t (ttv X.K X.mg W call t')) (hb : GSs X W A call body body') : GS X W A call (.While t body [] pos) (.whileS t' body') := by
  refine (ps_while kx.own ht hb).wk fun Dn σ H ⟨m, S, ρ, s, r, g⟩ => ?_
  have g : Gd (whileM (evT call t') (exSs call body') ρ S) (OkF X.K m H A σ Dn) (ExS X.K X.mg m H A σ W) := g
  obtain ⟨k0, g4⟩ := whileM_K g
  refine ⟨fun k' σ' H' => ∃ (m' : Am) (S' : Store) (ρ' : Env), Sto X.K m' H' S' ∧ EnvR X.K m' H' σ' ρ' ∧ Stp m H m' H' ∧ Agr A σ σ' ∧ Gd (whileK (evT call t') (exSs call body') k' ρ' S') (OkF X.K m H A σ Dn) (ExS X.K X.mg m H A σ W),
    ⟨k0, m, S, ρ, s, r, Stp.refl, Agr.refl, g4⟩, ?_⟩
  rintro k' σ' H' ⟨m', S', ρ', s', r', st', ag, g5⟩
  obtain ⟨k1, rfl, g6⟩ := whileK_step g5
  refine ⟨m', S', ρ', s', r', Gd.mono g6 (fun b S1 g7 m2 H2 st2 s2 => ?_) fun _ _ z => (z.step st' ag).ex⟩
  cases b with
  | false => exact (g7 : OkF X.K m H A σ Dn (.nx, ρ') S1) m2 H2 σ' (st'.trans st2) s2 (r'.mono s' st2) ag
  | true =>
    refine ⟨fun σ2 H2 => ∃ (m' : Am) (S' : Store) (ρ' : Env), Sto X.K m' H2 S' ∧ EnvR X.K m' H2 σ2 ρ' ∧ Stp m H m' H2 ∧ Agr A σ σ2 ∧ Gd (whileK (evT call t') (exSs call body') k1 ρ' S') (OkF X.K m H A σ Dn) (ExS X.K X.mg m H A σ W),
      fun σ2 H2 p => ⟨k1, Nat.lt_succ_self _, p⟩, m2, S1, ρ', s2, r'.mono s' st2, Gd.mono g7 (fun q S3 g8 m3 H3 σ3 st3 s3 r3 ag3 => ?_) fun _ _ z => z.step (st'.trans st2) ag⟩
    obtain ⟨f, ρ3⟩ := q
    cases f with
    | nx => exact ⟨m3, S3, ρ3, s3, r3, (st'.trans st2).trans st3, ag.trans ag3, g8⟩
    | ct => exact ⟨m3, S3, ρ3, s3, r3, (st'.trans st2).trans st3, ag.trans ag3, g8⟩
    | bk => exact (g8 : OkF X.K m H A σ Dn (.nx, ρ3) S3) m3 H3 σ3 ((st'.trans st2).trans st3) s3 r3 (ag.trans ag3)
    | rt v => exact (g8 : OkF X.K m H A σ Dn (.rt v, ρ3) S3) m3 H3 σ3 ((st'.trans st2).trans st3) s3 r3 (ag.trans ag3)
theorem gs_nil : GSs X W A call [] [] := pss_nil.wk fun Dn σ H ⟨m, S, ρ, s, r, g⟩ => (g : OkF X.K m H A σ Dn (.nx, ρ) S) m H σ Stp.refl s r .refl
theorem gs_cons {st : Stmt} {rest : List Stmt} {st' : Ev.S} {rest' : List Ev.S} (h1 : GS X W A call st st') (h2 : GSs X W A call rest rest') : GSs X W A call (st :: rest) (st' :: rest') := by
  refine (pss_cons h1 h2).wk fun Dn σ H ⟨m, S, ρ, s, r, g⟩ => ?_
  have g : Gd (M.bind (exS call st' ρ) (fun (f, ρ') => match f with
    | .nx => exSs call rest' ρ'
    | f => M.pure (f, ρ')) S) (OkF X.K m H A σ Dn) (ExS X.K X.mg m H A σ W) := g
  refine ⟨m, S, ρ, s, r, Gd.mono (Gd.bind g) (fun q S1 g1 m1 H1 σ1 st1 s1 r1 ag1 => ?_) fun _ _ z => z⟩
  obtain ⟨f, ρ1⟩ := q
  cases f with
  | nx => exact ⟨m1, S1, ρ1, s1, r1, Gd.mono g1 (fun _ _ z => z.step st1 ag1) fun _ _ z => z.step st1 ag1⟩
  | bk => exact (g1 : OkF X.K m H A σ Dn (.bk, ρ1) S1) m1 H1 σ1 st1 s1 r1 ag1
  | ct => exact (g1 : OkF X.K m H A σ Dn (.ct, ρ1) S1) m1 H1 σ1 st1 s1 r1 ag1
  | rt v => exact (g1 : OkF X.K m H A σ Dn (.rt v, ρ1) S1) m1 H1 σ1 st1 s1 r1 ag1
theorem gs_if {t : Expr} {a b : List Stmt} {pos : Pos} {t' : E} {a' b' : List Ev.S} (ht : PT X t (ttv X.K X.mg W call t')) (ha : GSs X W A call a a') (hb : GSs X W A call b b') : GS X W A call (.If t a b pos) (.ifS t' a' b') := by
  refine (ps_if ht ha hb).wk fun Dn σ H ⟨m, S, ρ, s, r, g⟩ => ?_
  refine stv_of s r (show Gd (M.bind (evT call t' ρ) (fun t => if t then exSs call a' ρ else exSs call b' ρ) S) (OkF X.K m H A σ Dn) _ from g) fun d S1 m1 H1 st1 s1 r1 g1 => ?_
  cases d with
  | true => exact ⟨m1, S1, ρ, s1, r1, Gd.mono g1 (fun _ _ z => z.step st1 .refl) fun _ _ z => z⟩
  | false => exact ⟨m1, S1, ρ, s1, r1, Gd.mono g1 (fun _ _ z => z.step st1 .refl) fun _ _ z => z⟩
theorem gs_ex {e : Expr} {e' : E} {pos : Pos} (h : isComp e = false) (he : GE X W call e e') : GS X W A call (.Expr e pos) (.ex e') := by
  refine (ps_expr he (swapsW_none h)).wk fun Dn σ H ⟨m, S, ρ, s, r, g⟩ => ?_
  refine sev_of s r (show Gd (M.bind (evE call e' ρ) (fun _ => M.pure (.nx, ρ)) S) (OkF X.K m H A σ Dn) _ from g) fun d S1 m1 H1 v st1 s1 r1 vd g1 => ?_
  exact (g1 : OkF X.K m H A σ Dn (.nx, ρ) S1) m1 H1 σ st1 s1 r1 .refl
theorem gs_ret {e : Expr} {e' : E} {pos : Pos} (he : GE X W call e e') : GS X W A call (.Return (some e) pos) (.ret e') := by
  refine (ps_ret he).wk fun Dn σ H ⟨m, S, ρ, s, r, g⟩ => ?_
  refine sev_of s r (show Gd (M.bind (evE call e' ρ) (fun d => M.pure (.rt d, ρ)) S) (OkF X.K m H A σ Dn) _ from g) fun d S1 m1 H1 v st1 s1 r1 vd g1 => ?_
  exact (g1 : OkF X.K m H A σ Dn (.rt d, ρ) S1) m1 H1 σ st1 s1 r1 .refl v vd
theorem gs_retN {pos : Pos} : GS X W A call (.Return none pos) .retN := ps_retN.wk fun Dn σ H ⟨m, S, ρ, s, r, g⟩ => (g : OkF X.K m H A σ Dn (.rt .non, ρ) S) m H σ Stp.refl s r .refl .non rfl
theorem gs_pass {pos : Pos} : GS X W A call (.Pass pos) .pass := ps_pass.wk fun Dn σ H ⟨m, S, ρ, s, r, g⟩ => (g : OkF X.K m H A σ Dn (.nx, ρ) S) m H σ Stp.refl s r .refl
theorem gs_doc {x : Str} {j : Nat} {p pos : Pos} : GS X W A call (.Expr (.Constant (.str x) j p) pos) .pass := ps_doc.wk fun Dn σ H ⟨m, S, ρ, s, r, g⟩ => (g : OkF X.K m H A σ Dn (.nx, ρ) S) m H σ Stp.refl s r .refl
theorem gs_brk {pos : Pos} : GS X W A call (.Break pos) .brk := ps_break.wk fun Dn σ H ⟨m, S, ρ, s, r, g⟩ => (g : OkF X.K m H A σ Dn (.bk, ρ) S) m H σ Stp.refl s r .refl
theorem gs_cont {pos : Pos} : GS X W A call (.Continue pos) .cont := ps_continue.wk fun Dn σ H ⟨m, S, ρ, s, r, g⟩ => (g : OkF X.K m H A σ Dn (.ct, ρ) S) m H σ Stp.refl s r .refl
theorem loc_ok {x : Str} (kx : Kx X c sc fc k call W) (h2 : loc sc fc x = true) : Loc X.env.scope x ∧ (X.fn x = true ∨ X.env.scope.names.lookup x = some .local) := by
  rw [kx.sc]
  unfold loc at h2
  split at h2
  · exact ⟨.inl (by assumption), .inr (by assumption)⟩
  · exact ⟨.inr (by assumption), .inl (kx.fc x h2)⟩
  · cases h2
theorem gs_aug {x : Str} {e : Expr} {e' : E} {o : Op} {i : Nat} {p pos : Pos} (kx : Kx X c sc fc k call W) (hA : inA A i = true) (hi : c.N[i]? = some x) (hl : loc sc fc x = true) (he : GE X W call e e') : GS X W A call (.AugAssign (.Name x p) (opOf o) e pos) (.aug o i e') := by
  obtain ⟨l1, l2⟩ := loc_ok kx hl
  refine (ps_aug (i := i) (by rw [kx.N]; exact kx.nd) (by rw [kx.N]; exact hi) l1 he (op_aug o) l2).wk fun Dn σ H ⟨m, S, ρ, s, r, g⟩ => ?_
  have g : Gd ((match ρ[i]? with
    | some (some x) => M.bind (evE call e' ρ) fun y => M.bind (opt (augV o x y)) fun z => (M.pure (Fl.nx, ρ.set i (some z)) : M (Fl × Env))
    | _ => stuck) S) (OkF X.K m H A σ Dn) (ExS X.K X.mg m H A σ W) := g
  cases e1 : ρ[i]? with
  | none =>
    rw [e1] at g
    exact False.elim g
  | some q =>
    rw [e1] at g
    cases q with
    | none => exact False.elim g
    | some d0 =>
      obtain ⟨v0, hv, vd0⟩ := r.2 i d0 e1
      refine ⟨v0, hv, sev_of s r g fun d S1 m1 H1 v st1 s1 r1 vd g1 => ?_⟩
      obtain ⟨z, e2, g2⟩ := Gd.opt (Gd.bind g1)
      refine ⟨m1, S1, d0, d, z, s1, vd0.mono s st1, vd, e2, fun m2 H2 w st2 s2 vz => ?_⟩
      exact (g2 : OkF X.K m H A σ Dn (.nx, ρ.set i (some z)) S1) m2 H2 _ (st1.trans st2) s2 ((r1.mono s1 st2).set vz) (Agr.set hA)
theorem gs_augI {o i e : Expr} {o' i' e' : E} {q : Op} {p pos : Pos} (hn : noSlice i = true) (ho : GE X W call o o') (hi : GE X W call i i') (he : GE X W call e e') : GS X W A call (.AugAssign (.Subscript o i p) (opOf q) e pos) (.augI q o' i' e') := by
  refine (ps_augS ho hi get_any he (op_aug q) set_any (fun ov iv new => by cases i <;> first | rfl | cases hn)).wk fun Dn σ H ⟨m, S, ρ, s, r, g⟩ => ?_
  refine sev_of s r (show Gd (M.bind (evE call o' ρ) (fun x => M.bind (evE call i' ρ) fun y => M.bind (getIM x y) fun old =>
      M.bind (evE call e' ρ) fun v => M.bind (opt (augV q old v)) fun z => M.bind (setIM x y z) fun _ => M.pure (.nx, ρ)) S) (OkF X.K m H A σ Dn) _ from g) fun d S1 m1 H1 v st1 s1 r1 vd g1 => ?_
  refine sev_of s1 r1 g1 fun d2 S2 m2 H2 v2 st2 s2 r2 vd2 g2 => ?_
  have vd := vd.mono s1 st2
  have g2 := Gd.bind g2
  obtain ⟨n, k, ls, y, e1, e2, e3, e4, g3⟩ := getIM_ok g2
  subst e1 e2
  refine ⟨m2, S2, .ref n, .int k, s2, vd, vd2, ?_⟩
  unfold getIM
  refine Gd.join ?_
  show Gd (getO n S2) _ _
  unfold getO
  rw [e3]
  show Gd (opt (L2.atI ls k) S2) _ _
  rw [e4]
  intro m3 H3 x3 st3 s3 vd3
  have vd := vd.mono s2 st3
  have r3 := EnvR.mono s2 st3 r2
  have g3 : Gd _ (OkF X.K m H A σ Dn) (ExS X.K X.mg m3 H3 A σ W) := Gd.mono g3 (fun _ _ z => z) fun _ _ z => z.step st3 .refl
  refine sev_of s3 r3 g3 fun d4 S4 m4 H4 v4 st4 s4 r4 vd4 g4 => ?_
  have vd := vd.mono s3 st4
  obtain ⟨z, e5, g5⟩ := Gd.opt (Gd.bind g4)
  refine ⟨m4, S4, y, d4, z, s4, vd3.mono s3 st4, vd4, e5, fun m5 H5 x5 st5 s5 vd5 => ?_⟩
  have vd := vd.mono s4 st5
  obtain ⟨n', q', j, ls', e1, e2, e6, e7, g6⟩ := setIM_ok (Gd.bind g5)
  cases e1
  cases e2
  refine ⟨m5, S4, .ref n, .int k, z, s5, vd, by have e : v2 = _ := vd2; exact e, vd5, ?_⟩
  unfold setIM
  refine Gd.join ?_
  show Gd (getO n S4) _ _
  unfold getO
  rw [e6]
  show Gd ((match ixN ls'.length k with | some j => putO n (.lst (ls'.set j z)) | none => stuck) S4) _ _
  rw [e7]
  show Gd (putO n (.lst (ls'.set j z)) S4) _ _
  unfold putO
  rw [if_pos (List.getElem?_eq_some_iff.mp e6).1]
  intro m' H' st' s'
  exact (g6 : OkF X.K m H A σ Dn (.nx, ρ) _) m' H' σ (((((st1.trans st2).trans st3).trans st4).trans st5).trans st') s' (EnvR.mono s5 st' (EnvR.mono s4 st5 r4)) .refl
end
theorem allA {A l : List Nat} (h : (l.all fun i => inA A i) = true) : ∀ i ∈ l, i ∈ A := fun i hi => List.contains_iff_mem.mp (List.all_eq_true.mp h i hi)
theorem s_ok {X : Cx} {c : Ck} {sc : Scope} {fc : Str → Bool} {k : Nat} {call : Nat → List D → M D} {W : WX} {A : List Nat} (kx : Kx X c sc fc k call W) (hk : X.env.scope.kind = .function) : ∀ n : Nat,
    (∀ s s', chkS c fc sc A n s s' = true → GS X W A call s s') ∧ ∀ ss ss', chkSs c fc sc A n ss ss' = true → GSs X W A call ss ss' := by
  intro n
  induction n with
  | zero => exact ⟨fun _ _ h => (by cases h), fun _ _ h => (by cases h)⟩
  | succ n ih =>
    obtain ⟨ih1, ih2⟩ := ih
    have ihe : ∀ e e', chkE c n sc e e' = true → GE X W call e e' := fun e e' h => (e_ok n kx h).val
    refine ⟨fun s s' h => ?_, fun ss ss' h => ?_⟩
    · unfold chkS at h
      split at h
      all_goals first | (cases h; done) | skip
      all_goals first | (rename_i e0; cases e0) | (rename_i e0 _; cases e0)
      all_goals try simp only [Bool.and_eq_true, Bool.not_eq_true', decide_eq_true_eq, chkC] at h
      · obtain ⟨⟨⟨⟨⟨h1, h2⟩, h3⟩, h4⟩, h5⟩, ⟨⟨⟨⟨h6, h7⟩, h8⟩, h9⟩, h10⟩, h11⟩ := h
        split at h6
        · rename_i own e1
          refine gs_comp kx hk h1 h2 h3 h4 h5 e1 h6 (pi_ok kx ihe h7) (chkI_fold h7) h8 (fun i hi => List.contains_iff_mem.mp (List.all_eq_true.mp h9 i hi)) (fun s H C cl fp => ?_) fun s H C cl fp => ?_
          · exact pts_ok h10 fun i i' h7 h8 => (e_ok n (kx.blk s H _ C cl fp) h8).test h7
          · exact (e_ok n (kx.blk s H _ C cl fp) h11).val
        · cases h6
      · obtain ⟨⟨⟨⟨⟨⟨⟨⟨⟨⟨⟨⟨⟨h1, h2⟩, h3⟩, h4⟩, h5⟩, h6⟩, h7⟩, h8⟩, h9⟩, h10⟩, h11⟩, h12⟩, h13⟩, h14⟩ := h
        exact gs_par kx hk h1 h2 h3 h4 h5 h6 h7 h8 h9 h10 h11 h12 (ihe _ _ h13) (ihe _ _ h14)
      · obtain ⟨⟨⟨⟨⟨⟨⟨⟨⟨⟨⟨⟨⟨⟨⟨⟨⟨⟨⟨h1, h2⟩, h3⟩, h4⟩, h5⟩, h6⟩, h7⟩, h8⟩, h9⟩, h10⟩, h11⟩, h12⟩, h13⟩, h14⟩, h15⟩, h16⟩, h17⟩, h18⟩, h19⟩, h20⟩ := h
        exact gs_par3 kx hk h1 h2 h3 h4 h5 h6 h7 h8 h9 h10 h11 h12 h13 h14 h15 h16 h17 (ihe _ _ h18) (ihe _ _ h19) (ihe _ _ h20)
      · obtain ⟨⟨⟨⟨h1, h2⟩, h3⟩, h4⟩, h5⟩ := h
        exact gs_setI h1 h2 (ihe _ _ h3) (ihe _ _ h4) (ihe _ _ h5)
      · obtain ⟨⟨⟨⟨⟨h1, h2⟩, h3⟩, h4⟩, h5⟩, h6⟩ := h
        exact gs_set kx h1 h2 h3 h4 (allA h5) (ihe _ _ h6)
      · obtain ⟨⟨⟨⟨h1, rfl⟩, h3⟩, h4⟩, h5⟩ := h
        exact gs_aug kx h1 h3 h4 (ihe _ _ h5)
      · obtain ⟨⟨⟨⟨h1, rfl⟩, h3⟩, h4⟩, h5⟩ := h
        exact gs_augI h1 (ihe _ _ h3) (ihe _ _ h4) (ihe _ _ h5)
      · exact gs_doc
      · exact gs_ex h.1 (ihe _ _ h.2)
      · exact gs_ret (ihe _ _ h)
      · exact gs_retN
      · obtain ⟨⟨⟨h1, h2⟩, h3⟩, h4⟩ := h
        exact gs_if ((e_ok n kx h2).test h1) (ih2 _ _ h3) (ih2 _ _ h4)
      · obtain ⟨⟨⟨h1, h2⟩, h3⟩, h4⟩ := h
        exact gs_for kx (pi_ok kx ihe h1) (chkI_fold h1) h2 (allA h3) (ih2 _ _ h4)
      · obtain ⟨⟨h1, h2⟩, h3⟩ := h
        exact gs_while kx ((e_ok n kx h2).test h1) (ih2 _ _ h3)
      · exact gs_brk
      · exact gs_cont
      · exact gs_pass
      · exact ⟨fun p s σ H D I ⟨m, S, ρ, st, r, g⟩ => False.elim g⟩
    · unfold chkSs at h
      split at h
      · cases h
      · exact gs_nil
      · rename_i e0
        cases e0
        obtain ⟨h1, h2⟩ := ba' h
        exact gs_cons (ih1 _ _ h1) (ih2 _ _ h2)
      · cases h
end Ev
set_option Elab.async false
set_option linter.all false
set_option maxRecDepth 100000
set_option maxHeartbeats 8000000
namespace Ev
open PySem PySem.Spec PyProof.Rows L2
/-! ### all defs of a text -/
structure DefI where
  x : Str
  st : Stmt
  ps : List Str
  N : List Str
  fd : Fd
def fnsOf (ds : List DefI) : List (Str × Nat × Nat) := ds.zipIdx.map fun p => (p.1.x, p.2, p.1.ps.length)
def progOf (ds : List DefI) : Nat → Option Fd := fun i => (ds[i]?).map (·.fd)
def okDef (fns : List (Str × Nat × Nat)) (cs : List (Str × D)) (free : List Str) (fuel : Nat) (d : DefI) : Bool :=
  C8.scC d.N d.ps (defScope d.st) && decide (d.fd.np = d.ps.length) && decide (d.fd.n = d.N.length) &&
    chkSs ⟨d.N, fns, cs, free⟩ (fun _ => true) (defScope d.st) (List.range d.N.length) fuel (defBody d.st) d.fd.body
/-- what the head tells of a def -/
def DefHas (K : PySem.W.Frag) (mg : Str → Option Value) (d : DefI) : Prop := ∃ fa fd, mg d.x = some (.ref fa) ∧ FunD K d.x d.x (defArgs d.st) (defBody d.st) (defScope d.st) [] [] fa fd ∧ Binds K fd d.ps []
structure Tab (K : PySem.W.Frag) (mg : Str → Option Value) (ds : List DefI) (cs : List (Str × D)) (free : List Str) : Prop where
  defs : ∀ d ∈ ds, DefHas K mg d
  cs : ∀ x d, cs.lookup x = some d → flatD d = true → ∃ v u, mg x = some u ∧ L2.RelV v u ∧ ∀ K m H, VD K m H d v
  free : ∀ x, free.contains x = true → mg x = none
def FnAt (P : Program) (w : World) (K : PySem.W.Frag) (mg : Str → Option Value) (base : Heap) (ds : List DefI) (k : Nat) (f : Nat) (d : DefI) : Prop :=
  ∀ fa fd, FunD K d.x d.x (defArgs d.st) (defBody d.st) (defScope d.st) [] [] fa fd → FnG P w K mg base k fa fd d.ps (spC K mg (callV (progOf ds) k f) d.ps.length)
theorem env_start {K : PySem.W.Frag} {m : Am} {H : Hp} {N : List Str} {vs : List V} {ds : List D} {n : Nat} (vd : VDs K m H ds vs) (hn : n = N.length) : EnvR K m H (L2.start N vs) (ds.map some ++ List.replicate (n - ds.length) none) := by
  have hl := vd.length
  subst hn
  unfold L2.start
  refine ⟨by simp [hl], fun i d e => ?_⟩
  by_cases hi : i < ds.length
  · rw [List.getElem?_append_left (by simpa using hi), List.getElem?_map] at e
    have e2 : ds[i]? = some d := by
      cases e3 : ds[i]? with
      | none =>
        rw [e3] at e
        cases e
      | some z =>
        rw [e3] at e
        cases e
        rfl
    obtain ⟨v, hv, q⟩ := vd.get e2
    refine ⟨v, ?_, q⟩
    rw [List.getElem?_append_left (by rw [List.length_map]; omega), List.getElem?_map, hv]
    rfl
  · rw [List.getElem?_append_right (by simpa using hi), List.getElem?_replicate] at e
    split at e <;> cases e
theorem defs_ok {P : Program} {w : World} {K : PySem.W.Frag} {mg : Str → Option Value} {base : Heap} {ds : List DefI} {cs : List (Str × D)} {free : List Str} {fuel : Nat} (T : Tab K mg ds cs free) (ok : ∀ d ∈ ds, okDef (fnsOf ds) cs free fuel d = true) :
    ∀ (k f : Nat) (d : DefI), ds[f]? = some d → FnAt P w K mg base ds k f d := by
  intro k
  induction k with
  | zero =>
    intro f d hd fa fd F
    exact ⟨fun vs H Q E h => h.1, fun A outer s H args us vs Q E hr hg e0 hb r h => by
      obtain ⟨_, m, S, dd, s, vd, g⟩ := h
      exact False.elim g⟩
  | succ k ih =>
    intro f d hd fa fd F
    have h := ok d (List.mem_of_getElem? hd)
    unfold okDef at h
    simp only [Bool.and_eq_true, decide_eq_true_eq] at h
    obtain ⟨⟨⟨h1, h2⟩, h3⟩, h4⟩ := h
    refine FnG.of F (C8.fnScope_by h1) (fun vs H Q E h => h.1) fun cd A outer s H vs Q E hr hg h => ?_
    have sc : FnScope d.N d.ps (defScope d.st) := C8.fnScope_by h1
    have kx : Kx (cxOf (CX P w) P w K mg base d.N d.x (defScope d.st) fa cd A outer s H E) ⟨d.N, fnsOf ds, cs, free⟩ (defScope d.st) (fun _ => true) k (callV (progOf ds) k) (fun cls e _ H => E cls e H) := {
      calm := rfl
      N := rfl
      nd := sc.nd
      sc := rfl
      fc := fun _ _ => rfl
      room := hr
      guards := hg
      own := passes_of rfl
      tk := takes_of rfl rfl rfl rfl
      free := T.free
      cs := T.cs
      calls := fun x f' np hx => by
        have hm := mem_of_lookup hx
        obtain ⟨⟨d', i⟩, hp, e⟩ := List.mem_map.mp hm
        have hp' := List.mem_zipIdx' hp
        cases e
        have hd' : ds[i]? = some d' := by
          obtain ⟨hi, e⟩ := hp'
          rw [List.getElem?_eq_getElem hi, e]
        obtain ⟨fa', fd', g1, g2, g3⟩ := T.defs d' (List.mem_of_getElem? hd')
        exact ⟨fa', fd', d'.ps, g1, g2.kp, g3, ih i d' hd' fa' fd' g2⟩ }
    refine ⟨_, (s_ok kx sc.kind fuel).2 _ _ h4, ?_⟩
    obtain ⟨hl, m, S, dd, st, vd, g⟩ := h
    have hf : progOf ds f = some d.fd := by
      unfold progOf
      rw [hd]
      rfl
    have hlen : dd.length = d.fd.np := by rw [← vd.length, hl, h2]
    have g : Gd ((match progOf ds f with
      | some fd => if dd.length = fd.np then M.bind (exSs (callV (progOf ds) k) fd.body (dd.map some ++ List.replicate (fd.n - fd.np) none)) outM else stuck
      | none => stuck) S) (OkW K m H Q) (ExW K mg m H E) := g
    rw [hf] at g
    dsimp only at g
    rw [if_pos hlen, ← hlen] at g
    refine ⟨m, S, _, st, env_start vd h3, Gd.mono (Gd.bind g) (fun r S1 g1 m1 H1 σ1 st1 s1 r1 ag => ?_) fun x S1 z m1 H1 c d' σ1 st1 s1 xr ag => z m1 H1 c d' st1 s1 xr⟩
    obtain ⟨fl, ρ1⟩ := r
    cases fl with
    | nx => exact (g1 : OkW K m H Q .non S1) m1 H1 .non st1 s1 rfl
    | rt v => exact fun u vd => (g1 : OkW K m H Q v S1) m1 H1 u st1 s1 vd
    | bk => exact False.elim g1
    | ct => exact False.elim g1
end Ev
set_option Elab.async false
set_option linter.all false
set_option maxRecDepth 100000
set_option maxHeartbeats 8000000
namespace Ev
open PySem PySem.Spec PyProof.Rows L2
/-! ### a law's end, where no repr runs around the call -/
/-- the call from the outside, by a heap that tracks the script alone, or nothing -/
theorem ask_law {P : Program} {w : World} {K : PySem.W.Frag} {mg mb : Str → Option Value} {k : Nat} {fa a : Addr} {fd : FuncData} {x : Str} {cl : List D → M D} {s : Shared} {oa : Obj} {xs : List V} {H : Hp} {ds : List D} {S' : Store}
    (kin : K.In s.heap) (g0 : s.heap.Ns mainGlobals mg) (b0 : s.heap.Ns builtinsNs mb) (bb : ∀ x : Str, x ≠ "__name__" → mb x = bootBuiltins x) (lim : s.heap.NoLimit) (gens : s.gens = #[]) (room : Room k callerA)
    (F : ∀ base : Heap, K.In base → base.Ns mainGlobals mg → FnG P w K mg base k fa fd [x] (spC K mg cl 1)) (bnd : ∀ (s : Shared) (u : Value), BindsTo s fd ⟨[u], []⟩ [(x, u)])
    (oe : s.heap.get? a = some oa) (od : ∃ vs : Array Value, ∃ z, oa.data = .seq vs z) (only : ∀ b u, H b = some u → b = a ∧ K.lookup a = none ∧ u = .frz oa (.lst xs)) (ok : HOk P w H s.heap)
    (fro : FroAt K H a xs) (vd : VDs K ⟨[], []⟩ H ds xs) (hl : cl [.fro ds] [] = some (.ok (.bl true) S')) :
    codeAny (model P w) callerA (.call (.ref fa) ⟨[.ref a], []⟩) (fun r s' => r = .ok (.ret (.bool true)) ∧ OldK s.heap s'.heap ∧ s'.os = s.os ∧ AllBare s'.gens) s := by
  have off : ∀ {b : Addr}, b ≠ a → H b = none := fun {b} ne => by
    cases e : H b with
    | none => rfl
    | some u => exact absurd (only b u e).1 ne
  have nodict : ∀ {b : Addr} {o : Obj} {es : Array DictEntry} {ep : Nat}, s.heap.get? b = some o → o.data = .dict es ep → H b = none := fun {b o es ep} e1 e2 => off fun z => by
    rw [z, oe] at e1
    cases e1
    obtain ⟨vs, q, e3⟩ := od
    rw [e3] at e2
    cases e2
  have ns : ∀ {b : Addr} {m : Str → Option Value}, s.heap.Ns b m → (hidT s.heap H).Ns b m := fun ⟨o, es, ep, e1, e2, e3⟩ => ⟨o, es, ep, hidT_get e1 (nodict e1 e2), e2, e3⟩
  have kin2 : K.In (hidT s.heap H) := fun b o e1 => hidT_get (kin b o e1) (by
    cases e : H b with
    | none => rfl
    | some u =>
      obtain ⟨z, n, _⟩ := only b u e
      rw [z, n] at e1
      cases e1)
  have md : Mod K mg (hidT s.heap H) := ⟨kin2, ns g0, ⟨mb, ns b0, bb⟩, by
    obtain ⟨mc, l1, l2⟩ := lim
    exact ⟨mc, ns l1, l2⟩⟩
  have env : Env0 P w K mg (hidT s.heap H) callerA [] s H := ⟨rfl, md, fun _ _ e1 => of_hidT e1, Nat.le_of_eq (hidT_size _ _), trivial, fun _ hb => (by cases hb), ok, .of_eq gens⟩
  have sto : Sto K ⟨[], []⟩ H [] := ⟨List.nodup_nil, fun _ h => (by cases h), fun _ h => (by cases h), rfl, fun _ _ _ h => (by cases h)⟩
  have ask : spC K mg cl 1 [.ref a] H (fun v _ => v = .bl true) fun _ _ _ => False :=
    ⟨rfl, ⟨[], []⟩, [], [.fro ds], sto, ⟨.ref a, [], rfl, ⟨a, xs, rfl, fro, vd⟩, rfl⟩, by rw [hl]; exact fun _ _ v _ _ q => q⟩
  refine codeAny_mono ((F _ kin2 (ns g0)).run callerA [] s H ⟨[.ref a], []⟩ [.ref a] [.ref a] _ _ room rfl env (bnd s (.ref a)) (.cons rfl .nil) ask) fun r s' q => ?_
  cases r with
  | error e =>
    exfalso
    have q : CX P w [] H s (fun _ _ _ => False) e s' := q
    obtain ⟨_, _, _, _, _, _, _, _, _, _, _, _, q⟩ := q
    exact q
  | ok fl =>
    cases fl with
    | ret u =>
      obtain ⟨v, H', os, bare, un, ok', rv, e⟩ := q
      have e : v = .bl true := e
      subst e
      have rv : u = Value.bool true := rv
      subst rv
      refine ⟨rfl, OldK.of_keep fun b o e1 => ?_, os, bare⟩
      cases e2 : H b with
      | none => exact un.keep b o e1 e2 (fun z => by cases z) (by simp)
      | some u =>
        obtain ⟨_, _, e3⟩ := only b u e2
        rw [e3] at e2
        have n2 := un.frzs b oa _ e2
        obtain ⟨p1, _⟩ := ok b _ e2
        obtain ⟨p2, _⟩ := ok' b _ n2
        rw [e1] at p1
        cases p1
        exact p2
    | next => exact False.elim q
    | brk => exact False.elim q
    | cont => exact False.elim q
theorem ints_vd {K : PySem.W.Frag} {m : Am} {H : Hp} : ∀ ns : List Int, VDs K m H (ns.map D.int) (ns.map V.int)
  | [] => rfl
  | n :: ns => ⟨.int n, _, rfl, rfl, ints_vd ns⟩
theorem ask_ints {P : Program} {w : World} {K : PySem.W.Frag} {mg mb : Str → Option Value} {k : Nat} {fa a : Addr} {fd : FuncData} {x : Str} {cl : List D → M D} {s : Shared} {vs : List Value} {ns : List Int} {S' : Store}
    (kin : K.In s.heap) (g0 : s.heap.Ns mainGlobals mg) (b0 : s.heap.Ns builtinsNs mb) (bb : ∀ x : Str, x ≠ "__name__" → mb x = bootBuiltins x) (lim : s.heap.NoLimit) (gens : s.gens = #[]) (room : Room k callerA)
    (F : ∀ base : Heap, K.In base → base.Ns mainGlobals mg → FnG P w K mg base k fa fd [x] (spC K mg cl 1)) (bnd : ∀ (s : Shared) (u : Value), BindsTo s fd ⟨[u], []⟩ [(x, u)])
    (oe : s.heap.get? a = some { cls := .type "list", data := .seq vs.toArray }) (iv : IntsAre vs ns) (sz : ns.length ≤ sizeLine) (hl : cl [.fro (ns.map .int)] [] = some (.ok (.bl true) S')) :
    codeAny (model P w) callerA (.call (.ref fa) ⟨[.ref a], []⟩) (fun r s' => r = .ok (.ret (.bool true)) ∧ OldK s.heap s'.heap ∧ s'.os = s.os ∧ AllBare s'.gens) s := by
  have rv := vals_ints iv
  cases hk : K.lookup a with
  | some o =>
    have e1 := kin a o hk
    rw [oe] at e1
    cases e1
    refine ask_law (H := fun _ => none) (xs := ns.map V.int) (ds := ns.map D.int) kin g0 b0 bb lim gens room F bnd oe ⟨_, _, rfl⟩ (fun b u e => by cases e) (fun b u e => by cases e) (.inr fun H' => .inr ?_) (ints_vd ns) hl
    exact ⟨_, vs.toArray, _, hk, rfl, rfl, rfl, by rw [List.size_toArray, iv.length]; exact sz, by simpa using rv⟩
  | none =>
    refine ask_law (H := fun b => if b = a then some (.frz { cls := .type "list", data := .seq vs.toArray } (.lst (ns.map V.int))) else none) (xs := ns.map V.int) (ds := ns.map D.int) kin g0 b0 bb lim gens room F bnd oe ⟨_, _, rfl⟩ (fun b u e => ?_) (fun b u e => ?_) (.inl ⟨_, if_pos rfl⟩) (ints_vd ns) hl
    · by_cases h : b = a
      · exact ⟨h, hk, (Option.some.inj ((if_pos h).symm.trans e)).symm⟩
      · exact nomatch (if_neg h).symm.trans e
    · by_cases h : b = a
      · cases (if_pos h).symm.trans e
        subst h
        exact ⟨oe, by rw [List.length_map]; exact sz, vs, _, rv, oe⟩
      · exact nomatch (if_neg h).symm.trans e
/-- what is left behind the head: the law's promise, by the evaluator -/
theorem walk_ev {l : PySem.W.OpenLaw} {n k : Nat} {q : Program} {loose : List Str} {XP : (Str → Option Value) → Heap → Prop} {YP : World → Heap → Prop} {d : DefRec} {x : Str} {cl : List D → M D}
    (hn : l.most = some n) (hn2 : n ≤ sizeLine) (hdf : d.params.defaults = []) (hr : Room k callerA)
    (F : ∀ (w : World) (mg : Str → Option Value) (fa : Addr) (h : Heap), YP w h → h.Ns mainGlobals mg → mg d.name = some (.ref fa) →
      ∃ (K : PySem.W.Frag) (fd : FuncData), K.In h ∧ (∀ (s : Shared) (u : Value), BindsTo s fd ⟨[u], []⟩ [(x, u)]) ∧
        ∀ base : Heap, K.In base → base.Ns mainGlobals mg → FnG l.prog w K mg base k fa fd [x] (spC K mg cl 1))
    (hl : ∀ ns : List Int, ns.length ≤ n → ∃ S', cl [.fro (ns.map .int)] [] = some (.ok (.bl true) S')) :
    PySem.W.WalkO q loose XP YP l.row.toRowW d [] (fun f vs => PySem.call f vs) := by
  refine Att.attach_call hn hdf fun w s₀ s₁ mg mb fa o pm cd doc a vs ns G Y ho hd hcd hmg hobj hints hlen hg => ?_
  obtain ⟨K, fd, kin, bnd, hF⟩ := F w mg fa _ Y G.T.g hmg
  obtain ⟨S', hS⟩ := hl ns hlen
  exact ask_ints kin G.T.g G.T.b G.T.builtins G.T.nolimit hg hr hF bnd hobj hints (Nat.le_trans hlen hn2) hS
end Ev
set_option linter.all false
set_option maxRecDepth 100000
set_option maxHeartbeats 1000000
namespace Ev
open PySem
/-! ### the evaluator reasoned about: it ends, without an exception -/
def T {α : Type} (r : Option (Rs α)) (φ : α → Store → Prop) : Prop := ∃ a S', r = some (.ok a S') ∧ φ a S'
section
variable {α β : Type} {φ ψ : α → Store → Prop} {S : Store}
theorem T.mono {r : Option (Rs α)} (h : T r φ) (f : ∀ a S, φ a S → ψ a S) : T r ψ := by
  obtain ⟨a, S', e, q⟩ := h
  exact ⟨a, S', e, f a S' q⟩
@[simp] theorem T_bind {x : M β} {f : β → M α} : T (M.bind x f S) φ ↔ T (x S) fun a S' => T (f a S') φ := by
  unfold M.bind
  constructor
  · rintro ⟨a, S', e, q⟩
    cases e1 : x S with
    | none =>
      rw [e1] at e
      cases e
    | some r =>
      rw [e1] at e
      cases r with
      | ok b S1 => exact ⟨b, S1, rfl, a, S', e, q⟩
      | ex y S1 => cases e
  · rintro ⟨b, S1, e, a, S', e2, q⟩
    exact ⟨a, S', by rw [e]; exact e2, q⟩
@[simp] theorem T_pure {a : α} : T (M.pure a S) φ ↔ φ a S :=
  ⟨fun ⟨_, _, e, q⟩ => (by cases e; exact q), fun q => ⟨a, S, rfl, q⟩⟩
@[simp] theorem T_opt {o : Option α} : T (opt o S) φ ↔ ∃ a, o = some a ∧ φ a S := by
  cases o with
  | none => exact ⟨fun ⟨_, _, e, _⟩ => (by cases e), fun ⟨_, e, _⟩ => (by cases e)⟩
  | some a => exact ⟨fun ⟨_, _, e, q⟩ => (by cases e; exact ⟨a, rfl, q⟩), fun ⟨_, e, q⟩ => (by cases e; exact ⟨a, S, rfl, q⟩)⟩
@[simp] theorem T_stuck : T (stuck S) φ ↔ False := ⟨fun ⟨_, _, e, _⟩ => (by cases e), False.elim⟩
@[simp] theorem T_some {a : α} {S' : Store} : T (some (.ok a S')) φ ↔ φ a S' := ⟨fun ⟨_, _, e, q⟩ => (by cases e; exact q), fun q => ⟨a, S', rfl, q⟩⟩
@[simp] theorem T_none : T (none : Option (Rs α)) φ ↔ False := ⟨fun ⟨_, _, e, _⟩ => (by cases e), False.elim⟩
theorem T_ite {c : Prop} [Decidable c] {x y : M α} : T ((if c then x else y) S) φ ↔ (if c then T (x S) φ else T (y S) φ) := by
  split <;> rfl
@[simp] theorem T_truM {d : D} {φ : Bool → Store → Prop} : T (truM d S) φ ↔ ∃ b, truP S d = some b ∧ φ b S := by
  unfold truM
  cases truP S d with
  | none => simp
  | some b => simp
@[simp] theorem T_peek {d : D} {φ : D → Store → Prop} : T (peek d S) φ ↔ ∃ b, peekP S d = some b ∧ φ b S := by
  unfold peek
  cases peekP S d with
  | none => simp
  | some b => simp
@[simp] theorem T_getO {n : Nat} {φ : SO → Store → Prop} : T (getO n S) φ ↔ ∃ b, S[n]? = some b ∧ φ b S := by
  unfold getO
  cases S[n]? with
  | none => simp
  | some b => simp
@[simp] theorem T_putO {n : Nat} {o : SO} {φ : Unit → Store → Prop} : T (putO n o S) φ ↔ n < S.length ∧ φ () (S.set n o) := by
  unfold putO
  by_cases h : n < S.length
  · rw [if_pos h]
    simp [h]
  · rw [if_neg h]
    simp [h]
@[simp] theorem T_alloc {o : SO} {φ : D → Store → Prop} : T (alloc o S) φ ↔ φ (.ref S.length) (S ++ [o]) := by
  unfold alloc
  simp
@[simp] theorem T_noX {x : M α} : T (noX x S) φ ↔ T (x S) φ := by
  unfold noX T
  cases x S with
  | none => simp
  | some r => cases r <;> simp
@[simp] theorem ex_lift {p : Bool} {d : D} {φ : D → Prop} : (∃ z, liftD p d = some z ∧ φ z) ↔ p = true ∧ φ d := by
  unfold liftD
  cases p <;> simp
end
section
variable {call : Nat → List D → M D} {ρ : Env} {S : Store} {φ : D → Store → Prop}
@[simp] theorem T_var {i : Nat} : T (evE call (.var i) ρ S) φ ↔ ∃ d, ρ[i]? = some (some d) ∧ φ d S := by
  show T ((match ρ[i]? with
    | some (some d) => M.pure d
    | _ => stuck) S) φ ↔ _
  cases e : ρ[i]? with
  | none => simp
  | some o => cases o <;> simp
@[simp] theorem T_c {d : D} : T (evE call (.c d) ρ S) φ ↔ φ d S := T_pure
@[simp] theorem T_tup {es : List E} : T (evE call (.tup es) ρ S) φ ↔ T (evEs call es ρ S) fun ds S' => φ (.tup ds) S' := by simp [evE]
@[simp] theorem T_lst {es : List E} : T (evE call (.lst es) ρ S) φ ↔ T (evEs call es ρ S) fun ds S' => φ (.lst ds) S' := by simp [evE]
@[simp] theorem T_dic {es : List E} : T (evE call (.dic es) ρ S) φ ↔ T (evEs call es ρ S) fun ds S' => φ .dic S' := by simp [evE]
@[simp] theorem T_new {es : List E} : T (evE call (.new es) ρ S) φ ↔ T (evEs call es ρ S) fun ds S' => φ (.ref S'.length) (S' ++ [.lst ds]) := by simp [evE]
@[simp] theorem T_bin {o : Op} {a b : E} : T (evE call (.bin o a b) ρ S) φ ↔ T (evE call a ρ S) fun x S => T (evE call b ρ S) fun y S => ∃ z, binV o x y = some z ∧ φ z S := by simp [evE]
@[simp] theorem T_neg {a : E} : T (evE call (.neg a) ρ S) φ ↔ T (evE call a ρ S) fun x S => ∃ i, x = .int i ∧ φ (.int (-i)) S := by
  simp only [evE, T_bind]
  constructor
  · intro h
    refine h.mono fun x S q => ?_
    cases x <;> first | (cases q.choose_spec.choose_spec.1; done) | skip
    exact ⟨_, rfl, T_pure.mp q⟩
  · intro h
    refine h.mono fun x S ⟨i, e, q⟩ => ?_
    subst e
    exact T_pure.mpr q
@[simp] theorem T_not {a : E} : T (evE call (.notE a) ρ S) φ ↔ T (evE call a ρ S) fun x S => ∃ t, truP S x = some t ∧ φ (.bl !t) S := by simp [evE]
@[simp] theorem T_and {a b : E} : T (evE call (.andE a b) ρ S) φ ↔ T (evE call a ρ S) fun x S => ∃ t, truP S x = some t ∧ if t = true then T (evE call b ρ S) φ else φ x S := by simp [evE, T_ite]
@[simp] theorem T_or {a b : E} : T (evE call (.orE a b) ρ S) φ ↔ T (evE call a ρ S) fun x S => ∃ t, truP S x = some t ∧ if t = true then φ x S else T (evE call b ρ S) φ := by simp [evE, T_ite]
@[simp] theorem T_cmp {o : Cm} {a b : E} : T (evE call (.cmp o a b) ρ S) φ ↔ T (evE call a ρ S) fun x S => T (evE call b ρ S) fun y S => ∃ t, cmpV o x y = some t ∧ φ (.bl t) S := by simp [evE]
@[simp] theorem T_chain {o p : Cm} {a b c : E} : T (evE call (.chain o p a b c) ρ S) φ ↔ T (evE call a ρ S) fun x S => T (evE call b ρ S) fun y S => ∃ t, cmpV o x y = some t ∧ if t = true then T (evE call c ρ S) fun z S => ∃ t, cmpV p y z = some t ∧ φ (.bl t) S else φ (.bl false) S := by simp [evE, T_ite]
@[simp] theorem T_ifE {c a b : E} : T (evE call (.ifE c a b) ρ S) φ ↔ T (evE call c ρ S) fun x S => ∃ t, truP S x = some t ∧ if t = true then T (evE call a ρ S) φ else T (evE call b ρ S) φ := by simp [evE, T_ite]
@[simp] theorem T_idx {a b : E} : T (evE call (.idx a b) ρ S) φ ↔ T (evE call a ρ S) fun x S => T (evE call b ρ S) fun y S => ∃ x', peekP S x = some x' ∧ ∃ z, idxV x' y = some z ∧ φ z S := by simp [evE]
@[simp] theorem T_sl {a lo hi : E} {l h : Bool} : T (evE call (.sl a l lo h hi) ρ S) φ ↔ T (evE call a ρ S) fun x S => T ((if l = true then evE call lo ρ else M.pure .non) S) fun y S => ∃ y', partM l y = some y' ∧ T ((if h = true then evE call hi ρ else M.pure .non) S) fun z S => ∃ z', partM h z = some z' ∧ ∃ x', peekP S x = some x' ∧ ∃ z, slV x' y' z' = some z ∧ φ z S := by simp [evE]
@[simp] theorem T_call {f : Nat} {es : List E} : T (evE call (.call f es) ρ S) φ ↔ T (evEs call es ρ S) fun ds S => T (call f ds S) φ := by simp [evE]
@[simp] theorem T_bi {b : Bi} {es : List E} : T (evE call (.bi b es) ρ S) φ ↔ T (evEs call es ρ S) fun ds S => T (biM b ds S) φ := by simp [evE]
@[simp] theorem T_isi {a : E} {t : Ty} : T (evE call (.isi a t) ρ S) φ ↔ T (evE call a ρ S) fun x S => ∃ x', peekP S x = some x' ∧ ∃ b, isiV x' t = some b ∧ φ (.bl b) S := by simp [evE]
@[simp] theorem T_nils {φ : List D → Store → Prop} : T (evEs call [] ρ S) φ ↔ φ [] S := by simp [evEs]
@[simp] theorem T_conss {e : E} {es : List E} {φ : List D → Store → Prop} : T (evEs call (e :: es) ρ S) φ ↔ T (evE call e ρ S) fun d S => T (evEs call es ρ S) fun ds S => φ (d :: ds) S := by simp [evEs]
@[simp] theorem T_evT {e : E} {φ : Bool → Store → Prop} : T (evT call e ρ S) φ ↔ T (evE call e ρ S) fun d S => ∃ b, truP S d = some b ∧ φ b S := by simp [evT]
theorem T_comp {vs : List Nat} {tg : Tg} {k : Sk} {src conds : List E} {elt : E} : T (evE call (.comp vs tg k src conds elt) ρ S) φ ↔ T (evEs call src ρ S) fun ds S => ∃ sc, srcOf k ds = some sc ∧ T (compM (fun d => match asg tg d (wipeD ρ vs) with
        | some ρ' => noX (M.bind (evTs call conds ρ') fun t => if t then M.bind (evE call elt ρ') fun y => M.pure (some y) else M.pure none)
        | none => stuck) sc S) fun ds S => φ (.lst ds) S := by
  simp only [evE, T_bind, T_opt, T_pure]
  try exact Iff.rfl
end
section
variable {call : Nat → List D → M D} {ρ : Env} {S : Store} {φ : Fl × Env → Store → Prop}
@[simp] theorem X_nil : T (exSs call [] ρ S) φ ↔ φ (.nx, ρ) S := by simp [exSs]
theorem X_cons {s : Ev.S} {ss : List Ev.S} : T (exSs call (s :: ss) ρ S) φ ↔ T (exS call s ρ S) fun r S => match r.1 with
    | .nx => T (exSs call ss r.2 S) φ
    | _ => φ r S := by
  simp only [exSs, T_bind]
  constructor
  · intro h
    refine h.mono fun r S q => ?_
    obtain ⟨f, ρ'⟩ := r
    cases f <;> first | exact q | exact T_pure.mp q
  · intro h
    refine h.mono fun r S q => ?_
    obtain ⟨f, ρ'⟩ := r
    cases f <;> first | exact q | exact T_pure.mpr q
theorem X_set {tg : Tg} {e : E} : T (exS call (.set tg e) ρ S) φ ↔ T (evE call e ρ S) fun d S => ∃ ρ', asg tg d ρ = some ρ' ∧ φ (.nx, ρ') S := by
  simp only [exS, T_bind]
  constructor
  · intro h
    refine h.mono fun d S q => ?_
    cases e : asg tg d ρ with
    | none =>
      rw [e] at q
      exact (T_stuck.mp q).elim
    | some ρ' =>
      rw [e] at q
      exact ⟨ρ', rfl, T_pure.mp q⟩
  · intro h
    refine h.mono fun d S ⟨ρ', e, q⟩ => ?_
    rw [e]
    exact T_pure.mpr q
theorem X_par {i j : Nat} {a b : E} : T (exS call (.par i j a b) ρ S) φ ↔ T (evE call a ρ S) fun x S => T (evE call b ρ S) fun y S => φ (.nx, (ρ.set i (some x)).set j (some y)) S := by simp [exS]
theorem X_par3 {i j l : Nat} {a b c : E} : T (exS call (.par3 i j l a b c) ρ S) φ ↔ T (evE call a ρ S) fun x S => T (evE call b ρ S) fun y S => T (evE call c ρ S) fun z S => φ (.nx, ((ρ.set l (some z)).set j (some y)).set i (some x)) S := by simp [exS]
theorem X_setI {o i e : E} : T (exS call (.setI o i e) ρ S) φ ↔ T (evE call e ρ S) fun v S => T (evE call o ρ S) fun x S => T (evE call i ρ S) fun y S => T (setIM x y v S) fun _ S => φ (.nx, ρ) S := by simp [exS]
theorem X_ex {e : E} : T (exS call (.ex e) ρ S) φ ↔ T (evE call e ρ S) fun _ S => φ (.nx, ρ) S := by simp [exS]
theorem X_ret {e : E} : T (exS call (.ret e) ρ S) φ ↔ T (evE call e ρ S) fun d S => φ (.rt d, ρ) S := by simp [exS]
theorem X_retN : T (exS call .retN ρ S) φ ↔ φ (.rt .non, ρ) S := by simp [exS]
theorem X_if {c : E} {a b : List Ev.S} : T (exS call (.ifS c a b) ρ S) φ ↔ T (evE call c ρ S) fun d S => ∃ t, truP S d = some t ∧ if t = true then T (exSs call a ρ S) φ else T (exSs call b ρ S) φ := by simp [exS, T_ite]
theorem X_for {tg : Tg} {k : Sk} {src : List E} {body : List Ev.S} : T (exS call (.forS tg k src body) ρ S) φ ↔ T (evEs call src ρ S) fun ds S => ∃ sc, srcOf k ds = some sc ∧ T (loopM (fun d ρ => match asg tg d ρ with
        | some ρ' => exSs call body ρ'
        | none => stuck) sc ρ S) φ := by
  simp only [exS, T_bind, T_opt]
  try exact Iff.rfl
theorem X_while {c : E} {body : List Ev.S} : T (exS call (.whileS c body) ρ S) φ ↔ T (whileM (evT call c) (exSs call body) ρ S) φ := by simp [exS]
end
/-! ### calls -/
theorem T_callV {prog : Nat → Option Fd} {k f : Nat} {ds : List D} {S : Store} {φ : D → Store → Prop} {fd : Fd} (h : prog f = some fd) (hl : ds.length = fd.np) :
    T (callV prog (k + 1) f ds S) φ ↔ T (exSs (callV prog k) fd.body (ds.map some ++ List.replicate (fd.n - fd.np) none) S) fun r S => match r.1 with
      | .rt d => φ d S
      | .nx => φ .non S
      | _ => False := by
  show T ((match prog f with
    | some fd => if ds.length = fd.np then M.bind (exSs (callV prog k) fd.body (ds.map some ++ List.replicate (fd.n - fd.np) none)) outM else stuck
    | none => stuck) S) φ ↔ _
  rw [h]
  dsimp only
  rw [if_pos hl, T_bind]
  constructor
  · intro h
    refine h.mono fun r S q => ?_
    obtain ⟨fl, ρ⟩ := r
    cases fl
    · exact T_pure.mp q
    · exact T_pure.mp q
    · exact (T_none.mp q).elim
    · exact (T_none.mp q).elim
  · intro h
    refine h.mono fun r S q => ?_
    obtain ⟨fl, ρ⟩ := r
    cases fl
    · exact T_pure.mpr q
    · exact T_pure.mpr q
    · exact q.elim
    · exact q.elim
/-! ### loops -/
theorem T_loopL_nil {turn : D → Env → M (Fl × Env)} {ρ : Env} {S : Store} {φ : Fl × Env → Store → Prop} : T (loopL turn [] ρ S) φ ↔ φ (.nx, ρ) S := T_pure
theorem T_loopL_cons {turn : D → Env → M (Fl × Env)} {d : D} {ds : List D} {ρ : Env} {S : Store} {φ : Fl × Env → Store → Prop} : T (loopL turn (d :: ds) ρ S) φ ↔ T (turn d ρ S) fun r S => match r.1 with
    | .nx => T (loopL turn ds r.2 S) φ
    | .ct => T (loopL turn ds r.2 S) φ
    | .bk => φ (.nx, r.2) S
    | .rt v => φ (.rt v, r.2) S := by
  show T (M.bind (turn d ρ) _ S) φ ↔ _
  rw [T_bind]
  constructor
  · intro h
    refine h.mono fun r S q => ?_
    obtain ⟨f, ρ'⟩ := r
    cases f <;> first | exact q | exact T_pure.mp q
  · intro h
    refine h.mono fun r S q => ?_
    obtain ⟨f, ρ'⟩ := r
    cases f <;> first | exact q | exact T_pure.mpr q
/-- a loop over items by an invariant; some turn may return -/
theorem loop_inv {turn : D → Env → M (Fl × Env)} {φ : Fl × Env → Store → Prop} (I : List D → Env → Store → Prop)
    (h : ∀ d ds ρ S, I (d :: ds) ρ S → T (turn d ρ S) fun r S' => match r.1 with
      | .nx => I ds r.2 S'
      | .ct => I ds r.2 S'
      | .bk => φ (.nx, r.2) S'
      | .rt v => φ (.rt v, r.2) S') (hn : ∀ ρ S, I [] ρ S → φ (.nx, ρ) S) : ∀ ds ρ S, I ds ρ S → T (loopL turn ds ρ S) φ
  | [], ρ, S, i => T_loopL_nil.mpr (hn ρ S i)
  | d :: ds, ρ, S, i => by
    rw [T_loopL_cons]
    refine (h d ds ρ S i).mono fun r S' q => ?_
    obtain ⟨f, ρ'⟩ := r
    cases f
    · exact loop_inv I h hn ds ρ' S' q
    · exact q
    · exact q
    · exact loop_inv I h hn ds ρ' S' q
theorem T_while {c : Env → M Bool} {b : Env → M (Fl × Env)} {ρ : Env} {S : Store} {φ : Fl × Env → Store → Prop} : T (whileM c b ρ S) φ ↔ T (c ρ S) fun t S => if t = true then T (b ρ S) fun r S => match r.1 with
    | .nx => T (whileM c b r.2 S) φ
    | .ct => T (whileM c b r.2 S) φ
    | .bk => φ (.nx, r.2) S
    | .rt v => φ (.rt v, r.2) S
    else φ (.nx, ρ) S := by
  rw [whileM.eq_1]
  cases e : c ρ S with
  | none => simp
  | some q =>
    cases q with
    | ex x S' =>
      constructor
      · rintro ⟨_, _, e, _⟩
        cases e
      · rintro ⟨_, _, e, _⟩
        cases e
    | ok t S1 =>
      rw [T_some]
      cases t with
      | false =>
        dsimp only
        rw [T_some]
        simp
      | true =>
        dsimp only
        rw [if_pos rfl]
        cases e2 : b ρ S1 with
        | none => simp
        | some q =>
          cases q with
          | ex x S' =>
            constructor
            · rintro ⟨_, _, e, _⟩
              cases e
            · rintro ⟨_, _, e, _⟩
              cases e
          | ok o S' =>
            obtain ⟨f, ρ'⟩ := o
            rw [T_some]
            cases f <;> first | exact Iff.rfl | exact T_some
/-- a comprehension by what each item gives -/
theorem compL_inv {f : D → M (Option D)} {φ : List D → Store → Prop} (I : List D → List D → Store → Prop)
    (h : ∀ d ds acc S, I (d :: ds) acc S → T (f d S) fun o S' => match o with
      | none => I ds acc S'
      | some y => acc.length < sizeMax ∧ I ds (acc ++ [y]) S') (hn : ∀ acc S, I [] acc S → φ acc S) : ∀ ds acc S, I ds acc S → T (compL f ds acc S) φ
  | [], acc, S, i => T_pure.mpr (hn acc S i)
  | d :: ds, acc, S, i => by
    show T (M.bind (f d) _ S) φ
    rw [T_bind]
    refine (h d ds acc S i).mono fun o S' q => ?_
    cases o with
    | none => exact compL_inv I h hn ds acc S' q
    | some y =>
      dsimp only
      rw [if_pos q.1]
      exact compL_inv I h hn ds (acc ++ [y]) S' q.2
/-- each item gives one, the store left as it is -/
theorem compL_map {f : D → M (Option D)} {g : D → D} {S : Store} : ∀ (ds acc : List D), acc.length + ds.length ≤ sizeMax → (∀ d ∈ ds, f d S = some (.ok (some (g d)) S)) → compL f ds acc S = some (.ok (acc ++ ds.map g) S)
  | [], acc, _, _ => by
    rw [List.map_nil, List.append_nil]
    rfl
  | d :: ds, acc, hz, h => by
    show M.bind (f d) _ S = _
    unfold M.bind
    rw [h d List.mem_cons_self]
    dsimp only
    rw [List.length_cons] at hz
    rw [if_pos (by omega), compL_map ds (acc ++ [g d]) (by rw [List.length_append, List.length_singleton]; omega) fun d' hd => h d' (List.mem_cons_of_mem _ hd)]
    rw [List.map_cons, List.append_assoc]
    rfl
end Ev
set_option linter.all false
set_option maxRecDepth 100000
set_option maxHeartbeats 1000000
namespace Ev
open PySem
/-! ### values and what is done with them -/
theorem T_eq {α : Type} {r : Option (Rs α)} {x : α} {S : Store} (h : T r fun a S' => a = x ∧ S' = S) : r = some (.ok x S) := by
  obtain ⟨a, S', e, rfl, rfl⟩ := h
  exact e
theorem T_of {α : Type} {r : Option (Rs α)} {x : α} {S : Store} {φ : α → Store → Prop} (h : r = some (.ok x S)) : T r φ ↔ φ x S := by rw [h, T_some]
/-- no reference, at the top -/
def nr : D → Bool
  | .ref _ => false
  | _ => true
@[simp] theorem peek_tup {S : Store} {ds : List D} : peekP S (.tup ds) = some (.tup ds) := rfl
@[simp] theorem peek_lst {S : Store} {ds : List D} : peekP S (.lst ds) = some (.lst ds) := rfl
@[simp] theorem peek_fro {S : Store} {ds : List D} : peekP S (.fro ds) = some (.fro ds) := rfl
@[simp] theorem peek_int {S : Store} {i : Int} : peekP S (.int i) = some (.int i) := rfl
@[simp] theorem peek_bl {S : Store} {i : Bool} : peekP S (.bl i) = some (.bl i) := rfl
@[simp] theorem peek_str {S : Store} {i : Str} : peekP S (.str i) = some (.str i) := rfl
@[simp] theorem peek_non {S : Store} : peekP S .non = some .non := rfl
@[simp] theorem peek_dic {S : Store} : peekP S .dic = some .dic := rfl
theorem peek_nr {S : Store} {d : D} (h : nr d = true) : peekP S d = some d := by
  cases d <;> first | rfl | cases h
theorem peek_ref {S : Store} {n : Nat} {ds : List D} (h : S[n]? = some (.lst ds)) : peekP S (.ref n) = some (.lst ds) := by
  show (match S[n]? with
    | some (.lst ds) => some (D.lst ds)
    | none => none) = _
  rw [h]
@[simp] theorem tru_bl {S : Store} {b : Bool} : truP S (.bl b) = some b := rfl
@[simp] theorem tru_int {S : Store} {i : Int} : truP S (.int i) = some (i != 0) := rfl
@[simp] theorem tru_tup {S : Store} {ds : List D} : truP S (.tup ds) = some (!ds.isEmpty) := rfl
@[simp] theorem tru_lst {S : Store} {ds : List D} : truP S (.lst ds) = some (!ds.isEmpty) := rfl
@[simp] theorem tru_non {S : Store} : truP S .non = some false := rfl
theorem T_biR {b : Bi} {d : D} {S : Store} {φ : D → Store → Prop} (h : biReads b = true) : T (biM b [d] S) φ ↔ ∃ d', peekP S d = some d' ∧ ∃ z, biV b [d'] = some z ∧ φ z S := by
  unfold biM
  dsimp only
  rw [if_pos h]
  simp
theorem T_biN {b : Bi} {d : D} {S : Store} {φ : D → Store → Prop} (h : biReads b = false) : T (biM b [d] S) φ ↔ ∃ z, biV b [d] = some z ∧ φ z S := by
  unfold biM
  dsimp only
  rw [if_neg (by rw [h]; decide)]
  simp
@[simp] theorem T_len {d : D} {S : Store} {φ : D → Store → Prop} : T (biM .len [d] S) φ ↔ ∃ d', peekP S d = some d' ∧ ∃ n, lenV d' = some n ∧ φ (.int (n : Nat)) S := by
  rw [T_biR rfl]
  simp only [biV, one1, Option.map_eq_some_iff]
  constructor
  · rintro ⟨d', h1, z, ⟨n, h2, rfl⟩, h3⟩
    exact ⟨d', h1, n, h2, h3⟩
  · rintro ⟨d', h1, n, h2, h3⟩
    exact ⟨d', h1, _, ⟨n, h2, rfl⟩, h3⟩
@[simp] theorem T_tuple {d : D} {S : Store} {φ : D → Store → Prop} : T (biM .tuple [d] S) φ ↔ ∃ d', peekP S d = some d' ∧ ∃ n, itemsV d' = some n ∧ φ (.tup n) S := by
  rw [T_biR rfl]
  simp only [biV, one1, Option.map_eq_some_iff]
  constructor
  · rintro ⟨d', h1, z, ⟨n, h2, rfl⟩, h3⟩
    exact ⟨d', h1, n, h2, h3⟩
  · rintro ⟨d', h1, n, h2, h3⟩
    exact ⟨d', h1, _, ⟨n, h2, rfl⟩, h3⟩
@[simp] theorem T_list {d : D} {S : Store} {φ : D → Store → Prop} : T (biM .list [d] S) φ ↔ ∃ d', peekP S d = some d' ∧ ∃ n, itemsV d' = some n ∧ φ (.lst n) S := by
  rw [T_biR rfl]
  simp only [biV, one1, Option.map_eq_some_iff]
  constructor
  · rintro ⟨d', h1, z, ⟨n, h2, rfl⟩, h3⟩
    exact ⟨d', h1, n, h2, h3⟩
  · rintro ⟨d', h1, n, h2, h3⟩
    exact ⟨d', h1, _, ⟨n, h2, rfl⟩, h3⟩
@[simp] theorem T_any {d : D} {S : Store} {φ : D → Store → Prop} : T (biM .any [d] S) φ ↔ ∃ d', peekP S d = some d' ∧ ∃ z, anyV d' = some z ∧ φ z S := by
  rw [T_biR rfl]
  simp [biV, one1]
@[simp] theorem T_all {d : D} {S : Store} {φ : D → Store → Prop} : T (biM .all [d] S) φ ↔ ∃ d', peekP S d = some d' ∧ ∃ z, allV d' = some z ∧ φ z S := by
  rw [T_biR rfl]
  simp [biV, one1]
@[simp] theorem T_max {d : D} {S : Store} {φ : D → Store → Prop} : T (biM .max [d] S) φ ↔ ∃ d', peekP S d = some d' ∧ ∃ z, maxV d' = some z ∧ φ z S := by
  rw [T_biR rfl]
  simp [biV, one1]
@[simp] theorem T_min {d : D} {S : Store} {φ : D → Store → Prop} : T (biM .min [d] S) φ ↔ ∃ d', peekP S d = some d' ∧ ∃ z, minV d' = some z ∧ φ z S := by
  rw [T_biR rfl]
  simp [biV, one1]
@[simp] theorem T_abs {i : Int} {S : Store} {φ : D → Store → Prop} : T (biM .abs [.int i] S) φ ↔ φ (.int (if i < 0 then -i else i)) S := by
  rw [T_biN rfl]
  simp [biV, one1, absV]
@[simp] theorem T_int {i : Int} {S : Store} {φ : D → Store → Prop} : T (biM .int [.int i] S) φ ↔ φ (.int i) S := by
  rw [T_biN rfl]
  simp [biV, one1, intV]
@[simp] theorem T_repr {d : D} {S : Store} {φ : D → Store → Prop} : T (biM .repr [d] S) φ ↔ ∃ z, reprV d = some z ∧ φ z S := by
  rw [T_biN rfl]
  simp [biV, one1]
@[simp] theorem T_max2 {i j : Int} {S : Store} {φ : D → Store → Prop} : T (biM .max2 [.int i, .int j] S) φ ↔ φ (.int (if j > i then j else i)) S := by
  show T (opt (biV .max2 [.int i, .int j]) S) φ ↔ _
  simp [biV, two2]
@[simp] theorem T_min2 {i j : Int} {S : Store} {φ : D → Store → Prop} : T (biM .min2 [.int i, .int j] S) φ ↔ φ (.int (if j < i then j else i)) S := by
  show T (opt (biV .min2 [.int i, .int j]) S) φ ↔ _
  simp [biV, two2]
/-! #### ints -/
@[simp] theorem bin_add {i j : Int} : binV .add (.int i) (.int j) = some (.int (i + j)) := rfl
@[simp] theorem bin_sub {i j : Int} : binV .sub (.int i) (.int j) = some (.int (i - j)) := rfl
@[simp] theorem bin_mul {i j : Int} : binV .mul (.int i) (.int j) = liftD (mulOk i j) (.int (i * j)) := rfl
@[simp] theorem bin_fdiv {i j : Int} : binV .fdiv (.int i) (.int j) = liftD (decide (j ≠ 0) && decide (j.natAbs < 1073741824)) (.int (i.fdiv j)) := rfl
@[simp] theorem bin_mod {i j : Int} : binV .mod (.int i) (.int j) = liftD (decide (j ≠ 0)) (.int (i.fmod j)) := rfl
@[simp] theorem bin_pow {i j : Int} : binV .pow (.int i) (.int j) = liftD (decide (0 ≤ j) && decide (j ≤ 1000000) && decide (i.natAbs < 2 ^ 64)) (.int (i ^ j.toNat)) := rfl
@[simp] theorem bin_addT {a b : List D} : binV .add (.tup a) (.tup b) = liftD (decide (a.length + b.length ≤ sizeMax)) (.tup (a ++ b)) := rfl
@[simp] theorem bin_addL {a b : List D} : binV .add (.lst a) (.lst b) = liftD (decide (a.length + b.length ≤ sizeMax)) (.lst (a ++ b)) := rfl
@[simp] theorem bin_mulT {a : List D} {k : Int} : binV .mul (.tup a) (.int k) = liftD (repOk a.length k) (.tup (listRep a k)) := rfl
@[simp] theorem bin_mulL {a : List D} {k : Int} : binV .mul (.lst a) (.int k) = liftD (repOk a.length k) (.lst (listRep a k)) := rfl
@[simp] theorem aug_add {i j : Int} : augV .add (.int i) (.int j) = some (.int (i + j)) := rfl
@[simp] theorem aug_sub {i j : Int} : augV .sub (.int i) (.int j) = some (.int (i - j)) := rfl
theorem mulOk_r {i j : Int} (h : -(2 ^ 64) < j) (h2 : j < 2 ^ 64) : mulOk i j = true := by
  unfold mulOk
  rw [decide_eq_true h, decide_eq_true h2]
  simp
theorem mulOk_l {i j : Int} (h : -(2 ^ 64) < i) (h2 : i < 2 ^ 64) : mulOk i j = true := by
  unfold mulOk
  rw [decide_eq_true h, decide_eq_true h2]
  simp
@[simp] theorem cmp_lt {i j : Int} : cmpV .lt (.int i) (.int j) = some (decide (i < j)) := rfl
@[simp] theorem cmp_le {i j : Int} : cmpV .le (.int i) (.int j) = some (decide (i ≤ j)) := rfl
@[simp] theorem cmp_gt {i j : Int} : cmpV .gt (.int i) (.int j) = some (decide (j < i)) := rfl
@[simp] theorem cmp_ge {i j : Int} : cmpV .ge (.int i) (.int j) = some (decide (j ≤ i)) := rfl
@[simp] theorem cmp_eq {a b : D} : cmpV .eq a b = eqD a b := by cases a <;> cases b <;> rfl
@[simp] theorem cmp_ne {a b : D} : cmpV .ne a b = (eqD a b).map (!·) := by cases a <;> cases b <;> rfl
@[simp] theorem cmp_isN {a : D} : cmpV .isN a .non = some (isNon a) := by cases a <;> rfl
@[simp] theorem cmp_notN {a : D} : cmpV .notN a .non = some (!isNon a) := by cases a <;> rfl
@[simp] theorem eqD_int {i j : Int} : eqD (.int i) (.int j) = some (decide (i = j)) := by
  show (if min 0 0 ≤ 60 then some (i == j) else none) = _
  rw [if_pos (by decide)]
  by_cases h : i = j <;> simp [h]
theorem eqD_str {i j : Str} : eqD (.str i) (.str j) = some (decide (i = j)) := by
  show (if min 0 0 ≤ 60 then some (i == j) else none) = _
  rw [if_pos (by decide)]
  by_cases h : i = j <;> simp [h]
/-! #### tuples of ints -/
abbrev ti (xs : List Int) : D := .tup (xs.map .int)
@[simp] theorem toPsI_ : ∀ xs : List Int, toPs (xs.map .int) = some (xs.map .int)
  | [] => rfl
  | x :: xs => by
    show (match toP (.int x), toPs (xs.map .int) with
      | some p, some ps => some (p :: ps)
      | _, _ => none) = _
    rw [toPsI_ xs]
    rfl
theorem depthI_ : ∀ xs : List Int, PyData.depthAll (xs.map .int) = 0
  | [] => by simp [PyData.depthAll]
  | x :: xs => by
    rw [List.map_cons, PyData.depthAll, depthI_ xs]
    simp [PyData.depth]
theorem eqvI_ : ∀ xs ys : List Int, PyData.eqvAll (xs.map .int) (ys.map .int) = decide (xs = ys)
  | [], [] => by simp [PyData.eqvAll]
  | [], _ :: _ => by simp [PyData.eqvAll]
  | _ :: _, [] => by simp [PyData.eqvAll]
  | x :: xs, y :: ys => by
    rw [List.map_cons, List.map_cons, PyData.eqvAll, eqvI_ xs ys, PyData.eqv]
    by_cases h1 : x = y <;> by_cases h2 : xs = ys <;> simp [h1, h2]
theorem toP_ti {xs : List Int} : toP (ti xs) = some (.tuple (xs.map .int)) := by
  show (toPs (xs.map D.int)).map PyData.tuple = _
  rw [toPsI_]
  rfl
@[simp] theorem eqD_ti {xs ys : List Int} : eqD (.tup (xs.map .int)) (.tup (ys.map .int)) = some (decide (xs = ys)) := by
  unfold eqD
  rw [toP_ti, toP_ti]
  dsimp only
  rw [if_pos (by rw [PyData.depth, depthI_]; omega), PyData.eqv, eqvI_]
theorem eqD_li {xs ys : List Int} : eqD (.lst (xs.map .int)) (.lst (ys.map .int)) = some (decide (xs = ys)) := by
  have e : ∀ xs : List Int, toP (.lst (xs.map .int)) = some (.list (xs.map .int)) := fun xs => by
    show (toPs (xs.map D.int)).map PyData.list = _
    rw [toPsI_]
    rfl
  unfold eqD
  rw [e, e]
  dsimp only
  rw [if_pos (by rw [PyData.depth, depthI_]; omega), PyData.eqv, eqvI_]
/-- a row: head, ring -/
abbrev rw_ (h r : List Int) : D := .tup [ti h, ti r]
theorem toP_rw {h r : List Int} : toP (rw_ h r) = some (.tuple [.tuple (h.map .int), .tuple (r.map .int)]) := by
  show (toPs [ti h, ti r]).map PyData.tuple = _
  have e : toPs [ti h, ti r] = some [.tuple (h.map .int), .tuple (r.map .int)] := by
    show (match toP (ti h), (match toP (ti r), toPs [] with
      | some p, some ps => some (p :: ps)
      | _, _ => none) with
      | some p, some ps => some (p :: ps)
      | _, _ => none) = _
    rw [toP_ti, toP_ti]
    rfl
  rw [e]
  rfl
theorem eqD_rw {h r h' r' : List Int} : eqD (rw_ h r) (rw_ h' r') = some (decide (h = h' ∧ r = r')) := by
  unfold eqD
  rw [toP_rw, toP_rw]
  dsimp only
  have d : ∀ h r : List Int, (PyData.tuple [.tuple (h.map .int), .tuple (r.map .int)]).depth = 2 := fun h r => by
    simp [PyData.depth, PyData.depthAll, depthI_]
  rw [d, d, if_pos (by decide), PyData.eqv, PyData.eqvAll, PyData.eqvAll, PyData.eqvAll, PyData.eqv, PyData.eqv, eqvI_, eqvI_]
  by_cases h1 : h = h' <;> by_cases h2 : r = r' <;> simp [h1, h2]
@[simp] theorem len_tup {ds : List D} : lenV (.tup ds) = some ds.length := rfl
@[simp] theorem len_lst {ds : List D} : lenV (.lst ds) = some ds.length := rfl
@[simp] theorem len_fro {ds : List D} : lenV (.fro ds) = some ds.length := rfl
@[simp] theorem items_tup {ds : List D} : itemsV (.tup ds) = some ds := rfl
@[simp] theorem items_lst {ds : List D} : itemsV (.lst ds) = some ds := rfl
@[simp] theorem items_fro {ds : List D} : itemsV (.fro ds) = some ds := rfl
@[simp] theorem idx_tup {ds : List D} {i : Int} : idxV (.tup ds) (.int i) = L2.atI ds i := rfl
@[simp] theorem idx_lst {ds : List D} {i : Int} : idxV (.lst ds) (.int i) = L2.atI ds i := rfl
@[simp] theorem idx_fro {ds : List D} {i : Int} : idxV (.fro ds) (.int i) = L2.atI ds i := rfl
@[simp] theorem sl_tup {ds : List D} {lo hi : Option Int} : slV (.tup ds) lo hi = some (.tup (cutD ds lo hi)) := rfl
@[simp] theorem sl_lst {ds : List D} {lo hi : Option Int} : slV (.lst ds) lo hi = some (.lst (cutD ds lo hi)) := rfl
@[simp] theorem sl_fro {ds : List D} {lo hi : Option Int} : slV (.fro ds) lo hi = some (.lst (cutD ds lo hi)) := rfl
@[simp] theorem part_f {d : D} : partM false d = some none := rfl
@[simp] theorem part_t {i : Int} : partM true (.int i) = some (some i) := rfl
theorem at_map {α β : Type} (f : α → β) (xs : List α) (i : Int) : L2.atI (xs.map f) i = (L2.atI xs i).map f := by
  unfold L2.atI
  rw [List.length_map]
  cases L2.ixN xs.length i with
  | none => rfl
  | some j => simp
theorem at_nat {α : Type} {xs : List α} {n : Nat} : L2.atI xs (n : Int) = xs[n]? := by
  unfold L2.atI L2.ixN
  rw [if_pos (by omega)]
  by_cases h : n < xs.length
  · rw [if_pos (by omega)]
    simp
  · rw [if_neg (by omega)]
    simp
    omega
theorem at_last {α : Type} {xs : List α} : L2.atI xs (-1) = xs.getLast? := by
  unfold L2.atI L2.ixN
  rw [if_neg (by decide), List.getLast?_eq_getElem?]
  cases xs with
  | nil => rfl
  | cons x xs =>
    rw [if_pos (by rw [List.length_cons]; omega)]
    show (x :: xs)[(-1 + (((x :: xs).length : Nat) : Int)).toNat]? = _
    congr 1
    omega
theorem at_back {α : Type} {xs : List α} {n : Nat} (h : 0 < n) (h2 : n ≤ xs.length) : L2.atI xs (-(n : Int)) = xs[xs.length - n]? := by
  unfold L2.atI L2.ixN
  rw [if_neg (by omega), if_pos (by omega)]
  show xs[(-(n : Int) + (xs.length : Int)).toNat]? = _
  congr 1
  omega
@[simp] theorem at_0 {α : Type} {x : α} {xs : List α} : L2.atI (x :: xs) 0 = some x := at_nat (n := 0)
@[simp] theorem at_1 {α : Type} {x y : α} {xs : List α} : L2.atI (x :: y :: xs) 1 = some y := at_nat (n := 1)
@[simp] theorem at_2 {α : Type} {x y z : α} {xs : List α} : L2.atI (x :: y :: z :: xs) 2 = some z := at_nat (n := 2)
@[simp] theorem at_3 {α : Type} {x y z a : α} {xs : List α} : L2.atI (x :: y :: z :: a :: xs) 3 = some a := at_nat (n := 3)
@[simp] theorem at_4 {α : Type} {x y z a b : α} {xs : List α} : L2.atI (x :: y :: z :: a :: b :: xs) 4 = some b := at_nat (n := 4)
def cutL {α : Type} (xs : List α) (lo hi : Option Int) : List α := (xs.drop (HT.sIx xs.length 0 lo)).take (HT.sIx xs.length xs.length hi - HT.sIx xs.length 0 lo)
theorem cut_map (xs : List Int) (lo hi : Option Int) : cutD (xs.map .int) lo hi = (cutL xs lo hi).map .int := by
  unfold cutD cutL
  rw [List.length_map, List.map_take, List.map_drop]
theorem cutD_eq (xs : List D) (lo hi : Option Int) : cutD xs lo hi = cutL xs lo hi := rfl
section
variable {α : Type} {xs : List α}
theorem cut_to {n : Nat} : cutL xs none (some (n : Int)) = xs.take n := by
  unfold cutL
  rw [HT.sIx_nat, HT.sIx_none, List.drop_zero, Nat.sub_zero]
  by_cases h : n ≤ xs.length
  · rw [Nat.min_eq_left h]
  · rw [Nat.min_eq_right (by omega), List.take_length, List.take_of_length_le (by omega)]
theorem cut_from {n : Nat} : cutL xs (some (n : Int)) none = xs.drop n := by
  unfold cutL
  rw [HT.sIx_nat, HT.sIx_none]
  by_cases h : n ≤ xs.length
  · rw [Nat.min_eq_left h, List.take_of_length_le (by rw [List.length_drop]; omega)]
  · rw [Nat.min_eq_right (by omega), Nat.sub_self, List.take_zero, List.drop_of_length_le (by omega)]
theorem sIx_neg {n d : Nat} : HT.sIx n d (some (-1)) = n - 1 := by
  show (if (-1 : Int) < 0 then ((-1 : Int) + (n : Int)).toNat else min (-1 : Int).toNat n) = _
  rw [if_pos (by decide)]
  omega
theorem cut_front : cutL xs none (some (-1)) = xs.dropLast := by
  unfold cutL
  rw [HT.sIx_none, List.drop_zero, Nat.sub_zero, List.dropLast_eq_take, sIx_neg]
theorem cut_end : cutL xs (some (-1)) none = xs.drop (xs.length - 1) := by
  unfold cutL
  rw [HT.sIx_none, sIx_neg, List.take_of_length_le]
  rw [List.length_drop]
  exact Nat.le_refl _
theorem cut_all : cutL xs none none = xs := by
  unfold cutL
  rw [HT.sIx_none, HT.sIx_none, List.drop_zero, Nat.sub_zero, List.take_length]
end
theorem rep_map (xs : List Int) (k : Int) : listRep (xs.map D.int) k = (listRep xs k).map .int := by
  unfold listRep
  induction k.toNat with
  | zero => rfl
  | succ n ih => rw [List.replicate_succ, List.replicate_succ, List.flatten_cons, List.flatten_cons, List.map_append, ih]
theorem rep_len {α : Type} (xs : List α) (k : Int) : (listRep xs k).length = xs.length * k.toNat := by
  unfold listRep
  induction k.toNat with
  | zero => simp
  | succ n ih => rw [List.replicate_succ, List.flatten_cons, List.length_append, ih, Nat.mul_succ]; omega
/-! #### loops' sources, targets -/
@[simp] theorem ex_rng1 {j : Int} {φ : Src → Prop} : (∃ sc, srcOf .rng1 [.int j] = some sc ∧ φ sc) ↔ inRg j = true ∧ φ (.items (rangeD 0 j.toNat)) := by
  show (∃ sc, (if inRg j = true then some (Src.items (rangeD 0 j.toNat)) else none) = some sc ∧ φ sc) ↔ _
  by_cases h : inRg j = true
  · rw [if_pos h]
    simp [h]
  · rw [if_neg h]
    simp [h]
@[simp] theorem ex_rng2 {i j : Int} {φ : Src → Prop} : (∃ sc, srcOf .rng2 [.int i, .int j] = some sc ∧ φ sc) ↔ (inRg i = true ∧ inRg j = true) ∧ φ (.items (rangeD i (j - i).toNat)) := by
  show (∃ sc, (if (inRg i && inRg j) = true then some (Src.items (rangeD i (j - i).toNat)) else none) = some sc ∧ φ sc) ↔ _
  by_cases h : inRg i = true ∧ inRg j = true
  · rw [if_pos (by rw [h.1, h.2]; rfl)]
    simp [h]
  · rw [if_neg (by simpa using h)]
    simp only [reduceCtorEq, false_and, exists_false, false_iff]
    exact fun z => h z.1
@[simp] theorem src_tup {ds : List D} : srcOf .seq [.tup ds] = some (.items ds) := rfl
@[simp] theorem src_lst {ds : List D} : srcOf .seq [.lst ds] = some (.items ds) := rfl
@[simp] theorem src_fro {ds : List D} : srcOf .seq [.fro ds] = some (.items ds) := rfl
theorem inRg_of {i : Int} (h : -(2 ^ 62) ≤ i) (h2 : i < 2 ^ 62) : inRg i = true := by
  unfold inRg
  rw [decide_eq_true h, decide_eq_true h2]
  rfl
@[simp] theorem asg_name {i : Nat} {d : D} {ρ : Env} : asg (.name i) d ρ = if i < ρ.length then some (ρ.set i (some d)) else none := rfl
@[simp] theorem asg_tup {ts : List Tg} {ds : List D} {ρ : Env} : asg (.tup ts) (.tup ds) ρ = asg.asgs ts ds ρ := rfl
@[simp] theorem asgs_nil {ρ : Env} : asg.asgs [] [] ρ = some ρ := rfl
theorem asgs_cons {t : Tg} {ts : List Tg} {d : D} {ds : List D} {ρ ρ' : Env} (h : asg t d ρ = some ρ') : asg.asgs (t :: ts) (d :: ds) ρ = asg.asgs ts ds ρ' := by
  show (match asg t d ρ with
    | some ρ' => asg.asgs ts ds ρ'
    | none => none) = _
  rw [h]
@[simp] theorem asgs_name {i : Nat} {ts : List Tg} {d : D} {ds : List D} {ρ : Env} : asg.asgs (.name i :: ts) (d :: ds) ρ = if i < ρ.length then asg.asgs ts ds (ρ.set i (some d)) else none := by
  by_cases h : i < ρ.length
  · rw [asgs_cons (ρ' := ρ.set i (some d)) (by rw [asg_name, if_pos h]), if_pos h]
  · show (match asg (.name i) d ρ with
      | some ρ' => asg.asgs ts ds ρ'
      | none => none) = _
    rw [asg_name, if_neg h, if_neg h]
@[simp] theorem T_setIM {n : Nat} {i : Int} {v : D} {S : Store} {φ : Unit → Store → Prop} : T (setIM (.ref n) (.int i) v S) φ ↔ ∃ ds, S[n]? = some (.lst ds) ∧ ∃ j, L2.ixN ds.length i = some j ∧ φ () (S.set n (.lst (ds.set j v))) := by
  unfold setIM
  rw [T_bind, T_getO]
  constructor
  · rintro ⟨o, e, h⟩
    cases o with
    | lst ds =>
      dsimp only at h
      cases e2 : L2.ixN ds.length i with
      | none =>
        rw [e2] at h
        exact (T_stuck.mp h).elim
      | some j =>
        rw [e2] at h
        exact ⟨ds, e, j, e2, (T_putO.mp h).2⟩
  · rintro ⟨ds, e, j, e2, h⟩
    refine ⟨.lst ds, e, ?_⟩
    dsimp only
    rw [e2]
    exact T_putO.mpr ⟨(List.getElem?_eq_some_iff.mp e).1, h⟩
/-- a comprehension over known items -/
theorem T_compI {call : Nat → List D → M D} {vs : List Nat} {tg : Tg} {k : Sk} {src conds : List E} {elt : E} {ρ : Env} {S : Store} {φ : D → Store → Prop} {ds : List D} (hs : T (evEs call src ρ S) fun vs S' => srcOf k vs = some (.items ds) ∧ S' = S)
    (g : D → D) (hz : ds.length ≤ sizeMax) (h : ∀ d ∈ ds, ∃ ρ', asg tg d (wipeD ρ vs) = some ρ' ∧ T (evTs call conds ρ' S) (fun t S' => t = true ∧ S' = S) ∧ T (evE call elt ρ' S) fun y S' => y = g d ∧ S' = S) (hφ : φ (.lst (ds.map g)) S) : T (evE call (.comp vs tg k src conds elt) ρ S) φ := by
  rw [T_comp]
  refine hs.mono fun v S' ⟨e, e2⟩ => ?_
  subst e2
  refine ⟨_, e, ?_⟩
  show T (compL _ ds [] S') _
  rw [compL_map (g := g) ds [] (by rw [List.length_nil]; omega) fun d hd => ?_]
  · rw [T_some, List.nil_append]
    exact hφ
  · obtain ⟨ρ', e1, h1, h2⟩ := h d hd
    rw [e1]
    refine T_eq (T_noX.mpr (T_bind.mpr (h1.mono fun t S2 ⟨et, es⟩ => ?_)))
    subst et es
    rw [if_pos rfl, T_bind]
    exact h2.mono fun y S3 ⟨ey, es⟩ => by
      subst ey es
      exact T_pure.mpr ⟨rfl, rfl⟩
@[simp] theorem Ts_nil {call : Nat → List D → M D} {ρ : Env} {S : Store} {φ : Bool → Store → Prop} : T (evTs call [] ρ S) φ ↔ φ true S := by simp [evTs]
@[simp] theorem Ts_one {call : Nat → List D → M D} {ρ : Env} {S : Store} {e : E} {φ : Bool → Store → Prop} : T (evTs call [e] ρ S) φ ↔ T (evE call e ρ S) fun d S => ∃ b, truP S d = some b ∧ φ b S := by
  simp only [evTs, T_bind, T_truM]
  constructor
  · intro h
    refine h.mono fun d S ⟨b, e, q⟩ => ⟨b, e, ?_⟩
    cases b <;> exact T_pure.mp q
  · intro h
    refine h.mono fun d S ⟨b, e, q⟩ => ⟨b, e, ?_⟩
    cases b <;> exact T_pure.mpr q
end Ev
namespace Ev
open PySem
/-- a statement, then the rest, by what holds between -/
theorem X_seq {call : Nat → List D → M D} {s : Ev.S} {ss : List Ev.S} {ρ : Env} {S : Store} {φ : Fl × Env → Store → Prop} (ψ : Env → Store → Prop) (h1 : T (exS call s ρ S) fun r S' => match r.1 with
    | .nx => ψ r.2 S'
    | _ => φ r S') (h2 : ∀ ρ' S', ψ ρ' S' → T (exSs call ss ρ' S') φ) : T (exSs call (s :: ss) ρ S) φ := by
  rw [X_cons]
  refine h1.mono fun r S' q => ?_
  obtain ⟨f, ρ'⟩ := r
  cases f
  · exact h2 ρ' S' q
  · exact q
  · exact q
  · exact q
end Ev
namespace Ev
open PySem
@[simp] theorem cut_ints {xs : List Int} {lo hi : Option Int} : cutD (List.map D.int xs) lo hi = List.map D.int (cutL xs lo hi) := cut_map xs lo hi
@[simp] theorem rep_ints {xs : List Int} {k : Int} : listRep (List.map D.int xs) k = List.map D.int (listRep xs k) := rep_map xs k
theorem app_ints {xs ys : List Int} : List.map D.int xs ++ List.map D.int ys = List.map D.int (xs ++ ys) := (List.map_append).symm
@[simp] theorem toIs_ints : ∀ xs : List Int, toIs (List.map D.int xs) = some xs
  | [] => rfl
  | x :: xs => by
    show (match toI (.int x), toIs (List.map D.int xs) with
      | some i, some is => some (i :: is)
      | _, _ => none) = _
    rw [toIs_ints xs]
    rfl
@[simp] theorem max_ints {xs : List Int} : maxV (.tup (List.map D.int xs)) = (maxI xs).map .int := by simp [maxV]
@[simp] theorem max_intsL {xs : List Int} : maxV (.lst (List.map D.int xs)) = (maxI xs).map .int := by simp [maxV]
@[simp] theorem min_ints {xs : List Int} : minV (.tup (List.map D.int xs)) = (minI xs).map .int := by simp [minV]
@[simp] theorem at_ints {xs : List Int} {i : Int} : L2.atI (List.map D.int xs) i = (L2.atI xs i).map .int := at_map _ xs i
@[simp] theorem eqD_nil {xs : List Int} : eqD (.tup (List.map D.int xs)) (.tup []) = some (decide (xs = [])) := eqD_ti (ys := [])
@[simp] theorem ex_int {o : Option Int} {φ : D → Prop} : (∃ z, (∃ a, o = some a ∧ D.int a = z) ∧ φ z) ↔ ∃ a, o = some a ∧ φ (.int a) := by
  constructor
  · rintro ⟨z, ⟨a, e, rfl⟩, q⟩
    exact ⟨a, e, q⟩
  · rintro ⟨a, e, q⟩
    exact ⟨_, ⟨a, e, rfl⟩, q⟩
theorem last_some {α : Type} {xs : List α} (h : xs ≠ []) : L2.atI xs (-1) = some (xs.getLast h) := by
  rw [at_last, List.getLast?_eq_some_getLast h]
theorem max_ne {xs : List Int} (h : xs ≠ []) : ∃ m, maxI xs = some m := by
  cases xs with
  | nil => exact absurd rfl h
  | cons x xs => exact ⟨_, rfl⟩
theorem max_some {x : Int} {xs : List Int} : maxI (x :: xs) = some (xs.foldl max x) := rfl
theorem src_nat {n : Nat} (h : n ≤ 1000000) : inRg (n : Int) = true := inRg_of (by omega) (by omega)
theorem mem_range {lo : Int} {n : Nat} {d : D} (h : d ∈ rangeD lo n) : ∃ i : Int, d = .int i ∧ lo ≤ i ∧ i < lo + n := by
  unfold rangeD at h
  obtain ⟨j, hj, rfl⟩ := List.mem_map.mp h
  have := List.mem_range.mp hj
  exact ⟨_, rfl, by omega, by omega⟩
/-- a loop whose turns all keep a thing, or leave -/
theorem loop_keep {turn : D → Env → M (Fl × Env)} {φ : Fl × Env → Store → Prop} (J : Env → Store → Prop) {ds : List D}
    (h : ∀ d ∈ ds, ∀ ρ S, J ρ S → T (turn d ρ S) fun r S' => match r.1 with
      | .nx => J r.2 S'
      | .ct => J r.2 S'
      | .bk => φ (.nx, r.2) S'
      | .rt v => φ (.rt v, r.2) S') (hn : ∀ ρ S, J ρ S → φ (.nx, ρ) S) {ρ : Env} {S : Store} (j : J ρ S) : T (loopL turn ds ρ S) φ :=
  loop_inv (fun es ρ S => (∃ pre, ds = pre ++ es) ∧ J ρ S) (fun d es ρ S ⟨⟨pre, e⟩, j⟩ => (h d (by rw [e]; simp) ρ S j).mono fun r S' q => by
    have e' : ∃ pre, ds = pre ++ es := ⟨pre ++ [d], by rw [e]; simp⟩
    obtain ⟨f, ρ'⟩ := r
    cases f
    · exact ⟨e', q⟩
    · exact q
    · exact q
    · exact ⟨e', q⟩) (fun ρ S ⟨_, j⟩ => hn ρ S j) ds ρ S ⟨⟨[], rfl⟩, j⟩
/-- a comprehension whose items all keep a thing -/
theorem comp_keep {f : D → M (Option D)} {φ : List D → Store → Prop} (J : List D → Store → Prop) {ds : List D} (hz : ds.length ≤ sizeMax)
    (h : ∀ d ∈ ds, ∀ acc S, J acc S → T (f d S) fun o S' => match o with
      | none => J acc S'
      | some y => J (acc ++ [y]) S') (hn : ∀ acc S, acc.length ≤ ds.length → J acc S → φ acc S) {S : Store} (j : J [] S) : T (compL f ds [] S) φ :=
  compL_inv (fun es acc S => (∃ pre, ds = pre ++ es ∧ acc.length ≤ pre.length) ∧ J acc S) (fun d es acc S ⟨⟨pre, e, l⟩, j⟩ => (h d (by rw [e]; simp) acc S j).mono fun o S' q => by
    have el : ds.length = pre.length + (es.length + 1) := by rw [e]; simp
    have e' : ds = (pre ++ [d]) ++ es := by rw [e]; simp
    cases o with
    | none => exact ⟨⟨pre ++ [d], e', by simp; omega⟩, q⟩
    | some y => exact ⟨by omega, ⟨pre ++ [d], e', by simp; omega⟩, q⟩) (fun acc S ⟨⟨pre, e, l⟩, j⟩ => hn acc S (by rw [e]; simp; exact l) j) ds [] S ⟨⟨[], rfl, Nat.le_refl _⟩, j⟩
end Ev
namespace Ev
open PySem
theorem T_compL_nil {f : D → M (Option D)} {acc : List D} {S : Store} {φ : List D → Store → Prop} : T (compL f [] acc S) φ ↔ φ acc S := T_pure
theorem T_compL_cons {f : D → M (Option D)} {d : D} {ds acc : List D} {S : Store} {φ : List D → Store → Prop} : T (compL f (d :: ds) acc S) φ ↔ T (f d S) fun o S => match o with
    | none => T (compL f ds acc S) φ
    | some y => acc.length < sizeMax ∧ T (compL f ds (acc ++ [y]) S) φ := by
  show T (M.bind (f d) _ S) φ ↔ _
  rw [T_bind]
  constructor
  · intro h
    refine h.mono fun o S q => ?_
    cases o with
    | none => exact q
    | some y =>
      dsimp only at q ⊢
      by_cases hz : acc.length < sizeMax
      · rw [if_pos hz] at q
        exact ⟨hz, q⟩
      · rw [if_neg hz] at q
        exact (T_none.mp q).elim
  · intro h
    refine h.mono fun o S q => ?_
    cases o with
    | none => exact q
    | some y =>
      dsimp only at q ⊢
      rw [if_pos q.1]
      exact q.2
theorem toPs_bls : ∀ bs : List Bool, toPs (bs.map .bl) = some (bs.map .bool)
  | [] => rfl
  | b :: bs => by
    show (match toP (.bl b), toPs (bs.map .bl) with
      | some p, some ps => some (p :: ps)
      | _, _ => none) = _
    rw [toPs_bls bs]
    rfl
theorem truNs_bls : ∀ bs : List Bool, truNs (bs.map .bl) = some bs
  | [] => rfl
  | b :: bs => by
    show (match truN (.bl b), truNs (bs.map .bl) with
      | some b, some bs => some (b :: bs)
      | _, _ => none) = _
    rw [truNs_bls bs]
    rfl
theorem truNs_ints : ∀ xs : List Int, truNs (xs.map D.int) = some (xs.map fun x => x != 0)
  | [] => rfl
  | x :: xs => by
    show (match truN (.int x), truNs (xs.map D.int) with
      | some b, some bs => some (b :: bs)
      | _, _ => none) = _
    rw [truNs_ints xs]
    rfl
theorem allBls {bs : List Bool} : allV (.lst (bs.map .bl)) = some (.bl (bs.all id)) := by simp [allV, toPs_bls, truNs_bls]
theorem anyBls {bs : List Bool} : anyV (.lst (bs.map .bl)) = some (.bl (bs.any id)) := by simp [anyV, toPs_bls, truNs_bls]
theorem anyInts {xs : List Int} : anyV (.tup (xs.map D.int)) = some (.bl (xs.any fun x => x != 0)) := by simp [anyV, truNs_ints, List.any_map]
@[simp] theorem anyNil : anyV (.tup []) = some (.bl false) := rfl
@[simp] theorem allNil : allV (.tup []) = some (.bl true) := rfl
@[simp] theorem allNilL : allV (.lst []) = some (.bl true) := rfl
theorem ints_all {l : List D} {p : D → Bool} (hp : ∀ d, p d = true → ∃ i, d = .int i) (h : l.all p = true) : ∃ xs : List Int, l = xs.map .int := by
  induction l with
  | nil => exact ⟨[], rfl⟩
  | cons d l ih =>
    rw [List.all_cons, Bool.and_eq_true] at h
    obtain ⟨i, rfl⟩ := hp d h.1
    obtain ⟨xs, rfl⟩ := ih h.2
    exact ⟨i :: xs, rfl⟩
theorem rep_one {α : Type} {xs : List α} : listRep xs 1 = xs := by simp [listRep, List.replicate]
theorem cut_to1 {α : Type} {xs : List α} : cutL xs none (some 1) = xs.take 1 := cut_to (n := 1)
theorem cut_to2 {α : Type} {xs : List α} : cutL xs none (some 2) = xs.take 2 := cut_to (n := 2)
theorem cut_to3 {α : Type} {xs : List α} : cutL xs none (some 3) = xs.take 3 := cut_to (n := 3)
end Ev
set_option Elab.async false
set_option linter.all false
set_option maxRecDepth 100000
set_option maxHeartbeats 0
namespace Lk01
open PySem PySem.Spec PyProof.Rows L2 Ev
def top (i : Nat) : Stmt := PySem.Challenge.pw_rootfigures_k01_whole_rows_of_one_judged.main.body.getD i (.Pass ⟨0, 0, 0, 0⟩)
abbrev f_is_integer : Nat := 0
abbrev f_is_within : Nat := 1
abbrev f_is_pair : Nat := 2
abbrev f_is_sized : Nat := 3
abbrev f_once : Nat := 4
abbrev f_shortest : Nat := 5
abbrev f_is_row_of_one : Nat := 6
abbrev f__law_hand : Nat := 7
abbrev f__law_draw : Nat := 8
abbrev f__law_some : Nat := 9
abbrev f__law_shortest : Nat := 10
abbrev f__law_drawn : Nat := 11
abbrev f__law_are_figures : Nat := 12
abbrev f__law_is_row : Nat := 13
abbrev f__law_spoilt : Nat := 14
abbrev f_law : Nat := 15
def b_is_integer : List S := [.ret (.andE (.isi (.var 0) .int) (.notE (.isi (.var 0) .bool)))]
def d_is_integer : DefI := ⟨"is_integer", top 1, ["thing"], ["thing"], ⟨1, 1, b_is_integer⟩⟩
def b_is_within : List S := [.ret (.andE (.call f_is_integer [(.var 0)]) (.chain .le .le (.var 1) (.var 0) (.var 2)))]
def d_is_within : DefI := ⟨"is_within", top 2, ["thing", "low", "high"], ["thing", "low", "high"], ⟨3, 3, b_is_within⟩⟩
def b_is_pair : List S := [.ret (.andE (.isi (.var 0) .tuple) (.cmp .eq (.bi .len [(.var 0)]) (.c (.int 2))))]
def d_is_pair : DefI := ⟨"is_pair", top 3, ["thing"], ["thing"], ⟨1, 1, b_is_pair⟩⟩
def b_is_sized : List S := [.ret (.andE (.isi (.var 0) .tuple) (.chain .le .le (.var 1) (.bi .len [(.var 0)]) (.var 2)))]
def d_is_sized : DefI := ⟨"is_sized", top 4, ["thing", "low", "high"], ["thing", "low", "high"], ⟨3, 3, b_is_sized⟩⟩
def b_once : List S := [.set (.name 1) (.bi .len [(.var 0)]),
  .set (.name 3) (.comp [2] (.name 2) .rng2 [(.c (.int 1)), (.bin .add (.var 1) (.c (.int 1)))] [(.andE (.cmp .eq (.bin .mod (.var 1) (.var 2)) (.c (.int 0))) (.cmp .eq (.var 0) (.bin .mul (.sl (.var 0) false .never true (.var 2)) (.bin .fdiv (.var 1) (.var 2)))))] (.var 2)),
  .ret (.ifE (.cmp .gt (.bi .len [(.var 3)]) (.c (.int 0))) (.sl (.var 0) false .never true (.idx (.var 3) (.c (.int 0)))) (.var 0))]
def d_once : DefI := ⟨"once", top 5, ["row"], ["row", "many", "size", "good"], ⟨1, 4, b_once⟩⟩
def b_shortest : List S := [.set (.name 1) (.ifE (.notE (.bi .any [(.var 1)])) (.tup []) (.call f_once [(.var 1)])),
  .whileS (.andE (.cmp .gt (.bi .len [(.var 0)]) (.c (.int 0))) (.andE (.cmp .gt (.bi .len [(.var 1)]) (.c (.int 0))) (.cmp .eq (.idx (.var 0) (.neg (.c (.int 1)))) (.idx (.var 1) (.neg (.c (.int 1)))))))
   [.par 0 1 (.sl (.var 0) false .never true (.neg (.c (.int 1)))) (.bin .add (.tup [(.idx (.var 1) (.neg (.c (.int 1))))]) (.sl (.var 1) false .never true (.neg (.c (.int 1)))))],
  .whileS (.andE (.cmp .eq (.bi .len [(.var 1)]) (.c (.int 0))) (.andE (.cmp .gt (.bi .len [(.var 0)]) (.c (.int 0))) (.cmp .eq (.idx (.var 0) (.neg (.c (.int 1)))) (.c (.int 0)))))
   [.set (.name 0) (.sl (.var 0) false .never true (.neg (.c (.int 1))))],
  .ret (.tup [(.var 0), (.var 1)])]
def d_shortest : DefI := ⟨"shortest", top 6, ["head", "ring"], ["head", "ring"], ⟨2, 2, b_shortest⟩⟩
def b_is_row_of_one : List S := [.ifS (.orE (.notE (.call f_is_pair [(.var 0)])) (.orE (.notE (.call f_is_sized [(.idx (.var 0) (.c (.int 0))), (.c (.int 1)), (.c (.int 5))])) (.notE (.call f_is_sized [(.idx (.var 0) (.c (.int 1))), (.c (.int 0)), (.c (.int 3))]))))
   [.ret (.c (.bl false))]
   [],
  .ifS (.notE (.bi .all [(.comp [1] (.name 1) .seq [(.bin .add (.idx (.var 0) (.c (.int 0))) (.idx (.var 0) (.c (.int 1))))] [] (.call f_is_within [(.var 1), (.c (.int 0)), (.c (.int 9))]))]))
   [.ret (.c (.bl false))]
   [],
  .ifS (.andE (.cmp .gt (.bi .len [(.idx (.var 0) (.c (.int 1)))]) (.c (.int 0))) (.notE (.bi .any [(.idx (.var 0) (.c (.int 1)))])))
   [.ret (.c (.bl false))]
   [],
  .ret (.cmp .eq (.call f_shortest [(.idx (.var 0) (.c (.int 0))), (.idx (.var 0) (.c (.int 1)))]) (.var 0))]
def d_is_row_of_one : DefI := ⟨"is_row_of_one", top 9, ["thing"], ["thing", "one"], ⟨1, 2, b_is_row_of_one⟩⟩
def b__law_hand : List S := [.set (.name 2) (.comp [1] (.name 1) .seq [(.sl (.var 0) false .never true (.c (.int 63)))] [] (.bi .abs [(.bi .int [(.var 1)])])),
  .ret (.new [(.var 2), (.c (.int 0)), (.c (.int 0)), (.bin .add (.c (.int 23692)) (.bin .mul (.c (.int 7)) (.bi .len [(.var 2)]))), (.c (.int 0))])]
def d__law_hand : DefI := ⟨"_law_hand", top 11, ["script"], ["script", "cell", "cells"], ⟨1, 3, b__law_hand⟩⟩
def b__law_draw : List S := [.ifS (.andE (.cmp .eq (.idx (.var 0) (.c (.int 2))) (.c (.int 0))) (.cmp .lt (.idx (.var 0) (.c (.int 1))) (.bi .len [(.idx (.var 0) (.c (.int 0)))])))
   [.set (.name 2) (.idx (.idx (.var 0) (.c (.int 0))) (.idx (.var 0) (.c (.int 1)))),
    .setI (.var 0) (.c (.int 1)) (.bin .add (.idx (.var 0) (.c (.int 1))) (.c (.int 1))),
    .setI (.var 0) (.c (.int 3)) (.bin .mod (.bi .int [(.bin .add (.bin .add (.bin .mul (.idx (.var 0) (.c (.int 3))) (.c (.int 69621))) (.var 2)) (.c (.int 43)))]) (.c (.int 2147483629))),
    .ifS (.cmp .ge (.var 2) (.bin .pow (.c (.int 10)) (.c (.int 18))))
     [.setI (.var 0) (.c (.int 2)) (.var 2)]
     []]
   [],
  .ifS (.cmp .gt (.idx (.var 0) (.c (.int 2))) (.c (.int 0)))
   [.set (.name 3) (.bin .mod (.bi .int [(.idx (.var 0) (.c (.int 2)))]) (.var 1)),
    .setI (.var 0) (.c (.int 2)) (.bin .fdiv (.idx (.var 0) (.c (.int 2))) (.var 1)),
    .ret (.var 3)]
   [],
  .setI (.var 0) (.c (.int 4)) (.bin .add (.idx (.var 0) (.c (.int 4))) (.c (.int 1))),
  .set (.name 4) (.bin .mod (.bi .int [(.bin .mul (.bi .int [(.bin .add (.idx (.var 0) (.c (.int 3))) (.bin .mul (.c (.int 7919)) (.idx (.var 0) (.c (.int 4)))))]) (.c (.int 48271)))]) (.c (.int 2147483647))),
  .set (.name 4) (.bin .mod (.bi .int [(.bin .mul (.var 4) (.bin .add (.bin .fdiv (.var 4) (.c (.int 1009))) (.c (.int 69621))))]) (.c (.int 2147483647))),
  .set (.name 4) (.bin .mod (.bi .int [(.bin .mul (.var 4) (.bin .add (.bin .fdiv (.var 4) (.c (.int 2003))) (.c (.int 40692))))]) (.c (.int 2147483399))),
  .ret (.bin .mod (.bi .int [(.bin .fdiv (.var 4) (.c (.int 16)))]) (.var 1))]
def d__law_draw : DefI := ⟨"_law_draw", top 12, ["hand", "wide"], ["hand", "wide", "cell", "digit", "number"], ⟨2, 5, b__law_draw⟩⟩
def b__law_some : List S := [.ret (.idx (.var 1) (.call f__law_draw [(.var 0), (.bi .len [(.var 1)])]))]
def d__law_some : DefI := ⟨"_law_some", top 13, ["hand", "things"], ["hand", "things"], ⟨2, 2, b__law_some⟩⟩
def b__law_shortest : List S := [.forS (.name 2) .rng2 [(.c (.int 1)), (.bi .len [(.var 1)])]
   [.ifS (.andE (.cmp .eq (.bin .mod (.bi .int [(.bi .len [(.var 1)])]) (.var 2)) (.c (.int 0))) (.cmp .eq (.var 1) (.bin .mul (.sl (.var 1) false .never true (.var 2)) (.bin .fdiv (.bi .len [(.var 1)]) (.var 2)))))
     [.ret (.call f__law_shortest [(.var 0), (.sl (.var 1) false .never true (.var 2))])]
     []],
  .ifS (.andE (.cmp .ne (.var 1) (.tup [])) (.cmp .eq (.bi .max [(.var 1)]) (.c (.int 0))))
   [.ret (.call f__law_shortest [(.var 0), (.tup [])])]
   [],
  .ifS (.andE (.cmp .eq (.var 1) (.tup [])) (.andE (.cmp .gt (.bi .len [(.var 0)]) (.c (.int 1))) (.cmp .eq (.idx (.var 0) (.neg (.c (.int 1)))) (.c (.int 0)))))
   [.ret (.call f__law_shortest [(.sl (.var 0) false .never true (.neg (.c (.int 1)))), (.tup [])])]
   [],
  .ifS (.andE (.cmp .ne (.var 1) (.tup [])) (.andE (.cmp .gt (.bi .len [(.var 0)]) (.c (.int 1))) (.cmp .eq (.idx (.var 0) (.neg (.c (.int 1)))) (.idx (.var 1) (.neg (.c (.int 1)))))))
   [.ret (.call f__law_shortest [(.sl (.var 0) false .never true (.neg (.c (.int 1)))), (.bin .add (.sl (.var 1) true (.neg (.c (.int 1))) false .never) (.sl (.var 1) false .never true (.neg (.c (.int 1)))))])]
   [],
  .ret (.tup [(.var 0), (.var 1)])]
def d__law_shortest : DefI := ⟨"_law_shortest", top 17, ["head", "ring"], ["head", "ring", "size"], ⟨2, 3, b__law_shortest⟩⟩
def b__law_drawn : List S := [.forS (.name 2) .rng1 [(.c (.int 40))]
   [.set (.name 4) (.bin .add (.tup [(.bin .add (.c (.int 1)) (.call f__law_draw [(.var 0), (.var 1)]))]) (.bi .tuple [(.comp [3] (.name 3) .rng1 [(.call f__law_draw [(.var 0), (.c (.int 5))])] [] (.call f__law_draw [(.var 0), (.bin .add (.var 1) (.c (.int 1)))]))])),
    .set (.name 5) (.bi .tuple [(.comp [3] (.name 3) .rng1 [(.call f__law_draw [(.var 0), (.c (.int 4))])] [] (.call f__law_draw [(.var 0), (.bin .add (.var 1) (.c (.int 1)))]))]),
    .set (.tup [(.name 4), (.name 5)]) (.call f__law_shortest [(.var 4), (.var 5)]),
    .ifS (.orE (.cmp .eq (.var 5) (.tup [])) (.cmp .ne (.idx (.var 4) (.neg (.c (.int 1)))) (.idx (.var 5) (.neg (.c (.int 1))))))
     [.ret (.tup [(.var 4), (.var 5)])]
     []],
  .ret (.tup [(.tup [(.c (.int 1)), (.c (.int 1))]), (.tup [])])]
def d__law_drawn : DefI := ⟨"_law_drawn", top 18, ["hand", "most"], ["hand", "most", "turn", "at", "head", "ring"], ⟨2, 6, b__law_drawn⟩⟩
def b__law_are_figures : List S := [.ifS (.orE (.notE (.isi (.var 0) .tuple)) (.notE (.chain .le .le (.var 1) (.bi .len [(.var 0)]) (.var 2))))
   [.ret (.c (.bl false))]
   [],
  .ret (.bi .all [(.comp [3] (.name 3) .seq [(.var 0)] [] (.andE (.isi (.var 3) .int) (.andE (.notE (.isi (.var 3) .bool)) (.chain .le .le (.c (.int 0)) (.var 3) (.c (.int 9))))))])]
def d__law_are_figures : DefI := ⟨"_law_are_figures", top 20, ["thing", "low", "high"], ["thing", "low", "high", "one"], ⟨3, 4, b__law_are_figures⟩⟩
def b__law_is_row : List S := [.ifS (.orE (.notE (.isi (.var 0) .tuple)) (.cmp .ne (.bi .len [(.var 0)]) (.c (.int 2))))
   [.ret (.c (.bl false))]
   [],
  .set (.tup [(.name 1), (.name 2)]) (.var 0),
  .ifS (.orE (.notE (.call f__law_are_figures [(.var 1), (.c (.int 1)), (.c (.int 5))])) (.notE (.call f__law_are_figures [(.var 2), (.c (.int 0)), (.c (.int 3))])))
   [.ret (.c (.bl false))]
   [],
  .ifS (.cmp .eq (.var 2) (.tup []))
   [.ret (.cmp .ne (.idx (.var 1) (.neg (.c (.int 1)))) (.c (.int 0)))]
   [],
  .ifS (.orE (.cmp .eq (.bi .max [(.var 2)]) (.c (.int 0))) (.cmp .eq (.idx (.var 2) (.neg (.c (.int 1)))) (.idx (.var 1) (.neg (.c (.int 1))))))
   [.ret (.c (.bl false))]
   [],
  .ret (.orE (.cmp .eq (.bi .len [(.var 2)]) (.c (.int 1))) (.cmp .ne (.var 2) (.bin .mul (.sl (.var 2) false .never true (.c (.int 1))) (.bi .len [(.var 2)]))))]
def d__law_is_row : DefI := ⟨"_law_is_row", top 21, ["thing"], ["thing", "head", "ring"], ⟨1, 3, b__law_is_row⟩⟩
def b__law_spoilt : List S := [.set (.tup [(.name 2), (.name 3)]) (.var 1),
  .set (.name 4) (.call f__law_draw [(.var 0), (.bi .len [(.var 2)])]),
  .set (.name 5) (.call f__law_some [(.var 0), (.lst [(.c (.int 10)), (.neg (.c (.int 1))), (.c (.bl true)), (.c .non), (.c (.str "1")), (.tup [(.c (.int 1))]), (.c (.int 0)), (.c (.int 9))])]),
  .set (.name 6) (.lst [(.var 1), (.tup [(.bin .add (.bin .add (.sl (.var 2) false .never true (.var 4)) (.tup [(.var 5)])) (.sl (.var 2) true (.bin .add (.var 4) (.c (.int 1))) false .never)), (.var 3)]), (.tup [(.var 2), (.bin .add (.var 3) (.tup [(.var 5)]))]), (.tup [(.var 2), (.bin .add (.var 3) (.var 3))])]),
  .set (.name 6) (.bin .add (.var 6) (.lst [(.tup [(.var 2), (.bin .mul (.var 3) (.c (.int 3)))]), (.tup [(.var 2), (.bin .add (.var 3) (.sl (.var 2) true (.neg (.c (.int 1))) false .never))]), (.tup [(.bin .add (.var 2) (.sl (.var 3) false .never true (.c (.int 1)))), (.bin .add (.sl (.var 3) true (.c (.int 1)) false .never) (.sl (.var 3) false .never true (.c (.int 1))))])])),
  .set (.name 6) (.bin .add (.var 6) (.lst [(.tup [(.var 2), (.bin .mul (.tup [(.c (.int 0))]) (.call f__law_draw [(.var 0), (.c (.int 4))]))]), (.tup [(.bin .add (.var 2) (.tup [(.c (.int 0))])), (.tup [])]), (.tup [(.bin .mul (.var 2) (.c (.int 2))), (.var 3)]), (.tup [(.tup []), (.var 3)]), (.tup [(.var 2)])])),
  .set (.name 6) (.bin .add (.var 6) (.lst [(.lst [(.var 2), (.var 3)]), (.tup [(.bi .list [(.var 2)]), (.var 3)]), (.tup [(.var 2), (.bi .list [(.var 3)])]), (.bin .add (.var 1) (.tup [(.tup [])])), (.tup [(.var 3), (.var 2)]), (.bin .add (.var 2) (.var 3))])),
  .ret (.bin .add (.var 6) (.lst [(.tup [(.var 2), (.c .non)]), (.tup [(.c .non), (.var 3)]), (.dic [(.var 2)]), (.tup [(.var 2), (.c (.str "1"))]), (.c .non), (.c (.int 1)), (.c (.str "11")), (.c (.bl true)), (.tup [(.tup []), (.tup [])])]))]
def d__law_spoilt : DefI := ⟨"_law_spoilt", top 22, ["hand", "row"], ["hand", "row", "head", "ring", "at", "odd", "some"], ⟨2, 7, b__law_spoilt⟩⟩
def b_law : List S := [.set (.name 1) (.call f__law_hand [(.var 0)]),
  .set (.name 2) (.lst [(.tup [(.tup [(.c (.int 1)), (.c (.int 1))]), (.tup [])]), (.tup [(.tup [(.c (.int 2))]), (.tup [(.c (.int 1))])]), (.tup [(.tup [(.c (.int 2))]), (.tup [(.c (.int 1)), (.c (.int 1))])]), (.tup [(.tup [(.c (.int 2)), (.c (.int 1))]), (.tup [(.c (.int 1))])])]),
  .ifS (.cmp .ne (.comp [3] (.name 3) .seq [(.var 2)] [] (.call f_is_row_of_one [(.var 3)])) (.lst [(.c (.bl true)), (.c (.bl true)), (.c (.bl false)), (.c (.bl false))]))
   [.ret (.c (.bl false))]
   [],
  .forS (.name 4) .rng1 [(.c (.int 8))]
   [.forS (.name 5) .seq [(.call f__law_spoilt [(.var 1), (.call f__law_drawn [(.var 1), (.call f__law_some [(.var 1), (.lst [(.c (.int 1)), (.c (.int 2)), (.c (.int 9))])])])])]
     [.ifS (.cmp .ne (.bi .repr [(.call f_is_row_of_one [(.var 5)])]) (.bi .repr [(.call f__law_is_row [(.var 5)])]))
       [.ret (.c (.bl false))]
       []]],
  .ret (.c (.bl true))]
def d_law : DefI := ⟨"law", top 23, ["script"], ["script", "hand", "some", "one", "lap", "thing"], ⟨1, 6, b_law⟩⟩
def ds : List DefI := [d_is_integer, d_is_within, d_is_pair, d_is_sized, d_once, d_shortest, d_is_row_of_one, d__law_hand, d__law_draw, d__law_some, d__law_shortest, d__law_drawn, d__law_are_figures, d__law_is_row, d__law_spoilt, d_law]
def cs : List (Str × D) := [("MOST_FIGURE", (.int 9))]
def fr : List Str := ["abs", "all", "any", "bool", "int", "isinstance", "len", "list", "max", "range", "repr", "tuple"]
def fns : List (Str × Nat × Nat) := [("is_integer", 0, 1), ("is_within", 1, 3), ("is_pair", 2, 1), ("is_sized", 3, 3), ("once", 4, 1), ("shortest", 5, 2), ("is_row_of_one", 6, 1), ("_law_hand", 7, 1), ("_law_draw", 8, 2), ("_law_some", 9, 2), ("_law_shortest", 10, 2), ("_law_drawn", 11, 2), ("_law_are_figures", 12, 3), ("_law_is_row", 13, 1), ("_law_spoilt", 14, 2), ("law", 15, 1)]
theorem fns_eq : fnsOf ds = fns := by kernel_rfl
theorem ok_is_integer : okDef fns cs fr 60 d_is_integer = true := by kernel_rfl
theorem ok_is_within : okDef fns cs fr 60 d_is_within = true := by kernel_rfl
theorem ok_is_pair : okDef fns cs fr 60 d_is_pair = true := by kernel_rfl
theorem ok_is_sized : okDef fns cs fr 60 d_is_sized = true := by kernel_rfl
theorem ok_once : okDef fns cs fr 60 d_once = true := by kernel_rfl
theorem ok_shortest : okDef fns cs fr 60 d_shortest = true := by kernel_rfl
theorem ok_is_row_of_one : okDef fns cs fr 60 d_is_row_of_one = true := by kernel_rfl
theorem ok__law_hand : okDef fns cs fr 60 d__law_hand = true := by kernel_rfl
theorem ok__law_draw : okDef fns cs fr 60 d__law_draw = true := by kernel_rfl
theorem ok__law_some : okDef fns cs fr 60 d__law_some = true := by kernel_rfl
theorem ok__law_shortest : okDef fns cs fr 60 d__law_shortest = true := by kernel_rfl
theorem ok__law_drawn : okDef fns cs fr 60 d__law_drawn = true := by kernel_rfl
theorem ok__law_are_figures : okDef fns cs fr 60 d__law_are_figures = true := by kernel_rfl
theorem ok__law_is_row : okDef fns cs fr 60 d__law_is_row = true := by kernel_rfl
theorem ok__law_spoilt : okDef fns cs fr 60 d__law_spoilt = true := by kernel_rfl
theorem ok_law : okDef fns cs fr 60 d_law = true := by kernel_rfl
theorem oks : ∀ d ∈ ds, okDef (fnsOf ds) cs fr 60 d = true := by
  rw [fns_eq]
  intro d hd
  simp only [ds, List.mem_cons, List.not_mem_nil, or_false] at hd
  rcases hd with rfl | rfl | rfl | rfl | rfl | rfl | rfl | rfl | rfl | rfl | rfl | rfl | rfl | rfl | rfl | rfl
  · exact ok_is_integer
  · exact ok_is_within
  · exact ok_is_pair
  · exact ok_is_sized
  · exact ok_once
  · exact ok_shortest
  · exact ok_is_row_of_one
  · exact ok__law_hand
  · exact ok__law_draw
  · exact ok__law_some
  · exact ok__law_shortest
  · exact ok__law_drawn
  · exact ok__law_are_figures
  · exact ok__law_is_row
  · exact ok__law_spoilt
  · exact ok_law
def toD (d : DefI) : He.DefD := ⟨(d.x, none), d.x, d.x, defArgs d.st, defBody d.st, defScope d.st, [], []⟩
def fn : List He.DefD := ds.map toD
def fa : List He.Fa := ds.map (fun d => .glo d.x) ++ [.int "MOST_FIGURE" 9] ++ fr.map .free
def lo0 : List Str := ["is_integer", "is_within", "is_pair", "is_sized", "once", "shortest", "MOST_FIGURE", "is_row_of_one", "_law_hand", "_law_draw", "_law_some", "_law_figure", "_law_tail", "_law_told", "_law_shortest", "_law_drawn", "_law_base_row", "_law_are_figures", "_law_is_row", "_law_spoilt"]
def lo : List Str := lo0
abbrev R : PySem.W.OpenRow := PySem.W.OpenLaw.row PySem.Challenge.rw_rootfigures_k01_whole_rows_of_one_judged
abbrev hk : PySem.W.Hook := He.hookD 4 fa fn
def ob (s : PySem.W.SharedT) : He.AlD := He.obsDG 4 fa fn (HandSHeadRun.getT s)
theorem ob_eq (s : PySem.W.SharedT) : ob s = hk.obs s.abs := He.obsDG_eq (HandSHeadRun.getT_eq s)
theorem run (w : World) : HandSHeadRun.RunEq R (PySem.W.view R.prog [23]) hk ob 4000 lo w := by
  intro os
  kernel_rfl
theorem tab {K : PySem.W.Frag} {h : Heap} {mg : Str → Option Value} (X : K.In h) (G : h.Ns mainGlobals mg) (c : He.SaysD fa fn K) : Tab K mg ds cs fr := by
  have df : ∀ (i : Nat) (d : DefI), ds[i]? = some d → ∃ fd, FunD K d.x d.x (defArgs d.st) (defBody d.st) (defScope d.st) [] [] (He.fAd K (d.x, none)) fd ∧ mg d.x = some (.ref (He.ga K d.x)) := fun i d hd => by
    obtain ⟨fd, F⟩ := c.def_ i (d := toD d) (by unfold fn; rw [List.getElem?_map, hd]; rfl)
    have hm : (He.Fa.glo d.x) ∈ fa := List.mem_append_left _ (List.mem_append_left _ (List.mem_map.mpr ⟨d, List.mem_of_getElem? hd, rfl⟩))
    obtain ⟨j, hj⟩ := List.getElem?_of_mem hm
    exact ⟨fd, F, He.glo_ok X G (c.fact j hj)⟩
  refine ⟨fun d hd => ?_, fun x d hx _ => ?_, fun x hx => ?_⟩
  · simp only [ds, List.mem_cons, List.not_mem_nil, or_false] at hd
    rcases hd with rfl | rfl | rfl | rfl | rfl | rfl | rfl | rfl | rfl | rfl | rfl | rfl | rfl | rfl | rfl | rfl
    · obtain ⟨fd, F, g⟩ := df 0 d_is_integer rfl
      exact ⟨_, fd, g, F, FunD.bindsN F fun _ _ _ _ _ _ us hl => match us, hl with | [_], _ => rfl⟩
    · obtain ⟨fd, F, g⟩ := df 1 d_is_within rfl
      exact ⟨_, fd, g, F, FunD.bindsN F fun _ _ _ _ _ _ us hl => match us, hl with | [_, _, _], _ => rfl⟩
    · obtain ⟨fd, F, g⟩ := df 2 d_is_pair rfl
      exact ⟨_, fd, g, F, FunD.bindsN F fun _ _ _ _ _ _ us hl => match us, hl with | [_], _ => rfl⟩
    · obtain ⟨fd, F, g⟩ := df 3 d_is_sized rfl
      exact ⟨_, fd, g, F, FunD.bindsN F fun _ _ _ _ _ _ us hl => match us, hl with | [_, _, _], _ => rfl⟩
    · obtain ⟨fd, F, g⟩ := df 4 d_once rfl
      exact ⟨_, fd, g, F, FunD.bindsN F fun _ _ _ _ _ _ us hl => match us, hl with | [_], _ => rfl⟩
    · obtain ⟨fd, F, g⟩ := df 5 d_shortest rfl
      exact ⟨_, fd, g, F, FunD.bindsN F fun _ _ _ _ _ _ us hl => match us, hl with | [_, _], _ => rfl⟩
    · obtain ⟨fd, F, g⟩ := df 6 d_is_row_of_one rfl
      exact ⟨_, fd, g, F, FunD.bindsN F fun _ _ _ _ _ _ us hl => match us, hl with | [_], _ => rfl⟩
    · obtain ⟨fd, F, g⟩ := df 7 d__law_hand rfl
      exact ⟨_, fd, g, F, FunD.bindsN F fun _ _ _ _ _ _ us hl => match us, hl with | [_], _ => rfl⟩
    · obtain ⟨fd, F, g⟩ := df 8 d__law_draw rfl
      exact ⟨_, fd, g, F, FunD.bindsN F fun _ _ _ _ _ _ us hl => match us, hl with | [_, _], _ => rfl⟩
    · obtain ⟨fd, F, g⟩ := df 9 d__law_some rfl
      exact ⟨_, fd, g, F, FunD.bindsN F fun _ _ _ _ _ _ us hl => match us, hl with | [_, _], _ => rfl⟩
    · obtain ⟨fd, F, g⟩ := df 10 d__law_shortest rfl
      exact ⟨_, fd, g, F, FunD.bindsN F fun _ _ _ _ _ _ us hl => match us, hl with | [_, _], _ => rfl⟩
    · obtain ⟨fd, F, g⟩ := df 11 d__law_drawn rfl
      exact ⟨_, fd, g, F, FunD.bindsN F fun _ _ _ _ _ _ us hl => match us, hl with | [_, _], _ => rfl⟩
    · obtain ⟨fd, F, g⟩ := df 12 d__law_are_figures rfl
      exact ⟨_, fd, g, F, FunD.bindsN F fun _ _ _ _ _ _ us hl => match us, hl with | [_, _, _], _ => rfl⟩
    · obtain ⟨fd, F, g⟩ := df 13 d__law_is_row rfl
      exact ⟨_, fd, g, F, FunD.bindsN F fun _ _ _ _ _ _ us hl => match us, hl with | [_], _ => rfl⟩
    · obtain ⟨fd, F, g⟩ := df 14 d__law_spoilt rfl
      exact ⟨_, fd, g, F, FunD.bindsN F fun _ _ _ _ _ _ us hl => match us, hl with | [_, _], _ => rfl⟩
    · obtain ⟨fd, F, g⟩ := df 15 d_law rfl
      exact ⟨_, fd, g, F, FunD.bindsN F fun _ _ _ _ _ _ us hl => match us, hl with | [_], _ => rfl⟩
  · have hm := mem_of_lookup hx
    simp only [cs, List.mem_cons, List.not_mem_nil, or_false, Prod.mk.injEq] at hm
    rcases hm with ⟨rfl, rfl⟩
    · obtain ⟨t, e⟩ := He.int_ok X G (c.fact 16 (f := He.Fa.int "MOST_FIGURE" 9) rfl)
      exact ⟨V.int (9), _, e, ⟨t, rfl⟩, fun _ _ _ => rfl⟩
  · have hm : (He.Fa.free x) ∈ fa := List.mem_append_right _ (List.mem_map.mpr ⟨x, List.contains_iff_mem.mp hx, rfl⟩)
    obtain ⟨j, hj⟩ := List.getElem?_of_mem hm
    exact He.free_ok X G (c.fact j hj)
end Lk01
set_option linter.all false
set_option maxRecDepth 100000
set_option maxHeartbeats 4000000
namespace Lk01
open PySem Ev
abbrev P := progOf ds
/-! ### the hand -/
/-- the store is the hand alone -/
def HOk (S : Store) : Prop := ∃ (cs : List Int) (i d s c : Int), S = [.lst [.lst (cs.map .int), .int i, .int d, .int s, .int c]] ∧ (∀ x ∈ cs, 0 ≤ x) ∧ 0 ≤ i ∧ 0 ≤ d
theorem HOk.mk {cs : List Int} {i d s c : Int} (h1 : ∀ x ∈ cs, 0 ≤ x) (h2 : 0 ≤ i) (h3 : 0 ≤ d) : HOk [.lst [.lst (cs.map .int), .int i, .int d, .int s, .int c]] := ⟨cs, i, d, s, c, rfl, h1, h2, h3⟩
theorem fmod_lt {a b : Int} (h : 0 < b) : 0 ≤ a.fmod b ∧ a.fmod b < b := ⟨Int.fmod_nonneg_of_pos a h, Int.fmod_lt_of_pos a h⟩
variable {k : Nat} {S : Store}
theorem c_draw {w : Int} (hw : 0 < w) (hw2 : w < 1073741824) (h : HOk S) : T (callV P (k + 1) f__law_draw [.ref 0, .int w] S) fun r S' => (∃ x : Int, r = .int x ∧ 0 ≤ x ∧ x < w) ∧ HOk S' := by
  obtain ⟨cs, i, d, s, c, rfl, h1, h2, h3⟩ := h
  refine (T_callV (fd := d__law_draw.fd) rfl rfl).mpr ?_
  show T (exSs _ b__law_draw _ _) _
  unfold b__law_draw
  refine X_seq (fun ρ S' => (∃ x, ρ = [some (.ref 0), some (.int w), x, none, none]) ∧ HOk S') ?_ ?_
  · rw [X_if]
    simp [d__law_draw, peekP]
    by_cases hd : d = 0
    · subst hd
      refine .inr ⟨rfl, ?_⟩
      by_cases hi : i < cs.length
      · refine .inr ⟨hi, ?_⟩
        have hz : cs[i.toNat]? = some cs[i.toNat] := List.getElem?_eq_getElem (by omega)
        have hat : L2.atI (cs.map D.int) i = some (.int cs[i.toNat]) := by
          rw [at_map]
          have := at_nat (xs := cs) (n := i.toNat)
          rw [Int.toNat_of_nonneg h2, hz] at this
          rw [this]
          rfl
        have hp := h1 _ (List.getElem_mem (by omega : i.toNat < cs.length))
        generalize cs[i.toNat] = x at hat hp
        rw [X_cons, X_set]
        simp [peekP, hat]
        rw [X_cons, X_setI]
        simp [peekP, L2.ixN]
        rw [X_cons, X_setI]
        simp [peekP, L2.ixN, mulOk_r]
        rw [X_cons, X_if]
        simp
        by_cases hx : x < 1000000000000000000
        · exact .inl ⟨hx, HOk.mk h1 (by omega) (by omega)⟩
        · refine .inr ⟨by omega, ?_⟩
          rw [X_cons, X_setI]
          simp [L2.ixN]
          exact HOk.mk h1 (by omega) (by omega)
      · refine .inl ⟨by omega, ?_⟩
        exact HOk.mk h1 h2 (by omega)
    · refine .inl ⟨hd, ?_⟩
      exact HOk.mk h1 h2 h3
  · rintro ρ' S' ⟨⟨y, rfl⟩, h⟩
    obtain ⟨cs, i, d, s, c, rfl, h1, h2, h3⟩ := h
    rw [X_cons, X_if]
    simp [peekP]
    by_cases hd : 0 < d
    · refine .inr ⟨hd, ?_⟩
      rw [X_cons, X_set]
      simp [peekP]
      refine ⟨by omega, ?_⟩
      rw [X_cons, X_setI]
      simp [peekP, L2.ixN]
      refine ⟨by omega, ?_⟩
      rw [X_cons, X_ret]
      simp
      refine ⟨fmod_lt hw, HOk.mk h1 h2 ?_⟩
      exact Int.fdiv_nonneg (by omega) (by omega)
    · refine .inl ⟨by omega, ?_⟩
      rw [X_cons, X_setI]
      simp [peekP, L2.ixN]
      rw [X_cons, X_set]
      simp [peekP, mulOk_r, mulOk_l]
      generalize hn : ((s + 7919 * (c + 1)) * 48271).fmod 2147483647 = n
      have b1 := fmod_lt (a := (s + 7919 * (c + 1)) * 48271) (b := 2147483647) (by decide)
      rw [hn] at b1
      rw [X_cons, X_set]
      simp
      refine ⟨mulOk_l (by omega) (by omega), ?_⟩
      generalize hn2 : (n * (n.fdiv 1009 + 69621)).fmod 2147483647 = n2
      have b2 := fmod_lt (a := n * (n.fdiv 1009 + 69621)) (b := 2147483647) (by decide)
      rw [hn2] at b2
      rw [X_cons, X_set]
      simp
      refine ⟨mulOk_l (by omega) (by omega), ?_⟩
      rw [X_cons, X_ret]
      simp
      exact ⟨by omega, fmod_lt hw, HOk.mk h1 h2 h3⟩
end Lk01
set_option linter.all false
set_option maxRecDepth 100000
set_option maxHeartbeats 4000000
namespace Lk01
open PySem Ev
variable {k : Nat} {S : Store}
theorem c_some {ds : List D} (h0 : ds ≠ []) (h1 : ds.length < 1073741824) (h : HOk S) : T (callV P (k + 2) f__law_some [.ref 0, .lst ds] S) fun r S' => r ∈ ds ∧ HOk S' := by
  refine (T_callV (fd := d__law_some.fd) rfl rfl).mpr ?_
  show T (exSs _ b__law_some _ _) _
  unfold b__law_some
  rw [X_cons, X_ret]
  simp [d__law_some]
  have hl : 0 < ds.length := List.length_pos_iff.mpr h0
  refine (c_draw (by omega) (by omega) h).mono fun r S' ⟨⟨x, e, x0, x1⟩, h'⟩ => ?_
  subst e
  simp
  have e : x = (x.toNat : Int) := by omega
  rw [e, at_nat, List.getElem?_eq_getElem (by omega)]
  exact ⟨_, rfl, List.getElem_mem _, h'⟩
theorem c_hand {ns : List Int} : T (callV P (k + 1) f__law_hand [.fro (ns.map .int)] []) fun r S' => r = .ref 0 ∧ HOk S' := by
  refine (T_callV (fd := d__law_hand.fd) rfl rfl).mpr ?_
  show T (exSs _ b__law_hand _ _) _
  unfold b__law_hand
  rw [X_cons, X_set]
  refine T_compI (ds := (cutL ns none (some 63)).map .int) (g := fun d => match d with | .int i => .int (if i < 0 then -i else i) | d => d) ?_ ?_ ?_ ?_
  · simp [d__law_hand]
  · rw [List.length_map, show (63 : Int) = ((63 : Nat) : Int) from rfl, cut_to, List.length_take]
    exact Nat.le_trans (Nat.min_le_left _ _) (by decide)
  · intro d hd
    obtain ⟨i, _, rfl⟩ := List.mem_map.mp hd
    refine ⟨[some (.fro (ns.map .int)), some (.int i), none], rfl, ?_, ?_⟩
    · simp
    · simp
  · rw [show (63 : Int) = ((63 : Nat) : Int) from rfl, cut_to, List.map_map]
    refine ⟨_, rfl, ?_⟩
    rw [X_cons, X_ret]
    simp [mulOk_l, d__law_hand]
    refine ⟨(ns.take 63).map fun i => if i < 0 then -i else i, 0, 0, 23692 + 7 * ((min 63 ns.length : Nat) : Int), 0, ?_, ?_, by omega, by omega⟩
    · rw [List.map_map, ← List.map_take]
      rfl
    · intro x hx
      obtain ⟨i, _, rfl⟩ := List.mem_map.mp hx
      split <;> omega
end Lk01
set_option linter.all false
set_option maxRecDepth 100000
set_option maxHeartbeats 400000
namespace Lk01
open PySem Ev
variable {k : Nat} {S : Store}
def RowOf (H R : Nat) (v : D) : Prop := ∃ h r : List Int, v = rw_ h r ∧ h ≠ [] ∧ h.length ≤ H ∧ r.length ≤ R
theorem RowOf.le {H R H' R' : Nat} {v : D} (h : RowOf H R v) (h1 : H ≤ H') (h2 : R ≤ R') : RowOf H' R' v := by
  obtain ⟨a, b, e, n, l1, l2⟩ := h
  exact ⟨a, b, e, n, Nat.le_trans l1 h1, Nat.le_trans l2 h2⟩
theorem cutL_le {xs : List Int} {lo hi : Option Int} : (cutL xs lo hi).length ≤ xs.length := by
  unfold cutL
  rw [List.length_take, List.length_drop]
  omega
theorem c_lshort : ∀ (n : Nat) {k : Nat} {h r : List Int}, h.length + r.length ≤ n → h ≠ [] → n ≤ 1000 → T (callV P (k + n + 1) f__law_shortest [ti h, ti r] S) fun v S' => S' = S ∧ RowOf h.length r.length v
  | 0, k, h, r, hl, h0, _ => by
    have := List.length_pos_iff.mpr h0
    omega
  | n + 1, k, h, r, hl, h0, hn => by
    have ih := fun {h r : List Int} => c_lshort n (k := k) (h := h) (r := r)
    have hp := List.length_pos_iff.mpr h0
    refine (T_callV (fd := d__law_shortest.fd) rfl rfl).mpr ?_
    show T (exSs _ b__law_shortest _ _) _
    unfold b__law_shortest
    have rec_ : ∀ {h' r' : List Int} {ds : List D}, ds = [ti h', ti r'] → h'.length + r'.length ≤ n → h' ≠ [] → h'.length ≤ h.length → r'.length ≤ r.length → T (callV P (k + (n + 1)) f__law_shortest ds S) fun v S' => S' = S ∧ RowOf h.length r.length v := fun e a b c d => by
      subst e
      exact (ih a b (by omega)).mono fun v S' ⟨e, q⟩ => ⟨e, q.le c d⟩
    refine X_seq (fun ρ S' => S' = S ∧ ∃ x, ρ = [some (ti h), some (ti r), x]) ?_ ?_
    · rw [X_for]
      simp [d__law_shortest]

      refine ⟨⟨inRg_of (by decide) (by decide), src_nat (by omega)⟩, ?_⟩
      show T (loopL _ _ _ _) _
      refine loop_keep (fun ρ S' => S' = S ∧ ∃ x, ρ = [some (ti h), some (ti r), x]) (fun d hd ρ S' ⟨e, x, eρ⟩ => ?_) (fun ρ S' j => j) ⟨rfl, none, rfl⟩
      subst e eρ
      obtain ⟨i, rfl, i0, i1⟩ := mem_range hd
      have ei : i = (i.toNat : Int) := by omega
      simp
      rw [X_cons, X_if]
      simp
      refine ⟨by omega, ?_⟩
      by_cases h1 : (r.length : Int).fmod i = 0
      · refine .inr ⟨h1, ⟨by omega, by omega⟩, ?_, ?_⟩
        · unfold repOk sizeMax
          have q0 : 0 ≤ (r.length : Int).fdiv i := Int.fdiv_nonneg (by omega) (by omega)
          have q1 : (r.length : Int).fdiv i ≤ r.length := by
            rw [Int.fdiv_eq_ediv_of_nonneg _ (by omega)]
            exact Int.ediv_le_self _ (by omega)
          have q2 := cutL_le (xs := r) (lo := none) (hi := some i)
          have q3 : (cutL r none (some i)).length * ((r.length : Int).fdiv i).toNat ≤ 1000 * 1000 := Nat.mul_le_mul (by omega) (by omega)
          simp
          omega
        · by_cases h2 : r = listRep (cutL r none (some i)) ((r.length : Int).fdiv i)
          · refine .inr ⟨h2, ?_⟩
            rw [X_cons, X_ret]
            simp
            have e : (cutL r none (some i)).length = i.toNat := by
              rw [ei, cut_to, List.length_take]
              omega
            exact rec_ rfl (by omega) h0 (Nat.le_refl _) (by omega)
          · exact .inl h2
      · exact .inl h1
    · have dl : h.length ≠ 1 → h.dropLast ≠ [] ∧ h.dropLast.length + 1 = h.length := fun q => by
        have e := List.length_dropLast (xs := h)
        exact ⟨fun z => by rw [z] at e; simp at e; omega, by omega⟩
      have tw : ∀ n : Nat, ((1 : Int) < n) → n ≠ 1 := fun n h => by omega
      rintro ρ S' ⟨rfl, x, rfl⟩
      refine X_seq (fun ρ S1 => S1 = S' ∧ ∃ x, ρ = [some (ti h), some (ti r), x]) ?_ ?_
      · rw [X_if]
        by_cases hr : r = []
        · subst hr
          simp
        · obtain ⟨m, hm⟩ := max_ne hr
          simp [hr, hm]
          by_cases q : m = 0
          · refine .inr ⟨q, ?_⟩
            rw [X_cons, X_ret]
            simp
            have := List.length_pos_iff.mpr hr
            exact rec_ (h' := h) (r' := []) (by simp) (by simp; omega) h0 (Nat.le_refl _) (by simp)
          · exact .inl q
      · rintro ρ S1 ⟨rfl, x, rfl⟩
        refine X_seq (fun ρ S2 => S2 = S1 ∧ ∃ x, ρ = [some (ti h), some (ti r), x]) ?_ ?_
        · rw [X_if]
          by_cases hr : r = []
          · subst hr
            simp [last_some h0]
            by_cases q : (1 : Int) < h.length
            · refine .inr ⟨q, ?_⟩
              by_cases q2 : h.getLast h0 = 0
              · refine .inr ⟨q2, ?_⟩
                rw [X_cons, X_ret]
                simp [cut_front]
                obtain ⟨d1, d2⟩ := dl (tw _ q)
                exact rec_ (h' := h.dropLast) (r' := []) (by simp) (by simp; omega) d1 (by omega) (by simp)
              · exact .inl q2
            · exact .inl (by omega)
          · simp [hr]
        · rintro ρ S2 ⟨rfl, x, rfl⟩
          refine X_seq (fun ρ S3 => S3 = S2 ∧ ∃ x, ρ = [some (ti h), some (ti r), x]) ?_ ?_
          · rw [X_if]
            by_cases hr : r = []
            · subst hr
              simp
            · simp [hr, last_some h0, last_some hr]
              by_cases q : (1 : Int) < h.length
              · refine .inr ⟨q, ?_⟩
                by_cases q2 : h.getLast h0 = r.getLast hr
                · refine .inr ⟨q2, ?_⟩
                  rw [X_cons, X_ret]
                  simp [cut_front, cut_end]
                  obtain ⟨d1, d2⟩ := dl (tw _ q)
                  have hp2 := List.length_pos_iff.mpr hr
                  refine ⟨by unfold sizeMax; omega, ?_⟩
                  exact rec_ (h' := h.dropLast) (r' := r.drop (r.length - 1) ++ r.dropLast) (by simp) (by simp; omega) d1 (by omega) (by simp <;> omega)
                · exact .inl q2
              · exact .inl (by omega)
          · rintro ρ S3 ⟨rfl, x, rfl⟩
            rw [X_cons, X_ret]
            simp
            exact ⟨h, r, rfl, h0, Nat.le_refl _, Nat.le_refl _⟩
end Lk01
set_option linter.all false
set_option maxRecDepth 100000
set_option maxHeartbeats 1000000
namespace Lk01
open PySem Ev
variable {k : Nat} {S : Store}
/-- figures drawn, one by one -/
theorem c_draws {m w : Int} {b c d e : Option D} (hm : 0 < m) (hm2 : m < 1000) (hw : 0 < w) (hw2 : w < 1000000) (h : HOk S) :
    T (evE (callV P (k + 1)) (.comp [3] (.name 3) .rng1 [.call f__law_draw [.var 0, .c (.int m)]] [] (.call f__law_draw [.var 0, .bin .add (.var 1) (.c (.int 1))])) [some (.ref 0), some (.int w), b, c, d, e] S) fun v S' => (∃ xs : List Int, v = .lst (xs.map .int) ∧ xs.length < m.toNat) ∧ HOk S' := by
  rw [T_comp]
  simp
  refine (c_draw hm (by omega) h).mono fun r S' ⟨⟨x, e, x0, x1⟩, h'⟩ => ?_
  subst e
  simp
  refine ⟨inRg_of (by omega) (by omega), ?_⟩
  show T (compL _ _ _ _) _
  refine comp_keep (fun acc S => (∃ xs : List Int, acc = xs.map .int) ∧ HOk S) (by simp [rangeD, sizeMax]; omega) (fun d hd acc S ⟨⟨xs, ea⟩, hS⟩ => ?_) (fun acc S hl ⟨⟨xs, ea⟩, hS⟩ => ⟨⟨xs, by rw [ea], ?_⟩, hS⟩) ⟨⟨[], rfl⟩, h'⟩
  · simp [wipeD]
    refine (c_draw (by omega) (by omega) hS).mono fun r S' ⟨⟨y, e, _, _⟩, h'⟩ => ?_
    subst e ea
    exact ⟨⟨xs ++ [y], by simp⟩, h'⟩
  · rw [ea] at hl
    simp [rangeD] at hl
    omega
theorem c_drawn {w : Int} (hw : 0 < w) (hw2 : w < 1000) (h : HOk S) : T (callV P (k + 12) f__law_drawn [.ref 0, .int w] S) fun v S' => RowOf 5 3 v ∧ HOk S' := by
  refine (T_callV (fd := d__law_drawn.fd) rfl rfl).mpr ?_
  show T (exSs _ b__law_drawn _ _) _
  unfold b__law_drawn
  refine X_seq (fun ρ S' => HOk S') ?_ ?_
  · rw [X_for]
    simp [d__law_drawn]
    refine ⟨inRg_of (by decide) (by decide), ?_⟩
    show T (loopL _ _ _ _) _
    refine loop_keep (fun ρ S' => HOk S' ∧ ∃ b c d e, ρ = [some (.ref 0), some (.int w), b, c, d, e]) (fun d hd ρ S' ⟨hS, b, c, x, e, eρ⟩ => ?_) (fun ρ S' j => j.1) ⟨h, none, none, none, none, rfl⟩
    subst eρ
    simp
    rw [X_cons, X_set]
    simp
    refine (c_draw hw (by omega) hS).mono fun r S' ⟨⟨y, e, y0, y1⟩, h'⟩ => ?_
    subst e
    simp
    refine (c_draws (m := 5) (by decide) (by decide) hw (by omega) h').mono fun v S' ⟨⟨xs, e, hl⟩, h'⟩ => ?_
    subst e
    simp
    refine ⟨by simp at hl; unfold sizeMax; omega, ?_⟩
    rw [X_cons, X_set]
    simp
    refine (c_draws (m := 4) (by decide) (by decide) hw (by omega) h').mono fun v S' ⟨⟨ys, e, hl2⟩, h'⟩ => ?_
    subst e
    simp
    rw [X_cons, X_set]
    simp
    have hh : (1 + y) :: xs ≠ [] := by simp
    refine ((c_lshort (k := k + 2) 8 (h := (1 + y) :: xs) (r := ys) (by simp at hl hl2 ⊢; omega) hh (by decide)).mono fun v S2 ⟨es, rr⟩ => ?_)
    subst es
    obtain ⟨h2, r2, e, n2, l1, l2⟩ := rr
    subst e
    simp
    rw [X_cons, X_if]
    simp at hl hl2 l1
    have fin : RowOf 5 3 (rw_ h2 r2) := ⟨h2, r2, rfl, n2, by omega, by omega⟩
    by_cases hr : r2 = []
    · subst hr
      simp
      rw [X_cons, X_ret]
      simp
      exact ⟨fin, h'⟩
    · simp [hr, last_some n2, last_some hr]
      by_cases q : h2.getLast n2 = r2.getLast hr
      · exact .inl ⟨q, h'⟩
      · refine .inr ⟨q, ?_⟩
        rw [X_cons, X_ret]
        simp
        exact ⟨fin, h'⟩
  · rintro ρ S' hS
    rw [X_cons, X_ret]
    simp
    exact ⟨⟨[1, 1], [], rfl, by simp, by simp, by simp⟩, hS⟩
end Lk01
set_option linter.all false
set_option maxRecDepth 100000
set_option maxHeartbeats 1000000
namespace Lk01
open PySem Ev
variable {k : Nat} {S : Store} {d a b : D}
def isI : D → Bool
  | .int _ => true
  | _ => false
def inR (lo hi : Int) : D → Bool
  | .int i => decide (lo ≤ i) && decide (i ≤ hi)
  | _ => false
def isPair : D → Bool
  | .tup xs => decide (xs.length = 2)
  | _ => false
def sized (lo hi : Int) : D → Bool
  | .tup xs => decide (lo ≤ xs.length) && decide ((xs.length : Int) ≤ hi)
  | _ => false
theorem c_is_integer (h : nr d = true) : callV P (k + 1) f_is_integer [d] S = some (.ok (.bl (isI d)) S) := by
  refine T_eq ((T_callV (fd := d_is_integer.fd) rfl rfl).mpr ?_)
  cases d <;> first | (cases h; done) | (simp [d_is_integer, b_is_integer, X_cons, X_ret, peekP, isiV, isI])
theorem c_is_within (h : nr d = true) {lo hi : Int} : callV P (k + 2) f_is_within [d, .int lo, .int hi] S = some (.ok (.bl (inR lo hi d)) S) := by
  refine T_eq ((T_callV (fd := d_is_within.fd) rfl rfl).mpr ?_)
  simp [d_is_within, b_is_within, X_cons, X_ret, c_is_integer h, peekP]
  cases d <;> simp [isI, inR]
  omega
theorem c_is_pair (h : nr d = true) : callV P (k + 1) f_is_pair [d] S = some (.ok (.bl (isPair d)) S) := by
  refine T_eq ((T_callV (fd := d_is_pair.fd) rfl rfl).mpr ?_)
  cases d <;> first | (cases h; done) | (simp [d_is_pair, b_is_pair, X_cons, X_ret, peekP, isiV, isPair])
  omega
theorem c_is_sized (h : nr d = true) {lo hi : Int} : callV P (k + 1) f_is_sized [d, .int lo, .int hi] S = some (.ok (.bl (sized lo hi d)) S) := by
  refine T_eq ((T_callV (fd := d_is_sized.fd) rfl rfl).mpr ?_)
  cases d <;> first | (cases h; done) | (simp [d_is_sized, b_is_sized, X_cons, X_ret, peekP, isiV, sized])
  omega
/-- once, of at most three -/
def same (r : List Int) : Bool := r.all fun x => x == r.headD 0
def onceL (r : List Int) : List Int := if 1 < r.length ∧ same r = true then r.take 1 else r
theorem c_once {r : List Int} (h0 : r ≠ []) (h3 : r.length ≤ 3) : callV P (k + 1) f_once [ti r] S = some (.ok (ti (onceL r)) S) := by
  refine T_eq ((T_callV (fd := d_once.fd) rfl rfl).mpr ?_)
  show T (exSs _ b_once _ _) _
  unfold b_once
  rw [X_cons, X_set]
  simp [d_once]
  rw [X_cons, X_set, T_comp]
  simp
  refine ⟨⟨inRg_of (by decide) (by decide), inRg_of (by omega) (by omega)⟩, ?_⟩
  show T (compL _ _ _ _) _
  have hp := List.length_pos_iff.mpr h0
  have rep2 : r.length = 2 → ((r = listRep (r.take 1) 2) ↔ same r = true) := fun h => by
    match r, h with
    | [a, b], _ => simp [listRep, List.replicate, same]
  have rep3 : r.length = 3 → ((r = listRep (r.take 1) 3) ↔ same r = true) := fun h => by
    match r, h with
    | [a, b, c], _ => simp [listRep, List.replicate, same]
  have hl : r.length = 1 ∨ r.length = 2 ∨ r.length = 3 := by omega
  rcases hl with h | h | h
  · rw [h, show rangeD 1 1 = [.int 1] from rfl, T_compL_cons]
    simp [wipeD, h, cut_to1, rep_one, repOk, sizeMax, Int.fmod, Int.fdiv, List.take_of_length_le, -List.map_take]
    rw [T_compL_nil]
    try simp
    rw [X_cons, X_ret]
    simp [cut_to1, onceL, h, List.take_of_length_le]
  · rw [h, show rangeD 1 2 = [.int 1, .int 2] from rfl, T_compL_cons]
    simp [wipeD, h, cut_to1, rep_one, repOk, sizeMax, Int.fmod, Int.fdiv, rep2 h, -List.map_take]
    by_cases q : same r = true
    · refine .inr ⟨q, ?_⟩
      rw [T_compL_cons]
      simp [wipeD, h, cut_to2, rep_one, repOk, sizeMax, Int.fmod, Int.fdiv, List.take_of_length_le, -List.map_take]
      rw [T_compL_nil]
      try simp
      rw [X_cons, X_ret]
      simp [cut_to1, onceL, h, q]
    · have q := Bool.eq_false_iff.mpr q
      refine .inl ⟨q, ?_⟩
      rw [T_compL_cons]
      simp [wipeD, h, cut_to2, rep_one, repOk, sizeMax, Int.fmod, Int.fdiv, List.take_of_length_le, -List.map_take]
      rw [T_compL_nil]
      try simp
      rw [X_cons, X_ret]
      simp [cut_to2, onceL, h, q, List.take_of_length_le]
  · rw [h, show rangeD 1 3 = [.int 1, .int 2, .int 3] from rfl, T_compL_cons]
    simp [wipeD, h, cut_to1, rep_one, repOk, sizeMax, Int.fmod, Int.fdiv, rep3 h, -List.map_take]
    by_cases q : same r = true
    · refine .inr ⟨q, ?_⟩
      rw [T_compL_cons]
      simp [wipeD, h, Int.fmod]
      rw [T_compL_cons]
      simp [wipeD, h, cut_to3, rep_one, repOk, sizeMax, Int.fmod, Int.fdiv, List.take_of_length_le, -List.map_take]
      rw [T_compL_nil]
      try simp
      rw [X_cons, X_ret]
      simp [cut_to1, onceL, h, q]
    · have q := Bool.eq_false_iff.mpr q
      refine .inl ⟨q, ?_⟩
      rw [T_compL_cons]
      simp [wipeD, h, Int.fmod]
      rw [T_compL_cons]
      simp [wipeD, h, cut_to3, rep_one, repOk, sizeMax, Int.fmod, Int.fdiv, List.take_of_length_le, -List.map_take]
      rw [T_compL_nil]
      try simp
      rw [X_cons, X_ret]
      simp [cut_to3, onceL, h, q, List.take_of_length_le]
end Lk01
set_option linter.all false
set_option maxRecDepth 100000
set_option maxHeartbeats 1000000
namespace Lk01
open PySem Ev
variable {k : Nat} {S : Store} {d a b : D}
def sameLast (h r : List Int) : Prop := h ≠ [] ∧ r ≠ [] ∧ h.getLast? = r.getLast?
/-- the ring is rolled into the head -/
theorem w_roll {call : Nat → List D → M D} : ∀ (n : Nat) {h r : List Int}, h.length ≤ n → r.length ≤ 1000 → T (whileM (evT call (.andE (.cmp .gt (.bi .len [(.var 0)]) (.c (.int 0))) (.andE (.cmp .gt (.bi .len [(.var 1)]) (.c (.int 0))) (.cmp .eq (.idx (.var 0) (.neg (.c (.int 1)))) (.idx (.var 1) (.neg (.c (.int 1))))))))
    (exSs call [.par 0 1 (.sl (.var 0) false .never true (.neg (.c (.int 1)))) (.bin .add (.tup [(.idx (.var 1) (.neg (.c (.int 1))))]) (.sl (.var 1) false .never true (.neg (.c (.int 1)))))]) [some (ti h), some (ti r)] S)
    fun res S' => S' = S ∧ ∃ h2 r2 : List Int, res = (.nx, [some (ti h2), some (ti r2)]) ∧ r2.length = r.length ∧ h2.length ≤ h.length ∧ (sameLast h r → h2.length < h.length) ∧ (¬ sameLast h r → h2 = h ∧ r2 = r) := by
  intro n
  induction n with
  | zero =>
    intro h r hn hr
    have e : h = [] := List.length_eq_zero_iff.mp (by omega)
    subst e
    rw [T_while]
    simp [sameLast]
    exact ⟨[], r, by simp⟩
  | succ n ih =>
    intro h r hn hr
    rw [T_while]
    simp
    by_cases h0 : h = []
    · subst h0
      simp [sameLast]
      exact ⟨[], r, by simp⟩
    · have hp := List.length_pos_iff.mpr h0
      by_cases r0 : r = []
      · subst r0
        simp [sameLast, h0, hp]
        exact ⟨h, [], by simp⟩
      · have rp := List.length_pos_iff.mpr r0
        simp [h0, r0, hp, rp, last_some h0, last_some r0]
        by_cases q : h.getLast h0 = r.getLast r0
        · have sl : sameLast h r := ⟨h0, r0, by rw [List.getLast?_eq_some_getLast h0, List.getLast?_eq_some_getLast r0, q]⟩
          simp [q, sl, h0, r0, hp, rp]
          rw [X_cons, X_par]
          simp [last_some r0, cut_front]
          refine ⟨by unfold sizeMax; omega, ?_⟩
          have e : ∀ (x : Int) (l : List Int), D.tup (D.int x :: (List.map D.int l).dropLast) = ti (x :: l.dropLast) := fun x l => by simp
          have e2 : ∀ (l : List Int), D.tup ((List.map D.int l).dropLast) = ti l.dropLast := fun l => by simp
          rw [e, e2]
          refine (ih (h := h.dropLast) (r := r.getLast r0 :: r.dropLast) (by simp; omega) (by simp; omega)).mono fun res S' ⟨es, h2, r2, e3, l1, l2, _, _⟩ => ?_
          refine ⟨es, h2, r2, e3, ?_, ?_, ?_⟩
          · simp at l1
            omega
          · simp at l2
            omega
          · simp at l2
            omega
        · have sl : ¬ sameLast h r := fun ⟨_, _, z⟩ => q (by
            rw [List.getLast?_eq_some_getLast h0, List.getLast?_eq_some_getLast r0] at z
            exact Option.some.inj z)
          simp [q, sl, h0, r0, hp, rp]
          exact ⟨h, r, by simp⟩
def endsNought (h : List Int) : Prop := h ≠ [] ∧ h.getLast? = some 0
/-- noughts at the end of an ended row go -/
theorem w_trim {call : Nat → List D → M D} : ∀ (n : Nat) {h r : List Int}, h.length ≤ n → T (whileM (evT call (.andE (.cmp .eq (.bi .len [(.var 1)]) (.c (.int 0))) (.andE (.cmp .gt (.bi .len [(.var 0)]) (.c (.int 0))) (.cmp .eq (.idx (.var 0) (.neg (.c (.int 1)))) (.c (.int 0))))))
    (exSs call [.set (.name 0) (.sl (.var 0) false .never true (.neg (.c (.int 1))))]) [some (ti h), some (ti r)] S)
    fun res S' => S' = S ∧ ∃ h2 : List Int, res = (.nx, [some (ti h2), some (ti r)]) ∧ h2.length ≤ h.length ∧ (r = [] ∧ endsNought h → h2.length < h.length) ∧ (¬ (r = [] ∧ endsNought h) → h2 = h) := by
  intro n
  induction n with
  | zero =>
    intro h r hn
    have e : h = [] := List.length_eq_zero_iff.mp (by omega)
    subst e
    rw [T_while]
    by_cases r0 : r = []
    · subst r0
      simp [endsNought]
    · simp [endsNought, r0]
  | succ n ih =>
    intro h r hn
    rw [T_while]
    by_cases r0 : r = []
    · subst r0
      simp
      by_cases h0 : h = []
      · subst h0
        simp [endsNought]
      · have hp := List.length_pos_iff.mpr h0
        simp [h0, hp, last_some h0]
        by_cases q : h.getLast h0 = 0
        · have sl : endsNought h := ⟨h0, by rw [List.getLast?_eq_some_getLast h0, q]⟩
          simp [q, sl, h0, hp]
          rw [X_cons, X_set]
          simp [cut_front]
          have e2 : ∀ (l : List Int), D.tup ((List.map D.int l).dropLast) = ti l.dropLast := fun l => by simp
          rw [e2]
          refine (ih (h := h.dropLast) (r := []) (by simp; omega)).mono fun res S' ⟨es, h2, e3, l2, _, _⟩ => ?_
          simp at l2
          exact ⟨es, h2, e3, by omega, by omega⟩
        · have sl : ¬ endsNought h := fun ⟨_, z⟩ => q (by
            rw [List.getLast?_eq_some_getLast h0] at z
            exact Option.some.inj z)
          simp [q, sl, h0, hp]
    · simp [r0]
instance {h r : List Int} : Decidable (sameLast h r) := inferInstanceAs (Decidable (_ ∧ _ ∧ _))
instance {h : List Int} : Decidable (endsNought h) := inferInstanceAs (Decidable (_ ∧ _))
/-- the row is told shortest -/
def shortOk (h r : List Int) : Bool := decide (¬ sameLast h r) && decide (onceL r = r) && decide (¬ (r = [] ∧ endsNought h))
theorem once_len (r : List Int) : (onceL r).length ≤ r.length ∧ (onceL r ≠ r → (onceL r).length < r.length) ∧ (r ≠ [] → onceL r ≠ []) := by
  unfold onceL
  split
  · rename_i h
    refine ⟨by rw [List.length_take]; omega, fun _ => by rw [List.length_take]; have := h.1; omega, fun h0 z => ?_⟩
    have e := congrArg List.length z
    rw [List.length_take] at e
    have l0 : ([] : List Int).length = 0 := rfl
    omega
  · exact ⟨Nat.le_refl _, fun z => absurd rfl z, fun z => z⟩
def Out (h r h2 r2 : List Int) : Prop := (h2 = h ∧ r2 = r) ↔ shortOk h r = true
theorem c_shortest {h r : List Int} (hl : h.length ≤ 100) (rl : r.length ≤ 3) (hr : r = [] ∨ (r.any fun x => x != 0) = true) : T (callV P (k + 2) f_shortest [ti h, ti r] S) fun v S' => S' = S ∧ ∃ h2 r2, v = rw_ h2 r2 ∧ Out h r h2 r2 := by
  refine (T_callV (fd := d_shortest.fd) rfl rfl).mpr ?_
  show T (exSs _ b_shortest _ _) _
  unfold b_shortest
  have key : ∀ (h2 r2 : List Int) (o : List Int), o = onceL r → (o = [] ↔ r = []) → r2.length = o.length → h2.length ≤ h.length → (sameLast h o → h2.length < h.length) → (¬ sameLast h o → h2 = h ∧ r2 = o) →
      T (whileM (evT (callV P (k + 1)) (.andE (.cmp .eq (.bi .len [(.var 1)]) (.c (.int 0))) (.andE (.cmp .gt (.bi .len [(.var 0)]) (.c (.int 0))) (.cmp .eq (.idx (.var 0) (.neg (.c (.int 1)))) (.c (.int 0))))))
    (exSs (callV P (k + 1)) [.set (.name 0) (.sl (.var 0) false .never true (.neg (.c (.int 1))))]) [some (ti h2), some (ti r2)] S) fun res S' => S' = S ∧ ∃ h3 r3, res = (.nx, [some (ti h3), some (ti r3)]) ∧ Out h r h3 r3 := by
    intro h2 r2 o eo on l1 l2 g1 g2
    refine (w_trim h2.length (Nat.le_refl _)).mono fun res S' ⟨es, h3, e3, l3, g3, g4⟩ => ⟨es, h3, r2, e3, ?_⟩
    have ol := once_len r
    subst eo
    unfold Out shortOk
    by_cases q1 : sameLast h r
    · have : ¬ (h3 = h ∧ r2 = r) := by
        rintro ⟨e1, e2⟩
        subst e1
        by_cases q2 : sameLast h3 (onceL r)
        · have := g1 q2
          omega
        · obtain ⟨e4, e5⟩ := g2 q2
          rw [← e5, e2] at q2
          exact q2 q1
      simp [q1, this]
    · by_cases q2 : onceL r = r
      · rw [q2] at g1 g2
        obtain ⟨e4, e5⟩ := g2 q1
        subst e4 e5
        by_cases q3 : r2 = [] ∧ endsNought h2
        · have := g3 q3
          have n : ¬ (h3 = h2) := fun z => by rw [z] at this; omega
          simp [q1, q2, q3, n]
        · have := g4 q3
          simp [q1, q2, this]
          by_cases w : r2 = []
          · exact .inr fun z => q3 ⟨w, z⟩
          · exact .inl w
      · have : ¬ (h3 = h ∧ r2 = r) := by
          rintro ⟨e1, e2⟩
          have z := ol.2.1 q2
          rw [← l1, e2] at z
          omega
        simp [q2, this]
  by_cases r0 : r = []
  · subst r0
    rw [X_cons, X_set]
    simp [d_shortest]
    rw [X_cons, X_while]
    refine (w_roll (h := h) (r := []) h.length (Nat.le_refl _) (by decide)).mono fun res S' ⟨es, h2, r2, e, l1, l2, g1, g2⟩ => ?_
    subst es e
    rw [X_cons, X_while]
    refine (key h2 r2 [] (by simp [onceL]) (by simp) l1 l2 g1 g2).mono fun res S' ⟨es, h3, r3, e3, q⟩ => ?_
    subst es e3
    rw [X_cons, X_ret]
    simp
    exact ⟨h3, r3, ⟨rfl, rfl⟩, q⟩
  · have ra : (r.any fun x => x != 0) = true := hr.resolve_left r0
    rw [X_cons, X_set]
    simp [d_shortest, anyInts]
    obtain ⟨x, hx, x0⟩ : ∃ x, x ∈ r ∧ ¬ x = 0 := by simpa using ra
    refine .inr ⟨⟨x, hx, x0⟩, ?_⟩
    rw [T_of (c_once r0 rl), X_cons, X_while]
    have ol := once_len r
    refine (w_roll (h := h) (r := onceL r) h.length (Nat.le_refl _) (by omega)).mono fun res S' ⟨es, h2, r2, e, l1, l2, g1, g2⟩ => ?_
    subst es e
    rw [X_cons, X_while]
    refine (key h2 r2 (onceL r) rfl ⟨fun z => absurd z (ol.2.2 r0), fun z => absurd z r0⟩ l1 l2 g1 g2).mono fun res S' ⟨es, h3, r3, e3, q⟩ => ?_
    subst es e3
    rw [X_cons, X_ret]
    simp
    exact ⟨h3, r3, ⟨rfl, rfl⟩, q⟩
end Lk01
set_option linter.all false
set_option maxRecDepth 100000
set_option maxHeartbeats 1000000
namespace Lk01
open PySem Ev
variable {k : Nat} {S : Store} {d a b : D}
/-- the items of a tuple are no references -/
def nrs : D → Bool
  | .tup xs => xs.all nr && decide (xs.length ≤ 1000)
  | _ => true
def figs : D → Bool
  | .tup xs => xs.all (inR 0 9)
  | _ => false
theorem c_figs {lo hi : Int} (h : nr d = true) (h2 : nrs d = true) : callV P (k + 1) f__law_are_figures [d, .int lo, .int hi] S = some (.ok (.bl (sized lo hi d && figs d)) S) := by
  refine T_eq ((T_callV (fd := d__law_are_figures.fd) rfl rfl).mpr ?_)
  show T (exSs _ b__law_are_figures _ _) _
  unfold b__law_are_figures
  by_cases ht : ∃ xs, d = .tup xs
  · obtain ⟨xs, rfl⟩ := ht
    simp [nrs] at h2
    obtain ⟨h2, h3⟩ := h2
    refine X_seq (fun ρ S' => S' = S ∧ ρ = [some (D.tup xs), some (D.int lo), some (D.int hi), none] ∧ lo ≤ xs.length ∧ (xs.length : Int) ≤ hi) ?_ ?_
    · rw [X_if]
      simp [d__law_are_figures, isiV, sized]
      by_cases q1 : lo ≤ xs.length
      · by_cases q2 : (xs.length : Int) ≤ hi
        · simp [q1, q2]
        · have q2' : hi < xs.length := by omega
          simp [q1, q2, q2']
          rw [X_cons, X_ret]
          simp
      · have q1' : (xs.length : Int) < lo := by omega
        simp [q1, q1']
        rw [X_cons, X_ret]
        simp
    · rintro ρ S' ⟨rfl, rfl, q1, q2⟩
      rw [X_cons, X_ret]
      simp
      refine T_compI (ds := xs) (g := fun d => .bl (inR 0 9 d)) ?_ (by unfold sizeMax; omega) (fun d hd => ⟨[some (D.tup xs), some (D.int lo), some (D.int hi), some d], rfl, ?_, ?_⟩) ?_
      · simp
      · simp
      · have hn := h2 d hd
        cases d <;> first | (cases hn; done) | (simp [isiV, inR])
        omega
      · have e : xs.map (fun d => D.bl (inR 0 9 d)) = (xs.map (inR 0 9)).map .bl := by simp
        refine ⟨_, rfl, _, by rw [e]; exact allBls, ?_, rfl⟩
        simp [List.all_map, sized, figs, q1, q2]
  · have e : isiV d .tuple = some false ∧ sized lo hi d = false := by
      cases d <;> first | (cases h; done) | exact ⟨rfl, rfl⟩ | exact absurd ⟨_, rfl⟩ ht
    rw [X_cons, X_if]
    simp [d__law_are_figures, peek_nr h, e.1, e.2]
    rw [X_cons, X_ret]
    simp
end Lk01
set_option linter.all false
set_option maxRecDepth 100000
set_option maxHeartbeats 1000000
namespace Lk01
open PySem Ev
variable {k : Nat} {S : Store} {d a b : D}
def figs' (lo hi : Int) (d : D) : Option (List Int) := if (sized lo hi d && figs d) = true then (match d with
  | .tup xs => toIs xs
  | _ => none) else none
def rowOk (h r : List Int) : Bool := (decide (r = []) || r.any fun x => x != 0) && shortOk h r
def judge : D → Bool
  | .tup [a, b] => match figs' 1 5 a, figs' 0 3 b with
    | some h, some r => rowOk h r
    | _, _ => false
  | _ => false
def safe (d : D) : Prop := nr d = true ∧ ∀ xs, d = .tup xs → ∀ x ∈ xs, nr x = true ∧ nrs x = true
theorem inR_int {lo hi : Int} (d : D) (h : inR lo hi d = true) : ∃ i, d = .int i := by
  cases d <;> first | exact ⟨_, rfl⟩ | cases h
theorem figs_ok {lo hi : Int} {d : D} (h : (sized lo hi d && figs d) = true) : ∃ h : List Int, figs' lo hi d = some h ∧ d = ti h ∧ lo ≤ h.length ∧ (h.length : Int) ≤ hi ∧ ∀ x ∈ h, 0 ≤ x ∧ x ≤ 9 := by
  have h0 := h
  rw [Bool.and_eq_true] at h
  cases d with
  | tup xs =>
    obtain ⟨h1, h2⟩ := h
    obtain ⟨is, rfl⟩ := ints_all inR_int h2
    simp [sized] at h1
    simp [figs, inR] at h2
    refine ⟨is, ?_, rfl, h1.1, h1.2, fun x hx => h2 x hx⟩
    unfold figs'
    rw [if_pos h0]
    simp
  | _ => exact absurd h.1 (by simp [sized])
theorem figs_no {lo hi : Int} {d : D} (h : (sized lo hi d && figs d) = false) : figs' lo hi d = none := by
  unfold figs'
  rw [h]
  rfl
theorem bool_or {p : Bool} : p = true ∨ p = false := by cases p <;> simp
theorem max_any {r : List Int} {m : Int} (h : maxI r = some m) (hr : ∀ x ∈ r, 0 ≤ x) : m = 0 ↔ (r.any fun x => x != 0) = false := by
  cases r with
  | nil => cases h
  | cons y r =>
    have e : List.foldl max y r = m := Option.some.inj h
    subst e
    have gen : ∀ (r : List Int) (y : Int), 0 ≤ y → (∀ x ∈ r, 0 ≤ x) → 0 ≤ List.foldl max y r ∧ (List.foldl max y r = 0 ↔ y = 0 ∧ ∀ x ∈ r, x = 0) := by
      intro r
      induction r with
      | nil =>
        intro y hy _
        simp [hy]
      | cons z r ih =>
        intro y hy hr
        have hz := hr z (by simp)
        obtain ⟨i1, i2⟩ := ih (max y z) (by omega) fun x hx => hr x (by simp [hx])
        refine ⟨i1, ?_⟩
        rw [List.foldl_cons, i2]
        simp
        constructor
        · rintro ⟨a, b⟩
          exact ⟨by omega, by omega, b⟩
        · rintro ⟨a, b, c⟩
          exact ⟨by omega, c⟩
    rw [(gen r y (hr y (by simp)) fun x hx => hr x (by simp [hx])).2]
    simp
theorem c_lrow (h : safe d) : callV P (k + 2) f__law_is_row [d] S = some (.ok (.bl (judge d)) S) := by
  refine T_eq ((T_callV (fd := d__law_is_row.fd) rfl rfl).mpr ?_)
  show T (exSs _ b__law_is_row _ _) _
  unfold b__law_is_row
  obtain ⟨h1, h2⟩ := h
  by_cases ht : ∃ a b, d = .tup [a, b]
  · obtain ⟨a, b, rfl⟩ := ht
    have ha := h2 _ rfl a (by simp)
    have hb := h2 _ rfl b (by simp)
    rw [X_cons, X_if]
    simp [d__law_is_row, isiV]
    rw [X_cons, X_set]
    simp
    refine X_seq (fun ρ S' => S' = S ∧ ∃ h r : List Int, ρ = [some (rw_ h r), some (ti h), some (ti r)] ∧ judge (.tup [a, b]) = rowOk h r ∧ 1 ≤ h.length ∧ r.length ≤ 3 ∧ ∀ x ∈ r, 0 ≤ x) ?_ ?_
    · rw [X_if]
      rcases bool_or (p := sized 1 5 a && figs a) with qa | qa
      · obtain ⟨h, e1, rfl, g1, g2, g3⟩ := figs_ok qa
        rcases bool_or (p := sized 0 3 b && figs b) with qb | qb
        · obtain ⟨r, e2, rfl, f1, f2, f3⟩ := figs_ok qb
          simp only [T_or, T_not, T_call, T_conss, T_nils, T_var, T_c, List.getElem?_cons_zero, List.getElem?_cons_succ, Option.some.injEq, exists_eq_left', T_of (c_figs ha.1 ha.2), T_of (c_figs hb.1 hb.2), qa, qb, tru_bl]
          simp
          exact ⟨h, r, ⟨rfl, rfl⟩, by simp [judge, e1, e2], by omega, by omega, fun x hx => (f3 x hx).1⟩
        · simp only [T_or, T_not, T_call, T_conss, T_nils, T_var, T_c, List.getElem?_cons_zero, List.getElem?_cons_succ, Option.some.injEq, exists_eq_left', T_of (c_figs ha.1 ha.2), T_of (c_figs hb.1 hb.2), qa, qb, tru_bl]
          simp
          rw [X_cons, X_ret]
          simp [judge, e1, figs_no qb]
      · simp only [T_or, T_not, T_call, T_conss, T_nils, T_var, T_c, List.getElem?_cons_zero, List.getElem?_cons_succ, Option.some.injEq, exists_eq_left', T_of (c_figs ha.1 ha.2), qa, tru_bl]
        simp
        rw [X_cons, X_ret]
        simp [judge, figs_no qa]
    · rintro ρ S' ⟨rfl, h, r, rfl, e, l1, l2, l3⟩
      rw [e]
      have h0 : h ≠ [] := fun z => by rw [z] at l1; simp at l1
      by_cases r0 : r = []
      · subst r0
        rw [X_cons, X_if]
        simp
        rw [X_cons, X_ret]
        simp [last_some h0]
        unfold rowOk shortOk
        simp [sameLast, endsNought, onceL, h0, List.getLast?_eq_some_getLast h0]
        exact Decidable.em _
      · obtain ⟨m, hm⟩ := max_ne r0
        rw [X_cons, X_if]
        simp [r0]
        rw [X_cons, X_if]
        simp [hm, last_some h0, last_some r0]
        have any_ := max_any hm l3
        have sl : sameLast h r ↔ r.getLast r0 = h.getLast h0 := by
          unfold sameLast
          rw [List.getLast?_eq_some_getLast h0, List.getLast?_eq_some_getLast r0]
          simp [h0, r0, eq_comm]
        have en : ¬ (r = [] ∧ endsNought h) := fun z => r0 z.1
        by_cases q : m = 0
        · refine .inr ⟨q, ?_⟩
          rw [X_cons, X_ret]
          simp [rowOk, r0, any_.mp q]
        · refine .inl ⟨q, ?_⟩
          have q' : (r.any fun x => x != 0) = true := by
            rcases bool_or (p := r.any fun x => x != 0) with z | z
            · exact z
            · exact absurd (any_.mpr z) q
          by_cases q2 : r.getLast r0 = h.getLast h0
          · refine .inr ⟨q2, ?_⟩
            rw [X_cons, X_ret]
            simp [rowOk, shortOk, sl, q2]
          · refine .inl ⟨q2, ?_⟩
            have rr : rowOk h r = decide (onceL r = r) := by
              unfold rowOk shortOk
              have q3 : ¬ sameLast h r := fun z => q2 (sl.mp z)
              rw [q', decide_eq_true q3, decide_eq_true en]
              simp
            rw [rr, X_cons, X_ret]
            have hp := List.length_pos_iff.mpr r0
            have on : onceL r = r ↔ (r.length = 1 ∨ ¬ r = listRep (r.take 1) r.length) := by
              have hl : r.length = 1 ∨ r.length = 2 ∨ r.length = 3 := by omega
              rcases hl with z | z | z
              · simp [onceL, z]
              · match r, z with
                | [x, y], _ =>
                  simp [onceL, listRep, List.replicate, same]
              · match r, z with
                | [x, y, w], _ =>
                  simp [onceL, listRep, List.replicate, same]
            simp [cut_to1, -List.map_take]
            by_cases z : r.length = 1
            · have o := on.mpr (.inl z)
              simp [z, o]
            · have z' : ¬ (r.length : Int) = 1 := by omega
              simp [z, z', repOk, sizeMax]
              have mm : min 1 r.length * r.length ≤ 16777216 := Nat.le_trans (Nat.mul_le_mul (Nat.min_le_left _ _) l2) (by decide)
              refine ⟨⟨by omega, decide_eq_true mm⟩, ?_⟩
              by_cases w : r = listRep (r.take 1) r.length
              · have o : ¬ onceL r = r := fun e => (on.mp e).elim z fun f => f w
                exact .inl ⟨w, o⟩
              · have o := on.mpr (.inr w)
                exact .inr ⟨w, o⟩
  · have e : judge d = false ∧ ∀ xs, d = .tup xs → xs.length ≠ 2 := by
      cases d with
      | tup xs =>
        match xs with
        | [] => exact ⟨rfl, fun _ e => by cases e; decide⟩
        | [_] => exact ⟨rfl, fun _ e => by cases e; simp⟩
        | [a, b] => exact absurd ⟨a, b, rfl⟩ ht
        | _ :: _ :: _ :: _ => exact ⟨rfl, fun _ e => by cases e; simp⟩
      | _ => exact ⟨rfl, fun _ e => by cases e⟩
    rw [e.1, X_cons, X_if]
    cases d with
    | tup xs =>
      have q := e.2 xs rfl
      simp [d__law_is_row, isiV]
      refine .inr ⟨by omega, ?_⟩
      rw [X_cons, X_ret]
      simp
    | ref n => cases h1
    | _ =>
      simp [d__law_is_row, isiV]
      rw [X_cons, X_ret]
      simp
end Lk01
set_option linter.all false
set_option maxRecDepth 100000
set_option maxHeartbeats 1000000
namespace Lk01
open PySem Ev
variable {k : Nat} {S : Store} {d a b : D}
theorem c_isrow (h : safe d) : callV P (k + 4) f_is_row_of_one [d] S = some (.ok (.bl (judge d)) S) := by
  refine T_eq ((T_callV (fd := d_is_row_of_one.fd) rfl rfl).mpr ?_)
  show T (exSs _ b_is_row_of_one _ _) _
  unfold b_is_row_of_one
  obtain ⟨h1, h2⟩ := h
  by_cases ht : ∃ a b, d = .tup [a, b]
  · obtain ⟨a, b, rfl⟩ := ht
    have ha := h2 _ rfl a (by simp)
    have hb := h2 _ rfl b (by simp)
    have pr : isPair (.tup [a, b]) = true := rfl
    refine X_seq (fun ρ S' => S' = S ∧ ∃ xs ys : List D, a = .tup xs ∧ b = .tup ys ∧ ρ = [some (.tup [a, b]), none] ∧ (sized 1 5 a && sized 0 3 b) = true) ?_ ?_
    · rw [X_if]
      simp [d_is_row_of_one, T_of (c_is_pair h1), T_of (c_is_sized ha.1), T_of (c_is_sized hb.1), pr]
      rcases bool_or (p := sized 1 5 a) with qa | qa
      · rcases bool_or (p := sized 0 3 b) with qb | qb
        · obtain ⟨xs, rfl⟩ : ∃ xs, a = .tup xs := by cases a <;> first | exact ⟨_, rfl⟩ | cases qa
          obtain ⟨ys, rfl⟩ : ∃ xs, b = .tup xs := by cases b <;> first | exact ⟨_, rfl⟩ | cases qb
          simp [qa, qb]
        · simp [qa, qb]
          rw [X_cons, X_ret]
          simp [judge, figs_no (show (sized 0 3 b && figs b) = false by rw [qb]; rfl)]
      · simp [qa]
        rw [X_cons, X_ret]
        simp [judge, figs_no (show (sized 1 5 a && figs a) = false by rw [qa]; rfl)]
    · rintro ρ S' ⟨rfl, xs, ys, rfl, rfl, rfl, sz⟩
      rw [Bool.and_eq_true] at sz
      obtain ⟨za, zb⟩ := sz
      have la : xs.length ≤ 5 := by
        simp [sized] at za
        omega
      have lb : ys.length ≤ 3 := by
        simp [sized] at zb
        omega
      refine X_seq (fun ρ S1 => S1 = S' ∧ ρ = [some (.tup [.tup xs, .tup ys]), none] ∧ xs.all (inR 0 9) = true ∧ ys.all (inR 0 9) = true) ?_ ?_
      · rw [X_if]
        have nn : ∀ x ∈ xs ++ ys, nr x = true := by
          have n1 := ha.2
          have n2 := hb.2
          simp [nrs] at n1 n2
          intro x hx
          rcases List.mem_append.mp hx with hx | hx
          · exact n1.1 x hx
          · exact n2.1 x hx
        have ev : ∀ φ : D → Store → Prop, φ (.bl ((xs ++ ys).all (inR 0 9))) S' → T (evE (callV P (k + 3)) (.bi .all [(.comp [1] (.name 1) .seq [(.bin .add (.idx (.var 0) (.c (.int 0))) (.idx (.var 0) (.c (.int 1))))] [] (.call f_is_within [(.var 1), (.c (.int 0)), (.c (.int 9))]))]) [some (.tup [.tup xs, .tup ys]), none] S') φ := by
          intro φ hφ
          simp only [T_bi, T_conss, T_nils]
          refine T_compI (ds := xs ++ ys) (g := fun d => .bl (inR 0 9 d)) ?_ (by rw [List.length_append]; unfold sizeMax; omega) (fun d hd => ⟨[some (.tup [.tup xs, .tup ys]), some d], rfl, ?_, ?_⟩) ?_
          · simp
            unfold sizeMax
            omega
          · simp
          · simp [T_of (c_is_within (nn d hd))]
          · have e : (xs ++ ys).map (fun d => D.bl (inR 0 9 d)) = ((xs ++ ys).map (inR 0 9)).map .bl := by
              rw [List.map_map]
              rfl
            rw [e, T_all]
            refine ⟨_, rfl, _, allBls, ?_⟩
            rw [List.all_map]
            exact hφ
        rw [T_not]
        refine ev _ ?_
        rcases bool_or (p := (xs ++ ys).all (inR 0 9)) with q | q
        · rw [q]
          rw [List.all_append, Bool.and_eq_true] at q
          exact ⟨_, rfl, _, rfl, X_nil.mpr ⟨rfl, rfl, q.1, q.2⟩⟩
        · rw [q]
          refine ⟨_, rfl, _, rfl, ?_⟩
          rw [if_pos (by decide), X_cons, X_ret]
          have jf : judge (.tup [.tup xs, .tup ys]) = false := by
            rw [List.all_append, Bool.and_eq_false_iff] at q
            rcases q with q | q
            · simp [judge, figs_no (lo := 1) (hi := 5) (d := .tup xs) (by simp only [figs, q, Bool.and_false])]
            · have := figs_no (lo := 0) (hi := 3) (d := .tup ys) (by simp only [figs, q, Bool.and_false])
              simp only [judge, this]
              split <;> simp_all
          rw [jf]
          simp
      · rintro ρ S1 ⟨rfl, rfl, fa, fb⟩
        obtain ⟨h, e1, eh, g1, g2, g3⟩ := figs_ok (lo := 1) (hi := 5) (d := .tup xs) (by rw [za]; exact fa)
        obtain ⟨r, e2, er, f1, f2, f3⟩ := figs_ok (lo := 0) (hi := 3) (d := .tup ys) (by rw [zb]; exact fb)
        cases eh
        cases er
        have ej : judge (.tup [ti h, ti r]) = rowOk h r := by simp [judge, e1, e2]
        rw [ej]
        refine X_seq (fun ρ S2 => S2 = S1 ∧ ρ = [some (rw_ h r), none] ∧ (r = [] ∨ (r.any fun x => x != 0) = true)) ?_ ?_
        · rw [X_if]
          by_cases r0 : r = []
          · subst r0
            simp
          · have hp := List.length_pos_iff.mpr r0
            rcases bool_or (p := r.any fun x => x != 0) with q | q
            · simp [r0, hp, anyInts, q]
            · simp [r0, hp, anyInts, q]
              rw [X_cons, X_ret]
              simp [rowOk, r0, q]
        · rintro ρ S2 ⟨rfl, rfl, hr⟩
          rw [X_cons, X_ret]
          simp
          refine (c_shortest (h := h) (r := r) (by omega) (by omega) hr).mono fun v S3 ⟨es, h2, r2, ev, o⟩ => ?_
          subst es ev
          have e3 : rowOk h r = shortOk h r := by
            unfold rowOk
            rcases hr with z | z
            · simp [z]
            · simp [z]
          unfold Out at o
          rw [e3, eqD_rw]
          rcases bool_or (p := shortOk h r) with z | z
          · simp [z, o.mpr z]
          · have n : ¬ (h2 = h ∧ r2 = r) := fun w => by rw [o.mp w] at z; cases z
            simp only [z, decide_eq_false n]
            simp
  · have e : judge d = false ∧ isPair d = false := by
      cases d with
      | tup xs =>
        match xs with
        | [] => exact ⟨rfl, rfl⟩
        | [_] => exact ⟨rfl, rfl⟩
        | [a, b] => exact absurd ⟨a, b, rfl⟩ ht
        | _ :: _ :: _ :: _ => exact ⟨rfl, by simp [isPair]⟩
      | _ => exact ⟨rfl, rfl⟩
    rw [e.1, X_cons, X_if]
    simp [d_is_row_of_one, T_of (c_is_pair h1), e.2]
    rw [X_cons, X_ret]
    simp
end Lk01
set_option linter.all false
set_option maxRecDepth 100000
set_option maxHeartbeats 2000000
namespace Lk01
open PySem Ev
variable {k : Nat} {S : Store} {d a b : D}
def safeB (d : D) : Bool := nr d && (match d with
  | .tup xs => xs.all fun x => nr x && nrs x
  | _ => true)
theorem safe_of (h : safeB d = true) : safe d := by
  unfold safeB at h
  rw [Bool.and_eq_true] at h
  refine ⟨h.1, fun xs e x hx => ?_⟩
  subst e
  have q := List.all_eq_true.mp h.2 x hx
  rw [Bool.and_eq_true] at q
  exact q
@[simp] theorem nr_int {x : Int} : nr (.int x) = true := rfl
@[simp] theorem nr_ints {xs : List Int} : (List.map D.int xs).all nr = true := by simp [List.all_eq_true, nr]
theorem safe_pair {xs ys : List D} (h1 : xs.all nr = true) (h2 : ys.all nr = true) (l1 : xs.length ≤ 1000) (l2 : ys.length ≤ 1000) : safeB (.tup [.tup xs, .tup ys]) = true := by
  simp [safeB, nr, nrs, h1, h2, l1, l2]
theorem sz {n : Nat} (h : n ≤ 10000) : n ≤ sizeMax := Nat.le_trans h (by decide)
theorem c_spoilt {h r : List Int} (h0 : h ≠ []) (hl : h.length ≤ 5) (rl : r.length ≤ 3) (hS : HOk S) : T (callV P (k + 4) f__law_spoilt [.ref 0, rw_ h r] S) fun v S' => (∃ ds, v = .lst ds ∧ ∀ d ∈ ds, safe d) ∧ HOk S' := by
  refine (T_callV (fd := d__law_spoilt.fd) rfl rfl).mpr ?_
  show T (exSs _ b__law_spoilt _ _) _
  unfold b__law_spoilt
  have hp := List.length_pos_iff.mpr h0
  have pi_ : safeB (rw_ h r) = true := safe_pair (by simp) (by simp) (by simp; omega) (by simp; omega)
  rw [X_cons, X_set]
  simp [d__law_spoilt]
  rw [X_cons, X_set]
  simp
  refine (c_draw (k := k + 2) (by omega) (by omega) hS).mono fun v S1 ⟨⟨at_, e, a0, a1⟩, hS1⟩ => ?_
  subst e
  try simp
  rw [X_cons, X_set]
  simp
  refine (c_some (k := k + 1) (by simp) (by simp) hS1).mono fun odd S2 ⟨ho, hS2⟩ => ?_
  have no : nr odd = true := by
    simp at ho
    rcases ho with rfl | rfl | rfl | rfl | rfl | rfl | rfl | rfl <;> rfl
  try simp
  refine X_seq (fun ρ S' => HOk S' ∧ ∃ l : List D, ρ = [some (.ref 0), some (rw_ h r), some (ti h), some (ti r), some (.int at_), some odd, some (.lst l)] ∧ (∀ d ∈ l, safeB d = true) ∧ l.length ≤ 4) ?_ ?_
  · rw [X_set]
    simp
    have c1 := cutL_le (xs := h) (lo := none) (hi := some at_)
    have c2 := cutL_le (xs := h) (lo := some (at_ + 1)) (hi := none)
    refine ⟨sz (by omega), sz (by omega), sz (by omega), sz (by omega), hS2, pi_, safe_pair (by simp [no, List.all_append]) (by simp) (by simp; omega) (by simp; omega), safe_pair (by simp) (by simp [no, List.all_append]) (by simp; omega) (by simp; omega), safe_pair (by simp) (by simp [List.all_append]) (by simp; omega) (by simp; omega)⟩
  · rintro ρ S3 ⟨hS3, l, rfl, q, ql⟩
    refine X_seq (fun ρ S' => HOk S' ∧ ∃ l : List D, ρ = [some (.ref 0), some (rw_ h r), some (ti h), some (ti r), some (.int at_), some odd, some (.lst l)] ∧ (∀ d ∈ l, safeB d = true) ∧ l.length ≤ 7) ?_ ?_
    · rw [X_set]
      have c1 := cutL_le (xs := h) (lo := some (-1)) (hi := none)
      have c2 := cutL_le (xs := r) (lo := none) (hi := some 1)
      have c3 := cutL_le (xs := r) (lo := some 1) (hi := none)
      simp [repOk]
      refine ⟨sz (by omega), sz (by omega), sz (by omega), sz (by omega), sz (by omega), hS3, fun x hx => ?_, by omega⟩
      rcases hx with hx | rfl | rfl | rfl
      · exact q x hx
      · exact safe_pair (by simp) (by simp) (by simp; omega) (by simp [rep_len]; omega)
      · exact safe_pair (by simp) (by simp) (by simp; omega) (by simp; omega)
      · exact safe_pair (by simp) (by simp) (by simp; omega) (by simp; omega)
    · rintro ρ S4 ⟨hS4, l, rfl, q, ql⟩
      refine X_seq (fun ρ S' => HOk S' ∧ ∃ l : List D, ρ = [some (.ref 0), some (rw_ h r), some (ti h), some (ti r), some (.int at_), some odd, some (.lst l)] ∧ (∀ d ∈ l, safeB d = true) ∧ l.length ≤ 12) ?_ ?_
      · rw [X_set]
        simp
        refine (c_draw (k := k + 2) (by omega) (by omega) hS4).mono fun v S5 ⟨⟨z, e, z0, z1⟩, hS5⟩ => ?_
        subst e
        simp [repOk]
        have rz : listRep [D.int 0] z = List.map D.int (listRep [0] z) := rep_map [0] z
        have lz : (listRep [(0 : Int)] z).length ≤ 4 := by rw [rep_len]; simp; omega
        refine ⟨⟨⟨by omega, by omega⟩, by unfold sizeMax; omega⟩, sz (by omega), sz (by omega), sz (by omega), hS5, fun x hx => ?_, by omega⟩
        rcases hx with hx | rfl | rfl | rfl | rfl | rfl
        · exact q x hx
        · rw [rz]
          exact safe_pair (by simp) (by simp) (by simp; omega) (by rw [List.length_map]; omega)
        · exact safe_pair (by simp) (by simp) (by simp; omega) (by simp)
        · exact safe_pair (by simp) (by simp) (by simp [rep_len]; omega) (by simp; omega)
        · exact safe_pair (by simp) (by simp) (by simp) (by simp; omega)
        · simp [safeB, nr, nrs]
          omega
      · rintro ρ S6 ⟨hS6, l, rfl, q, ql⟩
        refine X_seq (fun ρ S' => HOk S' ∧ ∃ l : List D, ρ = [some (.ref 0), some (rw_ h r), some (ti h), some (ti r), some (.int at_), some odd, some (.lst l)] ∧ (∀ d ∈ l, safeB d = true) ∧ l.length ≤ 18) ?_ ?_
        · rw [X_set]
          simp
          refine ⟨sz (by omega), sz (by omega), sz (by omega), hS6, fun x hx => ?_, by omega⟩
          rcases hx with hx | rfl | rfl | rfl | rfl | rfl | rfl
          · exact q x hx
          · rfl
          · simp [safeB, nr, nrs]
            omega
          · simp [safeB, nr, nrs]
            omega
          · simp [safeB, nr, nrs]
            omega
          · exact safe_pair (by simp) (by simp) (by simp; omega) (by simp; omega)
          · simp [safeB, nr, nrs]
        · rintro ρ S7 ⟨hS7, l, rfl, q, ql⟩
          rw [X_cons, X_ret]
          simp
          refine ⟨sz (by omega), fun x hx => ?_, hS7⟩
          rcases hx with hx | rfl | rfl | rfl | rfl | rfl | rfl | rfl | rfl | rfl
          · exact safe_of (q x hx)
          · exact safe_of (by simp [safeB, nr, nrs]; omega)
          · exact safe_of (by simp [safeB, nr, nrs]; omega)
          · exact safe_of rfl
          · exact safe_of (by simp [safeB, nr, nrs]; omega)
          · exact safe_of rfl
          · exact safe_of rfl
          · exact safe_of rfl
          · exact safe_of rfl
          · exact safe_of rfl
end Lk01
set_option linter.all false
set_option maxRecDepth 100000
set_option maxHeartbeats 2000000
namespace Lk01
open PySem Ev
theorem repr_bl {b : Bool} : ∃ x, reprV (.bl b) = some (.str x) := by
  cases b
  · exact ⟨_, rfl⟩
  · exact ⟨_, rfl⟩
theorem c_law {ns : List Int} : T (callV P 20 f_law [.fro (ns.map .int)] []) fun v S' => v = .bl true := by
  refine (T_callV (k := 19) (fd := d_law.fd) rfl rfl).mpr ?_
  show T (exSs _ b_law _ _) _
  unfold b_law
  rw [X_cons, X_set]
  simp [d_law]
  refine (c_hand (k := 18)).mono fun v S1 ⟨ev, hS⟩ => ?_
  subst ev
  try simp
  rw [X_cons, X_set]
  simp
  refine X_seq (fun ρ S' => HOk S' ∧ ∃ x y z w, ρ = [x, some (.ref 0), y, z, w, none]) ?_ ?_
  · rw [X_if, T_cmp]
    refine T_compI (ds := [rw_ [1, 1] [], rw_ [2] [1], rw_ [2] [1, 1], rw_ [2, 1] [1]]) (g := fun d => .bl (judge d)) ?_ (by decide) (fun d hd => ⟨_, rfl, by simp, ?_⟩) ?_
    · simp
    · have sf : safe d := by
        simp at hd
        rcases hd with rfl | rfl | rfl | rfl <;> exact safe_of rfl
      simp [wipeD]
      rw [T_of (c_isrow (k := 15) sf)]
      exact ⟨rfl, rfl⟩
    · have e1 : judge (rw_ [1, 1] []) = true := rfl
      have e2 : judge (rw_ [2] [1]) = true := rfl
      have e3 : judge (rw_ [2] [1, 1]) = false := rfl
      have e4 : judge (rw_ [2, 1] [1]) = false := rfl
      simp only [List.map_cons, List.map_nil, e1, e2, e3, e4]
      simp
      have e5 : eqD (.lst [.bl true, .bl true, .bl false, .bl false]) (.lst [.bl true, .bl true, .bl false, .bl false]) = some true := rfl
      simp [e5]
      exact hS
  · rintro ρ S2 ⟨hS2, x, y, z, w, rfl⟩
    refine X_seq (fun ρ S' => True) ?_ ?_
    · rw [X_for]
      simp
      refine ⟨inRg_of (by decide) (by decide), ?_⟩
      show T (loopL _ _ _ _) _
      refine loop_keep (fun ρ S' => HOk S' ∧ ∃ x y z w q, ρ = [x, some (.ref 0), y, z, w, q]) (fun d hd ρ S' ⟨hS', x, y, z, w, q, eρ⟩ => ?_) (fun ρ S' j => trivial) ⟨hS2, x, y, z, w, none, rfl⟩
      subst eρ
      simp
      refine X_seq (fun ρ S' => HOk S' ∧ ∃ x y z w q, ρ = [x, some (.ref 0), y, z, w, q]) ?_ ?_
      · rw [X_for]
        simp
        refine (c_some (k := 17) (by simp) (by simp) hS').mono fun v S3 ⟨hv, hS3⟩ => ?_
        obtain ⟨m, rfl, m0, m1⟩ : ∃ m : Int, v = .int m ∧ 0 < m ∧ m < 1000 := by
          simp at hv
          rcases hv with rfl | rfl | rfl
          · exact ⟨1, rfl, by decide, by decide⟩
          · exact ⟨2, rfl, by decide, by decide⟩
          · exact ⟨9, rfl, by decide, by decide⟩
        refine (c_drawn (k := 7) m0 m1 hS3).mono fun v S4 ⟨⟨h, r, ev, h0, l1, l2⟩, hS4⟩ => ?_
        subst ev
        refine (c_spoilt (k := 15) h0 l1 l2 hS4).mono fun v S5 ⟨⟨ds, ev, sf⟩, hS5⟩ => ?_
        subst ev
        simp
        show T (loopL _ _ _ _) _
        refine loop_keep (fun ρ S' => HOk S' ∧ ∃ x y z w q, ρ = [x, some (.ref 0), y, z, w, q]) (fun d hd ρ S' ⟨hS', x, y, z, w, q, eρ⟩ => ?_) (fun ρ S' j => j) ⟨hS5, _, _, _, _, _, rfl⟩
        subst eρ
        simp
        rw [X_cons, X_if]
        simp
        rw [T_of (c_isrow (k := 15) (sf d hd))]
        obtain ⟨x, ex⟩ := repr_bl (b := judge d)
        simp [ex]
        rw [T_of (c_lrow (k := 17) (sf d hd))]
        simp [ex, eqD_str]
        exact hS'
      · rintro ρ S3 ⟨hS3, x, y, z, w, q, rfl⟩
        rw [X_nil]
        exact ⟨hS3, x, y, z, w, q, rfl⟩
    · rintro ρ S3 _
      rw [X_cons, X_ret]
      simp
theorem pure_law (ns : List Int) (_ : ns.length ≤ 63) : ∃ S', callV (progOf ds) 20 f_law [.fro (ns.map .int)] [] = some (.ok (.bl true) S') := by
  obtain ⟨a, S', e, rfl⟩ := c_law (ns := ns)
  exact ⟨S', e⟩
end Lk01
set_option linter.all false
set_option maxRecDepth 100000
set_option maxHeartbeats 0
open PySem PySem.W PySem.Calls PyProof.Rows
theorem PySem.Challenge.cw_rootfigures_k01_whole_rows_of_one_judged_holds : PySem.Challenge.rw_rootfigures_k01_whole_rows_of_one_judged.Holds := by
  w_on; o_law
  refine HandSHeadRun.head_any (r := OpenLaw.row PySem.Challenge.rw_rootfigures_k01_whole_rows_of_one_judged) (q := view (OpenLaw.row PySem.Challenge.rw_rootfigures_k01_whole_rows_of_one_judged).prog [23]) (H := Lk01.hk) (ob := Lk01.ob) (M := 4000) (loose := Lk01.lo) (d := HandSHeadRun.topDef (OpenLaw.row PySem.Challenge.rw_rootfigures_k01_whole_rows_of_one_judged).prog 23) (kwd := []) Lk01.ob_eq
    (by kernel_rfl) (fun s => by kernel_rfl) Lk01.run (by kernel_rfl) (by kernel_rfl) (by kernel_rfl) (by rfl) (by first | assumption | decide +kernel) (by decide +kernel) ⟨rfl, rfl, rfl, rfl, rfl, by decide +kernel⟩ ?hw ?hc
  case hw => w_witness2
  case hc =>
    refine Ev.walk_ev (l := PySem.Challenge.rw_rootfigures_k01_whole_rows_of_one_judged) (n := 63) (k := 20) (x := "script") (cl := Ev.callV (Ev.progOf Lk01.ds) 20 Lk01.f_law) rfl (by decide) (by kernel_rfl) ⟨rfl, by decide, by decide⟩ ?F fun ns hn => Lk01.pure_law ns hn
    intro w mg fa h Y G hmg0
    obtain ⟨K, KX, c⟩ := Y
    have hmg : mg ("law" : PySem.Str) = some (.ref fa) := by
      have e : (HandSHeadRun.topDef (OpenLaw.row PySem.Challenge.rw_rootfigures_k01_whole_rows_of_one_judged).prog 23).name = ("law" : PySem.Str) := by kernel_rfl
      rw [← e]
      exact hmg0
    have T := Lk01.tab KX G c
    obtain ⟨fd, F⟩ := c.def_ 15 (d := Lk01.toD Lk01.d_law) rfl
    have g := He.glo_ok KX G (c.fact 15 (f := .glo "law") rfl)
    have e := hmg.symm.trans g
    cases e
    have b := L2.FunD.bindsA (ps := ["script"]) F fun _ _ _ _ _ _ us hl => match us, hl with | [_], _ => rfl
    exact ⟨K, fd, KX, fun s v => b s [v] rfl, fun base _ _ => Ev.defs_ok T Lk01.oks 20 Lk01.f_law Lk01.d_law rfl _ _ F⟩
