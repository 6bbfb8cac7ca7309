import PyProof.Rows.All
import Wide.All
import OpenK.AllK
import Wide.FinOn
import HandS.ForMost
import HandS.Exc
import HandS.Flow
import KE.DataEq
import KE.DataCmp
import HandS.TupAny
import HandS.TupMul
import HandS.Zip
import KE.DataAny
import KE.DataMinMax
import KE.KTupSum
import PyProof.ReprRoads
import PyProof.AutoSeq1
import HandS.Defaults
import HandS.IsInst
import KE.GoesEnum
import HandS.Codes
import HandS.HeadEnd
import KE.DatumOrd
import PyProof.ReprReads
import PyProof.Rows.RegStrFacts
import KE.KStateDown
import HandS.Head0
import HandS.Head1
import HandS.Head2
import HandS.HeadHook1
import HandS.HeadHook2
import PySem.Challenge.RW_rootfigures_k72_whole_rows_told_by_gaps
set_option linter.all false
set_option maxRecDepth 100000
namespace Ev
open PySem

/-! data, the store, results -/
inductive D where
  | non | bl (b : Bool) | int (i : Int) | str (x : Str) | tup (ds : List D) | lst (ds : List D) | fro (ds : List D) | ref (n : Nat) | dic
  deriving Inhabited
inductive SO where
  | lst (ds : List D)
abbrev Store := List SO
abbrev Env := List (Option D)
/-- an exception: its class's name, its field -/
structure Xn where
  cls : Str
  arg : Option D
inductive Rs (α : Type) where
  | ok (a : α) (S : Store)
  | ex (x : Xn) (S : Store)
abbrev M (α : Type) := Store → Option (Rs α)
def M.pure {α : Type} (a : α) : M α := fun S => some (.ok a S)
def M.bind {α β : Type} (x : M α) (f : α → M β) : M β := fun S => match x S with
  | some (.ok a S') => f a S'
  | some (.ex x S') => some (.ex x S')
  | none => none
def stuck {α : Type} : M α := fun _ => none
def opt {α : Type} : Option α → M α
  | some a => M.pure a
  | none => stuck
def raiseM {α : Type} (x : Xn) : M α := fun S => some (.ex x S)
/-- no exception may come -/
def noX {α : Type} (x : M α) : M α := fun S => match x S with
  | some (.ok a S') => some (.ok a S')
  | _ => none
def alloc (o : SO) : M D := fun S => some (.ok (.ref S.length) (S ++ [o]))
def getO (n : Nat) : M SO := fun S => match S[n]? with
  | some o => some (.ok o S)
  | none => none
def putO (n : Nat) (o : SO) : M Unit := fun S => if n < S.length then some (.ok () (S.set n o)) else none

/-! the syntax -/
inductive Op where | add | sub | mul | fdiv | mod | pow
  deriving DecidableEq
inductive Cm where | eq | ne | lt | le | gt | ge | isN | notN | inn | nin
  deriving DecidableEq
inductive Bi where | len | abs | int | tuple | list | any | all | max | min | sum | repr | max2 | min2
  deriving DecidableEq
inductive Ty where | int | bool | str | tuple | list
  deriving DecidableEq
inductive Me where | append | extend | pop
  deriving DecidableEq
inductive Tg where | name (i : Nat) | tup (ts : List Tg)
inductive Sk where | seq | rng1 | rng2 | rng3 | enum | zip
  deriving DecidableEq
inductive E where
  | var (i : Nat) | c (d : D)
  | tup (es : List E) | lst (es : List E) | new (es : List E)
  | bin (o : Op) (a b : E) | neg (a : E) | notE (a : E) | andE (a b : E) | orE (a b : E)
  | cmp (o : Cm) (a b : E) | chain (o p : Cm) (a b c : E) | ifE (c a b : E)
  | idx (a b : E) | sl (a : E) (l : Bool) (lo : E) (h : Bool) (hi : E)
  | call (f : Nat) (es : List E) | bi (b : Bi) (es : List E) | isi (a : E) (t : Ty) | dic (es : List E) | never | meth (m : Me) (o : E) (es : List E)
  | comp (vs : List Nat) (tg : Tg) (k : Sk) (src : List E) (conds : List E) (elt : E)
  | comp2 (vs : List Nat) (tg : Tg) (k : Sk) (src conds : List E) (vs1 : List Nat) (tg1 : Tg) (k1 : Sk) (src1 conds1 : List E) (elt : E)
inductive S where
  | set (tg : Tg) (e : E) | par (i j : Nat) (a b : E) | par3 (i j l : Nat) (a b c : E)
  | setI (o i e : E) | aug (o : Op) (i : Nat) (e : E) | augI (o : Op) (x i e : E)
  | ex (e : E) | ret (e : E) | retN
  | ifS (c : E) (a b : List S) | forS (tg : Tg) (k : Sk) (src : List E) (body : List S) | whileS (c : E) (body : List S)
  | brk | cont | pass | never

/-! operations on values -/
def sizeMax : Nat := 16777216
def liftD (p : Bool) (d : D) : Option D := if p then some d else none
def listRep {α : Type} (l : List α) (k : Int) : List α := (List.replicate k.toNat l).flatten
def mulOk (i j : Int) : Bool := (decide (-(2 ^ 64) < i) && decide (i < 2 ^ 64)) || (decide (-(2 ^ 64) < j) && decide (j < 2 ^ 64))
def repOk (n : Nat) (k : Int) : Bool := decide (-(2 ^ 62) ≤ k) && decide (k < 2 ^ 62) && decide (n * k.toNat ≤ sizeMax)
def binV : Op → D → D → Option D
  | .add, .int i, .int j => some (.int (i + j))
  | .add, .tup a, .tup b => liftD (decide (a.length + b.length ≤ sizeMax)) (.tup (a ++ b))
  | .add, .lst a, .lst b => liftD (decide (a.length + b.length ≤ sizeMax)) (.lst (a ++ b))
  | .add, .str a, .str b => liftD (decide (a.length + b.length ≤ sizeMax)) (.str (a ++ b))
  | .sub, .int i, .int j => some (.int (i - j))
  | .mul, .int i, .int j => liftD (mulOk i j) (.int (i * j))
  | .mul, .tup a, .int k => liftD (repOk a.length k) (.tup (listRep a k))
  | .mul, .lst a, .int k => liftD (repOk a.length k) (.lst (listRep a k))
  | .fdiv, .int i, .int j => liftD (decide (j ≠ 0) && decide (j.natAbs < 1073741824)) (.int (i.fdiv j))
  | .mod, .int i, .int j => liftD (decide (j ≠ 0)) (.int (i.fmod j))
  | .pow, .int i, .int j => liftD (decide (0 ≤ j) && decide (j ≤ 1000000) && decide (i.natAbs < 2 ^ 64)) (.int (i ^ j.toNat))
  | _, _, _ => none
/-- a op= b, of ints -/
def augV : Op → D → D → Option D
  | .add, .int i, .int j => some (.int (i + j))
  | .sub, .int i, .int j => some (.int (i - j))
  | _, _, _ => none
def _root_.PySem.PyData.isNone : PyData → Bool
  | .none => true
  | _ => false
mutual
def toP : D → Option PyData
  | .non => some .none
  | .bl b => some (.bool b)
  | .int i => some (.int i)
  | .str x => some (.str x)
  | .tup ds => (toPs ds).map .tuple
  | .lst ds => (toPs ds).map .list
  | .fro _ => none
  | .ref _ => none
  | .dic => none
def toPs : List D → Option (List PyData)
  | [] => some []
  | d :: ds => match toP d, toPs ds with
    | some p, some ps => some (p :: ps)
    | _, _ => none
end
def eqD (a b : D) : Option Bool := match toP a, toP b with
  | some p, some q => if min p.depth q.depth ≤ 60 then some (PyData.eqv p q) else none
  | _, _ => none
/-- a < b of alike data -/
def ltD (a b : D) : Option Bool := match toP a, toP b with
  | some p, some q => if min p.depth q.depth ≤ 60 && W.alike p q && !p.isNone then some (W.dataLt p q) else none
  | _, _ => none
def toI : D → Option Int
  | .int i => some i
  | _ => none
def toIs : List D → Option (List Int)
  | [] => some []
  | d :: ds => match toI d, toIs ds with
    | some i, some is => some (i :: is)
    | _, _ => none
def isNon : D → Bool
  | .non => true
  | _ => false
def inAll (a : D) (ds : List D) : Option Bool := match toP a, toPs ds with
  | some p, some ps => if min (PyData.depthAll ps) p.depth ≤ 60 then some (ps.any fun y => PyData.eqv y p) else none
  | _, _ => none
def inD (a : D) : D → Option Bool
  | .tup ds => inAll a ds
  | .lst ds => inAll a ds
  | _ => none
/-- comparisons of values that stand alone -/
def cmpV : Cm → D → D → Option Bool
  | .eq, a, b => eqD a b
  | .ne, a, b => (eqD a b).map (!·)
  | .lt, .int i, .int j => some (decide (i < j))
  | .le, .int i, .int j => some (decide (i ≤ j))
  | .gt, .int i, .int j => some (decide (j < i))
  | .ge, .int i, .int j => some (decide (j ≤ i))
  | .lt, a, b => ltD a b
  | .gt, a, b => ltD b a
  | .le, a, b => (ltD b a).map (!·)
  | .ge, a, b => (ltD a b).map (!·)
  | .inn, a, b => inD a b
  | .nin, a, b => (inD a b).map (!·)
  | .isN, a, .non => some (isNon a)
  | .notN, a, .non => some (!isNon a)
  | _, _, _ => none
def idxV : D → D → Option D
  | .tup ds, .int i => L2.atI ds i
  | .lst ds, .int i => L2.atI ds i
  | .fro ds, .int i => L2.atI ds i
  | .str x, .int i => if x.length ≤ sizeMax then (L2.atI x.cps.toList i).map fun c => .str ⟨#[c]⟩ else none
  | _, _ => none
def cutD (ds : List D) (lo hi : Option Int) : List D := (ds.drop (HT.sIx ds.length 0 lo)).take (HT.sIx ds.length ds.length hi - HT.sIx ds.length 0 lo)
def slV : D → Option Int → Option Int → Option D
  | .tup ds, lo, hi => some (.tup (cutD ds lo hi))
  | .lst ds, lo, hi => some (.lst (cutD ds lo hi))
  | .fro ds, lo, hi => some (.lst (cutD ds lo hi))
  | _, _, _ => none
def truV : D → Option Bool
  | .non => some false
  | .bl b => some b
  | .int i => some (i != 0)
  | .str x => if x.length ≤ sizeMax then some ((x.length : Int) != 0) else none
  | .tup ds => some (!ds.isEmpty)
  | .lst ds => some (!ds.isEmpty)
  | .fro ds => some (!ds.isEmpty)
  | .ref _ => none
  | .dic => none
/-- the truth of an item of any, all: no text -/
def truN : D → Option Bool
  | .non => some false
  | .bl b => some b
  | .int i => some (i != 0)
  | .tup ds => some (!ds.isEmpty)
  | .lst ds => some (!ds.isEmpty)
  | _ => none
def truNs : List D → Option (List Bool)
  | [] => some []
  | d :: ds => match truN d, truNs ds with
    | some b, some bs => some (b :: bs)
    | _, _ => none
def itemsV : D → Option (List D)
  | .tup ds => some ds
  | .lst ds => some ds
  | .fro ds => some ds
  | _ => none
def maxI : List Int → Option Int
  | [] => none
  | x :: xs => some (xs.foldl max x)
def minI : List Int → Option Int
  | [] => none
  | x :: xs => some (xs.foldl min x)
def lenV : D → Option Nat
  | .tup ds => some ds.length
  | .lst ds => some ds.length
  | .fro ds => some ds.length
  | .str x => if x.length ≤ sizeMax then some x.length else none
  | _ => none
def reprV (d : D) : Option D := match toP d with
  | some p => if p.showable && !p.hasDict && decide (p.shown.length ≤ sizeMax) && decide (p.depth ≤ 32) then some (.str p.shown) else none
  | none => none
def one1 (f : D → Option D) : List D → Option D
  | [d] => f d
  | _ => none
def two2 (f : Int → Int → D) : List D → Option D
  | [.int i, .int j] => some (f i j)
  | _ => none
def absV : D → Option D
  | .int i => some (.int (if i < 0 then -i else i))
  | _ => none
def intV : D → Option D
  | .int i => some (.int i)
  | .bl b => some (.int (if b then 1 else 0))
  | _ => none
def anyV (d : D) : Option D := (itemsV d).bind fun ds => (toPs ds).bind fun _ => (truNs ds).map fun bs => .bl (bs.any id)
def allV (d : D) : Option D := (itemsV d).bind fun ds => (toPs ds).bind fun _ => (truNs ds).map fun bs => .bl (bs.all id)
def maxV (d : D) : Option D := (itemsV d).bind fun ds => (toIs ds).bind fun ns => (maxI ns).map .int
def minV (d : D) : Option D := (itemsV d).bind fun ds => (toIs ds).bind fun ns => (minI ns).map .int
def sumV (d : D) : Option D := (itemsV d).bind fun ds => (toIs ds).map fun ns => .int ns.sum
def biV : Bi → List D → Option D
  | .len => one1 fun d => (lenV d).map fun n => .int (n : Nat)
  | .abs => one1 absV
  | .int => one1 intV
  | .tuple => one1 fun d => (itemsV d).map .tup
  | .list => one1 fun d => (itemsV d).map .lst
  | .any => one1 anyV
  | .all => one1 allV
  | .max => one1 maxV
  | .min => one1 minV
  | .sum => one1 sumV
  | .repr => one1 reprV
  | .max2 => two2 fun i j => .int (if j > i then j else i)
  | .min2 => two2 fun i j => .int (if j < i then j else i)
def isiV : D → Ty → Option Bool
  | .ref _, _ => none
  | .int _, .int => some true
  | .bl _, .int => some true
  | .bl _, .bool => some true
  | .str _, .str => some true
  | .tup _, .tuple => some true
  | .lst _, .list => some true
  | .fro _, .list => some true
  | _, _ => some false

/-! control -/
inductive Fl where | nx | rt (d : D) | bk | ct
def asg : Tg → D → Env → Option Env
  | .name i, d, ρ => if i < ρ.length then some (ρ.set i (some d)) else none
  | .tup ts, .tup ds, ρ => asgs ts ds ρ
  | .tup _, _, _ => none
where asgs : List Tg → List D → Env → Option Env
  | [], [], ρ => some ρ
  | t :: ts, d :: ds, ρ => match asg t d ρ with
    | some ρ' => asgs ts ds ρ'
    | none => none
  | _, _, _ => none
/-- what a loop walks: known items; a list of the store as it stands at each turn -/
inductive Src where | items (ds : List D) | ref (n : Nat)
def inRg (i : Int) : Bool := decide (-(2 ^ 62) ≤ i) && decide (i < 2 ^ 62)
def rangeD (lo : Int) (n : Nat) : List D := (List.range n).map fun k => .int (lo + (k : Nat))
def rangeC (lo c : Int) (n : Nat) : List D := (List.range n).map fun k => .int (lo + (k : Nat) * c)
def srcOf : Sk → List D → Option Src
  | .seq, [.ref n] => some (.ref n)
  | .seq, [d] => (itemsV d).map .items
  | .rng1, [.int j] => if inRg j then some (.items (rangeD 0 j.toNat)) else none
  | .rng2, [.int i, .int j] => if inRg i && inRg j then some (.items (rangeD i (j - i).toNat)) else none
  | .rng3, [.int i, .int j, .int c] => if decide (c ≠ 0) && decide (c.natAbs < 1073741824) && Builtin.Range.small i j c && decide (0 ≤ Builtin.Range.rangeSize i j c) then some (.items (rangeC i c (Builtin.Range.rangeSize i j c).toNat)) else none
  | .enum, [d] => (itemsV d).map fun ds => .items (ds.zipIdx.map fun (x, k) => .tup [.int (k : Nat), x])
  | .zip, [d, e] => do let ds ← itemsV d; let es ← itemsV e; pure (.items ((ds.zip es).map fun (x, y) => .tup [x, y]))
  | _, _ => none
def loopL (turn : D → Env → M (Fl × Env)) : List D → Env → M (Fl × Env)
  | [], ρ => M.pure (.nx, ρ)
  | d :: ds, ρ => M.bind (turn d ρ) fun (f, ρ') => match f with
    | .nx => loopL turn ds ρ'
    | .ct => loopL turn ds ρ'
    | .bk => M.pure (.nx, ρ')
    | .rt v => M.pure (.rt v, ρ')
def loopR (turn : D → Env → M (Fl × Env)) (n : Nat) (i : Nat) (ρ : Env) (S : Store) : Option (Rs (Fl × Env)) :=
  match S[n]? with
  | some (.lst ds) => (match ds[i]? with
    | none => some (.ok (.nx, ρ) S)
    | some d => (match turn d ρ S with
      | some (.ok (.nx, ρ') S') => loopR turn n (i + 1) ρ' S'
      | some (.ok (.ct, ρ') S') => loopR turn n (i + 1) ρ' S'
      | some (.ok (.bk, ρ') S') => some (.ok (.nx, ρ') S')
      | some (.ok (.rt v, ρ') S') => some (.ok (.rt v, ρ') S')
      | some (.ex x S') => some (.ex x S')
      | none => none))
  | none => none
partial_fixpoint
def loopM (turn : D → Env → M (Fl × Env)) : Src → Env → M (Fl × Env)
  | .items ds, ρ => loopL turn ds ρ
  | .ref n, ρ => loopR turn n 0 ρ
def whileM (c : Env → M Bool) (b : Env → M (Fl × Env)) (ρ : Env) (S : Store) : Option (Rs (Fl × Env)) :=
  match c ρ S with
  | some (.ok true S1) => (match b ρ S1 with
    | some (.ok (.nx, ρ') S') => whileM c b ρ' S'
    | some (.ok (.ct, ρ') S') => whileM c b ρ' S'
    | some (.ok (.bk, ρ') S') => some (.ok (.nx, ρ') S')
    | some (.ok (.rt v, ρ') S') => some (.ok (.rt v, ρ') S')
    | some (.ex x S') => some (.ex x S')
    | none => none)
  | some (.ok false S1) => some (.ok (.nx, ρ) S1)
  | some (.ex x S') => some (.ex x S')
  | none => none
partial_fixpoint
/-- a comprehension: f tells the new item, if any -/
def compL (f : D → M (Option D)) : List D → List D → M (List D)
  | [], acc => M.pure acc
  | d :: ds, acc => M.bind (f d) fun o => match o with
    | none => compL f ds acc
    | some y => if acc.length < sizeMax then compL f ds (acc ++ [y]) else stuck
def compR (f : D → M (Option D)) (n : Nat) (i : Nat) (acc : List D) (S : Store) : Option (Rs (List D)) :=
  match S[n]? with
  | some (.lst ds) => (match ds[i]? with
    | none => some (.ok acc S)
    | some d => (match f d S with
      | some (.ok none S') => compR f n (i + 1) acc S'
      | some (.ok (some y) S') => if acc.length < sizeMax then compR f n (i + 1) (acc ++ [y]) S' else none
      | some (.ex x S') => some (.ex x S')
      | none => none))
  | none => none
partial_fixpoint
def compM (f : D → M (Option D)) : Src → M (List D)
  | .items ds => compL f ds []
  | .ref n => compR f n 0 []
/-- an accumulating loop: f tells the new list -/
def accL (f : D → List D → M (List D)) : List D → List D → M (List D)
  | [], acc => M.pure acc
  | d :: ds, acc => M.bind (f d acc) fun acc => accL f ds acc
def accR (f : D → List D → M (List D)) (n : Nat) (i : Nat) (acc : List D) (S : Store) : Option (Rs (List D)) :=
  match S[n]? with
  | some (.lst ds) => (match ds[i]? with
    | none => some (.ok acc S)
    | some d => (match f d acc S with
      | some (.ok acc' S') => accR f n (i + 1) acc' S'
      | some (.ex x S') => some (.ex x S')
      | none => none))
  | none => none
partial_fixpoint
def accM (f : D → List D → M (List D)) : Src → List D → M (List D)
  | .items ds, acc => accL f ds acc
  | .ref n, acc => accR f n 0 acc
def wipeD (ρ : Env) : List Nat → Env
  | [] => ρ
  | v :: vs => (wipeD ρ vs).set v none

/-! evaluation -/
/-- a value of the store, as it stands now -/
def peekP (S : Store) : D → Option D
  | .ref n => match S[n]? with
    | some (.lst ds) => some (.lst ds)
    | none => none
  | d => some d
def peek (d : D) : M D := fun S => match peekP S d with
  | some d => some (.ok d S)
  | none => none
def truP (S : Store) (d : D) : Option Bool := (peekP S d).bind truV
def truM (d : D) : M Bool := fun S => match truP S d with
  | some b => some (.ok b S)
  | none => none
/-- what a built-in reads of a list of the store, it reads as the list stands -/
def biReads : Bi → Bool
  | .len => true | .tuple => true | .list => true | .any => true | .all => true | .max => true | .min => true | .sum => true
  | _ => false
def biM (b : Bi) (ds : List D) : M D := match ds with
  | [d] => if biReads b then M.bind (peek d) fun d => opt (biV b [d]) else opt (biV b [d])
  | ds => opt (biV b ds)
def partM : Bool → D → Option (Option Int)
  | false, _ => some none
  | true, .int i => some (some i)
  | true, _ => none
def seqIx (n : Nat) (i : Int) : Option Nat := L2.ixN n i
/-- what a method is asked of -/
def meReady : Me → D → M Unit
  | _, .ref n => M.bind (getO n) fun o => match o with
    | .lst _ => M.pure ()
  | _, _ => stuck
def appM : D → List D → M D
  | .ref n, [d] => M.bind (getO n) fun o => match o with
    | .lst ds => if ds.length < sizeMax then M.bind (putO n (.lst (ds ++ [d]))) fun _ => M.pure .non else stuck
  | _, _ => stuck
def extM : D → List D → M D
  | .ref n, [.lst es] => M.bind (getO n) fun o => match o with
    | .lst ds => if ds.length + es.length ≤ sizeMax then M.bind (putO n (.lst (ds ++ es))) fun _ => M.pure .non else stuck
  | .ref n, [.tup es] => M.bind (getO n) fun o => match o with
    | .lst ds => if ds.length + es.length ≤ sizeMax then M.bind (putO n (.lst (ds ++ es))) fun _ => M.pure .non else stuck
  | _, _ => stuck
def popM : D → List D → M D
  | .ref n, [] => M.bind (getO n) fun o => match o with
    | .lst ds => match ds[ds.length - 1]? with
      | some y => M.bind (putO n (.lst ds.dropLast)) fun _ => M.pure y
      | none => stuck
  | _, _ => stuck
def meM : Me → D → List D → M D
  | .append => appM
  | .extend => extM
  | .pop => popM
def getIM : D → D → M D
  | .ref n, .int k => M.bind (getO n) fun o => match o with
    | .lst ds => opt (L2.atI ds k)
  | _, _ => stuck
def setIM : D → D → D → M Unit
  | .ref n, .int k, v => M.bind (getO n) fun o => match o with
    | .lst ds => match L2.ixN ds.length k with
      | some j => putO n (.lst (ds.set j v))
      | none => stuck
  | _, _, _ => stuck

variable (call : Nat → List D → M D)
def testsM : List (Env → M D) → Env → M Bool
  | [], _ => M.pure true
  | c :: cs, ρ => M.bind (c ρ) fun d => M.bind (truM d) fun t => if t then testsM cs ρ else M.pure false
mutual
def evE : E → Env → M D
  | .var i, ρ => match ρ[i]? with
    | some (some d) => M.pure d
    | _ => stuck
  | .c d, _ => M.pure d
  | .tup es, ρ => M.bind (evEs es ρ) fun ds => M.pure (.tup ds)
  | .lst es, ρ => M.bind (evEs es ρ) fun ds => M.pure (.lst ds)
  | .new es, ρ => M.bind (evEs es ρ) fun ds => alloc (.lst ds)
  | .bin o a b, ρ => M.bind (evE a ρ) fun x => M.bind (evE b ρ) fun y => opt (binV o x y)
  | .neg a, ρ => M.bind (evE a ρ) fun x => match x with
    | .int i => M.pure (.int (-i))
    | _ => stuck
  | .notE a, ρ => M.bind (evE a ρ) fun x => M.bind (truM x) fun t => M.pure (.bl (!t))
  | .andE a b, ρ => M.bind (evE a ρ) fun x => M.bind (truM x) fun t => if t then evE b ρ else M.pure x
  | .orE a b, ρ => M.bind (evE a ρ) fun x => M.bind (truM x) fun t => if t then M.pure x else evE b ρ
  | .cmp o a b, ρ => M.bind (evE a ρ) fun x => M.bind (evE b ρ) fun y => M.bind (opt (cmpV o x y)) fun t => M.pure (.bl t)
  | .chain o p a b c, ρ => M.bind (evE a ρ) fun x => M.bind (evE b ρ) fun y => M.bind (opt (cmpV o x y)) fun t =>
      if t then M.bind (evE c ρ) fun z => M.bind (opt (cmpV p y z)) fun t => M.pure (.bl t) else M.pure (.bl false)
  | .ifE c a b, ρ => M.bind (evE c ρ) fun x => M.bind (truM x) fun t => if t then evE a ρ else evE b ρ
  | .idx a b, ρ => M.bind (evE a ρ) fun x => M.bind (evE b ρ) fun y => M.bind (peek x) fun x => opt (idxV x y)
  | .sl a l lo h hi, ρ => M.bind (evE a ρ) fun x => M.bind (if l then evE lo ρ else M.pure .non) fun y => M.bind (opt (partM l y)) fun y =>
      M.bind (if h then evE hi ρ else M.pure .non) fun z => M.bind (opt (partM h z)) fun z => M.bind (peek x) fun x => opt (slV x y z)
  | .call f es, ρ => M.bind (evEs es ρ) fun ds => call f ds
  | .bi b es, ρ => M.bind (evEs es ρ) fun ds => biM b ds
  | .isi a t, ρ => M.bind (evE a ρ) fun x => M.bind (peek x) fun x => M.bind (opt (isiV x t)) fun b => M.pure (.bl b)
  | .meth m o es, ρ => M.bind (evE o ρ) fun x => M.bind (meReady m x) fun _ => M.bind (evEs es ρ) fun ds => meM m x ds
  | .never, _ => stuck
  | .dic es, ρ => M.bind (evEs es ρ) fun _ => M.pure .dic
  | .comp vs tg k src conds elt, ρ => M.bind (evEs src ρ) fun ds => M.bind (opt (srcOf k ds)) fun sc =>
      M.bind (compM (fun d => match asg tg d (wipeD ρ vs) with
        | some ρ' => noX (M.bind (evTs conds ρ') fun t => if t then M.bind (evE elt ρ') fun y => M.pure (some y) else M.pure none)
        | none => stuck) sc) fun ds => M.pure (.lst ds)
  | .comp2 vs tg k src conds vs1 tg1 k1 src1 conds1 elt, ρ => M.bind (evEs src ρ) fun ds => M.bind (opt (srcOf k ds)) fun sc =>
      M.bind (accM (fun d acc => match asg tg d (wipeD ρ vs) with
        | some ρ1 => noX (M.bind (evTs conds ρ1) fun t => if t then M.bind (evEs src1 ρ1) fun ds1 => M.bind (opt (srcOf k1 ds1)) fun sc1 =>
            accM (fun d1 acc => match asg tg1 d1 (wipeD ρ1 vs1) with
              | some ρ2 => M.bind (evTs conds1 ρ2) fun t => if t then M.bind (evE elt ρ2) fun y => if acc.length < sizeMax then M.pure (acc ++ [y]) else stuck else M.pure acc
              | none => stuck) sc1 acc
          else M.pure acc)
        | none => stuck) sc []) fun ds => M.pure (.lst ds)
def evEs : List E → Env → M (List D)
  | [], _ => M.pure []
  | e :: es, ρ => M.bind (evE e ρ) fun d => M.bind (evEs es ρ) fun ds => M.pure (d :: ds)
def evTs : List E → Env → M Bool
  | [], _ => M.pure true
  | e :: es, ρ => M.bind (evE e ρ) fun d => M.bind (truM d) fun t => if t then evTs es ρ else M.pure false
end
def evT (e : E) (ρ : Env) : M Bool := M.bind (evE call e ρ) truM
mutual
def exS : S → Env → M (Fl × Env)
  | .set tg e, ρ => M.bind (evE call e ρ) fun d => match asg tg d ρ with
    | some ρ' => M.pure (.nx, ρ')
    | none => stuck
  | .par i j a b, ρ => M.bind (evE call a ρ) fun x => M.bind (evE call b ρ) fun y => M.pure (.nx, (ρ.set i (some x)).set j (some y))
  | .par3 i j l a b c, ρ => M.bind (evE call a ρ) fun x => M.bind (evE call b ρ) fun y => M.bind (evE call c ρ) fun z => M.pure (.nx, ((ρ.set l (some z)).set j (some y)).set i (some x))
  | .setI o i e, ρ => M.bind (evE call e ρ) fun v => M.bind (evE call o ρ) fun x => M.bind (evE call i ρ) fun y => M.bind (setIM x y v) fun _ => M.pure (.nx, ρ)
  | .aug o i e, ρ => match ρ[i]? with
    | some (some x) => M.bind (evE call e ρ) fun y => M.bind (opt (augV o x y)) fun z => M.pure (.nx, ρ.set i (some z))
    | _ => stuck
  | .augI o x i e, ρ => M.bind (evE call x ρ) fun x => M.bind (evE call i ρ) fun y => M.bind (getIM x y) fun old =>
      M.bind (evE call e ρ) fun v => M.bind (opt (augV o old v)) fun z => M.bind (setIM x y z) fun _ => M.pure (.nx, ρ)
  | .ex e, ρ => M.bind (evE call e ρ) fun _ => M.pure (.nx, ρ)
  | .ret e, ρ => M.bind (evE call e ρ) fun d => M.pure (.rt d, ρ)
  | .retN, ρ => M.pure (.rt .non, ρ)
  | .ifS c a b, ρ => M.bind (evT call c ρ) fun t => if t then exSs a ρ else exSs b ρ
  | .forS tg k src body, ρ => M.bind (evEs call src ρ) fun ds => M.bind (opt (srcOf k ds)) fun sc =>
      loopM (fun d ρ => match asg tg d ρ with
        | some ρ' => exSs body ρ'
        | none => stuck) sc ρ
  | .whileS c body, ρ => whileM (evT call c) (exSs body) ρ
  | .brk, ρ => M.pure (.bk, ρ)
  | .cont, ρ => M.pure (.ct, ρ)
  | .pass, ρ => M.pure (.nx, ρ)
  | .never, _ => stuck
def exSs : List S → Env → M (Fl × Env)
  | [], ρ => M.pure (.nx, ρ)
  | s :: ss, ρ => M.bind (exS s ρ) fun (f, ρ') => match f with
    | .nx => exSs ss ρ'
    | f => M.pure (f, ρ')
end
structure Fd where
  np : Nat
  n : Nat
  body : List S
def outM (r : Fl × Env) : M D := match r.1 with
  | .rt d => M.pure d
  | .nx => M.pure .non
  | _ => stuck
/-- a call, so deep at most -/
def callV (prog : Nat → Option Fd) : Nat → Nat → List D → M D
  | 0, _, _ => stuck
  | k + 1, f, ds => match prog f with
    | some fd => if ds.length = fd.np then M.bind (exSs (callV prog k) fd.body (ds.map some ++ List.replicate (fd.n - fd.np) none)) outM else stuck
    | none => stuck
end Ev
set_option linter.all false
set_option maxRecDepth 100000
set_option maxHeartbeats 1000000
namespace Ev
open PySem PySem.Spec PyProof.Rows L2

/-- a list that is never written: the script, an object of the module -/
def FroAt (K : PySem.W.Frag) (H : Hp) (a : Addr) (xs : List V) : Prop := (∃ o, H a = some (.frz o (.lst xs))) ∨ ∀ H', SqL K H' a xs
theorem FroAt.sq {K : PySem.W.Frag} {H : Hp} {a : Addr} {xs : List V} (h : FroAt K H a xs) : SqL K H a xs := by
  rcases h with ⟨o, h⟩ | h
  · exact .inl (.inr ⟨o, h⟩)
  · exact h H
/-- where the store's lists lie; lists that are kept from reach -/
structure Am where
  l : List Addr
  p : List Addr
instance : Membership Addr Am := ⟨fun m a => a ∈ m.l ∨ a ∈ m.p⟩
def Am.push (m : Am) (a : Addr) : Am := ⟨m.l ++ [a], m.p⟩
/-! how values stand for data -/
mutual
def VD (K : PySem.W.Frag) (m : Am) (H : Hp) : D → V → Prop
  | .non, v => v = .non
  | .bl b, v => v = .bl b
  | .int i, v => v = .int i
  | .str x, v => v = .str x
  | .tup ds, v => ∃ a xs, v = .ref a ∧ SqT K H a xs ∧ VDs K m H ds xs
  | .lst ds, v => ∃ a xs, v = .ref a ∧ H a = some (.lst xs) ∧ a ∉ m ∧ VDs K m H ds xs
  | .fro ds, v => ∃ a xs, v = .ref a ∧ FroAt K H a xs ∧ VDs K m H ds xs
  | .ref n, v => ∃ a, v = .ref a ∧ m.l[n]? = some a
  | .dic, v => ∃ a kvs, v = .ref a ∧ H a = some (.dK kvs)
def VDs (K : PySem.W.Frag) (m : Am) (H : Hp) : List D → List V → Prop
  | [], vs => vs = []
  | d :: ds, vs => ∃ v r, vs = v :: r ∧ VD K m H d v ∧ VDs K m H ds r
end
/-- an object of the store -/
def SOR (K : PySem.W.Frag) (m : Am) (H : Hp) (a : Addr) : SO → Prop
  | .lst ds => ∃ xs, H a = some (.lst xs) ∧ VDs K m H ds xs
structure Sto (K : PySem.W.Frag) (m : Am) (H : Hp) (S : Store) : Prop where
  nd : m.l.Nodup
  dis : ∀ a ∈ m.p, a ∉ m.l
  pro : ∀ a ∈ m.p, ∃ xs, H a = some (.lst xs)
  len : m.l.length = S.length
  obj : ∀ (i : Nat) (a : Addr) (o : SO), m.l[i]? = some a → S[i]? = some o → SOR K m H a o
/-- a step: the store's objects may change, new ones come, all else stays -/
structure Stw (m : Am) (H : Hp) (m' : Am) (H' : Hp) : Prop where
  ext : ∃ e, m'.l = m.l ++ e ∧ m'.p = m.p ∧ ∀ a ∈ e, H a = none
  keep : ∀ a o, H a = some o → a ∉ m → H' a = some o
  there : ∀ a, H a ≠ none → H' a ≠ none
structure Stp (m : Am) (H : Hp) (m' : Am) (H' : Hp) : Prop extends Stw m H m' H' where
  pro : ∀ a ∈ m.p, H' a = H a
def EnvR (K : PySem.W.Frag) (m : Am) (H : Hp) (σ : L2.St) (ρ : Env) : Prop :=
  ρ.length = σ.length ∧ ∀ (i : Nat) (d : D), ρ[i]? = some (some d) → ∃ v, σ[i]? = some (some v) ∧ VD K m H d v

section
variable {K : PySem.W.Frag} {m m' m'' : Am} {H H' H'' : Hp} {S S' : Store} {a p : Addr} {i : Nat}
theorem Am.of (h : m.l[i]? = some a) : a ∈ m := .inl (List.mem_of_getElem? h)
theorem Am.nin (h : a ∉ m) : a ∉ m.l ∧ a ∉ m.p := ⟨fun z => h (.inl z), fun z => h (.inr z)⟩
theorem Sto.there (s : Sto K m H S) (h : a ∈ m) : ∃ xs, H a = some (.lst xs) := by
  rcases h with h | h
  · obtain ⟨i, hi⟩ := List.getElem?_of_mem h
    have hl : i < S.length := by
      have := (List.getElem?_eq_some_iff.mp hi).1
      have := s.len
      omega
    have q := s.obj i a S[i] hi (List.getElem?_eq_getElem hl)
    cases e : S[i] with
    | lst ds =>
      rw [e] at q
      obtain ⟨xs, q, _⟩ := q
      exact ⟨xs, q⟩
  · exact s.pro a h
theorem Stw.nin (h : Stw m H m' H') (n : a ∉ m) (q : H a ≠ none) : a ∉ m' := by
  obtain ⟨e, he, hp, hn⟩ := h.ext
  rintro (hm | hm)
  · rw [he] at hm
    rcases List.mem_append.mp hm with hm | hm
    · exact n (.inl hm)
    · exact q (hn a hm)
  · rw [hp] at hm
    exact n (.inr hm)
theorem Stw.trans (h1 : Stw m H m' H') (h2 : Stw m' H' m'' H'') : Stw m H m'' H'' := by
  obtain ⟨e, he, hp, hn⟩ := h1.ext
  obtain ⟨e', he', hp', hn'⟩ := h2.ext
  refine ⟨⟨e ++ e', by rw [he', he, List.append_assoc], by rw [hp', hp], fun a ha => ?_⟩, fun a o q n => h2.keep a o (h1.keep a o q n) (h1.nin n (by rw [q]; simp)), fun a q => h2.there a (h1.there a q)⟩
  rcases List.mem_append.mp ha with ha | ha
  · exact hn a ha
  · have q := hn' a ha
    cases z : H a with
    | none => rfl
    | some o => exact absurd q (h1.there a (by rw [z]; simp))
theorem Stp.refl : Stp m H m H := ⟨⟨⟨[], by simp, rfl, fun _ h => by simp at h⟩, fun _ _ h _ => h, fun _ h => h⟩, fun _ _ => rfl⟩
theorem Stp.trans (h1 : Stp m H m' H') (h2 : Stp m' H' m'' H'') : Stp m H m'' H'' := by
  obtain ⟨e, he, hp, hn⟩ := h1.ext
  exact ⟨h1.toStw.trans h2.toStw, fun a ha => (h2.pro a (by rw [hp]; exact ha)).trans (h1.pro a ha)⟩
theorem Stp.nin (h : Stp m H m' H') (n : a ∉ m) (q : H a ≠ none) : a ∉ m' := h.toStw.nin n q
theorem Stw.ix (h : Stw m H m' H') {n : Nat} (q : m.l[n]? = some a) : m'.l[n]? = some a := by
  obtain ⟨e, he, _, hn⟩ := h.ext
  rw [he, List.getElem?_append_left (List.getElem?_eq_some_iff.mp q).1]
  exact q
theorem Stp.ix (h : Stp m H m' H') {n : Nat} (q : m.l[n]? = some a) : m'.l[n]? = some a := h.toStw.ix q
theorem Sto.notLst (s : Sto K m H S) {o : HO} (h : H a = some o) (n : ∀ xs, o ≠ .lst xs) : a ∉ m := fun hm => by
  obtain ⟨xs, q⟩ := s.there hm
  rw [h] at q
  cases q
  exact n xs rfl
/-- what a step leaves to data -/
structure Stx (m : Am) (H : Hp) (m' : Am) (H' : Hp) : Prop where
  keep : ∀ a o, H a = some o → a ∉ m → H' a = some o
  nin : ∀ a o, H a = some o → a ∉ m → a ∉ m'
  ix : ∀ (n : Nat) (a : Addr), m.l[n]? = some a → m'.l[n]? = some a
theorem Stw.x (h : Stw m H m' H') : Stx m H m' H' := ⟨h.keep, fun a o q n => h.nin n (by rw [q]; simp), fun n a q => h.ix q⟩
theorem Stp.x (h : Stp m H m' H') : Stx m H m' H' := h.toStw.x
theorem Stx.trans (h1 : Stx m H m' H') (h2 : Stx m' H' m'' H'') : Stx m H m'' H'' :=
  ⟨fun a o q n => h2.keep a o (h1.keep a o q n) (h1.nin a o q n), fun a o q n => h2.nin a o (h1.keep a o q n) (h1.nin a o q n), fun n a q => h2.ix n a (h1.ix n a q)⟩
theorem Stx.sqT (s : Sto K m H S) (h : Stx m H m' H') {xs : List V} (q : SqT K H a xs) : SqT K H' a xs := by
  rcases q with (q | ⟨o, q⟩) | q
  · exact .inl (.inl (h.keep a _ q (s.notLst q (fun _ z => by cases z))))
  · exact .inl (.inr ⟨o, h.keep a _ q (s.notLst q (fun _ z => by cases z))⟩)
  · exact .inr q
theorem Stp.sqT (s : Sto K m H S) (h : Stp m H m' H') {xs : List V} (q : SqT K H a xs) : SqT K H' a xs := h.x.sqT s q
theorem Stp.sqL (h : Stp m H m' H') (n : a ∉ m) {xs : List V} (q : SqL K H a xs) : SqL K H' a xs := by
  rcases q with (q | ⟨o, q⟩) | q
  · exact .inl (.inl (h.keep a _ q n))
  · exact .inl (.inr ⟨o, h.keep a _ q n⟩)
  · exact .inr q
mutual
theorem VD.monox (s : Sto K m H S) (h : Stx m H m' H') : ∀ (d : D) (v : V), VD K m H d v → VD K m' H' d v
  | .non, _, q => q
  | .bl _, _, q => q
  | .int _, _, q => q
  | .str _, _, q => q
  | .tup ds, _, q => by
    obtain ⟨a, xs, e, q1, q2⟩ := q
    exact ⟨a, xs, e, h.sqT s q1, VDs.monox s h ds xs q2⟩
  | .lst ds, _, q => by
    obtain ⟨a, xs, e, q1, n, q2⟩ := q
    exact ⟨a, xs, e, h.keep a _ q1 n, h.nin a _ q1 n, VDs.monox s h ds xs q2⟩
  | .fro ds, _, q => by
    obtain ⟨a, xs, e, q1, q2⟩ := q
    refine ⟨a, xs, e, ?_, VDs.monox s h ds xs q2⟩
    rcases q1 with ⟨o, q1⟩ | q1
    · exact .inl ⟨o, h.keep a _ q1 (s.notLst q1 (fun _ z => by cases z))⟩
    · exact .inr q1
  | .ref n, _, q => by
    obtain ⟨a, e, q⟩ := q
    exact ⟨a, e, h.ix _ _ q⟩
  | .dic, _, q => by
    obtain ⟨a, kvs, e, q⟩ := q
    exact ⟨a, kvs, e, h.keep a _ q (s.notLst q (fun _ z => by cases z))⟩
theorem VDs.monox (s : Sto K m H S) (h : Stx m H m' H') : ∀ (ds : List D) (vs : List V), VDs K m H ds vs → VDs K m' H' ds vs
  | [], _, q => q
  | d :: ds, _, q => by
    obtain ⟨v, r, e, q1, q2⟩ := q
    exact ⟨v, r, e, VD.monox s h d v q1, VDs.monox s h ds r q2⟩
end
theorem VD.monow (s : Sto K m H S) (h : Stw m H m' H') (d : D) (v : V) (q : VD K m H d v) : VD K m' H' d v := VD.monox s h.x d v q
theorem VDs.monow (s : Sto K m H S) (h : Stw m H m' H') (d : List D) (v : List V) (q : VDs K m H d v) : VDs K m' H' d v := VDs.monox s h.x d v q
theorem VD.mono (s : Sto K m H S) (h : Stp m H m' H') (d : D) (v : V) (q : VD K m H d v) : VD K m' H' d v := VD.monow s h.toStw d v q
theorem VDs.mono (s : Sto K m H S) (h : Stp m H m' H') (d : List D) (v : List V) (q : VDs K m H d v) : VDs K m' H' d v := VDs.monow s h.toStw d v q
theorem VDs.length : ∀ {ds : List D} {vs : List V}, VDs K m H ds vs → vs.length = ds.length
  | [], _, q => by
    have e : _ = [] := q
    rw [e]
    rfl
  | d :: ds, _, q => by
    obtain ⟨v, r, e, _, q2⟩ := q
    rw [e, List.length_cons, List.length_cons, VDs.length q2]
theorem VDs.get : ∀ {ds : List D} {vs : List V}, VDs K m H ds vs → ∀ {i : Nat} {d : D}, ds[i]? = some d → ∃ v, vs[i]? = some v ∧ VD K m H d v
  | [], _, _, i, d, h => by simp at h
  | d :: ds, _, q, i, d', h => by
    obtain ⟨v, r, e, q1, q2⟩ := q
    subst e
    cases i with
    | zero =>
      cases h
      exact ⟨v, rfl, q1⟩
    | succ i =>
      obtain ⟨v', h1, h2⟩ := VDs.get q2 (i := i) (d := d') (by simpa using h)
      exact ⟨v', by simpa using h1, h2⟩
theorem VDs.append : ∀ {ds es : List D} {vs ws : List V}, VDs K m H ds vs → VDs K m H es ws → VDs K m H (ds ++ es) (vs ++ ws)
  | [], _, _, _, q, r => by
    have e : _ = [] := q
    rw [e]
    exact r
  | d :: ds, _, _, _, q, r => by
    obtain ⟨v, t, e, q1, q2⟩ := q
    subst e
    exact ⟨v, _, rfl, q1, VDs.append q2 r⟩
theorem VDs.drop : ∀ {ds : List D} {vs : List V} (n : Nat), VDs K m H ds vs → VDs K m H (ds.drop n) (vs.drop n)
  | _, _, 0, q => q
  | [], _, n + 1, q => by
    have e : _ = [] := q
    rw [e]
    rfl
  | d :: ds, _, n + 1, q => by
    obtain ⟨v, t, e, q1, q2⟩ := q
    subst e
    exact VDs.drop n q2
theorem VDs.take : ∀ {ds : List D} {vs : List V} (n : Nat), VDs K m H ds vs → VDs K m H (ds.take n) (vs.take n)
  | _, _, 0, q => rfl
  | [], _, n + 1, q => by
    have e : _ = [] := q
    rw [e]
    rfl
  | d :: ds, _, n + 1, q => by
    obtain ⟨v, t, e, q1, q2⟩ := q
    subst e
    exact ⟨v, _, rfl, q1, VDs.take n q2⟩
theorem VDs.set : ∀ {ds : List D} {vs : List V} (n : Nat) {d : D} {v : V}, VDs K m H ds vs → VD K m H d v → VDs K m H (ds.set n d) (vs.set n v)
  | [], _, _, _, _, q, _ => by
    have e : _ = [] := q
    rw [e]
    rfl
  | d :: ds, _, 0, _, _, q, r => by
    obtain ⟨v, t, e, q1, q2⟩ := q
    subst e
    exact ⟨_, _, rfl, r, q2⟩
  | d :: ds, _, n + 1, _, _, q, r => by
    obtain ⟨v, t, e, q1, q2⟩ := q
    subst e
    exact ⟨_, _, rfl, q1, VDs.set n q2 r⟩
theorem VDs.dropLast {ds : List D} {vs : List V} (q : VDs K m H ds vs) : VDs K m H ds.dropLast vs.dropLast := by
  rw [List.dropLast_eq_take, List.dropLast_eq_take, q.length]
  exact q.take _
theorem VDs.rep {ds : List D} {vs : List V} (q : VDs K m H ds vs) : ∀ n : Nat, VDs K m H (List.replicate n ds).flatten (List.replicate n vs).flatten
  | 0 => rfl
  | n + 1 => by
    rw [List.replicate_succ, List.replicate_succ, List.flatten_cons, List.flatten_cons]
    exact q.append (VDs.rep q n)
theorem VDs.one {d : D} {v : V} (q : VD K m H d v) : VDs K m H [d] [v] := ⟨v, [], rfl, q, rfl⟩
theorem VDs.at {ds : List D} {vs : List V} (q : VDs K m H ds vs) {i : Int} {d : D} (h : atI ds i = some d) : ∃ v, atI vs i = some v ∧ VD K m H d v := by
  unfold atI at h ⊢
  rw [q.length]
  cases e : ixN ds.length i with
  | none =>
    rw [e] at h
    cases h
  | some j =>
    rw [e] at h
    exact q.get h
theorem VDs.cut {ds : List D} {vs : List V} (q : VDs K m H ds vs) (lo hi : Option Int) : VDs K m H (cutD ds lo hi) (cutV vs lo hi) := by
  unfold cutD cutV
  rw [q.length]
  exact (q.drop _).take _

/-! ### the steps that there are -/
/-- an object of no consequence comes -/
theorem Stw.fresh {o : HO} (hp : H p = none) : Stw m H m (upd H p o) :=
  ⟨⟨[], by simp, rfl, fun _ h => by simp at h⟩, fun a u q _ => by rw [upd_ne (ne_of_none q hp)]; exact q, fun a q => by
    unfold upd
    split
    · simp
    · exact q⟩
theorem Sto.nin (s : Sto K m H S) (hp : H p = none) : p ∉ m := fun h => by
    obtain ⟨xs, q⟩ := s.there h
    rw [hp] at q
    cases q
theorem Stp.fresh (s : Sto K m H S) {o : HO} (hp : H p = none) : Stp m H m (upd H p o) :=
  ⟨Stw.fresh hp, fun a ha => upd_ne fun e => s.nin hp (.inr (e ▸ ha))⟩
theorem Sto.mono (s : Sto K m H S) (h : Stw m H m H') (k : ∀ a ∈ m.l, H' a = H a) (kp : ∀ a ∈ m.p, ∃ xs, H' a = some (.lst xs)) : Sto K m H' S :=
  ⟨s.nd, s.dis, kp, s.len, fun i a o h1 h2 => by
    have q := s.obj i a o h1 h2
    cases o with
    | lst ds =>
      obtain ⟨xs, q1, q2⟩ := q
      exact ⟨xs, by rw [k a (List.mem_of_getElem? h1)]; exact q1, VDs.monow s h ds xs q2⟩⟩
theorem Sto.fresh (s : Sto K m H S) {o : HO} (hp : H p = none) : Sto K m (upd H p o) S :=
  s.mono (Stw.fresh hp) (fun a ha => upd_ne fun e => s.nin hp (.inl (e ▸ ha))) fun a ha => by
    have ne : a ≠ p := fun e => s.nin hp (.inr (e ▸ ha))
    rw [upd_ne ne]
    exact s.pro a ha
/-- a new pure list -/
theorem VD.newL (s : Sto K m H S) (hp : H p = none) {ds : List D} {xs : List V} (q : VDs K m H ds xs) : VD K m (upd H p (.lst xs)) (.lst ds) (.ref p) :=
  ⟨p, xs, rfl, upd_same, s.nin hp, VDs.mono s (Stp.fresh s hp) ds xs q⟩
theorem VD.newT (s : Sto K m H S) (hp : H p = none) {ds : List D} {xs : List V} (q : VDs K m H ds xs) : VD K m (upd H p (.tup xs)) (.tup ds) (.ref p) :=
  ⟨p, xs, rfl, SqT.of upd_same, VDs.mono s (Stp.fresh s hp) ds xs q⟩
/-- a list that stands in the map written -/
theorem Stw.write {xs xs' : List V} (h : a ∈ m) (q : H a = some (.lst xs)) : Stw m H m (upd H a (.lst xs')) :=
  ⟨⟨[], by simp, rfl, fun _ h => by simp at h⟩, fun b u q' n => by rw [upd_ne (fun e : b = a => n (by rw [e]; exact h))]; exact q', fun b q' => by
    unfold upd
    split
    · simp
    · exact q'⟩
theorem Stp.write (s : Sto K m H S) {xs xs' : List V} (h : a ∈ m.l) (q : H a = some (.lst xs)) : Stp m H m (upd H a (.lst xs')) :=
  ⟨Stw.write (.inl h) q, fun b hb => upd_ne fun e => s.dis b hb (by rw [e]; exact h)⟩
theorem nodup_get {α : Type} {l : List α} (h : l.Nodup) {i j : Nat} {a : α} (h1 : l[i]? = some a) (h2 : l[j]? = some a) : i = j := by
  obtain ⟨l1, e1⟩ := List.getElem?_eq_some_iff.mp h1
  obtain ⟨l2, e2⟩ := List.getElem?_eq_some_iff.mp h2
  exact (List.getElem_inj h).mp (e1.trans e2.symm)
theorem Sto.write (s : Sto K m H S) {n : Nat} {ds ds' : List D} {xs' : List V} (ha : m.l[n]? = some a) (hn : S[n]? = some (.lst ds)) (q : VDs K m H ds' xs') :
    Sto K m (upd H a (.lst xs')) (S.set n (.lst ds')) ∧ Stp m H m (upd H a (.lst xs')) := by
  have hm := List.mem_of_getElem? ha
  obtain ⟨xs, hx⟩ := s.there (.inl hm)
  have st : Stp m H m (upd H a (.lst xs')) := Stp.write s hm hx
  refine ⟨⟨s.nd, s.dis, fun b hb => by rw [st.pro b hb]; exact s.pro b hb, by rw [List.length_set]; exact s.len, fun i b o h1 h2 => ?_⟩, st⟩
  by_cases hi : i = n
  · subst hi
    rw [ha] at h1
    cases h1
    have hl : i < S.length := (List.getElem?_eq_some_iff.mp hn).1
    rw [List.getElem?_set_self hl] at h2
    cases h2
    exact ⟨xs', upd_same, VDs.mono s st ds' xs' q⟩
  · rw [List.getElem?_set_ne (fun e => hi e.symm)] at h2
    have q := s.obj i b o h1 h2
    have ne : b ≠ a := fun e => hi (nodup_get s.nd (e ▸ h1) ha)
    cases o with
    | lst es =>
      obtain ⟨ys, q1, q2⟩ := q
      exact ⟨ys, by rw [upd_ne ne]; exact q1, VDs.mono s st es ys q2⟩
/-- a new list of the store -/
theorem Sto.new (s : Sto K m H S) (hp : H p = none) {ds : List D} {xs : List V} (q : VDs K m H ds xs) :
    Sto K (m.push p) (upd H p (.lst xs)) (S ++ [.lst ds]) ∧ Stp m H (m.push p) (upd H p (.lst xs)) := by
  have f := Stp.fresh s (o := .lst xs) hp
  have st : Stp m H (m.push p) (upd H p (.lst xs)) := ⟨⟨⟨[p], rfl, rfl, fun a ha => by
    have e : a = p := by simpa using ha
    rw [e]
    exact hp⟩, f.keep, f.there⟩, f.pro⟩
  have hnp := Am.nin (s.nin hp)
  refine ⟨⟨?_, fun a ha hm => ?_, fun a ha => by rw [f.pro a ha]; exact s.pro a ha, by simp [Am.push, s.len], fun i b o h1 h2 => ?_⟩, st⟩
  · show (m.l ++ [p]).Nodup
    rw [List.nodup_append]
    refine ⟨s.nd, by simp, fun a ha b hb e => ?_⟩
    have e' : b = p := by simpa using hb
    subst e'
    subst e
    exact hnp.1 ha
  · rcases List.mem_append.mp hm with hm | hm
    · exact s.dis a ha hm
    · have e : a = p := by simpa using hm
      exact hnp.2 (e ▸ ha)
  · have h1 : (m.l ++ [p])[i]? = some b := h1
    by_cases hi : i < m.l.length
    · rw [List.getElem?_append_left hi] at h1
      rw [List.getElem?_append_left (by rw [← s.len]; exact hi)] at h2
      have q := s.obj i b o h1 h2
      cases o with
      | lst es =>
        obtain ⟨ys, q1, q2⟩ := q
        exact ⟨ys, by rw [upd_ne (ne_of_none q1 hp)]; exact q1, VDs.mono s st es ys q2⟩
    · have hl := (List.getElem?_eq_some_iff.mp h1).1
      rw [List.length_append, List.length_singleton] at hl
      have e : i = m.l.length := by omega
      subst e
      rw [List.getElem?_append_right (Nat.le_refl _), Nat.sub_self] at h1
      rw [s.len, List.getElem?_append_right (Nat.le_refl _), Nat.sub_self] at h2
      cases h1
      cases h2
      exact ⟨xs, upd_same, VDs.mono s st ds xs q⟩
/-! ### a list kept from reach -/
def Am.hold (m : Am) (a : Addr) : Am := ⟨m.l, a :: m.p⟩
theorem hold_mem {m : Am} {a b : Addr} (h : b ∈ m) : b ∈ m.hold a := h.elim .inl fun z => .inr (List.mem_cons_of_mem _ z)
theorem hold_nin {m : Am} {a b : Addr} (h : b ∉ m.hold a) : b ∉ m ∧ b ≠ a := ⟨fun z => h (hold_mem z), fun z => h (.inr (z ▸ List.mem_cons_self))⟩
mutual
theorem VD.free : ∀ (d : D) (v : V), VD K (m.hold p) H d v → VD K m H d v
  | .non, _, q => q
  | .bl _, _, q => q
  | .int _, _, q => q
  | .str _, _, q => q
  | .tup ds, _, q => by
    obtain ⟨a, xs, e, q1, q2⟩ := q
    exact ⟨a, xs, e, q1, VDs.free ds xs q2⟩
  | .lst ds, _, q => by
    obtain ⟨a, xs, e, q1, n, q2⟩ := q
    exact ⟨a, xs, e, q1, (hold_nin n).1, VDs.free ds xs q2⟩
  | .fro ds, _, q => by
    obtain ⟨a, xs, e, q1, q2⟩ := q
    exact ⟨a, xs, e, q1, VDs.free ds xs q2⟩
  | .ref n, _, q => q
  | .dic, _, q => q
theorem VDs.free : ∀ (ds : List D) (vs : List V), VDs K (m.hold p) H ds vs → VDs K m H ds vs
  | [], _, q => q
  | d :: ds, _, q => by
    obtain ⟨v, r, e, q1, q2⟩ := q
    exact ⟨v, r, e, VD.free d v q1, VDs.free ds r q2⟩
end
/-- the kept list let go -/
theorem Sto.free (s : Sto K (m.hold p) H S) : Sto K m H S :=
  ⟨s.nd, fun a ha => s.dis a (List.mem_cons_of_mem _ ha), fun a ha => s.pro a (List.mem_cons_of_mem _ ha), s.len, fun i a o h1 h2 => by
    have q := s.obj i a o h1 h2
    cases o with
    | lst ds =>
      obtain ⟨xs, q1, q2⟩ := q
      exact ⟨xs, q1, VDs.free ds xs q2⟩⟩
theorem Sto.pnin (s : Sto K (m.hold p) H S) (n : p ∉ m.p) : p ∉ m := fun h => h.elim (s.dis p List.mem_cons_self) n
/-- a new list, kept from reach -/
theorem Stx.hold (s : Sto K m H S) (hp : H p = none) (o : HO) : Stx m H (m.hold p) (upd H p o) :=
  ⟨fun a u q n => by rw [upd_ne (ne_of_none q hp)]; exact q, fun a u q n z => by
    rcases z with z | z
    · exact n (.inl z)
    · rcases List.mem_cons.mp z with z | z
      · exact ne_of_none q hp z
      · exact n (.inr z), fun _ _ q => q⟩
theorem Sto.hold (s : Sto K m H S) (hp : H p = none) (xs : List V) : Sto K (m.hold p) (upd H p (.lst xs)) S :=
  ⟨s.nd, fun a ha hm => by
    rcases List.mem_cons.mp ha with z | z
    · exact s.nin hp (.inl (z ▸ hm))
    · exact s.dis a z hm, fun a ha => by
    rcases List.mem_cons.mp ha with z | z
    · exact ⟨xs, by rw [z]; exact upd_same⟩
    · have ne : a ≠ p := fun e => s.nin hp (.inr (e ▸ z))
      rw [upd_ne ne]
      exact s.pro a z, s.len, fun i a o h1 h2 => by
    have q := s.obj i a o h1 h2
    cases o with
    | lst ds =>
      obtain ⟨ys, q1, q2⟩ := q
      exact ⟨ys, by rw [upd_ne (ne_of_none q1 hp)]; exact q1, VDs.monox s (Stx.hold s hp _) ds ys q2⟩⟩
theorem Stw.hold (hp : H p = none) {o : HO} (h : Stw (m.hold p) (upd H p o) (m'.hold p) H') : Stw m H m' H' := by
  obtain ⟨e, he, hq, hn⟩ := h.ext
  refine ⟨⟨e, he, (List.cons_inj_right p).mp hq, fun a ha => ?_⟩, fun a o' q n => ?_, fun a q => ?_⟩
  · have q := hn a ha
    unfold upd at q
    split at q
    · cases q
    · exact q
  · have ne := ne_of_none q hp
    refine h.keep a o' (by rw [upd_ne ne]; exact q) fun z => ?_
    rcases z with z | z
    · exact n (.inl z)
    · rcases List.mem_cons.mp z with z | z
      · exact ne z
      · exact n (.inr z)
  · refine h.there a ?_
    unfold upd
    split
    · simp
    · exact q
/-- the kept list is written -/
theorem Sto.wrote (s : Sto K (m.hold p) H S) (n : p ∉ m.p) (xs : List V) : Stw (m.hold p) H (m.hold p) (upd H p (.lst xs)) ∧ Sto K (m.hold p) (upd H p (.lst xs)) S := by
  obtain ⟨ys, q⟩ := s.pro p List.mem_cons_self
  have st : Stw (m.hold p) H (m.hold p) (upd H p (.lst xs)) := Stw.write (.inr List.mem_cons_self) q
  refine ⟨st, s.mono st (fun a ha => upd_ne fun e => s.dis p List.mem_cons_self (e ▸ ha)) fun a ha => ?_⟩
  by_cases e : a = p
  · exact ⟨xs, by rw [e]; exact upd_same⟩
  · rw [upd_ne e]
    exact s.pro a ha
theorem EnvR.monox {σ : L2.St} {ρ : Env} (s : Sto K m H S) (h : Stx m H m' H') (e : EnvR K m H σ ρ) : EnvR K m' H' σ ρ :=
  ⟨e.1, fun i d q => by
    obtain ⟨v, h1, h2⟩ := e.2 i d q
    exact ⟨v, h1, VD.monox s h d v h2⟩⟩
theorem EnvR.monow {σ : L2.St} {ρ : Env} (s : Sto K m H S) (h : Stw m H m' H') (e : EnvR K m H σ ρ) : EnvR K m' H' σ ρ :=
  ⟨e.1, fun i d q => by
    obtain ⟨v, h1, h2⟩ := e.2 i d q
    exact ⟨v, h1, VD.monow s h d v h2⟩⟩
theorem EnvR.hold {σ : L2.St} {ρ : Env} (s : Sto K m H S) (hp : H p = none) (o : HO) (e : EnvR K m H σ ρ) : EnvR K (m.hold p) (upd H p o) σ ρ :=
  ⟨e.1, fun i d q => by
    obtain ⟨v, h1, h2⟩ := e.2 i d q
    exact ⟨v, h1, VD.monox s (Stx.hold s hp o) d v h2⟩⟩
theorem EnvR.free {σ : L2.St} {ρ : Env} (e : EnvR K (m.hold p) H σ ρ) : EnvR K m H σ ρ :=
  ⟨e.1, fun i d q => by
    obtain ⟨v, h1, h2⟩ := e.2 i d q
    exact ⟨v, h1, VD.free d v h2⟩⟩
theorem EnvR.mono {σ : L2.St} {ρ : Env} (s : Sto K m H S) (h : Stp m H m' H') (e : EnvR K m H σ ρ) : EnvR K m' H' σ ρ :=
  ⟨e.1, fun i d q => by
    obtain ⟨v, h1, h2⟩ := e.2 i d q
    exact ⟨v, h1, VD.mono s h d v h2⟩⟩
theorem EnvR.set {σ : L2.St} {ρ : Env} (e : EnvR K m H σ ρ) {i : Nat} {d : D} {v : V} (q : VD K m H d v) : EnvR K m H (σ.set i (some v)) (ρ.set i (some d)) :=
  ⟨by rw [List.length_set, List.length_set]; exact e.1, fun j d' h => by
    by_cases hj : i = j
    · subst hj
      by_cases hl : i < ρ.length
      · rw [List.getElem?_set_self hl] at h
        cases h
        exact ⟨v, by rw [List.getElem?_set_self (by rw [← e.1]; exact hl)], q⟩
      · rw [List.getElem?_eq_none (by rw [List.length_set]; omega)] at h
        cases h
    · rw [List.getElem?_set_ne hj] at h
      obtain ⟨v', h1, h2⟩ := e.2 j d' h
      exact ⟨v', by rw [List.getElem?_set_ne hj]; exact h1, h2⟩⟩
theorem EnvR.wipe {σ : L2.St} {ρ : Env} (e : EnvR K m H σ ρ) : ∀ vs : List Nat, EnvR K m H (wipe σ vs) (wipeD ρ vs)
  | [] => e
  | v :: vs => by
    have ih := EnvR.wipe e vs
    unfold L2.wipe wipeD
    refine ⟨by rw [List.length_set, List.length_set]; exact ih.1, fun j d' h => ?_⟩
    by_cases hj : v = j
    · subst hj
      by_cases hl : v < (wipeD ρ vs).length
      · rw [List.getElem?_set_self hl] at h
        cases h
      · rw [List.getElem?_eq_none (by rw [List.length_set]; omega)] at h
        cases h
    · rw [List.getElem?_set_ne hj] at h
      obtain ⟨v', h1, h2⟩ := ih.2 j d' h
      exact ⟨v', by rw [List.getElem?_set_ne hj]; exact h1, h2⟩
end
end Ev
set_option Elab.async false
set_option linter.all false
set_option maxRecDepth 100000
set_option maxHeartbeats 4000000
namespace Ev
open PySem PySem.Spec PyProof.Rows L2
theorem sm_eq : sizeMax = sizeLine := by rw [sizeLine_eq]; rfl
theorem lift_some {p : Bool} {d d' : D} (h : liftD p d = some d') : p = true ∧ d = d' := by
  unfold liftD at h
  split at h
  · cases h
    exact ⟨by assumption, rfl⟩
  · cases h
/-- what is handed on: the value behind any later step -/
def Hnd (K : PySem.W.Frag) (m : Am) (H : Hp) (S : Store) (Q : VK) (d : D) : Prop := ∀ m' H' v, Stp m H m' H' → Sto K m' H' S → VD K m' H' d v → Q v H'
section
variable {K : PySem.W.Frag} {m : Am} {H : Hp} {S : Store} {Q : VK}
theorem Hnd.same {d : D} {v : V} (q : Hnd K m H S Q d) (s : Sto K m H S) (h : VD K m H d v) : Q v H := q m H v Stp.refl s h
theorem Hnd.tupN {ds : List D} {xs : List V} (q : Hnd K m H S Q (.tup ds)) (s : Sto K m H S) (h : VDs K m H ds xs) : ∀ p, H p = none → Q (.ref p) (upd H p (.tup xs)) :=
  fun p hp => q m _ _ (Stp.fresh s hp) (s.fresh hp) (VD.newT s hp h)
theorem Hnd.lstN {ds : List D} {xs : List V} (q : Hnd K m H S Q (.lst ds)) (s : Sto K m H S) (h : VDs K m H ds xs) : ∀ p, H p = none → Q (.ref p) (upd H p (.lst xs)) :=
  fun p hp => q m _ _ (Stp.fresh s hp) (s.fresh hp) (VD.newL s hp h)
theorem Hnd.tupS {ds : List D} {a : Addr} {xs : List V} (q : Hnd K m H S Q (.tup ds)) (s : Sto K m H S) (e : SqT K H a xs) (h : VDs K m H ds xs) : Q (.ref a) H :=
  q.same s ⟨a, xs, rfl, e, h⟩
mutual
theorem VD.dp : ∀ {d : D} {v : V} {p : PyData}, VD K m H d v → toP d = some p → Dp K H v p
  | .non, _, p, q, e => by
    cases e
    have q : _ = _ := q
    subst q
    exact .non
  | .bl b, _, p, q, e => by
    cases e
    have q : _ = _ := q
    subst q
    exact .bl b
  | .int i, _, p, q, e => by
    cases e
    have q : _ = _ := q
    subst q
    exact .int i
  | .str x, _, p, q, e => by
    cases e
    have q : _ = _ := q
    subst q
    exact .str x
  | .tup ds, _, p, q, e => by
    obtain ⟨a, xs, rfl, q1, q2⟩ := q
    unfold toP at e
    cases e1 : toPs ds with
    | none =>
      rw [e1] at e
      cases e
    | some ps =>
      rw [e1] at e
      cases e
      exact .tup q1 (VDs.dp q2 e1)
  | .lst ds, _, p, q, e => by
    obtain ⟨a, xs, rfl, q1, _, q2⟩ := q
    unfold toP at e
    cases e1 : toPs ds with
    | none =>
      rw [e1] at e
      cases e
    | some ps =>
      rw [e1] at e
      cases e
      exact .lst (SqL.of q1) (VDs.dp q2 e1)
  | .fro _, _, _, _, e => by cases e
  | .ref _, _, _, _, e => by cases e
  | .dic, _, _, _, e => by cases e
theorem VDs.dp : ∀ {ds : List D} {vs : List V} {ps : List PyData}, VDs K m H ds vs → toPs ds = some ps → DpAll K H vs ps
  | [], _, ps, q, e => by
    cases e
    have q : _ = _ := q
    subst q
    exact .nil
  | d :: ds, _, ps, q, e => by
    obtain ⟨v, r, rfl, q1, q2⟩ := q
    unfold toPs at e
    split at e
    · rename_i p ps' e1 e2
      cases e
      exact .cons (VD.dp q1 e1) (VDs.dp q2 e2)
    · cases e
end
theorem VDs.nil_iff {ds : List D} {vs : List V} (q : VDs K m H ds vs) : vs = [] ↔ ds = [] := by
  cases ds with
  | nil => exact ⟨fun _ => rfl, fun _ => q⟩
  | cons d ds =>
    obtain ⟨v, r, rfl, _⟩ := q
    simp
theorem VDs.empty {ds : List D} {vs : List V} (q : VDs K m H ds vs) : (!ds.isEmpty) = !vs.isEmpty := by
  cases ds with
  | nil =>
    have q : vs = _ := q
    subst q
    rfl
  | cons d ds =>
    obtain ⟨_, _, rfl, _⟩ := q
    rfl
theorem VDs.ints : ∀ {ds : List D} {vs : List V} {ns : List Int}, VDs K m H ds vs → toIs ds = some ns → vs = ns.map V.int
  | [], _, _, q, e => by
    cases e
    exact q
  | d :: ds, _, ns, q, e => by
    obtain ⟨v, r, rfl, q1, q2⟩ := q
    unfold toIs at e
    split at e
    · rename_i i is e1 e2
      cases e
      cases d with
      | int j =>
        have ej : j = i := Option.some.inj e1
        have q1 : v = .int j := q1
        rw [q1, VDs.ints q2 e2, ej]
        rfl
      | _ => cases e1
    · cases e
end
def opOf : Op → Operator
  | .add => .Add | .sub => .Sub | .mul => .Mult | .fdiv => .FloorDiv | .mod => .Mod | .pow => .Pow
def rBin (K : PySem.W.Frag) (o : Op) : R2 := fun x y H Q => ∃ m S a b d, Sto K m H S ∧ VD K m H a x ∧ VD K m H b y ∧ binV o a b = some d ∧ Hnd K m H S Q d
section
variable {X : Cx}
/-- t * k, all of them -/
theorem tuple_mul1 (l : Addr) (items : Array Value) (n : Nat) (dd : Option Addr) (sl : Array (Option Value)) (x : Int) (u : Tok) (c0 : (decide (x < -(2 ^ 63)) || decide (x ≥ 2 ^ 63)) = false) (c1 : (items.isEmpty || x == 1) = true) :
    Meets (Builtin.«tuple.__mul__» ⟨[.ref l, .int x u], []⟩) (fun _ R s => s.heap.get? l = some { cls := .type "tuple", dict := dd, data := .seq items n, slots := sl } ∧
      R (.ok (.ret (Value.ref l))) s) :=
  .of_wp fun prog w A R s h => by
    obtain ⟨hp, g, d, tk, os⟩ := s
    obtain ⟨hl, h⟩ := h
    have f1 := AutoSeq1.idx_int
    wp_walk using wpAny_loadPart' hl
    refine wpAny_ite_false (decide_eq_false (by rw [c0]; exact Bool.false_ne_true)) ?_; wp_walk using wpAny_loadPart' hl
    exact ⟨_, rfl, h⟩
theorem tuple_mul0 (l : Addr) (items : Array Value) (n : Nat) (dd : Option Addr) (sl : Array (Option Value)) (x : Int) (u : Tok) (c0 : (decide (x < -(2 ^ 63)) || decide (x ≥ 2 ^ 63)) = false) (c1 : (items.isEmpty || x == 1) = false) (c2 : (decide (x ≤ 0) || items.isEmpty) = true) :
    Meets (Builtin.«tuple.__mul__» ⟨[.ref l, .int x u], []⟩) (fun _ R s => s.heap.get? l = some { cls := .type "tuple", dict := dd, data := .seq items n, slots := sl } ∧
      R (.ok (.ret (Value.ref s.heap.objs.size))) { s with heap := s.heap.push { cls := Value.type "tuple", data := Data.seq #[] }, toks := s.toks }) :=
  .of_wp fun prog w A R s h => by
    obtain ⟨hp, g, d, tk, os⟩ := s
    obtain ⟨hl, h⟩ := h
    have f1 := AutoSeq1.idx_int
    wp_walk using wpAny_loadPart' hl
    refine wpAny_ite_false (decide_eq_false (by rw [c0]; exact Bool.false_ne_true)) ?_; wp_walk using wpAny_loadPart' hl
    repeat (first
      | (refine wpAny_ite_false (decide_eq_false (show ¬ (items.isEmpty || x == 1) = true by rw [c1]; exact Bool.false_ne_true)) ?_; wp_walk using wpAny_loadPart' hl)
      | (refine wpAny_ite_true (decide_eq_true c2) ?_; wp_walk using wpAny_loadPart' hl))
    exact ⟨_, rfl, h⟩
theorem repOk_ok {n : Nat} {k : Int} (h : repOk n k = true) : -(2 ^ 62) ≤ k ∧ k < 2 ^ 62 ∧ n * k.toNat ≤ sizeMax := by
  unfold repOk at h
  simp only [Bool.and_eq_true, decide_eq_true_eq] at h
  exact ⟨h.1.1, h.1.2, h.2⟩
/-- t * k -/
def rRepA (K : PySem.W.Frag) : R2 := fun x y H Q => ∃ l k xs, x = .ref l ∧ y = .int k ∧ SqT K H l xs ∧ repOk xs.length k = true ∧
  (SqT K H l (listRep xs k) → Q (.ref l) H) ∧ (∀ p, H p = none → Q (.ref p) (upd H p (.tup (listRep xs k))))
theorem op_repA : OpR X (binaryOp .Mult) (rRepA X.K) := by
  intro pins s σ H x y v u Q I rx ry h
  obtain ⟨l, k, xs, rfl, rfl, hT, hk, q0, q⟩ := h
  obtain ⟨k1, k2, k3⟩ := repOk_ok hk
  rw [sm_eq] at k3
  cases rx
  obtain ⟨t, rfl⟩ := ry
  obtain ⟨its, r, ⟨⟨cls, dd, data, sl⟩, ho, hc, n, hd⟩, hs⟩ := I.tuple hT
  simp only at hc hd
  subst hc hd
  have hle : its.length = xs.length := r.length.symm
  have c0 : (decide (k < -(2 ^ 63)) || decide (k ≥ 2 ^ 63)) = false := by
    rw [decide_eq_false (by omega), decide_eq_false (by omega)] <;> rfl
  by_cases e1 : (its.toArray.isEmpty || k == 1) = true
  · have same : listRep xs k = xs := by
      unfold listRep
      rcases Bool.or_eq_true_iff.mp e1 with e | e
      · have : its = [] := by simpa using e
        have : xs = [] := List.eq_nil_of_length_eq_zero (by rw [← hle, this]; rfl)
        subst this
        rw [List.flatten_replicate_nil]
      · have : k = 1 := by simpa using e
        subst this
        simp
    refine wpAny_binaryOp_repeat_ref (T := "tuple") (U := "int") (by decide) ⟨_, ho, rfl⟩ (fun s' => typeIs_int s' k t) noFill_tuple_mul F.fills_int_mul F.slot_int_rmul repeat_tuple F.slot_int_index.lookup
      (call_meets F.slot_int_rmul (typeIs_int s k t) F.entry_int_rmul (F.args_int_rmul_2 _ _) (int_rmul_tuple k t l its.toArray n dd sl)
        ⟨ho, rfl, ⟨_, ho, rfl⟩, call_meets F.slot_tuple_mul ⟨_, ho, rfl⟩ F.entry_tuple_mul (F.args_tuple_mul_2 _ _) (tuple_mul1 l its.toArray n dd sl k t c0 e1) ⟨ho, ?_⟩⟩)
    exact ⟨.ref l, H, I, rfl, q0 (by rw [same]; exact hT)⟩
  · have e1 : (its.toArray.isEmpty || k == 1) = false := by simpa using e1
    by_cases e2 : (decide (k ≤ 0) || its.toArray.isEmpty) = true
    · have same : listRep xs k = [] := by
        unfold listRep
        rcases Bool.or_eq_true_iff.mp e2 with e | e
        · have : k ≤ 0 := of_decide_eq_true e
          rw [Int.toNat_of_nonpos this]
          rfl
        · rw [e, Bool.true_or] at e1
          cases e1
      refine wpAny_binaryOp_repeat_ref (T := "tuple") (U := "int") (by decide) ⟨_, ho, rfl⟩ (fun s' => typeIs_int s' k t) noFill_tuple_mul F.fills_int_mul F.slot_int_rmul repeat_tuple F.slot_int_index.lookup
        (call_meets F.slot_int_rmul (typeIs_int s k t) F.entry_int_rmul (F.args_int_rmul_2 _ _) (int_rmul_tuple k t l its.toArray n dd sl)
          ⟨ho, rfl, ⟨_, ho, rfl⟩, call_meets F.slot_tuple_mul ⟨_, ho, rfl⟩ F.entry_tuple_mul (F.args_tuple_mul_2 _ _) (tuple_mul0 l its.toArray n dd sl k t c0 e1 e2) ⟨ho, ?_⟩⟩)
      refine ⟨.ref s.heap.objs.size, _, I.laid (t' := s.toks) (o := .tup (listRep xs k)) (fun b ob q => Heap.get?_push_of_some _ q) (Nat.le_refl _) ?_, rfl, q _ (I.hok.fresh (Nat.le_refl _))⟩
      rw [same]
      exact ⟨by show 0 ≤ sizeLine; omega, [], .nil, IsTup.new _ _⟩
    · have e2 : (decide (k ≤ 0) || its.toArray.isEmpty) = false := by simpa using e2
      have kp : 0 < k := by
        have := (Bool.or_eq_false_iff.mp e2).1
        have := of_decide_eq_false this
        omega
      have hm : ((its.toArray.size : Nat) : Int) * k ≤ sizeLine := by
        rw [List.size_toArray, hle]
        have : ((xs.length * k.toNat : Nat) : Int) ≤ (sizeLine : Nat) := by omega
        rw [Int.natCast_mul, Int.toNat_of_nonneg (by omega)] at this
        exact this
      have flen : (List.replicate k.toNat its).flatten.length ≤ sizeLine := by
        rw [PyProof.Rows.lm_len_rep_flat, hle, Nat.mul_comm]
        exact k3
      have c4 : Builtin.Tuple.tupleTooMany (((its.toArray.size : Nat) : Int) * k) = false := by
        unfold Builtin.Tuple.tupleTooMany
        exact decide_eq_false (by omega)
      refine wpAny_binaryOp_repeat_ref (T := "tuple") (U := "int") (by decide) ⟨_, ho, rfl⟩ (fun s' => typeIs_int s' k t) noFill_tuple_mul F.fills_int_mul F.slot_int_rmul repeat_tuple F.slot_int_index.lookup
        (call_meets F.slot_int_rmul (typeIs_int s k t) F.entry_int_rmul (F.args_int_rmul_2 _ _) (int_rmul_tuple k t l its.toArray n dd sl)
          ⟨ho, rfl, ⟨_, ho, rfl⟩, call_meets F.slot_tuple_mul ⟨_, ho, rfl⟩ F.entry_tuple_mul (F.args_tuple_mul_2 _ _) (tuple_mulW l its.toArray n dd sl k t c0 e1 e2 (by rw [sizeLine_eq] at hm; omega) c4 (by rw [size_rep, List.size_toArray]; exact flen)) ⟨ho, ?_⟩⟩)
      rw [size_rep]
      refine ⟨.ref s.heap.objs.size, _, I.laid (t' := s.toks) (o := .tup (listRep xs k)) (fun b ob q => Heap.get?_push_of_some _ q) (Nat.le_refl _) ?_, rfl, q _ (I.hok.fresh (Nat.le_refl _))⟩
      exact ⟨by unfold listRep; rw [PyProof.Rows.lm_len_rep_flat, Nat.mul_comm]; exact k3, _, r.rep k.toNat, IsTup.new _ _⟩
theorem op_bin (o : Op) : OpR X (binaryOp (opOf o)) (rBin X.K o) := by
  intro pins s σ H x y v u Q I rx ry h
  obtain ⟨m, S, a, b, d, st, va, vb, e, q⟩ := h
  have sz := sm_eq
  unfold binV at e
  split at e
  · cases e
    have va : x = _ := va
    have vb : y = _ := vb
    subst va vb
    exact op_add pins s σ H _ _ v u Q I rx ry ⟨_, _, rfl, rfl, q.same st rfl⟩
  · rename_i as bs
    obtain ⟨hl, rfl⟩ := lift_some e
    have hl := of_decide_eq_true hl
    obtain ⟨p1, xs, rfl, t1, r1⟩ := va
    obtain ⟨p2, ys, rfl, t2, r2⟩ := vb
    refine op_catA pins s σ H _ _ v u Q I rx ry ⟨p1, p2, xs, ys, rfl, rfl, t1, t2, by rw [r1.length, r2.length, ← sz]; exact hl, fun e => ?_, fun _ e => ?_, fun _ _ => q.tupN st (r1.append r2)⟩
    · exact q.tupS st t2 (by rw [r1.nil_iff.mp e]; exact r2)
    · exact q.tupS st t1 (by rw [r2.nil_iff.mp e, List.append_nil]; exact r1)
  · rename_i as bs
    obtain ⟨hl, rfl⟩ := lift_some e
    have hl := of_decide_eq_true hl
    obtain ⟨p1, xs, rfl, t1, n1, r1⟩ := va
    obtain ⟨p2, ys, rfl, t2, n2, r2⟩ := vb
    exact op_cat pins s σ H _ _ v u Q I rx ry ⟨p1, p2, xs, ys, rfl, rfl, t1, t2, by rw [r1.length, r2.length, ← sz]; exact hl, q.lstN st (r1.append r2)⟩
  · rename_i as bs
    obtain ⟨hl, rfl⟩ := lift_some e
    have hl := of_decide_eq_true hl
    have va : x = _ := va
    have vb : y = _ := vb
    subst va vb
    exact op_add_str pins s σ H _ _ v u Q I rx ry ⟨_, _, rfl, rfl, by rw [← sz]; exact hl, q.same st rfl⟩
  · cases e
    have va : x = _ := va
    have vb : y = _ := vb
    subst va vb
    exact op_sub pins s σ H _ _ v u Q I rx ry ⟨_, _, rfl, rfl, q.same st rfl⟩
  · obtain ⟨hl, rfl⟩ := lift_some e
    have va : x = _ := va
    have vb : y = _ := vb
    subst va vb
    refine op_mul pins s σ H _ _ v u Q I rx ry ⟨_, _, rfl, rfl, ?_, q.same st rfl⟩
    unfold mulOk at hl
    simp only [Bool.or_eq_true, Bool.and_eq_true, decide_eq_true_eq] at hl
    exact hl
  · obtain ⟨hl, rfl⟩ := lift_some e
    obtain ⟨p1, xs, rfl, t1, r1⟩ := va
    have vb : y = _ := vb
    subst vb
    exact op_repA pins s σ H _ _ v u Q I rx ry ⟨p1, _, xs, rfl, rfl, t1, by rw [r1.length]; exact hl, fun e => q.tupS st e (r1.rep _), q.tupN st (r1.rep _)⟩
  · obtain ⟨hl, rfl⟩ := lift_some e
    obtain ⟨p1, xs, rfl, t1, n1, r1⟩ := va
    have vb : y = _ := vb
    subst vb
    obtain ⟨k1, k2, k3⟩ := repOk_ok hl
    exact op_rep pins s σ H _ _ v u Q I rx ry ⟨p1, _, xs, rfl, rfl, t1, by omega, by omega, by rw [r1.length, ← sz]; exact k3, q.lstN st (r1.rep _)⟩
  · obtain ⟨hl, rfl⟩ := lift_some e
    have va : x = _ := va
    have vb : y = _ := vb
    subst va vb
    simp only [Bool.and_eq_true, decide_eq_true_eq] at hl
    exact op_fdivN pins s σ H _ _ v u Q I rx ry ⟨_, _, rfl, rfl, hl, q.same st rfl⟩
  · obtain ⟨hl, rfl⟩ := lift_some e
    have va : x = _ := va
    have vb : y = _ := vb
    subst va vb
    exact op_modN pins s σ H _ _ v u Q I rx ry ⟨_, _, rfl, rfl, of_decide_eq_true hl, q.same st rfl⟩
  · obtain ⟨hl, rfl⟩ := lift_some e
    have va : x = _ := va
    have vb : y = _ := vb
    subst va vb
    simp only [Bool.and_eq_true, decide_eq_true_eq] at hl
    exact op_pow pins s σ H _ _ v u Q I rx ry ⟨_, _, rfl, rfl, ⟨hl.1.1, hl.1.2, hl.2⟩, q.same st rfl⟩
  · cases e
def rAug (K : PySem.W.Frag) (o : Op) : R2 := fun x y H Q => ∃ m S a b d, Sto K m H S ∧ VD K m H a x ∧ VD K m H b y ∧ augV o a b = some d ∧ Hnd K m H S Q d
theorem op_aug (o : Op) : OpR X (inplaceOp (opOf o)) (rAug X.K o) := by
  intro pins s σ H x y v u Q I rx ry h
  obtain ⟨m, S, a, b, d, st, va, vb, e, q⟩ := h
  unfold augV at e
  split at e
  · cases e
    have va : x = _ := va
    have vb : y = _ := vb
    subst va vb
    exact iop_add pins s σ H _ _ v u Q I rx ry ⟨_, _, rfl, rfl, q.same st rfl⟩
  · cases e
    have va : x = _ := va
    have vb : y = _ := vb
    subst va vb
    exact iop_sub pins s σ H _ _ v u Q I rx ry ⟨_, _, rfl, rfl, q.same st rfl⟩
  · cases e

/-! ### comparisons -/
def cmOf : Cm → CmpOp
  | .eq => .Eq | .ne => .NotEq | .lt => .Lt | .le => .LtE | .gt => .Gt | .ge => .GtE | .isN => .Is | .notN => .IsNot | .inn => .In | .nin => .NotIn
/-- a value alone: a list of the store is told as a list -/
def HndB (H : Hp) (Q : VK) (b : Bool) : Prop := Q (.bl b) H
def rCmp (K : PySem.W.Frag) (o : Cm) : R2 := fun x y H Q => ∃ m S a b t, Sto K m H S ∧ VD K m H a x ∧ VD K m H b y ∧ cmpV o a b = some t ∧ Q (.bl t) H
mutual
theorem toP_plain : ∀ {d : D} {p : PyData}, toP d = some p → p.plain = true
  | .non, _, e => by
    cases e
    rfl
  | .bl _, _, e => by
    cases e
    rfl
  | .int _, _, e => by
    cases e
    rfl
  | .str _, _, e => by
    cases e
    rfl
  | .tup ds, _, e => by
    unfold toP at e
    obtain ⟨ps, e1, rfl⟩ := Option.map_eq_some_iff.mp e
    exact toPs_plain e1
  | .lst ds, _, e => by
    unfold toP at e
    obtain ⟨ps, e1, rfl⟩ := Option.map_eq_some_iff.mp e
    exact toPs_plain e1
  | .fro _, _, e => by cases e
  | .ref _, _, e => by cases e
  | .dic, _, e => by cases e
theorem toPs_plain : ∀ {ds : List D} {ps : List PyData}, toPs ds = some ps → PyData.plainAll ps = true
  | [], _, e => by
    cases e
    rfl
  | d :: ds, _, e => by
    unfold toPs at e
    split at e
    · rename_i p ps' e1 e2
      cases e
      show (PyData.plain p && PyData.plainAll ps') = true
      rw [toP_plain e1, toPs_plain e2]
      rfl
    · cases e
end
section
variable {pins : List (Addr × Obj)} {σ : L2.St} {H : Hp} {s : Shared} {m : Am}
theorem VD.reads (I : L2.Inv X pins σ H s) {d : D} {v : V} {u : Value} {p : PyData} (h : VD X.K m H d v) (r : L2.RelV v u) (e : toP d = some p) : ∃ as, Reads s.heap u p as := Dp.reads I p v u (h.dp e) r
theorem VDs.reads (I : L2.Inv X pins σ H s) {ds : List D} {vs : List V} {us : List Value} {ps : List PyData} (h : VDs X.K m H ds vs) (r : Vals vs us) (e : toPs ds = some ps) : ∃ as, ReadsAll s.heap us ps as := Dp.readsAll I ps vs us (h.dp e) r
end
theorem eqD_ok {a b : D} {t : Bool} (h : eqD a b = some t) : ∃ p q, toP a = some p ∧ toP b = some q ∧ min p.depth q.depth ≤ 60 ∧ t = PyData.eqv p q := by
  unfold eqD at h
  split at h
  · rename_i p q e1 e2
    split at h
    · cases h
      exact ⟨p, q, e1, e2, by assumption, rfl⟩
    · cases h
  · cases h
theorem inAll_ok {a : D} {ds : List D} {t : Bool} (h : inAll a ds = some t) : ∃ p ps, toP a = some p ∧ toPs ds = some ps ∧ min (PyData.depthAll ps) p.depth ≤ 60 ∧ t = ps.any fun y => PyData.eqv y p := by
  unfold inAll at h
  split at h
  · rename_i p q e1 e2
    split at h
    · cases h
      exact ⟨p, q, e1, e2, by assumption, rfl⟩
    · cases h
  · cases h
theorem ltD_ok {a b : D} {t : Bool} (h : ltD a b = some t) : ∃ p q, toP a = some p ∧ toP b = some q ∧ min p.depth q.depth ≤ 60 ∧ W.alike p q = true ∧ p ≠ .none ∧ t = W.dataLt p q := by
  unfold ltD at h
  split at h
  · rename_i p q e1 e2
    split at h
    · rename_i c
      simp only [Bool.and_eq_true, decide_eq_true_eq] at c
      cases h
      refine ⟨p, q, e1, e2, c.1.1, c.1.2, fun z => ?_, rfl⟩
      rw [z] at c
      exact absurd c.2 (by decide)
    · cases h
  · cases h
theorem isNon_eq {K : PySem.W.Frag} {m : Am} {H : Hp} {d : D} {v : V} (h : VD K m H d v) : decide (v = .non) = isNon d := by
  cases d with
  | non =>
    have h : v = _ := h
    subst h
    rfl
  | bl b =>
    have h : v = _ := h
    subst h
    rfl
  | int b =>
    have h : v = _ := h
    subst h
    rfl
  | str b =>
    have h : v = _ := h
    subst h
    rfl
  | tup ds =>
    obtain ⟨a, xs, rfl, _⟩ := h
    rfl
  | lst ds =>
    obtain ⟨a, xs, rfl, _⟩ := h
    rfl
  | fro ds =>
    obtain ⟨a, xs, rfl, _⟩ := h
    rfl
  | ref n =>
    obtain ⟨a, rfl, _⟩ := h
    rfl
  | dic =>
    obtain ⟨a, _, rfl, _⟩ := h
    rfl
theorem op_cmp (hu : X.A.units + 64 < cLine) (o : Cm) : OpR X (compareOp (cmOf o)) (rCmp X.K o) := by
  intro pins s σ H x y v u Q I rx ry h
  obtain ⟨m, S, a, b, t, st, va, vb, e, q⟩ := h
  have fin : ∀ {b : Bool}, b = t → EP X pins σ Q (.bool b) s := fun {b} eb => ⟨.bl b, H, I, rfl, by rw [eb]; exact q⟩
  have lt_ : ∀ {a b : D} {x y : V} {v u : Value} {t' : Bool}, VD X.K m H a x → VD X.K m H b y → L2.RelV x v → L2.RelV y u → ltD a b = some t' → (t' = t → wpAny (model X.prog X.w) X.A (compareOp .Lt v u) (EP X pins σ Q) X.xe s) ∧ ((!t') = t → wpAny (model X.prog X.w) X.A (compareOp .GtE v u) (EP X pins σ Q) X.xe s) := fun {a b x y v u t'} va vb rx ry e => by
    obtain ⟨p, p', e1, e2, e3, e4, e5, rfl⟩ := ltD_ok e
    obtain ⟨as, r1⟩ := va.reads I rx e1
    obtain ⟨bs, r2⟩ := vb.reads I ry e2
    exact ⟨fun z => W.lt_data r1 r2 e4 e5 (by omega) (fin z), fun z => W.ge_data r1 r2 e4 e5 (by omega) (fin z)⟩
  have gt_ : ∀ {a b : D} {x y : V} {v u : Value} {t' : Bool}, VD X.K m H a x → VD X.K m H b y → L2.RelV x v → L2.RelV y u → ltD b a = some t' → (t' = t → wpAny (model X.prog X.w) X.A (compareOp .Gt v u) (EP X pins σ Q) X.xe s) ∧ ((!t') = t → wpAny (model X.prog X.w) X.A (compareOp .LtE v u) (EP X pins σ Q) X.xe s) := fun {a b x y v u t'} va vb rx ry e => by
    obtain ⟨p, p', e1, e2, e3, e4, e5, rfl⟩ := ltD_ok e
    obtain ⟨as, r1⟩ := vb.reads I ry e1
    obtain ⟨bs, r2⟩ := va.reads I rx e2
    have e6 := W.ne_none_both e4 e5
    rw [W.alike_comm] at e4
    exact ⟨fun z => W.gt_data r2 r1 e4 e6 (by omega) (fin z), fun z => W.le_data r2 r1 e4 e6 (by omega) (fin z)⟩
  have eq_ : ∀ {a b : D} {x y : V} {v u : Value} {t' : Bool}, VD X.K m H a x → VD X.K m H b y → L2.RelV x v → L2.RelV y u → eqD a b = some t' → (t' = t → wpAny (model X.prog X.w) X.A (compareOp .Eq v u) (EP X pins σ Q) X.xe s) ∧ ((!t') = t → wpAny (model X.prog X.w) X.A (compareOp .NotEq v u) (EP X pins σ Q) X.xe s) := fun {a b x y v u t'} va vb rx ry e => by
    obtain ⟨p, p', e1, e2, e3, rfl⟩ := eqD_ok e
    obtain ⟨as, r1⟩ := va.reads I rx e1
    obtain ⟨bs, r2⟩ := vb.reads I ry e2
    exact ⟨fun z => SeqAt.eq_plain r1 r2 (toP_plain e1) (toP_plain e2) (by omega) (fin z), fun z => SeqAt.ne_plain r1 r2 (toP_plain e1) (toP_plain e2) (by omega) (fin z)⟩
  have in_ : ∀ {a b : D} {x y : V} {v u : Value} {t' : Bool}, VD X.K m H a x → VD X.K m H b y → L2.RelV x v → L2.RelV y u → inD a b = some t' → (t' = t → wpAny (model X.prog X.w) X.A (compareOp .In v u) (EP X pins σ Q) X.xe s) ∧ ((!t') = t → wpAny (model X.prog X.w) X.A (compareOp .NotIn v u) (EP X pins σ Q) X.xe s) := fun {a b x y v u t'} va vb rx ry e => by
    cases b with
    | tup ds =>
      obtain ⟨p, ps, e1, e2, e3, rfl⟩ := inAll_ok e
      obtain ⟨as, r1⟩ := va.reads I rx e1
      obtain ⟨bs, r2⟩ := vb.reads I ry (show toP (.tup ds) = some (.tuple ps) by unfold toP; rw [e2]; rfl)
      exact ⟨fun z => SeqAt.in_tuple_data r2 r1 (toPs_plain e2) (toP_plain e1) (by omega) (fin z), fun z => SeqAt.notIn_tuple_data r2 r1 (toPs_plain e2) (toP_plain e1) (by omega) (fin z)⟩
    | lst ds =>
      obtain ⟨p, ps, e1, e2, e3, rfl⟩ := inAll_ok e
      obtain ⟨as, r1⟩ := va.reads I rx e1
      obtain ⟨bs, r2⟩ := vb.reads I ry (show toP (.lst ds) = some (.list ps) by unfold toP; rw [e2]; rfl)
      exact ⟨fun z => SeqAt.in_list_data r2 r1 (toPs_plain e2) (toP_plain e1) (by omega) (fin z), fun z => SeqAt.notIn_list_data r2 r1 (toPs_plain e2) (toP_plain e1) (by omega) (fin z)⟩
    | _ => cases e
  unfold cmpV at e
  split at e
  · exact (eq_ va vb rx ry e).1 rfl
  · obtain ⟨t', e0, e'⟩ := Option.map_eq_some_iff.mp e
    exact (eq_ va vb rx ry e0).2 e'
  · cases e
    have va : x = _ := va
    have vb : y = _ := vb
    subst va vb
    exact op_lt pins s σ H _ _ v u Q I rx ry ⟨_, _, rfl, rfl, q⟩
  · cases e
    have va : x = _ := va
    have vb : y = _ := vb
    subst va vb
    exact op_le pins s σ H _ _ v u Q I rx ry ⟨_, _, rfl, rfl, q⟩
  · cases e
    have va : x = _ := va
    have vb : y = _ := vb
    subst va vb
    exact op_gt pins s σ H _ _ v u Q I rx ry ⟨_, _, rfl, rfl, q⟩
  · cases e
    have va : x = _ := va
    have vb : y = _ := vb
    subst va vb
    exact op_ge pins s σ H _ _ v u Q I rx ry ⟨_, _, rfl, rfl, q⟩
  · exact (lt_ va vb rx ry e).1 rfl
  · exact (gt_ va vb rx ry e).1 rfl
  · obtain ⟨t', e0, e'⟩ := Option.map_eq_some_iff.mp e
    exact (gt_ va vb rx ry e0).2 e'
  · obtain ⟨t', e0, e'⟩ := Option.map_eq_some_iff.mp e
    exact (lt_ va vb rx ry e0).2 e'
  · exact (in_ va vb rx ry e).1 rfl
  · obtain ⟨t', e0, e'⟩ := Option.map_eq_some_iff.mp e
    exact (in_ va vb rx ry e0).2 e'
  · cases e
    have vb : y = _ := vb
    subst vb
    exact op_isN pins s σ H _ _ v u Q I rx ry ⟨rfl, by rw [isNon_eq va]; exact q⟩
  · cases e
    have vb : y = _ := vb
    subst vb
    exact op_notN pins s σ H _ _ v u Q I rx ry ⟨rfl, by rw [isNon_eq va]; exact q⟩
  · cases e

/-! ### a value as it stands: a list of the store is read as a list -/
/-- what a value is read as -/
inductive Peek (K : PySem.W.Frag) (m : Am) (H : Hp) : D → V → Prop where
  | val {d : D} {v : V} : VD K m H d v → Peek K m H d v
  | lst {ds : List D} {a : Addr} {xs : List V} : H a = some (.lst xs) → VDs K m H ds xs → Peek K m H (.lst ds) (.ref a)
theorem Peek.sq {K : PySem.W.Frag} {m : Am} {H : Hp} {d : D} {v : V} {ds : List D} (p : Peek K m H d v) (h : itemsV d = some ds) : ∃ a xs, v = .ref a ∧ VDs K m H ds xs ∧ ((d = .tup ds ∧ SqT K H a xs) ∨ ((d = .lst ds ∨ d = .fro ds) ∧ SqL K H a xs)) := by
  cases p with
  | val p =>
    unfold itemsV at h
    split at h
    · cases h
      obtain ⟨a, xs, rfl, q1, q2⟩ := p
      exact ⟨a, xs, rfl, q2, .inl ⟨rfl, q1⟩⟩
    · cases h
      obtain ⟨a, xs, rfl, q1, _, q2⟩ := p
      exact ⟨a, xs, rfl, q2, .inr ⟨.inl rfl, SqL.of q1⟩⟩
    · cases h
      obtain ⟨a, xs, rfl, q1, q2⟩ := p
      exact ⟨a, xs, rfl, q2, .inr ⟨.inr rfl, q1.sq⟩⟩
    · cases h
  | lst q1 q2 =>
    cases h
    exact ⟨_, _, rfl, q2, .inr ⟨.inl rfl, SqL.of q1⟩⟩
def rIdx (K : PySem.W.Frag) : R2 := fun x y H Q => ∃ m S a b d, Sto K m H S ∧ Peek K m H a x ∧ VD K m H b y ∧ idxV a b = some d ∧ Hnd K m H S Q d
theorem ix_any : IxR X (rIdx X.K) := by
  intro value slice pins s σ H x y v u Q I rx ry h hs
  obtain ⟨m, S, a, b, d, st, va, vb, e, q⟩ := h
  unfold idxV at e
  split at e
  · obtain ⟨p, xs, rfl, r, ⟨_, t⟩ | ⟨z, _⟩⟩ := va.sq rfl
    · have vb : y = _ := vb
      subst vb
      obtain ⟨w, e', r'⟩ := r.at e
      exact ix_tup value slice pins s σ H _ _ v u Q I rx ry ⟨p, xs, _, w, rfl, rfl, t, e', q.same st r'⟩ hs
    · rcases z with z | z <;> cases z
  · obtain ⟨p, xs, rfl, r, ⟨z, _⟩ | ⟨_, t⟩⟩ := va.sq rfl
    · cases z
    · have vb : y = _ := vb
      subst vb
      obtain ⟨w, e', r'⟩ := r.at e
      exact ix_list value slice pins s σ H _ _ v u Q I rx ry ⟨p, xs, _, w, rfl, rfl, t, e', q.same st r'⟩ hs
  · obtain ⟨p, xs, rfl, r, ⟨z, _⟩ | ⟨_, t⟩⟩ := va.sq rfl
    · cases z
    · have vb : y = _ := vb
      subst vb
      obtain ⟨w, e', r'⟩ := r.at e
      exact ix_list value slice pins s σ H _ _ v u Q I rx ry ⟨p, xs, _, w, rfl, rfl, t, e', q.same st r'⟩ hs
  · rename_i z i
    split at e
    · rename_i hz
      cases va with
      | val va =>
        have va : x = _ := va
        have vb : y = _ := vb
        subst va vb
        cases e1 : atI z.cps.toList i with
        | none =>
          rw [e1] at e
          cases e
        | some c =>
          rw [e1] at e
          cases e
          exact ix_str value slice pins s σ H _ _ v u Q I rx ry ⟨z, i, c, rfl, rfl, by rw [← sm_eq]; exact hz, e1, q.same st rfl⟩ hs
    · cases e
  · cases e
def rSl (K : PySem.W.Frag) : V → Option Int → Option Int → Hp → VK → Prop := fun x lo hi H Q => ∃ m S a d, Sto K m H S ∧ Peek K m H a x ∧ slV a lo hi = some d ∧ Hnd K m H S Q d
theorem cut_whole {xs : List V} {lo hi : Option Int} (h : HT.sIx xs.length 0 lo = 0 ∧ HT.sIx xs.length xs.length hi = xs.length) : cutV xs lo hi = xs := by
  unfold cutV
  rw [h.1, h.2]
  simp
theorem sl_any : SlR X (rSl X.K) := by
  intro pins s σ H x v vl vu lo hi sl Q I rx hs pl pu h
  obtain ⟨m, S, a, d, st, va, e, q⟩ := h
  unfold slV at e
  split at e
  · cases e
    obtain ⟨p, xs, rfl, r, ⟨_, t⟩ | ⟨z, _⟩⟩ := va.sq rfl
    · refine sl_tupA pins s σ H _ v vl vu _ _ sl Q I rx hs pl pu ⟨p, xs, rfl, t, fun w => ?_, fun _ => q.tupN st (r.cut _ _)⟩
      refine q.tupS st t ?_
      have := r.cut lo hi
      rw [cut_whole w] at this
      exact this
    · rcases z with z | z <;> cases z
  · cases e
    obtain ⟨p, xs, rfl, r, ⟨z, _⟩ | ⟨_, t⟩⟩ := va.sq rfl
    · cases z
    · exact sl_list pins s σ H _ v vl vu _ _ sl Q I rx hs pl pu ⟨p, xs, rfl, t, q.lstN st (r.cut _ _)⟩
  · cases e
    obtain ⟨p, xs, rfl, r, ⟨z, _⟩ | ⟨_, t⟩⟩ := va.sq rfl
    · cases z
    · exact sl_list pins s σ H _ v vl vu _ _ sl Q I rx hs pl pu ⟨p, xs, rfl, t, q.lstN st (r.cut _ _)⟩
  · cases e
/-- truth -/
theorem Peek.tru {m : Am} {H : Hp} {d : D} {v : V} {b : Bool} (p : Peek X.K m H d v) (h : truV d = some b) : TruV X.K v H b := by
  unfold truV at h
  split at h
  · cases h
    cases p with
    | val p =>
      have p : v = _ := p
      subst p
      rfl
  · cases h
    cases p with
    | val p =>
      have p : v = _ := p
      subst p
      rfl
  · cases h
    cases p with
    | val p =>
      have p : v = _ := p
      subst p
      rfl
  · rename_i z
    split at h
    · rename_i hz
      cases h
      cases p with
      | val p =>
        have p : v = _ := p
        subst p
        exact ⟨by rw [← sm_eq]; exact hz, rfl⟩
    · cases h
  · cases h
    obtain ⟨a, xs, rfl, r, ⟨_, t⟩ | ⟨z, _⟩⟩ := p.sq rfl
    · refine .inr (.inl ⟨xs, t, ?_⟩)
      exact r.empty
    · rcases z with z | z <;> cases z
  · cases h
    obtain ⟨a, xs, rfl, r, ⟨z, _⟩ | ⟨_, t⟩⟩ := p.sq rfl
    · cases z
    · refine .inl ⟨xs, t, ?_⟩
      exact r.empty
  · cases h
    obtain ⟨a, xs, rfl, r, ⟨z, _⟩ | ⟨_, t⟩⟩ := p.sq rfl
    · cases z
    · refine .inl ⟨xs, t, ?_⟩
      exact r.empty
  · cases h
  · cases h
end
end Ev
set_option Elab.async false
set_option linter.all false
set_option maxRecDepth 100000
set_option maxHeartbeats 4000000
namespace Ev
open PySem PySem.Spec PyProof.Rows L2
/-- arguments as they stand -/
inductive Peeks (K : PySem.W.Frag) (m : Am) (H : Hp) : List D → List V → Prop where
  | nil : Peeks K m H [] []
  | cons {d : D} {v : V} {ds : List D} {vs : List V} : Peek K m H d v → Peeks K m H ds vs → Peeks K m H (d :: ds) (v :: vs)
theorem VDs.peeks {K : PySem.W.Frag} {m : Am} {H : Hp} : ∀ {ds : List D} {vs : List V}, VDs K m H ds vs → Peeks K m H ds vs
  | [], _, h => by
    have h : _ = _ := h
    subst h
    exact .nil
  | d :: ds, _, h => by
    obtain ⟨v, r, rfl, q1, q2⟩ := h
    exact .cons (.val q1) (VDs.peeks q2)
def rBi (K : PySem.W.Frag) (b : Bi) : List V → Hp → VK → Prop := fun vs H Q => ∃ m S ds d, Sto K m H S ∧ Peeks K m H ds vs ∧ biV b ds = some d ∧ Hnd K m H S Q d
theorem one1_ok {f : D → Option D} {ds : List D} {d : D} (h : one1 f ds = some d) : ∃ x, ds = [x] ∧ f x = some d := by
  unfold one1 at h
  split at h
  · exact ⟨_, rfl, h⟩
  · cases h
theorem two2_ok {f : Int → Int → D} {ds : List D} {d : D} (h : two2 f ds = some d) : ∃ i j, ds = [.int i, .int j] ∧ d = f i j := by
  unfold two2 at h
  split at h
  · cases h
    exact ⟨_, _, rfl, rfl⟩
  · cases h
theorem Peeks.one {K : PySem.W.Frag} {m : Am} {H : Hp} {d : D} {vs : List V} (h : Peeks K m H [d] vs) : ∃ v, vs = [v] ∧ Peek K m H d v := by
  cases h with
  | cons p r =>
    cases r
    exact ⟨_, rfl, p⟩
theorem Peeks.two {K : PySem.W.Frag} {m : Am} {H : Hp} {d e : D} {vs : List V} (h : Peeks K m H [d, e] vs) : ∃ v w, vs = [v, w] ∧ Peek K m H d v ∧ Peek K m H e w := by
  cases h with
  | cons p r =>
    cases r with
    | cons p2 r =>
      cases r
      exact ⟨_, _, rfl, p, p2⟩
theorem Peek.int {K : PySem.W.Frag} {m : Am} {H : Hp} {i : Int} {v : V} (h : Peek K m H (.int i) v) : v = .int i := by
  cases h with
  | val h => exact h
theorem Peek.bl {K : PySem.W.Frag} {m : Am} {H : Hp} {i : Bool} {v : V} (h : Peek K m H (.bl i) v) : v = .bl i := by
  cases h with
  | val h => exact h
theorem Peek.str {K : PySem.W.Frag} {m : Am} {H : Hp} {i : Str} {v : V} (h : Peek K m H (.str i) v) : v = .str i := by
  cases h with
  | val h => exact h
section
variable {X : Cx}
/-- the truth of the items -/
theorem truN_ok {m : Am} {H : Hp} {pins : List (Addr × Obj)} {σ : L2.St} {s : Shared} (I : L2.Inv X pins σ H s) {d : D} {v : V} {p : PyData} {b : Bool} (h : VD X.K m H d v) (e : toP d = some p) (t : truN d = some b) : p.truthy = b ∧ p.fits63 := by
  have hl := line63
  have hs : (sizeLine : Nat) < 2 ^ 63 := line63
  have len_ : ∀ {ds : List D} {ps : List PyData}, toPs ds = some ps → ps.length = ds.length := fun {ds} => by
    induction ds with
    | nil =>
      intro ps e1
      cases e1
      rfl
    | cons d ds ih =>
      intro ps e1
      unfold toPs at e1
      split at e1
      · rename_i e2 e3
        cases e1
        rw [List.length_cons, List.length_cons, ih e3]
      · cases e1
  cases d with
  | non =>
    cases t
    cases e
    exact ⟨rfl, trivial⟩
  | bl b =>
    cases t
    cases e
    exact ⟨rfl, trivial⟩
  | int i =>
    cases t
    cases e
    exact ⟨rfl, trivial⟩
  | tup ds =>
    cases t
    unfold toP at e
    obtain ⟨ps, e1, rfl⟩ := Option.map_eq_some_iff.mp e
    obtain ⟨a, xs, rfl, q1, q2⟩ := h
    have hz := (I.tuple q1).choose_spec.2.2
    have l1 := len_ e1
    have l2 := q2.length
    refine ⟨?_, ?_⟩
    · show (!ps.isEmpty) = _
      cases ps <;> cases ds <;> first | rfl | (cases l1)
    · show ((ps.length : Nat) : Int) < 2 ^ 63
      omega
  | lst ds =>
    cases t
    unfold toP at e
    obtain ⟨ps, e1, rfl⟩ := Option.map_eq_some_iff.mp e
    obtain ⟨a, xs, rfl, q1, _, q2⟩ := h
    have hz := (I.list (SqL.of q1)).choose_spec.2.2
    have l1 := len_ e1
    have l2 := q2.length
    refine ⟨?_, ?_⟩
    · show (!ps.isEmpty) = _
      cases ps <;> cases ds <;> first | rfl | (cases l1)
    · show ((ps.length : Nat) : Int) < 2 ^ 63
      omega
  | str x => cases t
  | fro ds => cases t
  | ref n => cases t
  | dic => cases t
theorem truNs_ok {m : Am} {H : Hp} {pins : List (Addr × Obj)} {σ : L2.St} {s : Shared} (I : L2.Inv X pins σ H s) : ∀ {ds : List D} {vs : List V} {ps : List PyData} {bs : List Bool}, VDs X.K m H ds vs → toPs ds = some ps → truNs ds = some bs →
    ps.map PyData.truthy = bs ∧ ∀ x ∈ ps, x.fits63
  | [], _, _, _, _, e, t => by
    cases e
    cases t
    exact ⟨rfl, fun _ h => by cases h⟩
  | d :: ds, _, _, _, h, e, t => by
    obtain ⟨v, r, rfl, q1, q2⟩ := h
    unfold toPs at e
    unfold truNs at t
    split at e
    · rename_i p ps e1 e2
      cases e
      split at t
      · rename_i b bs t1 t2
        cases t
        obtain ⟨a1, a2⟩ := truN_ok I q1 e1 t1
        obtain ⟨b1, b2⟩ := truNs_ok I q2 e2 t2
        refine ⟨by rw [List.map_cons, a1, b1], fun x hx => ?_⟩
        rcases List.mem_cons.mp hx with rfl | hx
        · exact a2
        · exact b2 x hx
      · cases t
    · cases e
theorem any_map {α : Type} (f : α → Bool) : ∀ l : List α, (l.map f).any id = l.any f
  | [] => rfl
  | x :: r => by rw [List.map_cons, List.any_cons, List.any_cons, any_map f r]; rfl
theorem all_map' {α : Type} (f : α → Bool) : ∀ l : List α, (l.map f).all id = l.all f
  | [] => rfl
  | x :: r => by rw [List.map_cons, List.all_cons, List.all_cons, all_map' f r]; rfl
theorem toIs_toPs : ∀ {ds : List D} {ns : List Int}, toIs ds = some ns → toPs ds = some (ns.map PyData.int)
  | [], _, e => by
    cases e
    rfl
  | d :: ds, _, e => by
    unfold toIs at e
    split at e
    · rename_i i is e1 e2
      cases e
      cases d with
      | int j =>
        cases e1
        unfold toPs
        rw [toIs_toPs e2]
        rfl
      | _ => cases e1
    · cases e
theorem alike_ints (n : Int) (ns : List Int) : W.AlikeAll (PyData.int n :: ns.map PyData.int) := by
  have h : ∀ x ∈ (PyData.int n :: ns.map PyData.int), ∃ i, x = PyData.int i := fun x hx => by
    rcases List.mem_cons.mp hx with rfl | hx
    · exact ⟨n, rfl⟩
    · obtain ⟨i, _, rfl⟩ := List.mem_map.mp hx
      exact ⟨i, rfl⟩
  refine ⟨fun x hx y hy => ?_, fun x hx => ?_⟩
  · obtain ⟨i, rfl⟩ := h x hx
    obtain ⟨j, rfl⟩ := h y hy
    rfl
  · obtain ⟨i, rfl⟩ := h x hx
    exact fun z => by cases z
theorem depth_ints (n : Int) : ∀ ns : List Int, PyData.depthAll (PyData.int n :: ns.map PyData.int) = 0
  | [] => rfl
  | k :: r => by
    have := depth_ints k r
    show max 0 (PyData.depthAll (PyData.int k :: r.map PyData.int)) = 0
    rw [this]
    rfl
theorem reads_int {h : Heap} {v : Value} {i : Int} {as : List Addr} (r : Reads h v (.int i) as) : ∃ t, v = .int i t := by
  cases r
  exact ⟨_, rfl⟩
theorem call_len_ : CallR X (.builtin "len") (rBi X.K .len) := by
  intro pins s σ H xs us Q I r h
  obtain ⟨m, S, ds, d, st, pk, e, q⟩ := h
  obtain ⟨x, rfl, e0⟩ := one1_ok e
  obtain ⟨v, rfl, pk1⟩ := pk.one
  obtain ⟨n, en, rfl⟩ := Option.map_eq_some_iff.mp e0
  have q : Q (.int n) H := q.same st rfl
  unfold lenV at en
  split at en
  · cases en
    obtain ⟨a, ys, rfl, r', ⟨_, t⟩ | ⟨z, _⟩⟩ := pk1.sq rfl
    · rw [← r'.length] at q
      exact call_len_seq pins s σ H _ us Q I r ⟨a, ys, rfl, .inr t, q⟩
    · rcases z with z | z <;> cases z
  · cases en
    obtain ⟨a, ys, rfl, r', ⟨z, _⟩ | ⟨_, t⟩⟩ := pk1.sq rfl
    · cases z
    · rw [← r'.length] at q
      exact call_len_seq pins s σ H _ us Q I r ⟨a, ys, rfl, .inl t, q⟩
  · cases en
    obtain ⟨a, ys, rfl, r', ⟨z, _⟩ | ⟨_, t⟩⟩ := pk1.sq rfl
    · cases z
    · rw [← r'.length] at q
      exact call_len_seq pins s σ H _ us Q I r ⟨a, ys, rfl, .inl t, q⟩
  · split at en
    · rename_i hz
      cases en
      have e := pk1.str
      subst e
      exact call_len_str pins s σ H _ us Q I r ⟨_, rfl, by rw [← sm_eq]; exact hz, q⟩
    · cases en
  · cases en
theorem call_abs_ : CallR X (.builtin "abs") (rBi X.K .abs) := by
  intro pins s σ H xs us Q I r h
  obtain ⟨m, S, ds, d, st, pk, e, q⟩ := h
  obtain ⟨x, rfl, e0⟩ := one1_ok e
  obtain ⟨v, rfl, pk1⟩ := pk.one
  cases x <;> first | (cases e0; done) | skip
  cases e0
  have e := pk1.int
  subst e
  exact L2.call_abs pins s σ H _ us Q I r ⟨_, rfl, q.same st rfl⟩
theorem call_int_ : CallR X (.type "int") (rBi X.K .int) := by
  intro pins s σ H xs us Q I r h
  obtain ⟨m, S, ds, d, st, pk, e, q⟩ := h
  obtain ⟨x, rfl, e0⟩ := one1_ok e
  obtain ⟨v, rfl, pk1⟩ := pk.one
  cases x <;> first | (cases e0; done) | skip
  · cases e0
    have e := pk1.bl
    subst e
    exact call_int1 pins s σ H _ us Q I r (.inr ⟨_, rfl, q.same st rfl⟩)
  · cases e0
    have e := pk1.int
    subst e
    exact call_int1 pins s σ H _ us Q I r (.inl ⟨_, rfl, q.same st rfl⟩)
theorem call_tuple_ : CallR X (.type "tuple") (rBi X.K .tuple) := by
  intro pins s σ H xs us Q I r h
  obtain ⟨m, S, ds, d, st, pk, e, q⟩ := h
  obtain ⟨x, rfl, e0⟩ := one1_ok e
  obtain ⟨v, rfl, pk1⟩ := pk.one
  obtain ⟨ds, e1, rfl⟩ := Option.map_eq_some_iff.mp e0
  obtain ⟨a, ys, rfl, r', ⟨_, t⟩ | ⟨_, t⟩⟩ := pk1.sq e1
  · exact call_tuple_of pins s σ H _ us Q I r ⟨a, ys, rfl, .inr ⟨t, q.tupS st t r'⟩⟩
  · exact call_tuple_of pins s σ H _ us Q I r ⟨a, ys, rfl, .inl ⟨t, q.tupN st r'⟩⟩
theorem call_list_ : CallR X (.type "list") (rBi X.K .list) := by
  intro pins s σ H xs us Q I r h
  obtain ⟨m, S, ds, d, st, pk, e, q⟩ := h
  obtain ⟨x, rfl, e0⟩ := one1_ok e
  obtain ⟨v, rfl, pk1⟩ := pk.one
  obtain ⟨ds, e1, rfl⟩ := Option.map_eq_some_iff.mp e0
  obtain ⟨a, ys, rfl, r', ⟨_, t⟩ | ⟨_, t⟩⟩ := pk1.sq e1
  · exact call_list_of pins s σ H _ us Q I r ⟨a, ys, rfl, .inr t, q.lstN st r'⟩
  · exact call_list_of pins s σ H _ us Q I r ⟨a, ys, rfl, .inl t, q.lstN st r'⟩
theorem call_any_ (hc : X.calm = true) : CallR X (.builtin "any") (rBi X.K .any) := by
  intro pins s σ H xs us Q I r h
  obtain ⟨m, S, ds, d, st, pk, e, q⟩ := h
  obtain ⟨x, rfl, e0⟩ := one1_ok e
  obtain ⟨v, rfl, pk1⟩ := pk.one
  obtain ⟨ds, e1, e⟩ := Option.bind_eq_some_iff.mp e0
  obtain ⟨ps, e2, e⟩ := Option.bind_eq_some_iff.mp e
  obtain ⟨bs, e3, rfl⟩ := Option.map_eq_some_iff.mp e
  obtain ⟨a, ys, rfl, r', t⟩ := pk1.sq e1
  obtain ⟨u, rfl, ru⟩ := vals1 r
  cases ru
  obtain ⟨f1, f2⟩ := truNs_ok I r' e2 e3
  have q : Q (.bl (ps.any PyData.truthy)) H := by
    rw [← f1, any_map] at q
    exact q.same st rfl
  rcases t with ⟨_, t⟩ | ⟨_, t⟩
  · obtain ⟨its, rv, p, _⟩ := I.tuple t
    obtain ⟨as, ra⟩ := r'.reads I rv e2
    exact W.any_tuple_data (I.ok.hd hc) p ra (toPs_plain e2) f2 fun h' tk hk => ⟨.bl _, H, I.kept hk, rfl, q⟩
  · obtain ⟨its, rv, p, _⟩ := I.list t
    obtain ⟨as, ra⟩ := r'.reads I rv e2
    exact W.any_list_data (I.ok.hd hc) p.isList ra (toPs_plain e2) f2 fun h' tk hk => ⟨.bl _, H, I.kept hk, rfl, q⟩
theorem call_all_ (hc : X.calm = true) : CallR X (.builtin "all") (rBi X.K .all) := by
  intro pins s σ H xs us Q I r h
  obtain ⟨m, S, ds, d, st, pk, e, q⟩ := h
  obtain ⟨x, rfl, e0⟩ := one1_ok e
  obtain ⟨v, rfl, pk1⟩ := pk.one
  obtain ⟨ds, e1, e⟩ := Option.bind_eq_some_iff.mp e0
  obtain ⟨ps, e2, e⟩ := Option.bind_eq_some_iff.mp e
  obtain ⟨bs, e3, rfl⟩ := Option.map_eq_some_iff.mp e
  obtain ⟨a, ys, rfl, r', t⟩ := pk1.sq e1
  obtain ⟨u, rfl, ru⟩ := vals1 r
  cases ru
  obtain ⟨f1, f2⟩ := truNs_ok I r' e2 e3
  have q : Q (.bl (ps.all PyData.truthy)) H := by
    rw [← f1, all_map'] at q
    exact q.same st rfl
  rcases t with ⟨_, t⟩ | ⟨_, t⟩
  · obtain ⟨its, rv, p, _⟩ := I.tuple t
    obtain ⟨as, ra⟩ := r'.reads I rv e2
    exact W.all_tuple_data (I.ok.hd hc) p ra (toPs_plain e2) f2 fun h' tk hk => ⟨.bl _, H, I.kept hk, rfl, q⟩
  · obtain ⟨its, rv, p, _⟩ := I.list t
    obtain ⟨as, ra⟩ := r'.reads I rv e2
    exact W.all_list_data (I.ok.hd hc) p.isList ra (toPs_plain e2) f2 fun h' tk hk => ⟨.bl _, H, I.kept hk, rfl, q⟩
theorem call_max_ (hc : X.calm = true) (hu : X.A.units + 64 < cLine) : CallR X (.builtin "max") (rBi X.K .max) := by
  intro pins s σ H xs us Q I r h
  obtain ⟨m, S, ds, d, st, pk, e, q⟩ := h
  obtain ⟨x, rfl, e0⟩ := one1_ok e
  obtain ⟨v, rfl, pk1⟩ := pk.one
  obtain ⟨ds, e1, e⟩ := Option.bind_eq_some_iff.mp e0
  obtain ⟨ns, e2, e⟩ := Option.bind_eq_some_iff.mp e
  obtain ⟨k, e3, rfl⟩ := Option.map_eq_some_iff.mp e
  obtain ⟨a, ys, rfl, r', t⟩ := pk1.sq e1
  obtain ⟨u, rfl, ru⟩ := vals1 r
  cases ru
  cases ns with
  | nil => cases e3
  | cons n ns =>
    have e3 : ns.foldl max n = k := Option.some.inj e3
    have q : Q (.int (ns.foldl max n)) H := by
      rw [e3]
      exact q.same st rfl
    have ep := toIs_toPs e2
    rw [List.map_cons] at ep
    have fin : ∀ (v : Value) (h' : Heap) (tk : Nat) (bs : List Addr), Reads h' v (W.maxD (.int n) (ns.map .int)) bs → (∀ b o, s.heap.get? b = some o → h'.get? b = some o) → EP X pins σ Q v { s with heap := h', toks := tk } := fun v h' tk bs rr hk => by
      rw [W.maxD_ints] at rr
      obtain ⟨t, rfl⟩ := reads_int rr
      exact ⟨.int _, H, I.kept hk, ⟨t, rfl⟩, q⟩
    rcases t with ⟨_, t⟩ | ⟨_, t⟩
    · obtain ⟨its, rv, p, _⟩ := I.tuple t
      obtain ⟨as, ra⟩ := r'.reads I rv ep
      exact W.max_tuple_data (I.ok.hd hc) p ra (alike_ints n ns) (by rw [depth_ints]; omega) fun _ v h' tk bs _ rr hk => fin v h' tk bs rr hk
    · obtain ⟨its, rv, p, _⟩ := I.list t
      obtain ⟨as, ra⟩ := r'.reads I rv ep
      exact W.max_list_data (I.ok.hd hc) p.isList ra (alike_ints n ns) (by rw [depth_ints]; omega) fun _ v h' tk bs _ rr hk => fin v h' tk bs rr hk
theorem call_min_ (hc : X.calm = true) (hu : X.A.units + 64 < cLine) : CallR X (.builtin "min") (rBi X.K .min) := by
  intro pins s σ H xs us Q I r h
  obtain ⟨m, S, ds, d, st, pk, e, q⟩ := h
  obtain ⟨x, rfl, e0⟩ := one1_ok e
  obtain ⟨v, rfl, pk1⟩ := pk.one
  obtain ⟨ds, e1, e⟩ := Option.bind_eq_some_iff.mp e0
  obtain ⟨ns, e2, e⟩ := Option.bind_eq_some_iff.mp e
  obtain ⟨k, e3, rfl⟩ := Option.map_eq_some_iff.mp e
  obtain ⟨a, ys, rfl, r', t⟩ := pk1.sq e1
  obtain ⟨u, rfl, ru⟩ := vals1 r
  cases ru
  cases ns with
  | nil => cases e3
  | cons n ns =>
    have e3 : ns.foldl min n = k := Option.some.inj e3
    have q : Q (.int (ns.foldl min n)) H := by
      rw [e3]
      exact q.same st rfl
    have ep := toIs_toPs e2
    rw [List.map_cons] at ep
    have fin : ∀ (v : Value) (h' : Heap) (tk : Nat) (bs : List Addr), Reads h' v (W.minD (.int n) (ns.map .int)) bs → (∀ b o, s.heap.get? b = some o → h'.get? b = some o) → EP X pins σ Q v { s with heap := h', toks := tk } := fun v h' tk bs rr hk => by
      rw [W.minD_ints] at rr
      obtain ⟨t, rfl⟩ := reads_int rr
      exact ⟨.int _, H, I.kept hk, ⟨t, rfl⟩, q⟩
    rcases t with ⟨_, t⟩ | ⟨_, t⟩
    · obtain ⟨its, rv, p, _⟩ := I.tuple t
      obtain ⟨as, ra⟩ := r'.reads I rv ep
      exact W.min_tuple_data (I.ok.hd hc) p ra (alike_ints n ns) (by rw [depth_ints]; omega) fun _ v h' tk bs _ rr hk => fin v h' tk bs rr hk
    · obtain ⟨its, rv, p, _⟩ := I.list t
      obtain ⟨as, ra⟩ := r'.reads I rv ep
      exact W.min_list_data (I.ok.hd hc) p.isList ra (alike_ints n ns) (by rw [depth_ints]; omega) fun _ v h' tk bs _ rr hk => fin v h' tk bs rr hk
theorem call_max2_ (hc : X.calm = true) : CallR X (.builtin "max") (rBi X.K .max2) := by
  intro pins s σ H xs us Q I r h
  obtain ⟨m, S, ds, d, st, pk, e, q⟩ := h
  obtain ⟨i, j, rfl, rfl⟩ := two2_ok e
  obtain ⟨v, w, rfl, p1, p2⟩ := pk.two
  have e1 := p1.int
  have e2 := p2.int
  subst e1 e2
  exact call_max2 hc pins s σ H _ us Q I r ⟨_, _, rfl, q.same st rfl⟩
theorem call_min2_ (hc : X.calm = true) : CallR X (.builtin "min") (rBi X.K .min2) := by
  intro pins s σ H xs us Q I r h
  obtain ⟨m, S, ds, d, st, pk, e, q⟩ := h
  obtain ⟨i, j, rfl, rfl⟩ := two2_ok e
  obtain ⟨v, w, rfl, p1, p2⟩ := pk.two
  have e1 := p1.int
  have e2 := p2.int
  subst e1 e2
  exact call_min2 hc pins s σ H _ us Q I r ⟨_, _, rfl, q.same st rfl⟩
end
end Ev
set_option Elab.async false
set_option linter.all false
set_option maxRecDepth 100000
set_option maxHeartbeats 4000000
namespace Ev
open PySem PySem.Spec PyProof.Rows L2
section
variable {K : PySem.W.Frag} {m : Am} {H : Hp}
mutual
/-- data without refs stand the same beside any store -/
theorem VD.clean : ∀ (d : D) (v : V) (p : PyData), toP d = some p → VD K m H d v → VD K ⟨[], []⟩ H d v
  | .non, _, _, _, q => q
  | .bl _, _, _, _, q => q
  | .int _, _, _, _, q => q
  | .str _, _, _, _, q => q
  | .tup ds, _, p, e, q => by
    obtain ⟨a, xs, e1, q1, q2⟩ := q
    obtain ⟨ps, e2, _⟩ := Option.map_eq_some_iff.mp e
    exact ⟨a, xs, e1, q1, VDs.clean ds xs ps e2 q2⟩
  | .lst ds, _, p, e, q => by
    obtain ⟨a, xs, e1, q1, n, q2⟩ := q
    obtain ⟨ps, e2, _⟩ := Option.map_eq_some_iff.mp e
    exact ⟨a, xs, e1, q1, fun z => (by rcases z with z | z <;> cases z), VDs.clean ds xs ps e2 q2⟩
  | .fro ds, _, p, e, q => by cases e
  | .ref n, _, p, e, q => by cases e
  | .dic, _, p, e, q => by cases e
theorem VDs.clean : ∀ (ds : List D) (vs : List V) (ps : List PyData), toPs ds = some ps → VDs K m H ds vs → VDs K ⟨[], []⟩ H ds vs
  | [], _, _, _, q => q
  | d :: ds, _, ps, e, q => by
    obtain ⟨v, r, e1, q1, q2⟩ := q
    unfold toPs at e
    split at e
    · rename_i p ps' h1 h2
      exact ⟨v, r, e1, VD.clean d v p h1 q1, VDs.clean ds r ps' h2 q2⟩
    · cases e
end
theorem Peek.clean {d : D} {v : V} {p : PyData} (h : Peek K m H d v) (e : toP d = some p) : VD K ⟨[], []⟩ H d v := by
  cases h with
  | val h => exact VD.clean _ _ _ e h
  | lst q1 q2 =>
    obtain ⟨ps, e2, _⟩ := Option.map_eq_some_iff.mp e
    exact ⟨_, _, rfl, q1, fun z => (by rcases z with z | z <;> cases z), VDs.clean _ _ _ e2 q2⟩
end
section
variable {X : Cx}
theorem call_repr_ (hg : X.A.guards = some []) (hu : X.A.units + 64 < cLine) : CallR X (.builtin "repr") (rBi X.K .repr) := by
  intro pins s σ H xs us Q I r h
  obtain ⟨m, S, ds, d, st, pk, e, q⟩ := h
  obtain ⟨x, rfl, e0⟩ := one1_ok e
  obtain ⟨v, rfl, pk1⟩ := pk.one
  obtain ⟨u, rfl, ru⟩ := vals1 r
  unfold reprV at e0
  cases ep : toP x with
  | none =>
    rw [ep] at e0
    cases e0
  | some p =>
    rw [ep] at e0
    dsimp only at e0
    split at e0
    · rename_i hz
      cases e0
      simp only [Bool.and_eq_true, Bool.not_eq_true', decide_eq_true_eq] at hz
      obtain ⟨⟨⟨z1, z2⟩, z3⟩, z4⟩ := hz
      have qq : Q (.str p.shown) H := q.same st rfl
      have vd := pk1.clean ep
      have fin : ∀ (t : Tok) (h' : Heap) (tk : Nat), (∀ b o, s.heap.get? b = some o → h'.get? b = some o) → EP X pins σ Q (.str p.shown t) { s with heap := h', toks := tk } := fun t h' tk hk => ⟨.str p.shown, H, I.kept hk, ⟨t, rfl⟩, qq⟩
      have isref : ∀ a, v = .ref a → wpAny (model X.prog X.w) X.A (PySem.call (.builtin "repr") [u]) (EP X pins σ Q) X.xe s := fun a ea => by
        subst ea
        have ru : u = Value.ref a := ru
        subst ru
        obtain ⟨as, rd⟩ := VD.reads I vd rfl ep
        exact repr_of_reads' rd z1 (fun z => by rw [z2] at z; cases z) hg (by omega) (fun b o z => z) (fun h' t tk hk => fin t h' tk hk) (by rw [← sm_eq]; exact z3)
      cases x with
      | non =>
        cases ep
        have vd : v = _ := vd
        subst vd
        have ru : u = Value.none := ru
        subst ru
        exact PySem.P.repr_of_none (fin _ s.heap _ (fun b o z => z))
      | bl b =>
        cases ep
        have vd : v = _ := vd
        subst vd
        have ru : u = Value.bool b := ru
        subst ru
        refine PySem.P.repr_of_bool ?_
        cases b
        · exact fin _ s.heap _ fun b o z => z
        · exact fin _ s.heap _ fun b o z => z
      | int i =>
        cases ep
        have vd : v = _ := vd
        subst vd
        obtain ⟨t, rfl⟩ := ru
        exact PySem.P.repr_of_int (of_decide_eq_true z1) (fin _ s.heap _ (fun b o z => z))
      | str y =>
        cases ep
        have vd : v = _ := vd
        subst vd
        obtain ⟨t, rfl⟩ := ru
        exact PySem.P.repr_of_str (fin _ s.heap _ (fun b o z => z)) (by rw [← sm_eq]; exact z3)
      | tup ds =>
        obtain ⟨a, xs, rfl, _⟩ := vd
        exact isref a rfl
      | lst ds =>
        obtain ⟨a, xs, rfl, _⟩ := vd
        exact isref a rfl
      | fro ds => cases ep
      | ref n => cases ep
      | dic => cases ep
    · cases e0
end
end Ev
set_option Elab.async false
set_option linter.all false
set_option maxRecDepth 100000
set_option maxHeartbeats 4000000
namespace Ev
open PySem PySem.Spec PyProof.Rows L2
open AutoSeq1 in
/-- l.extend(t), t any tuple -/
theorem ext_tup (l : Addr) (its : Array Value) (n : Nat) (t : Addr) (us : Array Value) (k : Nat) (dt : Option Addr) (sl : Array (Option Value)) (h0 : ¬ (!its.isEmpty && Builtin.List.listTooLong (its.size + us.size)) = true) (h1 : its.size ≤ sizeLine) (h2 : its.size + us.size ≤ sizeLine + 1) :
    Meets (Builtin.«list.extend» ⟨[.ref l, .ref t], []⟩) (fun _ R s => s.heap.get? l = some { cls := .type "list", data := .seq its n } ∧ s.heap.get? t = some { cls := .type "tuple", dict := dt, data := .seq us k, slots := sl } ∧
      R (.ok (.ret Value.none)) { s with heap := s.heap.update l (Obj.mapSeq fun x => x ++ us), toks := s.toks }) :=
  .of_wp fun prog w A R s hz => by
    obtain ⟨hp, g, dr, tk, os⟩ := s
    obtain ⟨hl, ht, fin⟩ := hz
    have f1 := AutoSeq1.idx_int
    have f2 := AutoSeq1.sub_tuple_tuple
    have f3 := AutoSeq1.sub_list_list
    have f4 := AutoSeq1.sub_tuple_list
    have f5 := AutoSeq1.sub_list_tuple
    have z2 : (its ++ us).size ≤ sizeLine + 1 := by
      rw [Array.size_append]
      exact h2
    wp_walk using (wpAny_updateSeq hl rfl (hz := h1) (_hz' := z2)), wpAny_loadPart' hl, wpAny_loadPart' ht
    exact ⟨_, rfl, fin⟩
/-- o.extend(t): the tuple's items behind the list's -/
def rExtT (K : PySem.W.Frag) : V → List V → Hp → VK → Prop := fun x vs H Q => ∃ l b xs zs, x = .ref l ∧ vs = [.ref b] ∧ H l = some (.lst xs) ∧ SqT K H b zs ∧ xs.length + zs.length ≤ sizeLine ∧ Q .non (upd H l (.lst (xs ++ zs)))
theorem mt_extT {X : Cx} : MtM X "list.extend" (rExtT X.K) := by
  intro pins s σ H x vs v us Q I rx rv h
  obtain ⟨l, b, xs, zs, rfl, rfl, hH, hB, hz, q⟩ := h
  have rx : v = Value.ref l := rx
  subst rx
  obtain ⟨u, rfl, ru⟩ := vals1 rv
  have ru : u = Value.ref b := ru
  subst ru
  obtain ⟨z1, its, n, r1, l1, e1⟩ := I.lstM hH
  obtain ⟨ts, r2, ⟨ob, e2, c2, k2, d2⟩, z2⟩ := I.tuple hB
  have l2 := r2.length
  obtain ⟨oc, od, odt, osl⟩ := ob
  have c2 : oc = .type "tuple" := c2
  have d2 : odt = .seq ts.toArray k2 := d2
  subst c2 d2
  have sz : its.toArray.size + ts.toArray.size ≤ sizeLine := by
    rw [List.size_toArray, List.size_toArray]
    omega
  have nl : ¬ (!its.toArray.isEmpty && Builtin.List.listTooLong (its.toArray.size + ts.toArray.size)) = true := by
    rw [notLongL sz, Bool.and_false]
    exact Bool.false_ne_true
  refine call_meets F.slot_list_extend ⟨_, e1, rfl⟩ F.entry_list_extend (F.args_list_extend_2 _ _) (ext_tup l its.toArray n b ts.toArray k2 od osl nl (Nat.le_trans (Nat.le_add_right _ _) sz) (Nat.le_succ_of_le sz)) ⟨e1, e2, ?_⟩
  refine ⟨.non, _, I.lset (its' := its ++ ts) hH e1 (by simp) (r1.append r2) ?_, rfl, q⟩
  rw [List.length_append]
  exact hz
end Ev
set_option Elab.async false
set_option linter.all false
set_option maxRecDepth 100000
set_option maxHeartbeats 4000000
namespace Ev
open PySem PySem.Spec PyProof.Rows L2
/-- a def's promise where no repr runs around it -/
structure FnG (P : Program) (w : World) (K : PySem.W.Frag) (mg : Str → Option Value) (base : Heap) (k : Nat) (f : Addr) (fd : FuncData) (ps : List Str) (sp : Sp) : Prop where
  len : ∀ vs H Q E, sp vs H Q E → vs.length = ps.length
  run : ∀ (A : Around) (outer : List PySem.Env) (s : Shared) (H : Hp) (args : Args) (us : List Value) (vs : List V) (Q : VK) (E : XK), Room k A → A.guards = some [] → Env0 P w K mg base A outer s H →
    BindsTo s fd args (ps.zip us) → Vals vs us → sp vs H Q E → codeAny (model P w) A (.call (.ref f) args) (CR (CX P w) outer P w H s Q E) s
/-- the body of a def -/
theorem FnG.of {P : Program} {w : World} {K : PySem.W.Frag} {mg : Str → Option Value} {base : Heap} {k : Nat} {f : Addr} {name qual : Str} {params : Arguments} {body : List Stmt} {scope : Scope} {dvs : List V} {kws : List (Str × V)} {fd : FuncData} {N ps : List Str} {sp : Sp}
    (F : FunD K name qual params body scope dvs kws f fd) (sc : FnScope N ps scope) (len : ∀ vs H Q E, sp vs H Q E → vs.length = ps.length)
    (hb : ∀ (cd : Value) (A : Around) (outer : List PySem.Env) (s : Shared) (H : Hp) (vs : List V) (Q : VK) (E : XK), Room k (A.deeper (envOfC qual scope s.heap.objs.size f cd)) → (A.deeper (envOfC qual scope s.heap.objs.size f cd)).guards = some [] → sp vs H Q E →
      ∃ t, PSs (cxOf (CX P w) P w K mg base N qual scope f cd A outer s H E) body t ∧ t { nx := fun _ H' => Q .non H', rt := Q } (start N vs) H) : FnG P w K mg base (k + 1) f fd ps sp := by
  obtain ⟨oc, od, dV, kV, doc, pm, an, cd, ct, osl, e1, lk, hcd, _, _⟩ := F.1
  subst e1
  refine ⟨len, fun A outer s H args us vs Q E hr hg e0 hbd r h => ?_⟩
  have KX : K.In s.heap := e0.mod.kin.keeps fun b o z => (e0.bs b o z).1
  have lim : s.heap.NoLimit := e0.mod.nolimit.keeps fun b o z => (e0.bs b o z).1
  have cells : ∀ y ∈ ps.zip us, scope.names.lookup y.1 = some .local ∨ (scope.names.lookup y.1 = some .cell ∧ ((cellsFrom (s.heap.objs.size + 1) scope.names []).lookup y.1).isSome = true) := fun y hy => by
    rcases sc.par y.1 (List.of_mem_zip (a := y.1) (b := y.2) hy).1 with q | q
    · exact Or.inl q
    · exact Or.inr ⟨q, PySem.W.cellsFrom_some _ _ _ (Or.inl q)⟩
  refine codeAny_call_function hr.depth (KX _ _ lk) rfl sc.co sc.gen rfl (PySem.W.codeRec_of KX hcd) (hbd _ _ _ _ ?_)
  refine wpAny_newFunctionEnv_cells sc.kind cells fun env he s1 x => ?_
  subst he
  refine ⟨lim.keeps x.toInCall.keep, codeAny_func ?_⟩
  obtain ⟨t, ht, hq⟩ := hb cd A outer s H vs Q E (hr.deeper _) (by first | exact hg | (simpa [Around.deeper] using hg)) h
  have J := inv_start (CX := CX P w) (E := E) sc hr.hd e0 (len _ _ _ _ h) r x
  refine wpAny_mono (ht.run [] s1 (start N vs) H _ J hq) (fun fl s2 hs => ?_) fun e s2 hs => hs
  cases fl with
  | ret u =>
    obtain ⟨v, σ2, H2, J2, rv, q2⟩ := hs
    exact ⟨v, H2, J2.os, J2.bare, J2.base, J2.hok, rv, q2⟩
  | next =>
    obtain ⟨σ2, H2, J2, q2⟩ := hs
    exact ⟨V.non, H2, J2.os, J2.bare, J2.base, J2.hok, rfl, q2⟩
  | brk => exact (show False from hs.choose_spec.choose_spec.2).elim
  | cont => exact (show False from hs.choose_spec.choose_spec.2).elim
section
variable {X : Cx} {k : Nat} {f : Addr} {fd : FuncData} {ps : List Str} {sp : Sp} {W : WX} {pins : List (Addr × Obj)} {σ : L2.St} {H : Hp} {s : Shared} {Q : VK}
/-- a callee runs -/
theorem FnG.call (F : FnG X.prog X.w X.K X.mg X.base k f fd ps sp) (hr : Room k X.A) (hg : X.A.guards = some []) (hb : Binds X.K fd ps []) (tk : Takes X W) {us : List Value} {vs : List V} (I : L2.Inv X pins σ H s) (r : Vals vs us)
    (h : sp vs H Q fun c d H' => W c d σ H') : wpAny (model X.prog X.w) X.A (PySem.call (.ref f) us) (EP X pins σ Q) X.xe s := by
  have hl : (us ++ []).length = ps.length := by
    rw [List.append_nil, ← r.length]
    exact F.len _ _ _ _ h
  have b1 := hb s us I.kIn hl
  rw [List.append_nil] at b1
  refine wpAny_call (codeAny_mono (F.run X.A X.stack s H ⟨us, []⟩ us vs Q _ hr hg I.env0 b1 r h) fun res s2 hq => ?_)
  cases res with
  | error e => exact tk e s2 (XE.of_call I (fun _ _ _ z => z) hq)
  | ok fl =>
    cases fl with
    | ret u => exact I.after hq
    | next => exact (show False from hq).elim
    | brk => exact (show False from hq).elim
    | cont => exact (show False from hq).elim
variable {x : Str} {p pos : Pos} {e : Expr} {es : List Expr} {t : TA}
/-- f(e, ..): by the slots as they are -/
def tCallG (sp : Sp) (W : WX) (t : TA) : TE := fun σ H Q => t σ H fun vs H1 => sp vs H1 Q fun c d H' => W c d σ H'
theorem pe_callG (F : FnG X.prog X.w X.K X.mg X.base k f fd ps sp) (hr : Room k X.A) (hg : X.A.guards = some []) (gl : Gl X x) (hm : X.mg x = some (.ref f)) (hk : PySem.W.keepIn X.K (.ref f) = true) (hb : Binds X.K fd ps []) (tk : Takes X W)
    (ha : PA X (e :: es) t) (hd : (x == ("__debug__" : Str)) = false) (he : starEach (e :: es) X.env = (false, eval e X.env) :: starEach es X.env) (hp : (backTo pos (starEach es X.env)).any (·.1) = false) :
    PE X (.Call (.Name x p) (e :: es) [] pos) (tCallG sp W t) := by
  refine ⟨fun pins s σ H Q I h => ?_⟩
  refine wpAny_Call_Name_kw (ld_glob I gl hm ?_ hd)
  refine PySem.W.callWith_K (h₀ := X.base) I.ok.mod.kin hk (thn (ha.run pos pins s σ H _ I h) fun us s1 h1 => ?_) he hp
  obtain ⟨vs, H1, I1, r, q⟩ := h1
  exact ⟨I1.kIn, F.call hr hg hb tk I1 r q⟩
theorem pe_callG0 (F : FnG X.prog X.w X.K X.mg X.base k f fd ps sp) (hr : Room k X.A) (hg : X.A.guards = some []) (gl : Gl X x) (hm : X.mg x = some (.ref f)) (hk : PySem.W.keepIn X.K (.ref f) = true) (hb : Binds X.K fd ps []) (tk : Takes X W)
    (hd : (x == ("__debug__" : Str)) = false) : PE X (.Call (.Name x p) [] [] pos) (tCallG sp W tNil) := by
  refine ⟨fun pins s σ H Q I h => ?_⟩
  refine wpAny_Call_Name_kw (ld_glob I gl hm ?_ hd)
  exact PySem.W.callWith_K0 I.kIn hk (F.call (us := []) hr hg hb tk I .nil h)
end
end Ev
set_option Elab.async false
set_option linter.all false
set_option maxRecDepth 100000
set_option maxHeartbeats 4000000
namespace Ev
open PySem PySem.Spec PyProof.Rows L2

/-! ### readings of the evaluator -/
def Gd {α : Type} (r : Option (Rs α)) (φ : α → Store → Prop) (ψ : Xn → Store → Prop) : Prop := match r with
  | some (.ok a S) => φ a S
  | some (.ex x S) => ψ x S
  | none => False
/-- how an exception stands -/
def XRel (K : PySem.W.Frag) (mg : Str → Option Value) (m : Am) (H : Hp) (x : Xn) (c : Value) (d : Option Addr) : Prop :=
  ∃ C, mg x.cls = some (.ref C) ∧ c = .ref C ∧ match x.arg with
    | none => d = none
    | some a => ∃ da f v, d = some da ∧ H da = some (.xd [(f, v)]) ∧ VD K m H a v
def ExW (K : PySem.W.Frag) (mg : Str → Option Value) (m : Am) (H : Hp) (E : XK) : Xn → Store → Prop := fun x S' => ∀ m' H' c d, Stp m H m' H' → Sto K m' H' S' → XRel K mg m' H' x c d → E c d H'
def OkW (K : PySem.W.Frag) (m : Am) (H : Hp) (Q : VK) : D → Store → Prop := fun d S' => ∀ m' H' v, Stp m H m' H' → Sto K m' H' S' → VD K m' H' d v → Q v H'
def OkB (K : PySem.W.Frag) (m : Am) (H : Hp) (Q : Bool → Hp → Prop) : Bool → Store → Prop := fun b S' => ∀ m' H', Stp m H m' H' → Sto K m' H' S' → Q b H'
def OkL (K : PySem.W.Frag) (m : Am) (H : Hp) (Q : List V → Hp → Prop) : List D → Store → Prop := fun ds S' => ∀ m' H' vs, Stp m H m' H' → Sto K m' H' S' → VDs K m' H' ds vs → Q vs H'
/-- a def as a promise -/
def spC (K : PySem.W.Frag) (mg : Str → Option Value) (cl : List D → M D) (np : Nat) : Sp := fun vs H Q E => vs.length = np ∧ ∃ m S ds, Sto K m H S ∧ VDs K m H ds vs ∧ Gd (cl ds S) (OkW K m H Q) (ExW K mg m H E)
/-- an expression's reading -/
def tev (K : PySem.W.Frag) (mg : Str → Option Value) (W : WX) (call : Nat → List D → M D) (e : E) : TE := fun σ H Q => ∃ m S ρ, Sto K m H S ∧ EnvR K m H σ ρ ∧ Gd (evE call e ρ S) (OkW K m H Q) (ExW K mg m H fun c d H' => W c d σ H')
def ttv (K : PySem.W.Frag) (mg : Str → Option Value) (W : WX) (call : Nat → List D → M D) (e : E) : TT := fun σ H Q => ∃ m S ρ, Sto K m H S ∧ EnvR K m H σ ρ ∧ Gd (evT call e ρ S) (OkB K m H Q) (ExW K mg m H fun c d H' => W c d σ H')
def tevs (K : PySem.W.Frag) (mg : Str → Option Value) (W : WX) (call : Nat → List D → M D) (es : List E) : TA := fun σ H Q => ∃ m S ρ, Sto K m H S ∧ EnvR K m H σ ρ ∧ Gd (evEs call es ρ S) (OkL K m H Q) (ExW K mg m H fun c d H' => W c d σ H')

section
variable {K : PySem.W.Frag} {mg : Str → Option Value} {m m1 : Am} {H H1 : Hp} {S S1 : Store}
theorem Gd.mono {α : Type} {r : Option (Rs α)} {φ φ' : α → Store → Prop} {ψ ψ' : Xn → Store → Prop} (h : Gd r φ ψ) (f : ∀ a S, φ a S → φ' a S) (g : ∀ x S, ψ x S → ψ' x S) : Gd r φ' ψ' := by
  cases r with
  | none => exact h
  | some r => cases r with
    | ok a S => exact f a S h
    | ex x S => exact g x S h
/-- two in a row -/
theorem Gd.bind {α β : Type} {x : M α} {f : α → M β} {φ : β → Store → Prop} {ψ : Xn → Store → Prop} (h : Gd (M.bind x f S) φ ψ) : Gd (x S) (fun a S' => Gd (f a S') φ ψ) ψ := by
  unfold M.bind at h
  cases e : x S with
  | none =>
    rw [e] at h
    exact h
  | some r =>
    rw [e] at h
    cases r with
    | ok a S => exact h
    | ex x S => exact h
theorem Gd.join {α β : Type} {x : M α} {f : α → M β} {φ : β → Store → Prop} {ψ : Xn → Store → Prop} (h : Gd (x S) (fun a S' => Gd (f a S') φ ψ) ψ) : Gd (M.bind x f S) φ ψ := by
  unfold M.bind
  cases e : x S with
  | none =>
    rw [e] at h
    exact h
  | some r =>
    rw [e] at h
    cases r with
    | ok a S => exact h
    | ex x S => exact h
theorem M.assoc {α β γ : Type} (x : M α) (f : α → M β) (g : β → M γ) : M.bind (M.bind x f) g = M.bind x fun a => M.bind (f a) g := by
  funext S
  unfold M.bind
  cases x S with
  | none => rfl
  | some r => cases r <;> rfl
theorem M.left {α β : Type} (a : α) (f : α → M β) : M.bind (M.pure a) f = f a := rfl
theorem Gd.pure {α : Type} {a : α} {φ : α → Store → Prop} {ψ : Xn → Store → Prop} (h : Gd (M.pure a S) φ ψ) : φ a S := h
theorem Gd.opt {α : Type} {o : Option α} {φ : α → Store → Prop} {ψ : Xn → Store → Prop} (h : Gd (opt o S) φ ψ) : ∃ a, o = some a ∧ φ a S := by
  cases o with
  | none => exact False.elim h
  | some a => exact ⟨a, rfl, h⟩
theorem Gd.stuck {α : Type} {φ : α → Store → Prop} {ψ : Xn → Store → Prop} (h : Gd (Ev.stuck (α := α) S) φ ψ) : False := h
theorem OkW.step {Q : VK} (st : Stp m H m1 H1) {d : D} {S' : Store} (h : OkW K m H Q d S') : OkW K m1 H1 Q d S' := fun m' H' v s2 => h m' H' v (st.trans s2)
theorem OkB.step {Q : Bool → Hp → Prop} (st : Stp m H m1 H1) {d : Bool} {S' : Store} (h : OkB K m H Q d S') : OkB K m1 H1 Q d S' := fun m' H' s2 => h m' H' (st.trans s2)
theorem OkL.step {Q : List V → Hp → Prop} (st : Stp m H m1 H1) {d : List D} {S' : Store} (h : OkL K m H Q d S') : OkL K m1 H1 Q d S' := fun m' H' v s2 => h m' H' v (st.trans s2)
theorem ExW.step {E : XK} (st : Stp m H m1 H1) {x : Xn} {S' : Store} (h : ExW K mg m H E x S') : ExW K mg m1 H1 E x S' := fun m' H' c d s2 => h m' H' c d (st.trans s2)
theorem OkW.hnd {Q : VK} {d : D} {S' : Store} (h : OkW K m H Q d S') : Hnd K m H S' Q d := h
end
section
variable {X : Cx} {e : Expr} {st : Stmt} {sts : List Stmt} {es : List Expr}
theorem _root_.L2.PE.wk {t t' : TE} (h : PE X e t) (f : ∀ σ H Q, t' σ H Q → t σ H Q) : PE X e t' := ⟨fun p s σ H Q I q => h.run p s σ H Q I (f σ H Q q)⟩
theorem _root_.L2.PT.wk {t t' : TT} (h : PT X e t) (f : ∀ σ H Q, t' σ H Q → t σ H Q) : PT X e t' := ⟨fun p s σ H Q I q => h.run p s σ H Q I (f σ H Q q)⟩
theorem _root_.L2.PW.wk {t t' : TT} (h : PW X e t) (f : ∀ σ H Q, t' σ H Q → t σ H Q) : PW X e t' := ⟨fun w p s σ H Q I q => h.run w p s σ H Q I (f σ H Q q)⟩
theorem _root_.L2.PA.wk {t t' : TA} (h : PA X es t) (f : ∀ σ H Q, t' σ H Q → t σ H Q) : PA X es t' := ⟨fun o p s σ H Q I q => h.run o p s σ H Q I (f σ H Q q)⟩
theorem _root_.L2.PS.wk {t t' : TS} (h : PS X st t) (f : ∀ D σ H, t' D σ H → t D σ H) : PS X st t' := ⟨fun p s σ H D I q => h.run p s σ H D I (f D σ H q)⟩
theorem _root_.L2.PSs.wk {t t' : TS} (h : PSs X sts t) (f : ∀ D σ H, t' D σ H → t D σ H) : PSs X sts t' := ⟨fun p s σ H D I q => h.run p s σ H D I (f D σ H q)⟩
end
section
variable {K : PySem.W.Frag} {mg : Str → Option Value} {W : WX} {call : Nat → List D → M D} {m : Am} {H : Hp} {S : Store} {σ : L2.St} {ρ : Env}
/-- an expression, then the rest -/
theorem tev_of (s : Sto K m H S) (r : EnvR K m H σ ρ) {e : E} {β : Type} {f : D → M β} {φ : β → Store → Prop} {Q : VK} (h : Gd (M.bind (evE call e ρ) f S) φ (ExW K mg m H fun c d H' => W c d σ H'))
    (k : ∀ d S' m' H' v, Stp m H m' H' → Sto K m' H' S' → EnvR K m' H' σ ρ → VD K m' H' d v → Gd (f d S') φ (ExW K mg m' H' fun c d H' => W c d σ H') → Q v H') : tev K mg W call e σ H Q :=
  ⟨m, S, ρ, s, r, h.bind.mono (fun d S' g m' H' v st s' vd => k d S' m' H' v st s' (r.mono s st) vd (g.mono (fun _ _ z => z) fun _ _ z => z.step st)) fun _ _ z => z⟩
theorem ttv_of (s : Sto K m H S) (r : EnvR K m H σ ρ) {e : E} {β : Type} {f : Bool → M β} {φ : β → Store → Prop} {Q : Bool → Hp → Prop} (h : Gd (M.bind (evT call e ρ) f S) φ (ExW K mg m H fun c d H' => W c d σ H'))
    (k : ∀ d S' m' H', Stp m H m' H' → Sto K m' H' S' → EnvR K m' H' σ ρ → Gd (f d S') φ (ExW K mg m' H' fun c d H' => W c d σ H') → Q d H') : ttv K mg W call e σ H Q :=
  ⟨m, S, ρ, s, r, h.bind.mono (fun d S' g m' H' st s' => k d S' m' H' st s' (r.mono s st) (g.mono (fun _ _ z => z) fun _ _ z => z.step st)) fun _ _ z => z⟩
theorem tevs_of (s : Sto K m H S) (r : EnvR K m H σ ρ) {es : List E} {β : Type} {f : List D → M β} {φ : β → Store → Prop} {Q : List V → Hp → Prop} (h : Gd (M.bind (evEs call es ρ) f S) φ (ExW K mg m H fun c d H' => W c d σ H'))
    (k : ∀ d S' m' H' v, Stp m H m' H' → Sto K m' H' S' → EnvR K m' H' σ ρ → VDs K m' H' d v → Gd (f d S') φ (ExW K mg m' H' fun c d H' => W c d σ H') → Q v H') : tevs K mg W call es σ H Q :=
  ⟨m, S, ρ, s, r, h.bind.mono (fun d S' g m' H' v st s' vd => k d S' m' H' v st s' (r.mono s st) vd (g.mono (fun _ _ z => z) fun _ _ z => z.step st)) fun _ _ z => z⟩
/-- a value as it stands -/
theorem peekP_ok {d d' : D} {v : V} (s : Sto K m H S) (vd : VD K m H d v) (e : peekP S d = some d') : Peek K m H d' v := by
  cases d with
  | ref n =>
    obtain ⟨a, rfl, ha⟩ := vd
    unfold peekP at e
    cases e1 : S[n]? with
    | none =>
      simp only [e1] at e
      cases e
    | some o =>
      have q := s.obj n a o ha e1
      cases o with
      | lst ds =>
        simp only [e1] at e
        cases e
        obtain ⟨xs, q1, q2⟩ := q
        exact .lst q1 q2
  | _ =>
    cases e
    exact .val vd
theorem peek_of {β : Type} {d : D} {v : V} {f : D → M β} {φ : β → Store → Prop} {ψ : Xn → Store → Prop} (s : Sto K m H S) (vd : VD K m H d v) (h : Gd (M.bind (peek d) f S) φ ψ) : ∃ d', Peek K m H d' v ∧ Gd (f d' S) φ ψ := by
  have h := h.bind
  unfold peek at h
  cases e : peekP S d with
  | none =>
    rw [e] at h
    exact False.elim h
  | some d' =>
    rw [e] at h
    exact ⟨d', peekP_ok s vd e, h⟩
theorem truP_ok {X : Cx} {d : D} {v : V} {b : Bool} (s : Sto X.K m H S) (vd : VD X.K m H d v) (e : truP S d = some b) : TruV X.K v H b := by
  obtain ⟨d', e1, e2⟩ := Option.bind_eq_some_iff.mp e
  exact (peekP_ok s vd e1).tru e2
theorem truM_of {β : Type} {d : D} {f : Bool → M β} {φ : β → Store → Prop} {ψ : Xn → Store → Prop} (h : Gd (M.bind (truM d) f S) φ ψ) : ∃ b, truP S d = some b ∧ Gd (f b S) φ ψ := by
  have h := h.bind
  unfold truM at h
  cases e : truP S d with
  | none =>
    rw [e] at h
    exact False.elim h
  | some b =>
    rw [e] at h
    exact ⟨b, rfl, h⟩
end
end Ev
set_option Elab.async false
set_option linter.all false
set_option maxRecDepth 100000
set_option maxHeartbeats 4000000
namespace Ev
open PySem PySem.Spec PyProof.Rows L2
/-! ### the text against the own syntax -/
structure Ck where
  N : List Str
  fns : List (Str × Nat × Nat)
  cs : List (Str × D)
  free : List Str
def vis (sc : Scope) (x : Str) : Bool := match sc.names.lookup x with
  | some .local => true
  | some .cell => true
  | some .free => true
  | _ => false
def glb (sc : Scope) (x : Str) : Bool := match sc.names.lookup x with
  | some .globalImplicit => true
  | _ => false
def loc (sc : Scope) (fc : Str → Bool) (x : Str) : Bool := match sc.names.lookup x with
  | some .local => true
  | some .cell => fc x
  | _ => false
def plainName (x : Str) : Bool := !(x == ("__debug__" : Str)) && !(x == ("__classdict__" : Str)) && !(x == ("__name__" : Str))
def constD : Const → D → Bool
  | .int i, .int j => decide (i = j)
  | .bool a, .bl b => a == b
  | .none, .non => true
  | .str x, .str y => decide (x = y)
  | _, _ => false
def flatD : D → Bool
  | .int _ => true
  | .str _ => true
  | .bl _ => true
  | .non => true
  | _ => false
def sameD : D → D → Bool
  | .int i, .int j => decide (i = j)
  | .bl a, .bl b => a == b
  | .non, .non => true
  | .str x, .str y => decide (x = y)
  | _, _ => false
theorem sameD_eq {a b : D} (h : sameD a b = true) : a = b := by
  cases a <;> cases b <;> first | (cases h; done) | skip
  · rfl
  · have h : _ = true := h
    rw [eq_of_beq h]
  · rw [of_decide_eq_true h]
  · rw [of_decide_eq_true h]
/-- a built-in by name and how many arguments -/
def biName : Bi → Str × Nat
  | .len => ("len", 1) | .abs => ("abs", 1) | .int => ("int", 1) | .tuple => ("tuple", 1) | .list => ("list", 1) | .any => ("any", 1) | .all => ("all", 1)
  | .max => ("max", 1) | .min => ("min", 1) | .sum => ("sum", 1) | .repr => ("repr", 1) | .max2 => ("max", 2) | .min2 => ("min", 2)
def biReady : Bi → Bool
  | .sum => false | _ => true
def tyName : Ty → Str × String
  | .int => ("int", "int") | .bool => ("bool", "bool") | .str => ("str", "str") | .tuple => ("tuple", "tuple") | .list => ("list", "list")
def meName : Me → Str × Nat
  | .append => ("append", 1) | .extend => ("extend", 1) | .pop => ("pop", 0)
/-- what a test's truth is the value's -/
def plainTest : Expr → Bool
  | .UnaryOp .Not _ _ => false
  | .BoolOp _ _ _ => false
  | .IfExp _ _ _ _ => false
  | .Compare _ _ _ _ => false
  | _ => true
def testable : Expr → Bool
  | .IfExp _ _ _ _ => false
  | _ => true
def noStar : Expr → Bool
  | .Starred _ _ => false
  | _ => true
def noSlice : Expr → Bool
  | .Slice _ _ _ _ => false
  | _ => true
def noSet : Expr → Bool
  | .Set _ _ _ => false
  | _ => true
def noCall : Expr → Bool
  | .Call _ _ _ _ => false
  | _ => true
def chkT (c : Ck) (sc : Scope) (fc : Str → Bool) : Nat → Expr → Tg → Bool
  | 0, _, _ => false
  | _ + 1, .Name x _, .name i => decide (c.N[i]? = some x) && loc sc fc x
  | n + 1, .Tuple ts _ _, .tup us => ts.length == us.length && ts.all noStar && (ts.zip us).all fun p => chkT c sc fc n p.1 p.2
  | _ + 1, _, _ => false
def isTup : Expr → Bool
  | .Tuple _ _ _ => true
  | _ => false
def gfree (c : Ck) (sc : Scope) (x : Str) : Bool := glb sc x && c.free.contains x && plainName x
def relSc (scope sc : Scope) : Scope := relS scope sc
/-- what a loop walks -/
def chkI (c : Ck) (sc : Scope) (rec : Expr → E → Bool) (tg : Expr) : Expr → Sk → List E → Bool
  | .Call (.Name x _) [a] [] _, .rng1, [a'] => gfree c sc x && decide (x = "range") && noStar a && rec a a'
  | .Call (.Name x _) [a, b] [] _, .rng2, [a', b'] => gfree c sc x && decide (x = "range") && noStar a && noStar b && rec a a' && rec b b'
  | .Call (.Name x _) [a, b, d] [] _, .rng3, [a', b', d'] => gfree c sc x && decide (x = "range") && noStar a && noStar b && noStar d && rec a a' && rec b b' && rec d d'
  | .Call (.Name x _) [a] [] _, .enum, [a'] => isTup tg && gfree c sc x && decide (x = "enumerate") && noStar a && rec a a'
  | e, .seq, [e'] => noSet e && rec e e'
  | _, _, _ => false
mutual
def tgN : Tg → List Nat
  | .name i => [i]
  | .tup ts => tgNs ts
def tgNs : List Tg → List Nat
  | [] => []
  | t :: ts => tgN t ++ tgNs ts
end
def ownOf (N : List Str) : List Nat → Option (List (Str × Nat))
  | [] => some []
  | i :: r => match N[i]?, ownOf N r with
    | some x, some o => some ((x, i) :: o)
    | _, _ => none
/-- an expression that only looks at a name, or a constant -/
def chkM (c : Ck) (sc : Scope) : Expr → E → Bool
  | .Name x _, .var i => vis sc x && decide (c.N[i]? = some x) && plainName x
  | .Constant k _ _, .c d => constD k d
  | _, _ => false
def isCon : Option Expr → Bool
  | some (.Constant (.str _) _ _) => true
  | _ => false
def chkE (c : Ck) : Nat → Scope → Expr → E → Bool
  | 0, _, _, _ => false
  | _ + 1, sc, .Name x _, .var i => vis sc x && decide (c.N[i]? = some x) && plainName x
  | _ + 1, sc, .Name x _, .c d => glb sc x && flatD d && plainName x && (match c.cs.lookup x with | some d' => sameD d' d | none => false)
  | _ + 1, _, .Constant k _ _, .c d => constD k d
  | n + 1, sc, .BinOp a op b _, .bin o a' b' => decide (op = opOf o) && chkE c n sc a a' && chkE c n sc b b'
  | n + 1, sc, .UnaryOp .USub a _, .neg a' => chkE c n sc a a'
  | n + 1, sc, .UnaryOp .Not a _, .notE a' => chkE c n sc a a' && testable a
  | n + 1, sc, .BoolOp .And (a :: b :: r) pos, .andE x y => chkE c n sc a x && testable a && chkE c n sc (.BoolOp .And (b :: r) pos) y
  | n + 1, sc, .BoolOp .Or (a :: b :: r) pos, .orE x y => chkE c n sc a x && testable a && chkE c n sc (.BoolOp .Or (b :: r) pos) y
  | n + 1, sc, .BoolOp _ [a] _, e' => chkE c n sc a e' && testable a
  | n + 1, sc, .IfExp t a b _, .ifE t' a' b' => chkE c n sc t t' && testable t && chkE c n sc a a' && chkE c n sc b b'
  | n + 1, sc, .Compare a [op] [b] _, .cmp o a' b' => decide (op = cmOf o) && noSet b && chkE c n sc a a' && chkE c n sc b b'
  | n + 1, sc, .Compare a [op, op2] [b, b2] _, .chain o p a' b' c' => decide (op = cmOf o) && decide (op2 = cmOf p) && noSet b2 && chkE c n sc a a' && chkE c n sc b b' && chkE c n sc b2 c'
  | n + 1, sc, .Tuple es _ _, .tup us => es.length == us.length && decide (es.length ≤ 1000) && es.all noStar && (es.zip us).all fun p => chkE c n sc p.1 p.2
  | n + 1, sc, .List es _, .lst us => es.length == us.length && decide (es.length ≤ 1000) && es.all noStar && (es.zip us).all fun p => chkE c n sc p.1 p.2
  | n + 1, sc, .List es _, .new us => es.length == us.length && decide (es.length ≤ 1000) && es.all noStar && (es.zip us).all fun p => chkE c n sc p.1 p.2
  | n + 1, sc, .Subscript a (.Slice lo hi none _) _, .sl a' l lo' h hi' => chkE c n sc a a' &&
      (match lo with | none => !l | some z => l && chkE c n sc z lo') && (match hi with | none => !h | some z => h && chkE c n sc z hi')
  | n + 1, sc, .Subscript a b _, .idx a' b' => noSlice b && chkE c n sc a a' && chkE c n sc b b'
  | n + 1, sc, .Call (.Name x _) es [] _, .call f us => glb sc x && plainName x && decide (c.fns.lookup x = some (f, us.length)) && es.length == us.length && es.all noStar && (es.zip us).all fun p => chkE c n sc p.1 p.2
  | n + 1, sc, .Call (.Name x _) es [] _, .bi b us => gfree c sc x && decide (biName b = (x, us.length)) && biReady b && es.length == us.length && es.all noStar && (es.zip us).all fun p => chkE c n sc p.1 p.2
  | n + 1, sc, .Call (.Name x _) [a, .Name y _] [] _, .isi a' t => gfree c sc x && decide (x = "isinstance") && gfree c sc y && decide ((tyName t).1 = y) && noStar a && chkE c n sc a a'
  | n + 1, sc, .Call (.Attribute o m apos) es [] pos, .meth me o' us => decide (meName me = (m, us.length)) && noCall o && apos.endLine == pos.line && es.length == us.length && decide (es.length ≤ 5) && es.all noStar && chkE c n sc o o' && (es.zip us).all fun p => chkE c n sc p.1 p.2
  | _ + 1, sc, .Dict keys values _, .dic es => keys.all isCon && !keys.isEmpty && decide (keys.length ≤ 15) && keys.length == values.length && values.length == es.length && (values.zip es).all fun p => chkM c sc p.1 p.2
  | n + 1, sc, .ListComp elt [⟨tg, iter, ifs, 0⟩] scope _, .comp vs tg' k src conds elt' =>
      (match ownOf c.N vs with
        | some own => blkC c.N sc scope own
        | none => false) &&
      chkI c sc (chkE c n sc) tg iter k src &&
      chkT c (relSc scope sc) (fun x => scope.names.lookup x == some .cell) n tg tg' && ((tgN tg').all fun i => vs.contains i) &&
      (match ifs, conds with
        | [], [] => true
        | [i], [i'] => testable i && chkE c n (relSc scope sc) i i'
        | _, _ => false) &&
      chkE c n (relSc scope sc) elt elt'
  | n + 1, sc, .ListComp elt [⟨tg, iter, ifs, 0⟩, ⟨tg1, iter1, ifs1, 0⟩] scope _, .comp2 vs tg' k src conds vs1 tg1' k1 src1 conds1 elt' =>
      (match ownOf c.N vs with
        | some own => blkC c.N sc scope own
        | none => false) &&
      chkI c sc (chkE c n sc) tg iter k src &&
      chkT c (relSc scope sc) (fun x => scope.names.lookup x == some .cell) n tg tg' && ((tgN tg').all fun i => vs.contains i) &&
      (match ifs, conds with
        | [], [] => true
        | [i], [i'] => testable i && chkE c n (relSc scope sc) i i'
        | _, _ => false) &&
      chkI c (relSc scope sc) (chkE c n (relSc scope sc)) tg1 iter1 k1 src1 &&
      chkT c (relSc scope sc) (fun x => scope.names.lookup x == some .cell) n tg1 tg1' && ((tgN tg1').all fun i => vs1.contains i) && (vs1.all fun i => vs.contains i) &&
      (match ifs1, conds1 with
        | [], [] => true
        | [i], [i'] => testable i && chkE c n (relSc scope sc) i i'
        | _, _ => false) &&
      chkE c n (relSc scope sc) elt elt'
  | _ + 1, _, _, .never => true
  | _ + 1, _, _, _ => false
end Ev
set_option Elab.async false
set_option linter.all false
set_option maxRecDepth 100000
set_option maxHeartbeats 8000000
namespace Ev
open PySem PySem.Spec PyProof.Rows L2
theorem truM_end {S : Store} {d : D} {φ : Bool → Store → Prop} {ψ : Xn → Store → Prop} (h : Gd (truM d S) φ ψ) : ∃ b, truP S d = some b ∧ φ b S := by
  unfold truM at h
  cases e : truP S d with
  | none =>
    rw [e] at h
    exact False.elim h
  | some b =>
    rw [e] at h
    exact ⟨b, rfl, h⟩
theorem bind_end {α : Type} (x : M α) : M.bind x M.pure = x := by
  funext S
  unfold M.bind
  cases x S with
  | none => rfl
  | some r => cases r <;> rfl
def CallOk (X : Cx) (k : Nat) (call : Nat → List D → M D) (f np : Nat) (x : Str) : Prop := ∃ fa fd ps, X.mg x = some (.ref fa) ∧ PySem.W.keepIn X.K (.ref fa) = true ∧ Binds X.K fd ps [] ∧
  FnG X.prog X.w X.K X.mg X.base k fa fd ps (spC X.K X.mg (call f) np)
/-- where the text is read -/
structure Kx (X : Cx) (c : Ck) (sc : Scope) (fc : Str → Bool) (k : Nat) (call : Nat → List D → M D) (W : WX) : Prop where
  calm : X.calm = true
  N : X.N = c.N
  nd : c.N.Nodup
  sc : X.env.scope = sc
  fc : ∀ x, fc x = true → X.fn x = true
  room : Room k X.A
  guards : X.A.guards = some []
  own : PassesOwn (model X.prog X.w) X.A X.env X.xe
  tk : Takes X W
  free : ∀ x, c.free.contains x = true → X.mg x = none
  cs : ∀ x d, c.cs.lookup x = some d → flatD d = true → ∃ v u, X.mg x = some u ∧ L2.RelV v u ∧ ∀ K m H, VD K m H d v
  calls : ∀ x f np, c.fns.lookup x = some (f, np) → CallOk X k call f np x
theorem star_cons {e : Expr} {es : List Expr} {env : PySem.Env} (h : noStar e = true) : starEach (e :: es) env = (false, eval e env) :: starEach es env := by
  cases e <;> first | rfl | cases h
theorem star_plain {env : PySem.Env} {pos : Pos} : ∀ {es : List Expr}, es.all noStar = true → (backTo pos (starEach es env)).any (·.1) = false
  | [], _ => rfl
  | e :: es, h => by
    rw [List.all_cons, Bool.and_eq_true] at h
    rw [star_cons h.1]
    show (false || (backTo pos (starEach es env)).any (·.1)) = false
    rw [star_plain h.2]
    rfl
theorem star_all {env : PySem.Env} {pos : Pos} : ∀ {es : List Expr}, es.all noStar = true → (backTo pos (starEach es env)).all (fun x => !x.1) = true
  | [], _ => rfl
  | e :: es, h => by
    rw [List.all_cons, Bool.and_eq_true] at h
    rw [star_cons h.1]
    show (true && (backTo pos (starEach es env)).all (fun x => !x.1)) = true
    rw [star_all h.2]
    rfl
theorem vis_ok {sc : Scope} {x : Str} (h : vis sc x = true) : Vis sc x := by
  unfold vis at h
  unfold Vis
  split at h <;> simp_all
theorem glb_ok {X : Cx} {sc : Scope} {x : Str} (e : X.env.scope = sc) (h : glb sc x = true) : Gl X x := by
  unfold glb at h
  show X.env.scope.names.lookup x = _
  rw [e]
  split at h <;> simp_all
theorem plain_ok {x : Str} (h : plainName x = true) : (x == ("__debug__" : Str)) = false ∧ (x == ("__classdict__" : Str)) = false ∧ x ≠ "__name__" := by
  unfold plainName at h
  simp only [Bool.and_eq_true, Bool.not_eq_true'] at h
  exact ⟨h.1.1, h.1.2, fun e => by rw [e] at h; exact absurd h.2 (by decide +kernel)⟩
theorem plain_true {e : Expr} (h : plainTest e = true) (env : PySem.Env) (whole : Sem Value) : isTrue e env whole = (do let v ← whole; standAt e.pos; holding [v] (truthy v)) := by
  cases e with
  | UnaryOp op a pos => cases op <;> first | rfl | cases h
  | BoolOp _ _ _ => cases h
  | IfExp _ _ _ _ => cases h
  | Compare _ _ _ _ => cases h
  | _ => rfl
theorem ix_plain {b : Expr} (h : noSlice b = true) : PlainIx b := by
  intro o i
  cases b <;> first | rfl | cases h
theorem base_plain {o : Expr} {m : Str} {env : PySem.Env} (h : noCall o = true) : attributeBase o m env (eval o env) = eval o env := by
  cases o <;> first | rfl | cases h
theorem set_plain {b : Expr} {op : CmpOp} (h : noSet b = true) : behindInMarks op b = false := by
  cases b <;> first | rfl | cases h
theorem fold_plain {e : Expr} {env : PySem.Env} (h : noSet e = true) : ∀ x, foldedSetIterable e env x = pure x := by
  intro x
  cases e <;> first | rfl | cases h
theorem ba' {a b : Bool} (h : (a && b) = true) : a = true ∧ b = true := Bool.and_eq_true_iff.mp h
section
variable {X : Cx} {c : Ck} {sc : Scope} {fc : Str → Bool} {k : Nat} {call : Nat → List D → M D} {W : WX}
def GE (X : Cx) (W : WX) (call : Nat → List D → M D) (e : Expr) (e' : E) : Prop := PE X e (tev X.K X.mg W call e')
/-- a plain expression as a test -/
theorem GE.test {e : Expr} {e' : E} (h : GE X W call e e') (p : plainTest e = true) : PT X e (ttv X.K X.mg W call e') := by
  refine (pt_truth h (plain_true p X.env)).wk fun σ H Q ⟨m, S, ρ, s, r, g⟩ => ?_
  refine tev_of s r g fun d S1 m1 H1 v st1 s1 r1 vd g1 => ?_
  obtain ⟨b, e, g3⟩ := truM_end g1
  exact ⟨b, truP_ok s1 vd e, (g3 : OkB X.K _ _ Q b S1) m1 H1 st1 s1⟩
theorem tevs_pa : ∀ {es : List Expr} {us : List E}, es.length = us.length → es.all noStar = true → (∀ p ∈ es.zip us, GE X W call p.1 p.2) → PA X es (tevs X.K X.mg W call us)
  | [], [], _, _, _ => pa_nil.wk fun σ H Q ⟨m, S, ρ, s, r, g⟩ => (g : OkL X.K m H Q [] S) m H [] Stp.refl s rfl
  | e :: es, u :: us, hl, hs, h => by
    rw [List.all_cons, Bool.and_eq_true] at hs
    refine (pa_cons (h (e, u) (by simp)) (tevs_pa (by simpa using hl) hs.2 fun p hp => h p (by simp [hp])) (star_cons hs.1)).wk fun σ H Q ⟨m, S, ρ, s, r, g⟩ => ?_
    refine tev_of s r (show Gd (M.bind (evE call u ρ) (fun d => M.bind (evEs call us ρ) fun ds => M.pure (d :: ds)) S) (OkL X.K m H Q) _ from g) fun d S1 m1 H1 v st1 s1 r1 vd g1 => ?_
    refine tevs_of s1 r1 g1 fun ds S2 m2 H2 vs st2 s2 r2 vds g2 => ?_
    exact (g2 : OkL X.K m H Q (d :: ds) S2) m2 H2 (v :: vs) (st1.trans st2) s2 ⟨v, vs, rfl, vd.mono s1 st2, vds⟩
  | [], _ :: _, hl, _, _ => by cases hl
  | _ :: _, [], hl, _, _ => by cases hl
theorem bi_name {b : Bi} {x : Str} {n : Nat} (h : biName b = (x, n)) : (biName b).1 = x ∧ (biName b).2 = n := by rw [h]; exact ⟨rfl, rfl⟩
/-- a call of a built-in, by what is read -/
theorem bi_call {b : Bi} {f : Value} {x : Str} {p pos : Pos} {es : List Expr} {us : List E} (kx : Kx X c sc fc k call W) (g : gfree c sc x = true) (hl : es.length = us.length) (hn : 0 < us.length) (hs : es.all noStar = true)
    (h : ∀ q ∈ es.zip us, GE X W call q.1 q.2) (hf : (∃ id, f = .builtin id) ∨ ∃ T, f = .type T) (hv : bootBuiltins x = some f) (hc : CallR X f (rBi X.K b)) : GE X W call (.Call (.Name x p) es [] pos) (.bi b us) := by
  obtain ⟨g, g3⟩ := ba' g
  obtain ⟨g1, g2⟩ := ba' g
  obtain ⟨n1, n2, n3⟩ := plain_ok g3
  have gl := glb_ok (X := X) kx.sc g1
  have hm := kx.free x g2
  have ha := tevs_pa hl hs h
  cases es with
  | nil =>
    rw [← hl] at hn
    exact absurd hn (Nat.lt_irrefl 0)
  | cons e es =>
    rw [List.all_cons, Bool.and_eq_true] at hs
    have main : PE X (.Call (.Name x p) (e :: es) [] pos) (tCB (rBi X.K b) (tevs X.K X.mg W call us)) := by
      rcases hf with ⟨id, rfl⟩ | ⟨T, rfl⟩
      · exact pe_callB hc gl hm hv ha n3 n1 (star_cons hs.1) (star_plain hs.2)
      · exact pe_callTy hc gl hm hv ha n3 n1 (star_cons hs.1) (star_plain hs.2)
    refine main.wk fun σ H Q ⟨m, S, ρ, s, r, q⟩ => ?_
    refine tevs_of s r (show Gd (M.bind (evEs call us ρ) (fun ds => biM b ds) S) (OkW X.K m H Q) _ from q) fun ds S1 m1 H1 vs st1 s1 r1 vds q1 => ?_
    unfold biM at q1
    split at q1
    · rename_i d
      split at q1
      · obtain ⟨v, r', rfl, vd, e0⟩ := vds
        have e0 : r' = [] := e0
        subst e0
        obtain ⟨d', pk, q2⟩ := peek_of s1 vd q1
        obtain ⟨d2, e2, q3⟩ := q2.opt
        exact ⟨m1, S1, [d'], d2, s1, .cons pk .nil, e2, (q3 : OkW X.K m H Q d2 S1).step st1⟩
      · obtain ⟨d2, e2, q3⟩ := q1.opt
        exact ⟨m1, S1, [d], d2, s1, vds.peeks, e2, (q3 : OkW X.K m H Q d2 S1).step st1⟩
    · obtain ⟨d2, e2, q3⟩ := q1.opt
      exact ⟨m1, S1, ds, d2, s1, vds.peeks, e2, (q3 : OkW X.K m H Q d2 S1).step st1⟩
theorem bi_ok {b : Bi} {x : Str} {p pos : Pos} {es : List Expr} {us : List E} (kx : Kx X c sc fc k call W) (hb : biName b = (x, us.length)) (hr : biReady b = true) (g : gfree c sc x = true) (hl : es.length = us.length) (hs : es.all noStar = true)
    (h : ∀ q ∈ es.zip us, GE X W call q.1 q.2) : GE X W call (.Call (.Name x p) es [] pos) (.bi b us) := by
  obtain ⟨e1, e2⟩ := bi_name hb
  have hu : X.A.units + 64 < cLine := kx.room.units
  have hn : 0 < us.length := by
    rw [← e2]
    cases b <;> decide
  subst e1
  cases b with
  | len => exact bi_call kx g hl hn hs h (.inl ⟨_, rfl⟩) (by decide +kernel) call_len_
  | abs => exact bi_call kx g hl hn hs h (.inl ⟨_, rfl⟩) (by decide +kernel) call_abs_
  | int => exact bi_call kx g hl hn hs h (.inr ⟨_, rfl⟩) (by decide +kernel) call_int_
  | tuple => exact bi_call kx g hl hn hs h (.inr ⟨_, rfl⟩) (by decide +kernel) call_tuple_
  | list => exact bi_call kx g hl hn hs h (.inr ⟨_, rfl⟩) (by decide +kernel) call_list_
  | any => exact bi_call kx g hl hn hs h (.inl ⟨_, rfl⟩) (by decide +kernel) (call_any_ kx.calm)
  | all => exact bi_call kx g hl hn hs h (.inl ⟨_, rfl⟩) (by decide +kernel) (call_all_ kx.calm)
  | max => exact bi_call kx g hl hn hs h (.inl ⟨_, rfl⟩) (by decide +kernel) (call_max_ kx.calm hu)
  | min => exact bi_call kx g hl hn hs h (.inl ⟨_, rfl⟩) (by decide +kernel) (call_min_ kx.calm hu)
  | max2 => exact bi_call kx g hl hn hs h (.inl ⟨_, rfl⟩) (by decide +kernel) (call_max2_ kx.calm)
  | min2 => exact bi_call kx g hl hn hs h (.inl ⟨_, rfl⟩) (by decide +kernel) (call_min2_ kx.calm)
  | sum => cases hr
  | repr => exact bi_call kx g hl hn hs h (.inl ⟨_, rfl⟩) (by decide +kernel) (call_repr_ kx.guards hu)
/-! ### methods, stores -/
def rMe (K : PySem.W.Frag) (me : Me) : V → List V → Hp → VK → Prop := fun x vs H Q => ∃ m S d ds, Sto K m H S ∧ VD K m H d x ∧ VDs K m H ds vs ∧ Gd (meM me d ds S) (OkW K m H Q) fun _ _ => False
theorem getO_of {S : Store} {n : Nat} {β : Type} {f : SO → M β} {φ : β → Store → Prop} {ψ : Xn → Store → Prop} (h : Gd (M.bind (getO n) f S) φ ψ) : ∃ o, S[n]? = some o ∧ Gd (f o S) φ ψ := by
  have h := h.bind
  unfold getO at h
  cases e : S[n]? with
  | none =>
    rw [e] at h
    exact False.elim h
  | some o =>
    rw [e] at h
    exact ⟨o, rfl, h⟩
theorem putO_of {S : Store} {n : Nat} {o : SO} {β : Type} {f : Unit → M β} {φ : β → Store → Prop} {ψ : Xn → Store → Prop} (h : Gd (M.bind (putO n o) f S) φ ψ) : Gd (f () (S.set n o)) φ ψ := by
  have h := h.bind
  unfold putO at h
  split at h
  · exact h
  · exact False.elim h
theorem appM_ok {d : D} {ds : List D} {S : Store} {φ : D → Store → Prop} {ψ : Xn → Store → Prop} (h : Gd (appM d ds S) φ ψ) : ∃ n y ls, d = .ref n ∧ ds = [y] ∧ S[n]? = some (.lst ls) ∧ ls.length < sizeMax ∧ φ .non (S.set n (.lst (ls ++ [y]))) := by
  unfold appM at h
  split at h
  · obtain ⟨o, e1, h⟩ := getO_of h
    cases o with
    | lst ls =>
      dsimp only at h
      by_cases hz : ls.length < sizeMax
      · rw [if_pos hz] at h
        exact ⟨_, _, ls, rfl, rfl, e1, hz, putO_of h⟩
      · rw [if_neg hz] at h
        exact False.elim h
  · exact False.elim h
theorem extM_ok {d : D} {ds : List D} {S : Store} {φ : D → Store → Prop} {ψ : Xn → Store → Prop} (h : Gd (extM d ds S) φ ψ) : ∃ n es ls, d = .ref n ∧ (ds = [.lst es] ∨ ds = [.tup es]) ∧ S[n]? = some (.lst ls) ∧ ls.length + es.length ≤ sizeMax ∧ φ .non (S.set n (.lst (ls ++ es))) := by
  unfold extM at h
  split at h
  · rename_i n es
    obtain ⟨o, e1, h⟩ := getO_of h
    cases o with
    | lst ls =>
      dsimp only at h
      by_cases hz : ls.length + es.length ≤ sizeMax
      · rw [if_pos hz] at h
        exact ⟨_, _, ls, rfl, .inl rfl, e1, hz, putO_of h⟩
      · rw [if_neg hz] at h
        exact False.elim h
  · rename_i n es
    obtain ⟨o, e1, h⟩ := getO_of h
    cases o with
    | lst ls =>
      dsimp only at h
      by_cases hz : ls.length + es.length ≤ sizeMax
      · rw [if_pos hz] at h
        exact ⟨_, _, ls, rfl, .inr rfl, e1, hz, putO_of h⟩
      · rw [if_neg hz] at h
        exact False.elim h
  · exact False.elim h
theorem popM_ok {d : D} {ds : List D} {S : Store} {φ : D → Store → Prop} {ψ : Xn → Store → Prop} (h : Gd (popM d ds S) φ ψ) : ∃ n y ls, d = .ref n ∧ ds = [] ∧ S[n]? = some (.lst ls) ∧ ls[ls.length - 1]? = some y ∧ φ y (S.set n (.lst ls.dropLast)) := by
  unfold popM at h
  split at h
  · obtain ⟨o, e1, h⟩ := getO_of h
    cases o with
    | lst ls =>
      dsimp only at h
      cases e2 : ls[ls.length - 1]? with
      | none =>
        rw [e2] at h
        exact False.elim h
      | some y =>
        rw [e2] at h
        exact ⟨_, y, ls, rfl, rfl, e1, e2, putO_of h⟩
  · exact False.elim h
theorem setIM_ok {d i v : D} {S : Store} {φ : Unit → Store → Prop} {ψ : Xn → Store → Prop} (h : Gd (setIM d i v S) φ ψ) : ∃ n k j ls, d = .ref n ∧ i = .int k ∧ S[n]? = some (.lst ls) ∧ ixN ls.length k = some j ∧ φ () (S.set n (.lst (ls.set j v))) := by
  unfold setIM at h
  split at h
  · rename_i n k
    obtain ⟨o, e1, h⟩ := getO_of h
    cases o with
    | lst ls =>
      dsimp only at h
      cases e2 : ixN ls.length k with
      | none =>
        rw [e2] at h
        exact False.elim h
      | some j =>
        rw [e2] at h
        dsimp only at h
        unfold putO at h
        rw [if_pos (List.getElem?_eq_some_iff.mp e1).1] at h
        exact ⟨_, _, j, ls, rfl, rfl, e1, e2, h⟩
  · exact False.elim h
theorem mt_append_ : MtR X "list.append" (rMe X.K .append) := by
  intro pins s σ H x xs v us Q I rx rxs h
  obtain ⟨m, S, d, ds, st, vd, vds, g⟩ := h
  obtain ⟨n, y', ls, rfl, rfl, e1, hz, g⟩ := appM_ok g
  obtain ⟨a, rfl, ha⟩ := vd
  obtain ⟨y, r, rfl, vy, e2⟩ := vds
  have e2 : r = [] := e2
  subst e2
  obtain ⟨ys, q1, q2⟩ := st.obj _ _ _ ha e1
  obtain ⟨s2, t2⟩ := st.write ha e1 (q2.append (VDs.one vy))
  exact mt_append pins s σ H _ _ v us Q I rx rxs ⟨a, ys, y, rfl, rfl, q1, by rw [q2.length, ← sm_eq]; exact hz, g m _ .non t2 s2 rfl⟩
theorem mt_extend_ : MtR X "list.extend" (rMe X.K .extend) := by
  intro pins s σ H x xs v us Q I rx rxs h
  obtain ⟨m, S, d, ds, st, vd, vds, g⟩ := h
  obtain ⟨n, es, ls, rfl, ed, e1, hz, gg⟩ := extM_ok g
  obtain ⟨a, rfl, ha⟩ := vd
  obtain ⟨ys, q1, q2⟩ := st.obj _ _ _ ha e1
  rcases ed with rfl | rfl
  · obtain ⟨y, r, rfl, vy, e2⟩ := vds
    have e2 : r = [] := e2
    subst e2
    obtain ⟨b, zs, rfl, p1, _, p2⟩ := vy
    obtain ⟨s2, t2⟩ := st.write ha e1 (q2.append p2)
    exact mt_extend pins s σ H _ _ v us Q I rx rxs ⟨a, b, ys, zs, rfl, rfl, q1, p1, by rw [q2.length, p2.length, ← sm_eq]; exact hz, gg m _ .non t2 s2 rfl⟩
  · obtain ⟨y, r, rfl, vy, e2⟩ := vds
    have e2 : r = [] := e2
    subst e2
    obtain ⟨b, zs, rfl, p1, p2⟩ := vy
    obtain ⟨s2, t2⟩ := st.write ha e1 (q2.append p2)
    exact mt_extT pins s σ H _ _ v us Q I rx rxs ⟨a, b, ys, zs, rfl, rfl, q1, p1, by rw [q2.length, p2.length, ← sm_eq]; exact hz, gg m _ .non t2 s2 rfl⟩
theorem mt_pop_ : MtR X "list.pop" (rMe X.K .pop) := by
  intro pins s σ H x xs v us Q I rx rxs h
  obtain ⟨m, S, d, ds, st, vd, vds, g⟩ := h
  obtain ⟨n, y, ls, rfl, rfl, e1, hy, g⟩ := popM_ok g
  obtain ⟨a, rfl, ha⟩ := vd
  have e2 : xs = [] := vds
  subst e2
  obtain ⟨ys, q1, q2⟩ := st.obj _ _ _ ha e1
  obtain ⟨s2, t2⟩ := st.write ha e1 q2.dropLast
  obtain ⟨w, hw, vw⟩ := q2.get hy
  exact mt_pop pins s σ H _ _ v us Q I rx rxs ⟨a, ys, w, rfl, rfl, q1, by rw [q2.length]; exact hw, g m _ w t2 s2 (vw.mono st t2)⟩
def rSetI (K : PySem.W.Frag) : V → V → V → Hp → (Hp → Prop) → Prop := fun o i v H Q => ∃ m S a b d, Sto K m H S ∧ VD K m H a o ∧ VD K m H b i ∧ VD K m H d v ∧ Gd (setIM a b d S) (fun _ S' => ∀ m' H', Stp m H m' H' → Sto K m' H' S' → Q H') fun _ _ => False
theorem set_any : PSet X (rSetI X.K) := by
  intro pins s σ H o i v ov iv u Q I ro ri rv h
  obtain ⟨m, S, a, b, d, st, va, vb, vd, g⟩ := h
  obtain ⟨n, k, j, ls, rfl, rfl, e1, hj, g⟩ := setIM_ok g
  obtain ⟨p, rfl, ha⟩ := va
  have vb : i = _ := vb
  subst vb
  obtain ⟨ys, q1, q2⟩ := st.obj _ _ _ ha e1
  obtain ⟨s2, t2⟩ := st.write ha e1 (q2.set j vd)
  exact set_list pins s σ H _ _ v ov iv u Q I ro ri rv ⟨p, ys, _, j, rfl, rfl, q1, by rw [q2.length]; exact hj, g m _ t2 s2⟩
theorem getIM_ok {d i : D} {S : Store} {φ : D → Store → Prop} {ψ : Xn → Store → Prop} (h : Gd (getIM d i S) φ ψ) : ∃ n k ls y, d = .ref n ∧ i = .int k ∧ S[n]? = some (.lst ls) ∧ atI ls k = some y ∧ φ y S := by
  unfold getIM at h
  split at h
  · obtain ⟨o, e1, h⟩ := getO_of h
    cases o with
    | lst ls =>
      obtain ⟨y, e2, h⟩ := Gd.opt h
      exact ⟨_, _, ls, y, rfl, rfl, e1, e2, h⟩
  · exact False.elim h
/-- o[i] read for o[i] op= e -/
def rGetI (K : PySem.W.Frag) : V → V → Hp → VK → Prop := fun x y H Q => ∃ m S a b, Sto K m H S ∧ VD K m H a x ∧ VD K m H b y ∧ Gd (getIM a b S) (OkW K m H Q) fun _ _ => False
theorem get_any : PGet X (rGetI X.K) := by
  intro pins s σ H x y v u Q I rx ry h
  obtain ⟨m, S, a, b, st, va, vb, g⟩ := h
  obtain ⟨n, i, ls, d, rfl, rfl, e1, e, g⟩ := getIM_ok g
  obtain ⟨p, rfl, ha⟩ := va
  have vb : y = _ := vb
  subst vb
  obtain ⟨xs, q1, r⟩ := st.obj _ _ _ ha e1
  cases rx
  obtain ⟨tk, rfl⟩ := ry
  obtain ⟨w, e', r'⟩ := r.at e
  obtain ⟨its, rv, pl, hz⟩ := I.list (SqL.of q1)
  obtain ⟨j, h1, h2, h3, h4, h5⟩ := atI_get e'
  obtain ⟨z, ez, rz⟩ := rv.get h2
  have hl := rv.length
  have hn := line63
  have fin : EP X pins σ Q z s := ⟨w, H, I, rz, g m H w Stp.refl st r'⟩
  by_cases h0 : 0 ≤ i
  · have hj : i.toNat = j := by
      rw [seqIndex_of h0 h5] at h1
      exact Option.some.inj h1
    exact wpAny_getItem_list pl.isList h0 (by omega) (by rw [hj]; simpa using ez) fin
  · have hj : (i + (its.toArray.size : Int)).toNat = j := by
      rw [seqIndex_neg (by omega) h4] at h1
      rw [List.size_toArray, ← hl]
      exact Option.some.inj h1
    exact wpAny_getItem_list_neg pl.isList (by omega) (by rw [List.size_toArray]; omega) (by omega) (by rw [hj]; simpa using ez) fin
/-! ### isinstance -/
theorem ty_of {m : Am} {H : Hp} {d : D} {v : V} {t : Ty} {b : Bool} (h : Peek X.K m H d v) (e : isiV d t = some b) : ∃ T, TyX X.K H v (.type T) ∧ kitB T (tyName t).2 = some b := by
  have lst_ : ∀ {a : Addr} {xs : List V}, SqL X.K H a xs → TyX X.K H (.ref a) (.type "list") := fun {a xs} q => by
    rcases q with (q | ⟨o, q⟩) | ⟨o, its, n, q, c, _⟩
    · exact .base (.lst q)
    · exact .base (.frz q)
    · exact .kList q c
  have tup_ : ∀ {a : Addr} {xs : List V}, SqT X.K H a xs → TyX X.K H (.ref a) (.type "tuple") := fun {a xs} q => by
    rcases q with (q | ⟨o, q⟩) | ⟨o, its, n, q, c, _⟩
    · exact .base (.tup q)
    · exact .fTuple q
    · exact .kTuple q c
  cases d with
  | ref n => cases e
  | non =>
    cases h with
    | val h =>
      have h : v = _ := h
      subst h
      exact ⟨_, .base .non, by cases t <;> (cases e; decide +kernel)⟩
  | bl _ =>
    cases h with
    | val h =>
      have h : v = _ := h
      subst h
      exact ⟨_, .base (.bl _), by cases t <;> (cases e; decide +kernel)⟩
  | int _ =>
    cases h with
    | val h =>
      have h : v = _ := h
      subst h
      exact ⟨_, .base (.int _), by cases t <;> (cases e; decide +kernel)⟩
  | str _ =>
    cases h with
    | val h =>
      have h : v = _ := h
      subst h
      exact ⟨_, .base (.str _), by cases t <;> (cases e; decide +kernel)⟩
  | dic =>
    cases h with
    | val h =>
      obtain ⟨a, kvs, rfl, q⟩ := h
      exact ⟨_, .base (.dK q), by cases t <;> (cases e; decide +kernel)⟩
  | tup ds =>
    obtain ⟨a, xs, rfl, _, ⟨_, q⟩ | ⟨z, _⟩⟩ := h.sq rfl
    · exact ⟨_, tup_ q, by cases t <;> (cases e; decide +kernel)⟩
    · rcases z with z | z <;> cases z
  | lst ds =>
    obtain ⟨a, xs, rfl, _, ⟨z, _⟩ | ⟨_, q⟩⟩ := h.sq rfl
    · cases z
    · exact ⟨_, lst_ q, by cases t <;> (cases e; decide +kernel)⟩
  | fro ds =>
    obtain ⟨a, xs, rfl, _, ⟨z, _⟩ | ⟨_, q⟩⟩ := h.sq rfl
    · cases z
    · exact ⟨_, lst_ q, by cases t <;> (cases e; decide +kernel)⟩
end
end Ev
set_option Elab.async false
set_option linter.all false
set_option maxRecDepth 100000
set_option maxHeartbeats 8000000
namespace Ev
open PySem PySem.Spec PyProof.Rows L2
section
variable {X : Cx} {c : Ck} {sc : Scope} {fc : Str → Bool} {k : Nat} {call : Nat → List D → M D} {W : WX}
def isBoolOp : Expr → Bool
  | .BoolOp _ _ _ => true
  | _ => false
/-- what is shown of an expression -/
structure SE (X : Cx) (W : WX) (call : Nat → List D → M D) (e : Expr) (e' : E) : Prop where
  val : GE X W call e e'
  test : testable e = true → PT X e (ttv X.K X.mg W call e')
  bool : isBoolOp e = true → PW X e (ttv X.K X.mg W call e')
theorem SE.of {e : Expr} {e' : E} (h : GE X W call e e') (p : plainTest e = true) : SE X W call e e' :=
  ⟨h, fun _ => h.test p, fun b => by cases e <;> first | (cases b; done) | (cases p)⟩
theorem ge_bin {a b : Expr} {a' b' : E} {o : Op} {pos : Pos} (ha : GE X W call a a') (hb : GE X W call b b') : GE X W call (.BinOp a (opOf o) b pos) (.bin o a' b') := by
  refine (pe_op (op_bin o) ha hb).wk fun σ H Q ⟨m, S, ρ, s, r, g⟩ => ?_
  refine tev_of s r g fun d1 S1 m1 H1 v1 t1 s1 r1 vd1 g1 => ?_
  refine tev_of s1 r1 g1 fun d2 S2 m2 H2 v2 t2 s2 r2 vd2 g2 => ?_
  obtain ⟨d, e, g3⟩ := g2.opt
  exact ⟨m2, S2, d1, d2, d, s2, vd1.mono s1 t2, vd2, e, (g3 : OkW X.K m H Q d S2).step (t1.trans t2)⟩
theorem ge_cmp {a b : Expr} {a' b' : E} {o : Cm} {pos : Pos} (kx : Kx X c sc fc k call W) (hn : noSet b = true) (ha : GE X W call a a') (hb : GE X W call b b') : SE X W call (.Compare a [cmOf o] [b] pos) (.cmp o a' b') := by
  have hu : X.A.units + 64 < cLine := kx.room.units
  have red : ∀ {φ : D → Store → Prop} {σ : L2.St} {H : Hp} {m : Am} {S : Store} {ρ : Env} {R : V → Hp → Prop}, Sto X.K m H S → EnvR X.K m H σ ρ →
      Gd (evE call (.cmp o a' b') ρ S) φ (ExW X.K X.mg m H fun c d H' => W c d σ H') →
      (∀ m2 H2 S2 t, Stp m H m2 H2 → Sto X.K m2 H2 S2 → φ (.bl t) S2 → R (.bl t) H2) → tOp (rCmp X.K o) (tev X.K X.mg W call a') (tev X.K X.mg W call b') σ H R := fun {φ σ H m S ρ R} s r g k => by
    refine tev_of s r g fun d1 S1 m1 H1 v1 t1 s1 r1 vd1 g1 => ?_
    refine tev_of s1 r1 g1 fun d2 S2 m2 H2 v2 t2 s2 r2 vd2 g2 => ?_
    obtain ⟨t, e, g3⟩ := Gd.opt (Gd.bind g2)
    exact ⟨m2, S2, d1, d2, t, s2, vd1.mono s1 t2, vd2, e, k m2 H2 S2 t (t1.trans t2) s2 g3⟩
  refine ⟨?_, fun _ => ?_, fun z => by cases z⟩
  · refine (pe_cmpR (op_cmp hu o) ha hb (set_plain hn)).wk fun σ H Q ⟨m, S, ρ, s, r, g⟩ => ?_
    exact red s r g fun m2 H2 S2 t st s2 q => q m2 H2 (.bl t) st s2 rfl
  · refine (pt_cmpR (op_cmp hu o) ha hb (set_plain hn)).wk fun σ H Q ⟨m, S, ρ, s, r, g⟩ => ?_
    have g : Gd (evE call (.cmp o a' b') ρ S) (fun d S' => Gd (truM d S') (OkB X.K m H Q) (ExW X.K X.mg m H fun c d H' => W c d σ H')) _ := Gd.bind g
    refine red s r g fun m2 H2 S2 t st s2 q => ?_
    exact ⟨t, rfl, (q : OkB X.K m H Q t S2) m2 H2 st s2⟩
theorem ge_chain {a b b2 : Expr} {a' b' c' : E} {o p : Cm} {pos : Pos} (kx : Kx X c sc fc k call W) (hn : noSet b2 = true) (ha : GE X W call a a') (hb : GE X W call b b') (hc : GE X W call b2 c') : SE X W call (.Compare a [cmOf o, cmOf p] [b, b2] pos) (.chain o p a' b' c') := by
  have hu : X.A.units + 64 < cLine := kx.room.units
  have hm : lastMarks [cmOf o, cmOf p] [b, b2] = false := set_plain hn
  have red : ∀ {φ : D → Store → Prop} {σ : L2.St} {H : Hp} {m : Am} {S : Store} {ρ : Env} {R : V → Hp → Prop}, Sto X.K m H S → EnvR X.K m H σ ρ →
      Gd (evE call (.chain o p a' b' c') ρ S) φ (ExW X.K X.mg m H fun c d H' => W c d σ H') →
      (∀ m2 H2 S2 t, Stp m H m2 H2 → Sto X.K m2 H2 S2 → φ (.bl t) S2 → R (.bl t) H2) → tChain (rCmp X.K o) (rCmp X.K p) (tev X.K X.mg W call a') (tev X.K X.mg W call b') (tev X.K X.mg W call c') σ H R := fun {φ σ H m S ρ R} s r g k => by
    refine tev_of s r g fun d1 S1 m1 H1 v1 t1 s1 r1 vd1 g1 => ?_
    refine tev_of s1 r1 g1 fun d2 S2 m2 H2 v2 t2 s2 r2 vd2 g2 => ?_
    obtain ⟨t, e, g3⟩ := Gd.opt (Gd.bind g2)
    refine ⟨m2, S2, d1, d2, t, s2, vd1.mono s1 t2, vd2, e, t, rfl, ?_⟩
    cases t with
    | false => exact k m2 H2 S2 false (t1.trans t2) s2 g3
    | true =>
      refine tev_of s2 r2 g3 fun d3 S3 m3 H3 v3 t3 s3 r3 vd3 g4 => ?_
      obtain ⟨t, e, g5⟩ := Gd.opt (Gd.bind g4)
      exact ⟨m3, S3, d2, d3, t, s3, vd2.mono s2 t3, vd3, e, k m3 H3 S3 t ((t1.trans t2).trans t3) s3 g5⟩
  refine ⟨?_, fun _ => ?_, fun z => by cases z⟩
  · refine (pe_chain (op_cmp hu o) (op_cmp hu p) ha hb hc hm).wk fun σ H Q ⟨m, S, ρ, s, r, g⟩ => ?_
    exact red s r g fun m2 H2 S2 t st s2 q => q m2 H2 (.bl t) st s2 rfl
  · refine (pt_chain (op_cmp hu o) (op_cmp hu p) ha hb hc hm).wk fun σ H Q ⟨m, S, ρ, s, r, g⟩ => ?_
    have g : Gd (evE call (.chain o p a' b' c') ρ S) (fun d S' => Gd (truM d S') (OkB X.K m H Q) (ExW X.K X.mg m H fun c d H' => W c d σ H')) _ := Gd.bind g
    refine red s r g fun m2 H2 S2 t st s2 q => ?_
    exact ⟨t, rfl, (q : OkB X.K m H Q t S2) m2 H2 st s2⟩
theorem ge_not {a : Expr} {a' : E} {pos : Pos} (ha : GE X W call a a') (ht : PT X a (ttv X.K X.mg W call a')) : SE X W call (.UnaryOp .Not a pos) (.notE a') := by
  refine ⟨?_, fun _ => ?_, fun z => by cases z⟩
  · refine (pe_notT ha).wk fun σ H Q ⟨m, S, ρ, s, r, g⟩ => ?_
    refine tev_of s r g fun d1 S1 m1 H1 v1 t1 s1 r1 vd1 g1 => ?_
    obtain ⟨b, e, g2⟩ := truM_of g1
    exact ⟨b, truP_ok s1 vd1 e, (g2 : OkW X.K m H Q (.bl !b) S1) m1 H1 _ t1 s1 rfl⟩
  · refine (pt_not ht).wk fun σ H Q ⟨m, S, ρ, s, r, g⟩ => ?_
    have g : Gd (M.bind (evE call a' ρ) (fun x => M.bind (truM x) fun t => M.pure (.bl (!t))) S) (fun d S' => Gd (truM d S') (OkB X.K m H Q) (ExW X.K X.mg m H fun c d H' => W c d σ H')) _ := Gd.bind g
    refine ⟨m, S, ρ, s, r, Gd.join (Gd.mono (Gd.bind g) (fun d S1 g1 => ?_) fun _ _ z => z)⟩
    obtain ⟨b, e, g2⟩ := truM_of g1
    show Gd (truM d S1) _ _
    unfold truM
    rw [e]
    exact fun m1 H1 t1 s1 => (g2 : OkB X.K m H Q (!b) S1) m1 H1 t1 s1
/-- the truth of what a value was found to be is found again -/
theorem tru_again {S : Store} {d : D} {b : Bool} (h : truP S d = some b) {φ : Bool → Store → Prop} {ψ : Xn → Store → Prop} (g : Gd (truM d S) φ ψ) : φ b S := by
  obtain ⟨b', e, g⟩ := truM_end g
  rw [h] at e
  cases e
  exact g
theorem ge_and {a b : Expr} {r : List Expr} {a' b' : E} {pos : Pos} (ha : GE X W call a a') (ta : PT X a (ttv X.K X.mg W call a')) (hb : SE X W call (.BoolOp .And (b :: r) pos) b') : SE X W call (.BoolOp .And (a :: b :: r) pos) (.andE a' b') := by
  have w : PW X (.BoolOp .And (a :: b :: r) pos) (ttv X.K X.mg W call (.andE a' b')) := by
    refine (pw_and ta (hb.bool rfl)).wk fun σ H Q ⟨m, S, ρ, s, r, g⟩ => ?_
    have g : Gd (M.bind (evE call a' ρ) (fun x => M.bind (truM x) fun t => if t then evE call b' ρ else M.pure x) S) (fun d S' => Gd (truM d S') (OkB X.K m H Q) (ExW X.K X.mg m H fun c d H' => W c d σ H')) _ := Gd.bind g
    refine ⟨m, S, ρ, s, r, Gd.join (Gd.mono (Gd.bind g) (fun d S1 g1 => ?_) fun _ _ z => z)⟩
    obtain ⟨t, e1, g2⟩ := truM_of g1
    show Gd (truM d S1) _ _
    unfold truM
    rw [e1]
    intro m1 H1 st1 s1
    cases t with
    | true =>
      refine ⟨m1, S1, ρ, s1, r.mono s st1, Gd.join (Gd.mono g2 (fun d2 S2 g3 => Gd.mono g3 (fun _ _ z => z.step st1) fun _ _ z => z.step st1) fun _ _ z => z.step st1)⟩
    | false => exact (tru_again e1 (g2 : Gd (truM d S1) (OkB X.K m H Q) _) : OkB X.K m H Q false S1) m1 H1 st1 s1
  refine ⟨?_, fun _ => w.pt, fun _ => w⟩
  refine (pe_andT ha hb.val).wk fun σ H Q ⟨m, S, ρ, s, r, g⟩ => ?_
  refine tev_of s r g fun d1 S1 m1 H1 v1 t1 s1 r1 vd1 g1 => ?_
  obtain ⟨b, e, g2⟩ := truM_of g1
  refine ⟨b, truP_ok s1 vd1 e, ?_⟩
  cases b with
  | true => exact ⟨m1, S1, ρ, s1, r1, Gd.mono g2 (fun _ _ z => z.step t1) fun _ _ z => z⟩
  | false => exact (g2 : OkW X.K m H Q d1 S1) m1 H1 v1 t1 s1 vd1
theorem ge_or {a b : Expr} {r : List Expr} {a' b' : E} {pos : Pos} (ha : GE X W call a a') (ta : PT X a (ttv X.K X.mg W call a')) (hb : SE X W call (.BoolOp .Or (b :: r) pos) b') : SE X W call (.BoolOp .Or (a :: b :: r) pos) (.orE a' b') := by
  have w : PW X (.BoolOp .Or (a :: b :: r) pos) (ttv X.K X.mg W call (.orE a' b')) := by
    refine (pw_or ta (hb.bool rfl)).wk fun σ H Q ⟨m, S, ρ, s, r, g⟩ => ?_
    have g : Gd (M.bind (evE call a' ρ) (fun x => M.bind (truM x) fun t => if t then M.pure x else evE call b' ρ) S) (fun d S' => Gd (truM d S') (OkB X.K m H Q) (ExW X.K X.mg m H fun c d H' => W c d σ H')) _ := Gd.bind g
    refine ⟨m, S, ρ, s, r, Gd.join (Gd.mono (Gd.bind g) (fun d S1 g1 => ?_) fun _ _ z => z)⟩
    obtain ⟨t, e1, g2⟩ := truM_of g1
    show Gd (truM d S1) _ _
    unfold truM
    rw [e1]
    intro m1 H1 st1 s1
    cases t with
    | false =>
      refine ⟨m1, S1, ρ, s1, r.mono s st1, Gd.join (Gd.mono g2 (fun d2 S2 g3 => Gd.mono g3 (fun _ _ z => z.step st1) fun _ _ z => z.step st1) fun _ _ z => z.step st1)⟩
    | true => exact (tru_again e1 (g2 : Gd (truM d S1) (OkB X.K m H Q) _) : OkB X.K m H Q true S1) m1 H1 st1 s1
  refine ⟨?_, fun _ => w.pt, fun _ => w⟩
  refine (pe_orT ha hb.val).wk fun σ H Q ⟨m, S, ρ, s, r, g⟩ => ?_
  refine tev_of s r g fun d1 S1 m1 H1 v1 t1 s1 r1 vd1 g1 => ?_
  obtain ⟨b, e, g2⟩ := truM_of g1
  refine ⟨b, truP_ok s1 vd1 e, ?_⟩
  cases b with
  | false => exact ⟨m1, S1, ρ, s1, r1, Gd.mono g2 (fun _ _ z => z.step t1) fun _ _ z => z⟩
  | true => exact (g2 : OkW X.K m H Q d1 S1) m1 H1 v1 t1 s1 vd1
theorem ge_one {op : BoolOp} {a : Expr} {a' : E} {pos : Pos} (ha : GE X W call a a') (ta : PT X a (ttv X.K X.mg W call a')) : SE X W call (.BoolOp op [a] pos) a' := by
  have w : PW X (.BoolOp op [a] pos) (ttv X.K X.mg W call a') := by
    cases op with
    | And => exact pw_and1 ta
    | Or => exact pw_or1 ta
  exact ⟨pe_one ha, fun _ => w.pt, fun _ => w⟩
theorem ge_if {t a b : Expr} {t' a' b' : E} {pos : Pos} (ht : PT X t (ttv X.K X.mg W call t')) (ha : GE X W call a a') (hb : GE X W call b b') : GE X W call (.IfExp t a b pos) (.ifE t' a' b') := by
  refine (pe_ifExp ht ha hb).wk fun σ H Q ⟨m, S, ρ, s, r, g⟩ => ?_
  have g : Gd (M.bind (evE call t' ρ) (fun x => M.bind (truM x) fun t => if t then evE call a' ρ else evE call b' ρ) S) (OkW X.K m H Q) _ := g
  refine ⟨m, S, ρ, s, r, Gd.join (Gd.mono (Gd.bind g) (fun d S1 g1 => ?_) fun _ _ z => z)⟩
  obtain ⟨t, e1, g2⟩ := truM_of g1
  show Gd (truM d S1) _ _
  unfold truM
  rw [e1]
  intro m1 H1 st1 s1
  cases t with
  | true => exact ⟨m1, S1, ρ, s1, r.mono s st1, Gd.mono g2 (fun _ _ z => z.step st1) fun _ _ z => z.step st1⟩
  | false => exact ⟨m1, S1, ρ, s1, r.mono s st1, Gd.mono g2 (fun _ _ z => z.step st1) fun _ _ z => z.step st1⟩
theorem evEs_len : ∀ {us : List E} {ρ : Env} {S : Store} {φ : List D → Store → Prop} {ψ : Xn → Store → Prop}, Gd (evEs call us ρ S) φ ψ → Gd (evEs call us ρ S) (fun ds S' => ds.length = us.length ∧ φ ds S') ψ
  | [], _, _, _, _, h => ⟨rfl, h⟩
  | u :: us, ρ, S, φ, ψ, h => by
    have h : Gd (M.bind (evE call u ρ) (fun d => M.bind (evEs call us ρ) fun ds => M.pure (d :: ds)) S) φ ψ := h
    refine Gd.join (Gd.mono (Gd.bind h) (fun d S1 g1 => Gd.join (Gd.mono (evEs_len (Gd.bind g1)) (fun ds S2 g2 => ?_) fun _ _ z => z)) fun _ _ z => z)
    exact ⟨by rw [List.length_cons, List.length_cons, g2.1], g2.2⟩
theorem tevs_len {us : List E} {σ : L2.St} {H : Hp} {Q : List V → Hp → Prop} (h : tevs X.K X.mg W call us σ H Q) : tevs X.K X.mg W call us σ H fun vs H1 => vs.length = us.length ∧ Q vs H1 := by
  obtain ⟨m, S, ρ, s, r, g⟩ := h
  exact ⟨m, S, ρ, s, r, Gd.mono (evEs_len g) (fun ds S1 g1 m1 H1 vs st s1 vd => ⟨by rw [vd.length, g1.1], g1.2 m1 H1 vs st s1 vd⟩) fun _ _ z => z⟩
theorem ge_tup {es : List Expr} {us : List E} {x : Nat} {pos : Pos} (h : PA X es (tevs X.K X.mg W call us)) (hl : us.length ≤ 1000) : GE X W call (.Tuple es x pos) (.tup us) := by
  refine (pe_tup h).wk fun σ H Q ⟨m, S, ρ, s, r, g⟩ => ?_
  have g : Gd (M.bind (evEs call us ρ) (fun ds => M.pure (.tup ds)) S) (OkW X.K m H Q) _ := g
  refine ⟨m, S, ρ, s, r, Gd.mono (evEs_len (Gd.bind g)) (fun ds S1 g1 m1 H1 vs st s1 vd => ⟨?_, fun p hp => ?_⟩) fun _ _ z => z⟩
  · rw [vd.length, g1.1, sizeLine_eq]
    omega
  · exact ((g1.2 : OkW X.K m H Q (.tup ds) S1).step st).hnd.tupN s1 vd p hp
theorem ge_lst {es : List Expr} {us : List E} {pos : Pos} (h : PA X es (tevs X.K X.mg W call us)) (hl : us.length ≤ 1000) : GE X W call (.List es pos) (.lst us) := by
  refine (pe_lst h).wk fun σ H Q ⟨m, S, ρ, s, r, g⟩ => ?_
  have g : Gd (M.bind (evEs call us ρ) (fun ds => M.pure (.lst ds)) S) (OkW X.K m H Q) _ := g
  refine ⟨m, S, ρ, s, r, Gd.mono (evEs_len (Gd.bind g)) (fun ds S1 g1 m1 H1 vs st s1 vd => ⟨?_, fun p hp => ?_⟩) fun _ _ z => z⟩
  · rw [vd.length, g1.1, sizeLine_eq]
    omega
  · exact ((g1.2 : OkW X.K m H Q (.lst ds) S1).step st).hnd.lstN s1 vd p hp
theorem ge_new {es : List Expr} {us : List E} {pos : Pos} (h : PA X es (tevs X.K X.mg W call us)) (hl : us.length ≤ 1000) : GE X W call (.List es pos) (.new us) := by
  refine (pe_lst h).wk fun σ H Q ⟨m, S, ρ, s, r, g⟩ => ?_
  have g : Gd (M.bind (evEs call us ρ) (fun ds => alloc (.lst ds)) S) (OkW X.K m H Q) _ := g
  refine ⟨m, S, ρ, s, r, Gd.mono (evEs_len (Gd.bind g)) (fun ds S1 g1 m1 H1 vs st s1 vd => ⟨?_, fun p hp => ?_⟩) fun _ _ z => z⟩
  · rw [vd.length, g1.1, sizeLine_eq]
    omega
  · obtain ⟨s2, t2⟩ := s1.new hp vd
    refine (g1.2 : OkW X.K m H Q (.ref S1.length) (S1 ++ [.lst ds])) (m1.push p) _ (.ref p) (st.trans t2) s2 ⟨p, rfl, ?_⟩
    show (m1.l ++ [p])[S1.length]? = some p
    rw [← s1.len, List.getElem?_append_right (Nat.le_refl _), Nat.sub_self]
    rfl
theorem ge_idx {a b : Expr} {a' b' : E} {pos : Pos} (hn : noSlice b = true) (ha : GE X W call a a') (hb : GE X W call b b') : GE X W call (.Subscript a b pos) (.idx a' b') := by
  refine (pe_ix ix_any ha hb (ix_plain hn)).wk fun σ H Q ⟨m, S, ρ, s, r, g⟩ => ?_
  refine tev_of s r g fun d1 S1 m1 H1 v1 t1 s1 r1 vd1 g1 => ?_
  refine tev_of s1 r1 g1 fun d2 S2 m2 H2 v2 t2 s2 r2 vd2 g2 => ?_
  obtain ⟨d3, pk, g3⟩ := peek_of s2 (vd1.mono s1 t2) g2
  obtain ⟨d, e, g4⟩ := g3.opt
  exact ⟨m2, S2, d3, d2, d, s2, pk, vd2, e, (g4 : OkW X.K m H Q d S2).step (t1.trans t2)⟩
/-- a slice's part -/
def tpart (K : PySem.W.Frag) (mg : Str → Option Value) (W : WX) (call : Nat → List D → M D) (l : Bool) (e : E) : TO := fun σ H Q => ∃ m S ρ, Sto K m H S ∧ EnvR K m H σ ρ ∧
  Gd (M.bind (if l then evE call e ρ else M.pure .non) (fun y => opt (partM l y)) S) (fun o S' => ∀ m' H', Stp m H m' H' → Sto K m' H' S' → Q o H') (ExW K mg m H fun c d H' => W c d σ H')
theorem po_any {o : Option Expr} {l : Bool} {e : E} (h : match o with | none => l = false | some z => l = true ∧ GE X W call z e) : PO X o (tpart X.K X.mg W call l e) := by
  cases o with
  | none =>
    have h : l = false := h
    subst h
    refine ⟨fun pins s σ H Q I ⟨m, S, ρ, st, r, g⟩ => po_none.run pins s σ H Q I ?_⟩
    have g : Gd (M.bind (M.pure .non) (fun y => opt (partM false y)) S) (fun o S' => ∀ m' H', Stp m H m' H' → Sto X.K m' H' S' → Q o H') (ExW X.K X.mg m H fun c d H' => W c d σ H') := g
    have g1 : Gd (opt (partM false .non) S) (fun o S' => ∀ m' H', Stp m H m' H' → Sto X.K m' H' S' → Q o H') (ExW X.K X.mg m H fun c d H' => W c d σ H') := Gd.bind g
    obtain ⟨o, e1, g⟩ := g1.opt
    cases e1
    exact g m H Stp.refl st
  | some z =>
    obtain ⟨hl, h⟩ := h
    subst hl
    refine ⟨fun pins s σ H Q I ⟨m, S, ρ, st, r, g⟩ => (po_some h).run pins s σ H Q I ?_⟩
    refine tev_of st r g fun d S1 m1 H1 v t1 s1 r1 vd g1 => ?_
    obtain ⟨o, e1, g2⟩ := g1.opt
    cases d with
    | int i =>
      cases e1
      have vd : v = _ := vd
      exact ⟨i, vd, g2 m1 H1 t1 s1⟩
    | _ => cases e1
theorem tpart_of {K : PySem.W.Frag} {mg : Str → Option Value} {m : Am} {H : Hp} {S : Store} {σ : L2.St} {ρ : Env} (s : Sto K m H S) (r : EnvR K m H σ ρ) {l : Bool} {e : E} {β : Type} {f : Option Int → M β} {φ : β → Store → Prop} {Q : Option Int → Hp → Prop}
    (h : Gd (M.bind (if l then evE call e ρ else M.pure .non) (fun y => M.bind (opt (partM l y)) f) S) φ (ExW K mg m H fun c d H' => W c d σ H'))
    (k : ∀ d S' m' H', Stp m H m' H' → Sto K m' H' S' → EnvR K m' H' σ ρ → Gd (f d S') φ (ExW K mg m' H' fun c d H' => W c d σ H') → Q d H') : tpart K mg W call l e σ H Q :=
  ⟨m, S, ρ, s, r, Gd.join (Gd.mono (Gd.bind h) (fun d S1 g => Gd.mono (Gd.bind g) (fun o S2 g2 m' H' st s' => k o S2 m' H' st s' (r.mono s st) (g2.mono (fun _ _ z => z) fun _ _ z => z.step st)) fun _ _ z => z) fun _ _ z => z)⟩
theorem ge_sl {a : Expr} {lo hi : Option Expr} {a' lo' hi' : E} {l h : Bool} {p2 pos : Pos} (ha : GE X W call a a') (h1 : PO X lo (tpart X.K X.mg W call l lo')) (h2 : PO X hi (tpart X.K X.mg W call h hi')) : GE X W call (.Subscript a (.Slice lo hi none p2) pos) (.sl a' l lo' h hi') := by
  refine (pe_slice sl_any ha h1 h2).wk fun σ H Q ⟨m, S, ρ, s, r, g⟩ => ?_
  refine tev_of s r g fun d1 S1 m1 H1 v1 t1 s1 r1 vd1 g1 => ?_
  refine tpart_of s1 r1 g1 fun o2 S2 m2 H2 t2 s2 r2 g2 => ?_
  refine tpart_of s2 r2 g2 fun o3 S3 m3 H3 t3 s3 r3 g3 => ?_
  obtain ⟨d3, pk, g4⟩ := peek_of s3 ((vd1.mono s1 t2).mono s2 t3) g3
  obtain ⟨d, e, g5⟩ := g4.opt
  exact ⟨m3, S3, d3, d, s3, pk, e, (g5 : OkW X.K m H Q d S3).step ((t1.trans t2).trans t3)⟩
theorem ge_call {x : Str} {f np : Nat} {es : List Expr} {us : List E} {p pos : Pos} (kx : Kx X c sc fc k call W) (gl : glb sc x = true) (pn : plainName x = true) (co : CallOk X k call f np x) (hn : np = us.length) (hl : es.length = us.length) (hs : es.all noStar = true) (ha : PA X es (tevs X.K X.mg W call us)) :
    GE X W call (.Call (.Name x p) es [] pos) (.call f us) := by
  obtain ⟨fa, fd, ps, hm, hk, hb, F⟩ := co
  have gl := glb_ok (X := X) kx.sc gl
  obtain ⟨n1, _, _⟩ := plain_ok pn
  have main : PE X (.Call (.Name x p) es [] pos) (tCallG (spC X.K X.mg (call f) np) W (tevs X.K X.mg W call us)) := by
    cases es with
    | nil =>
      have e : us = [] := List.eq_nil_of_length_eq_zero hl.symm
      subst e
      refine (pe_callG0 F kx.room kx.guards gl hm hk hb kx.tk n1).wk fun σ H Q ⟨m, S, ρ, s, r, g⟩ => ?_
      exact (g : OkL X.K m H _ [] S) m H [] Stp.refl s rfl
    | cons e es =>
      rw [List.all_cons, Bool.and_eq_true] at hs
      exact pe_callG F kx.room kx.guards gl hm hk hb kx.tk ha n1 (star_cons hs.1) (star_plain hs.2)
  refine main.wk fun σ H Q h => ?_
  obtain ⟨m, S, ρ, s, r, g⟩ := h
  have g : Gd (M.bind (evEs call us ρ) (fun ds => call f ds) S) (OkW X.K m H Q) _ := g
  refine ⟨m, S, ρ, s, r, Gd.mono (evEs_len (Gd.bind g)) (fun ds S1 g1 m1 H1 vs st s1 vd => ⟨?_, m1, S1, ds, s1, vd, ?_⟩) fun _ _ z => z⟩
  · rw [vd.length, g1.1, hn]
  · exact Gd.mono g1.2 (fun _ _ z => z.step st) fun _ _ z => z.step st
theorem ge_isi {x y : Str} {a : Expr} {a' : E} {t : Ty} {p p2 pos : Pos} (kx : Kx X c sc fc k call W) (g1 : gfree c sc x = true) (ex : x = "isinstance") (g2 : gfree c sc y = true) (ey : (tyName t).1 = y) (hs : noStar a = true) (ha : GE X W call a a') :
    GE X W call (.Call (.Name x p) [a, .Name y p2] [] pos) (.isi a' t) := by
  obtain ⟨g1, b3⟩ := ba' g1
  obtain ⟨b1, b2⟩ := ba' g1
  obtain ⟨g2, c3⟩ := ba' g2
  obtain ⟨c1, c2⟩ := ba' g2
  obtain ⟨n1, _, n3⟩ := plain_ok b3
  obtain ⟨o1, _, o3⟩ := plain_ok c3
  have hy : bootBuiltins y = some (.type (tyName t).2) := by
    subst ey
    cases t <;> decide +kernel
  have pt : PE X (.Name y p2) (tC (.ty (tyName t).2)) := pe_bltn (glb_ok (X := X) kx.sc c1) (kx.free y c2) hy rfl o3 o1
  have hx : bootBuiltins x = some (.builtin "isinstance") := by
    subst ex
    decide +kernel
  refine (pe_callB call_isi (glb_ok (X := X) kx.sc b1) (kx.free x b2) hx (pa_cons ha (pa_cons pt pa_nil) (star_cons hs)) n3 n1 (star_cons hs)).wk fun σ H Q ⟨m, S, ρ, s, r, g⟩ => ?_
  refine tev_of s r g fun d1 S1 m1 H1 v1 t1 s1 r1 vd1 g1 => ?_
  obtain ⟨d2, pk, g2⟩ := peek_of s1 vd1 g1
  obtain ⟨b, e, g3⟩ := Gd.opt (Gd.bind g2)
  obtain ⟨T, h1, h2⟩ := ty_of pk e
  exact ⟨v1, _, _, _, b, rfl, .ty _, h1, kit_ty h2, (g3 : OkW X.K m H Q (.bl b) S1) m1 H1 _ t1 s1 rfl⟩
theorem Gd.noex {α : Type} {r : Option (Rs α)} {φ : α → Store → Prop} {ψ : Xn → Store → Prop} (h : ∀ x S, r ≠ some (.ex x S)) (g : Gd r φ ψ) : Gd r φ fun _ _ => False := by
  cases r with
  | none => exact g
  | some r => cases r with
    | ok a S => exact g
    | ex x S => exact absurd rfl (h x S)
theorem getO_noex {β : Type} {n : Nat} {f : SO → M β} {S : Store} (h : ∀ o x S', f o S ≠ some (.ex x S')) {x : Xn} {S' : Store} : M.bind (getO n) f S ≠ some (.ex x S') := by
  unfold M.bind getO
  cases S[n]? with
  | none => exact fun z => by cases z
  | some o => exact h o x S'
theorem putO_noex {β : Type} {n : Nat} {o : SO} {a : β} {S : Store} {x : Xn} {S' : Store} : M.bind (putO n o) (fun _ => M.pure a) S ≠ some (.ex x S') := by
  unfold M.bind putO
  by_cases h : n < S.length
  · rw [if_pos h]
    exact fun z => by cases z
  · rw [if_neg h]
    exact fun z => by cases z
theorem appM_noex {d : D} {ds : List D} {S : Store} {x : Xn} {S' : Store} : appM d ds S ≠ some (.ex x S') := by
  unfold appM
  split
  · refine getO_noex fun o x S' => ?_
    cases o with
    | lst ls =>
      dsimp only
      split
      · exact putO_noex
      · exact fun z => by cases z
  · exact fun z => by cases z
theorem extM_noex {d : D} {ds : List D} {S : Store} {x : Xn} {S' : Store} : extM d ds S ≠ some (.ex x S') := by
  unfold extM
  split
  · refine getO_noex fun o x S' => ?_
    cases o with
    | lst ls =>
      dsimp only
      split
      · exact putO_noex
      · exact fun z => by cases z
  · refine getO_noex fun o x S' => ?_
    cases o with
    | lst ls =>
      dsimp only
      split
      · exact putO_noex
      · exact fun z => by cases z
  · exact fun z => by cases z
theorem popM_noex {d : D} {ds : List D} {S : Store} {x : Xn} {S' : Store} : popM d ds S ≠ some (.ex x S') := by
  unfold popM
  split
  · refine getO_noex fun o x S' => ?_
    cases o with
    | lst ls =>
      dsimp only
      cases ls[ls.length - 1]? with
      | none => exact fun z => by cases z
      | some y => exact putO_noex
  · exact fun z => by cases z
theorem few_ok {e : Expr} {es : List Expr} {env : PySem.Env} {pos : Pos} (h : (e :: es).all noStar = true) (hz : (e :: es).length ≤ 5) : ((backTo pos (starEach (e :: es) env)).all (fun x => !x.1) && (backToKw pos (keywordEach [] env)).all (fun x => x.1.isSome)
      && decide ((e :: es).length + ([] : List Keyword).length + (if ([] : List Keyword).isEmpty then 0 else 1) < 30)) = true := by
  rw [star_all h]
  show (true && true && decide ((e :: es).length + 0 + 0 < 30)) = true
  rw [decide_eq_true (by omega)]
  rfl
theorem ge_meth {o : Expr} {mm : Str} {me : Me} {o' : E} {es : List Expr} {us : List E} {apos pos : Pos} (hm : meName me = (mm, us.length)) (nc : noCall o = true) (ln : (apos.endLine == pos.line) = true) (hl : es.length = us.length) (hs : es.all noStar = true) (hz : es.length ≤ 5)
    (ho : GE X W call o o') (ha : PA X es (tevs X.K X.mg W call us)) : GE X W call (.Call (.Attribute o mm apos) es [] pos) (.meth me o' us) := by
  have red : ∀ {σ : L2.St} {H : Hp} {Q : VK} {m : Am} {S : Store} {ρ : Env}, Sto X.K m H S → EnvR X.K m H σ ρ → Gd (evE call (.meth me o' us) ρ S) (OkW X.K m H Q) (ExW X.K X.mg m H fun c d H' => W c d σ H') →
      tev X.K X.mg W call o' σ H fun x H1 => tyV X.K "list" x H1 ∧ tevs X.K X.mg W call us σ H1 fun xs H2 => rMe X.K me x xs H2 Q := fun {σ H Q m S ρ} s r g => by
    refine tev_of s r g fun d1 S1 m1 H1 v1 t1 s1 r1 vd1 g1 => ?_
    have g2 := Gd.bind g1
    unfold meReady at g2
    split at g2
    · rename_i n
      obtain ⟨a, rfl, ha⟩ := id vd1
      obtain ⟨ol, e, g3⟩ := getO_of g2
      cases ol with
      | lst ls =>
        obtain ⟨xs, q1, _⟩ := s1.obj _ _ _ ha e
        refine ⟨.inl ⟨rfl, xs, SqL.of q1⟩, ?_⟩
        have g3 : Gd (M.bind (evEs call us ρ) (fun ds => meM me (.ref n) ds) S1) (OkW X.K m H Q) _ := g3
        refine tevs_of s1 r1 g3 fun ds S2 m2 H2 vs t2 s2 r2 vds g4 => ?_
        refine ⟨m2, S2, .ref n, ds, s2, vd1.mono s1 t2, vds, ?_⟩
        cases me with
        | append =>
          obtain ⟨_, _, _, _, _, _, _, q⟩ := appM_ok g4
          exact Gd.mono (Gd.noex (fun x S3 => appM_noex) g4) (fun _ _ z => z.step (t1.trans t2)) fun _ _ z => z
        | extend => exact Gd.mono (Gd.noex (fun x S3 => extM_noex) g4) (fun _ _ z => z.step (t1.trans t2)) fun _ _ z => z
        | pop => exact Gd.mono (Gd.noex (fun x S3 => popM_noex) g4) (fun _ _ z => z.step (t1.trans t2)) fun _ _ z => z
    · exact False.elim g2
  obtain ⟨e1, e2⟩ : (meName me).1 = mm ∧ (meName me).2 = us.length := by rw [hm]; exact ⟨rfl, rfl⟩
  subst e1
  cases me with
  | append =>
    match es, hl, hs, hz, ha with
    | [], hl, _, _, _ => rw [← hl] at e2; cases e2
    | e :: es, hl, hs, hz, ha =>
      have hs' := hs
      rw [List.all_cons, Bool.and_eq_true] at hs'
      exact (pe_bm PySem.F.plainAttrs_list PySem.F.slot_list_append PySem.F.type_list_append mt_append_ ho ha (base_plain nc) (few_ok hs hz) ln (star_cons hs'.1) (star_plain hs'.2)).wk fun σ H Q ⟨m, S, ρ, s, r, g⟩ => red s r g
  | extend =>
    match es, hl, hs, hz, ha with
    | [], hl, _, _, _ => rw [← hl] at e2; cases e2
    | e :: es, hl, hs, hz, ha =>
      have hs' := hs
      rw [List.all_cons, Bool.and_eq_true] at hs'
      exact (pe_bm PySem.F.plainAttrs_list PySem.F.slot_list_extend PySem.F.type_list_extend mt_extend_ ho ha (base_plain nc) (few_ok hs hz) ln (star_cons hs'.1) (star_plain hs'.2)).wk fun σ H Q ⟨m, S, ρ, s, r, g⟩ => red s r g
  | pop =>
    have hu : us = [] := List.eq_nil_of_length_eq_zero e2.symm
    subst hu
    have he : es = [] := List.eq_nil_of_length_eq_zero hl
    subst he
    refine (pe_bm0 PySem.F.plainAttrs_list PySem.F.slot_list_pop PySem.F.type_list_pop mt_pop_ ho (base_plain nc) ln).wk fun σ H Q ⟨m, S, ρ, s, r, g⟩ => ?_
    have q := red s r g
    refine (fun (h : ∀ x H1, (tyV X.K "list" x H1 ∧ tevs X.K X.mg W call [] σ H1 fun xs H2 => rMe X.K .pop x xs H2 Q) → (tyV X.K "list" x H1 ∧ rMe X.K .pop x [] H1 Q)) => ?_) fun x H1 ⟨a, m1, S1, ρ1, s1, r1, g1⟩ => ⟨a, (g1 : OkL X.K m1 H1 _ [] S1) m1 H1 [] Stp.refl s1 rfl⟩
    obtain ⟨m, S, ρ, s, r, g⟩ := q
    exact ⟨m, S, ρ, s, r, Gd.mono g (fun d S1 g1 m1 H1 v st s1 vd => h v H1 (g1 m1 H1 v st s1 vd)) fun _ _ z => z⟩
end
end Ev
set_option Elab.async false
set_option linter.all false
set_option maxRecDepth 100000
set_option maxHeartbeats 8000000
namespace Ev
open PySem PySem.Spec PyProof.Rows L2
/-- nothing happened, or an object of no consequence came -/
def Fr1 (H H' : Hp) : Prop := H' = H ∨ ∃ T o, H T = none ∧ H' = upd H T o
theorem Fr1.step {K : PySem.W.Frag} {m : Am} {H H' : Hp} {S : Store} (s : Sto K m H S) (f : Fr1 H H') : Stp m H m H' ∧ Sto K m H' S := by
  rcases f with rfl | ⟨T, o, h, rfl⟩
  · exact ⟨Stp.refl, s⟩
  · exact ⟨Stp.fresh s h, s.fresh h⟩
/-- J walks what is told -/
def SrcJ (K : PySem.W.Frag) (m : Am) (H : Hp) : Src → It → Prop
  | .items ds, J => ∀ m' H' S', Stx m H m' H' → Sto K m' H' S' → ∀ i, (i < ds.length → J.go i H' ∧ ∀ x H'', J.yld i H' x H'' → ∃ d, ds[i]? = some d ∧ Fr1 H' H'' ∧ VD K m' H'' d x) ∧ (i = ds.length → J.stop i H')
  | .ref n, J => ∃ a, m.l[n]? = some a ∧ J = Itl K a
/-- what a loop walks, as read -/
def tis (K : PySem.W.Frag) (mg : Str → Option Value) (W : WX) (call : Nat → List D → M D) (k : Sk) (src : List E) : TI := fun σ H R => ∃ m S ρ, Sto K m H S ∧ EnvR K m H σ ρ ∧
  Gd (M.bind (evEs call src ρ) (fun ds => opt (srcOf k ds)) S) (fun sc S' => ∀ m' H' J, Stp m H m' H' → Sto K m' H' S' → SrcJ K m' H' sc J → R J H') (ExW K mg m H fun c d H' => W c d σ H')
theorem _root_.L2.PI.wk {X : Cx} {tg e : Expr} {t t' : TI} (h : PI X tg e t) (f : ∀ σ H R, t' σ H R → t σ H R) : PI X tg e t' := ⟨fun p s σ H R I q => h.run p s σ H R I (f σ H R q)⟩
theorem _root_.L2.PI.or {X : Cx} {tg e : Expr} {t t' : TI} (h : PI X tg e t) (h' : PI X tg e t') : PI X tg e (fun σ H R => t σ H R ∨ t' σ H R) := ⟨fun p s σ H R I q => q.elim (h.run p s σ H R I) (h'.run p s σ H R I)⟩
section
variable {K : PySem.W.Frag} {m : Am} {H : Hp} {S : Store} {a : Addr} {xs : List V} {ds : List D}
/-- a list that stays -/
theorem srcJ_list (q : ∀ m' H' S', Stx m H m' H' → Sto K m' H' S' → SqL K H' a xs ∧ VDs K m' H' ds xs) : SrcJ K m H (.items ds) (Itl K a) := by
  intro m' H' S' st s i
  obtain ⟨q1, q2⟩ := q m' H' S' st s
  refine ⟨fun hi => ?_, fun hi => ⟨xs, q1, by rw [q2.length, hi]; exact Nat.le_refl _⟩⟩
  have e : ds[i]? = some ds[i] := List.getElem?_eq_getElem hi
  obtain ⟨v, hv, vd⟩ := q2.get e
  refine ⟨⟨xs, v, q1, hv⟩, fun x H'' y => ?_⟩
  obtain ⟨rfl, f⟩ := y
  have ex := f xs q1
  rw [hv] at ex
  cases ex
  exact ⟨ds[i], e, .inl rfl, vd⟩
theorem srcJ_tup (q : ∀ m' H' S', Stx m H m' H' → Sto K m' H' S' → SqT K H' a xs ∧ VDs K m' H' ds xs) : SrcJ K m H (.items ds) (Itt K a) := by
  intro m' H' S' st s i
  obtain ⟨q1, q2⟩ := q m' H' S' st s
  refine ⟨fun hi => ?_, fun hi => ⟨xs, q1, by rw [q2.length, hi]; exact Nat.le_refl _⟩⟩
  have e : ds[i]? = some ds[i] := List.getElem?_eq_getElem hi
  obtain ⟨v, hv, vd⟩ := q2.get e
  refine ⟨⟨xs, v, q1, hv⟩, fun x H'' y => ?_⟩
  obtain ⟨rfl, f⟩ := y
  have ex := f xs q1
  rw [hv] at ex
  cases ex
  exact ⟨ds[i], e, .inl rfl, vd⟩
theorem srcJ_range {lo c : Int} {n : Nat} : SrcJ K m H (.items (rangeC lo c n)) (Itc lo c n) := by
  intro m' H' S' st s i
  have hl : (rangeC lo c n).length = n := by
    unfold rangeC
    rw [List.length_map, List.length_range]
  rw [hl]
  refine ⟨fun hi => ⟨hi, fun x H'' y => ?_⟩, fun hi => Nat.le_of_eq hi.symm⟩
  obtain ⟨rfl, rfl⟩ := y
  refine ⟨.int (lo + (i : Nat) * c), ?_, .inl rfl, rfl⟩
  unfold rangeC
  rw [List.getElem?_map, List.getElem?_range hi]
  rfl
theorem srcJ_range1 {lo : Int} {n : Nat} : SrcJ K m H (.items (rangeD lo n)) (Itr lo n) := by
  intro m' H' S' st s i
  have hl : (rangeD lo n).length = n := by
    unfold rangeD
    rw [List.length_map, List.length_range]
  rw [hl]
  refine ⟨fun hi => ⟨hi, fun x H'' y => ?_⟩, fun hi => Nat.le_of_eq hi.symm⟩
  obtain ⟨rfl, rfl⟩ := y
  refine ⟨.int (lo + (i : Nat)), ?_, .inl rfl, rfl⟩
  unfold rangeD
  rw [List.getElem?_map, List.getElem?_range hi]
  rfl
end
section
variable {X : Cx} {c : Ck} {sc : Scope} {fc : Str → Bool} {k : Nat} {call : Nat → List D → M D} {W : WX}
/-- a list, a tuple, a list of the store -/
theorem pi_seq_ {tg e : Expr} {e' : E} (h : GE X W call e e') : PI X tg e (tis X.K X.mg W call .seq [e']) := by
  refine ((pi_list h).or (pi_tup h)).wk fun σ H R ⟨m, S, ρ, s, r, g⟩ => ?_
  have g : Gd (M.bind (M.bind (evE call e' ρ) fun d => M.bind (M.pure []) fun ds => M.pure (d :: ds)) (fun ds => opt (srcOf .seq ds)) S) (fun sc S' => ∀ m' H' J, Stp m H m' H' → Sto X.K m' H' S' → SrcJ X.K m' H' sc J → R J H') (ExW X.K X.mg m H fun c d H' => W c d σ H') := g
  have g1 : Gd (evE call e' ρ S) (fun d S1 => Gd (opt (srcOf .seq [d]) S1) (fun sc S' => ∀ m' H' J, Stp m H m' H' → Sto X.K m' H' S' → SrcJ X.K m' H' sc J → R J H') (ExW X.K X.mg m H fun c d H' => W c d σ H')) (ExW X.K X.mg m H fun c d H' => W c d σ H') :=
    Gd.mono (Gd.bind (Gd.bind g)) (fun d S1 z => z) fun _ _ z => z
  -- the value is known to the evaluator ahead of the walk
  cases e0 : evE call e' ρ S with
  | none =>
    rw [e0] at g1
    exact False.elim g1
  | some r0 =>
    rw [e0] at g1
    cases r0 with
    | ex x S1 =>
      refine .inl ⟨m, S, ρ, s, r, ?_⟩
      rw [e0]
      exact g1
    | ok d S1 =>
      obtain ⟨sc, e1, g2⟩ := Gd.opt (show Gd (opt (srcOf .seq [d]) S1) _ _ from g1)
      have fin : ∀ (ds : List D), itemsV d = some ds → sc = .items ds →
          (iList X.K (tev X.K X.mg W call e') σ H R ∨ iTup X.K (tev X.K X.mg W call e') σ H R) := fun ds hd hs => by
        subst hs
        cases d with
        | tup ds' =>
          cases hd
          refine .inr ⟨m, S, ρ, s, r, ?_⟩
          rw [e0]
          intro m1 H1 v st s1 vd
          obtain ⟨a, xs, rfl, q1, q2⟩ := vd
          refine ⟨a, rfl, ⟨xs, q1⟩, g2 m1 H1 _ st s1 (srcJ_tup (xs := xs) fun m' H' S' st' s' => ?_)⟩
          exact ⟨st'.sqT s1 q1, VDs.monox s1 st' _ _ q2⟩
        | lst ds' =>
          cases hd
          refine .inl ⟨m, S, ρ, s, r, ?_⟩
          rw [e0]
          intro m1 H1 v st s1 vd
          obtain ⟨a, xs, rfl, q1, n1, q2⟩ := vd
          refine ⟨a, rfl, ⟨xs, SqL.of q1⟩, g2 m1 H1 _ st s1 (srcJ_list (xs := xs) fun m' H' S' st' s' => ?_)⟩
          exact ⟨SqL.of (st'.keep a _ q1 n1), VDs.monox s1 st' _ _ q2⟩
        | fro ds' =>
          cases hd
          refine .inl ⟨m, S, ρ, s, r, ?_⟩
          rw [e0]
          intro m1 H1 v st s1 vd
          obtain ⟨a, xs, rfl, q1, q2⟩ := id vd
          refine ⟨a, rfl, ⟨xs, q1.sq⟩, g2 m1 H1 _ st s1 (srcJ_list (xs := xs) fun m' H' S' st' s' => ?_)⟩
          rcases q1 with ⟨o, q1⟩ | q1
          · exact ⟨.inl (.inr ⟨o, st'.keep a _ q1 (s1.notLst q1 fun _ z => by cases z)⟩), VDs.monox s1 st' _ _ q2⟩
          · exact ⟨q1 H', VDs.monox s1 st' _ _ q2⟩
        | _ => cases hd
      cases d with
      | ref n =>
        cases e1
        refine .inl ⟨m, S, ρ, s, r, ?_⟩
        rw [e0]
        intro m1 H1 v st s1 vd
        obtain ⟨a, rfl, ha⟩ := vd
        obtain ⟨xs, q⟩ := s1.there (Am.of ha)
        exact ⟨a, rfl, ⟨xs, SqL.of q⟩, g2 m1 H1 _ st s1 ⟨a, ha, rfl⟩⟩
      | tup ds =>
        have e1 : Option.map Src.items (itemsV (.tup ds)) = some sc := e1
        obtain ⟨ds', e2, e3⟩ := Option.map_eq_some_iff.mp e1
        exact fin ds' e2 e3.symm
      | lst ds =>
        have e1 : Option.map Src.items (itemsV (.lst ds)) = some sc := e1
        obtain ⟨ds', e2, e3⟩ := Option.map_eq_some_iff.mp e1
        exact fin ds' e2 e3.symm
      | fro ds =>
        have e1 : Option.map Src.items (itemsV (.fro ds)) = some sc := e1
        obtain ⟨ds', e2, e3⟩ := Option.map_eq_some_iff.mp e1
        exact fin ds' e2 e3.symm
      | _ => cases e1
theorem inRg_ok {i : Int} (h : inRg i = true) : -(2 ^ 62) ≤ i ∧ i < 2 ^ 62 := by
  unfold inRg at h
  simp only [Bool.and_eq_true, decide_eq_true_eq] at h
  exact h
theorem star_one {a : Expr} {env : PySem.Env} (h : noStar a = true) : starEach [a] env = [(false, eval a env)] := by
  rw [star_cons h]
  rfl
theorem range_ok {x : Str} (kx : Kx X c sc fc k call W) (g : gfree c sc x = true) (e : x = "range") : Gl X "range" ∧ X.mg "range" = none := by
  obtain ⟨g, _⟩ := ba' g
  obtain ⟨g1, g2⟩ := ba' g
  subst e
  exact ⟨glb_ok (X := X) kx.sc g1, kx.free _ g2⟩
theorem src1 {ds : List D} {sr : Src} (h : srcOf .rng1 ds = some sr) : ∃ j, ds = [.int j] ∧ inRg j = true ∧ sr = .items (rangeD 0 j.toNat) := by
  unfold srcOf at h
  split at h
  · rename_i e
    cases e
  · rename_i e
    cases e
  · rename_i j _
    by_cases hj : inRg j = true
    · rw [if_pos hj] at h
      cases h
      exact ⟨_, rfl, hj, rfl⟩
    · rw [if_neg hj] at h
      cases h
  all_goals first | (rename_i e; cases e; done) | (rename_i e _; cases e; done) | cases h
theorem src2 {ds : List D} {sr : Src} (h : srcOf .rng2 ds = some sr) : ∃ i j, ds = [.int i, .int j] ∧ inRg i = true ∧ inRg j = true ∧ sr = .items (rangeD i (j - i).toNat) := by
  unfold srcOf at h
  split at h
  all_goals first | (rename_i e; cases e; done) | (rename_i e _; cases e; done) | (cases h; done) | skip
  rename_i i j _
  by_cases hj : (inRg i && inRg j) = true
  · rw [if_pos hj] at h
    cases h
    obtain ⟨h1, h2⟩ := ba' hj
    exact ⟨_, _, rfl, h1, h2, rfl⟩
  · rw [if_neg hj] at h
    cases h
theorem src3 {ds : List D} {sr : Src} (h : srcOf .rng3 ds = some sr) : ∃ i j c, ds = [.int i, .int j, .int c] ∧ RgC i j c (Builtin.Range.rangeSize i j c).toNat ∧ sr = .items (rangeC i c (Builtin.Range.rangeSize i j c).toNat) := by
  unfold srcOf at h
  split at h
  all_goals first | (rename_i e; cases e; done) | (rename_i e _; cases e; done) | (cases h; done) | skip
  rename_i i j c _
  split at h
  · rename_i hz
    cases h
    simp only [Bool.and_eq_true, decide_eq_true_eq] at hz
    obtain ⟨⟨⟨h1, h2⟩, h3⟩, h4⟩ := hz
    exact ⟨i, j, c, rfl, ⟨h1, h2, h3, (Int.toNat_of_nonneg h4).symm⟩, rfl⟩
  · cases h
end
end Ev
set_option Elab.async false
set_option linter.all false
set_option maxRecDepth 100000
set_option maxHeartbeats 8000000
namespace Ev
open PySem PySem.Spec PyProof.Rows L2
/-! ### enumerate of what begins -/
abbrev enO (it : Addr) : Obj := { cls := .type "enumerate", data := .fields #[.none, .bool false, .ref it, rawInt 0, .none, .none] }
theorem enum_new {v : Value} {o : Obj} {H : Heap → Prop} (B : Begins v o H) :
    Meets (Builtin.«enumerate.__new__» ⟨[.type "enumerate", v], []⟩) (fun _ R s => H s.heap ∧ R (.ok (.ret (.ref (s.heap.push o).objs.size))) { s with heap := (s.heap.push o).push (enO s.heap.objs.size) }) :=
  .of_wp fun prog w A R s hz => by
    obtain ⟨hp, g, dr, tk, os⟩ := s
    obtain ⟨b1, fin⟩ := hz
    have sub := sub_enumerate
    have go : ∀ {A' : Around} {E' : Value → Shared → Prop} {Q' : Value → Shared → Prop}, Q' (.ref hp.objs.size) ⟨hp.push o, g, dr, tk, os⟩ → wpAny (model prog w) A' (pyIter v) Q' E' ⟨hp, g, dr, tk, os⟩ := fun z => B.iter prog w _ _ ⟨hp, g, dr, tk, os⟩ _ b1 z
    wp_walk using go
    refine wpAny_stack_any fun st => wpAny_pure ?_
    split
    · rename_i c _ _ _ _ _
      cases (c == Value.type "enumerate") <;> (wp_walk using go; exact ⟨_, rfl, fin⟩)
    · wp_walk using go
      exact ⟨_, rfl, fin⟩
theorem enum_call {prog : Program} {w : World} {A : Around} {E : Value → Shared → Prop} {s : Shared} {v : Value} {o : Obj} {H : Heap → Prop} {Q : Value → Shared → Prop} (B : Begins v o H) (b1 : H s.heap)
    (fin : ∀ h', IsEnum h' (s.heap.objs.size + 1) s.heap.objs.size 0 .none → h'.get? s.heap.objs.size = some o → (∀ b o, s.heap.get? b = some o → h'.get? b = some o) → Q (.ref (s.heap.objs.size + 1)) { s with heap := h' }) :
    wpAny (model prog w) A (PySem.call (.type "enumerate") [v]) Q E s := by
  have z1 : (s.heap.push o).objs.size = s.heap.objs.size + 1 := Heap.size_push ..
  refine callType_new F.called_enumerate (by decide) (F.typeCall_enumerate_1 _) (F.newCall_enumerate_1 _) (fun obj => F.args_object_init_2 obj _) F.entry_enumerate_new (enum_new B) ⟨b1, ?_⟩
  have e1 : ((s.heap.push o).push (enO s.heap.objs.size)).get? (s.heap.objs.size + 1) = some (enO s.heap.objs.size) := by
    rw [← z1]
    exact Heap.get?_push_size _ rfl
  show _ ∧ _
  rw [z1]
  exact ⟨⟨_, e1, rfl⟩, fin _ e1 (Heap.get?_push_of_some _ (Heap.get?_push_size _ B.free)) fun b o' e => Heap.get?_push_of_some _ (Heap.get?_push_of_some _ e)⟩
/-- the tuple at a, each item in a new pair -/
def ItE (K : PySem.W.Frag) (a : Addr) : It where
  go := fun i H => ∃ (xs : List V) (x : V), SqT K H a xs ∧ xs[i]? = some x
  yld := fun i H v H' => ∃ T x, v = .ref T ∧ H T = none ∧ H' = upd H T (.tup [.int (i : Nat), x]) ∧ ∀ xs, SqT K H a xs → xs[i]? = some x
  stop := fun i H => ∃ xs : List V, SqT K H a xs ∧ xs.length = i
theorem turn_enumT {P : Program} {w : World} {K : PySem.W.Frag} {elts : List Expr} {kk : Nat} {tpos : Pos} (a e it : Addr) :
    Turn P w K (.Tuple elts kk tpos) (ItE K a) [e, it] e (fun i h => (∃ old, IsEnum h e it ((i : Nat) : Int) old) ∧ h.IsTupleIter it a i ∧ e ≠ it ∧ a ≠ it ∧ a ≠ e) where
  mem := List.mem_cons_self
  obj := fun i h ⟨⟨old, he⟩, ⟨o, ho, hc, hd⟩, _⟩ b hb => by
    rcases List.mem_cons.mp hb with rfl | hb
    · exact ⟨_, he, fun v q => nomatch q⟩
    · rw [List.mem_singleton.mp hb]
      exact ⟨o, ho, fun v q => by rw [hd] at q; cases q⟩
  keep := fun i h h' ⟨⟨old, he⟩, hi, hne⟩ k => ⟨⟨old, k e List.mem_cons_self _ he⟩, hi.at fun o q => k it (List.mem_cons_of_mem _ List.mem_cons_self) o q, hne⟩
  item := by
    intro X hP hw hK hc i pins s σ H E I hf st hg
    subst hP hw hK
    obtain ⟨⟨old, he⟩, hit, hne, hai, hae⟩ := st
    obtain ⟨xs, x, hq, hx⟩ := hg
    obtain ⟨its, rv, tp, hz⟩ := I.tuple hq
    obtain ⟨u, hu, ru⟩ := rv.get hx
    have hel : e < s.heap.objs.size := Heap.lt_size he
    have hil : it < s.heap.objs.size := by
      obtain ⟨_, q, _⟩ := hit
      exact Heap.lt_size q
    have Dr := Draws.tuple (prog := X.prog) (w := X.w) (A := X.A.in1) (I.ok.hd hc) it a hai its.toArray
    have hlt : i < its.toArray.size := by
      have := (List.getElem?_eq_some_iff.mp hu).1
      simpa using this
    refine wpAny_pyNext_enum_itemD Dr he ⟨hit, tp⟩ hlt hne (by simp only [List.mem_cons, List.not_mem_nil, or_false, not_or]; exact ⟨hne, fun z => hae z.symm⟩) fun x' h' tk px ho st' hT hsz hk => ?_
    have ex : x' = u := by
      have px : its.toArray[i]? = some x' := px
      have hu' : its.toArray[i]? = some u := by simpa using hu
      rw [hu'] at px
      exact (Option.some.inj px).symm
    subst ex
    refine ⟨_, rfl, wpAny_letOwnedTupleGo_enum (s := { s with heap := h', toks := tk + 1 }) ho fun h'' he' sb => ?_⟩
    have hT2 : h''.get? s.heap.objs.size = some { cls := .type "tuple", data := .seq #[.int i tk, x'] } := (sb.2 _ (Nat.ne_of_gt hel)).trans hT
    have new : ObjOk X.prog X.w (upd H s.heap.objs.size (.tup [.int (i : Nat), x])) h'' s.heap.objs.size (.tup [.int (i : Nat), x]) :=
      ⟨by show 2 ≤ sizeLine; decide, [.int i tk, x'], .cons ⟨_, rfl⟩ (.cons ru .nil), ⟨_, hT2, rfl, _, rfl⟩⟩
    have I1 : Inv X pins σ (upd H s.heap.objs.size (.tup [.int (i : Nat), x])) { s with heap := h'', toks := tk + 1 } :=
      I.turnedNew (ch := [e, it]) (fun b ob hb q => by
        have n1 : b ≠ e := fun z => hb (by rw [z]; exact List.mem_cons_self)
        have n2 : b ≠ it := fun z => hb (by rw [z]; exact List.mem_cons_of_mem _ List.mem_cons_self)
        exact (sb.2 b n1).trans (hk b ob n1 n2 q)) hf (Nat.le_refl _) new
    refine ⟨.ref s.heap.objs.size, _, I1, rfl, ⟨_, x, rfl, I.hok.fresh (Nat.le_refl _), rfl, fun ys hy => ?_⟩, ⟨⟨x', ?_⟩, ?_, hne, hai, hae⟩, fun b hb => ?_⟩
    · rw [I.tuple_inj hy hq]
      exact hx
    · have e1 : ((i + 1 : Nat) : Int) = (i : Int) + 1 := by omega
      rw [e1]
      exact he'
    · exact st'.1.at fun o q => (sb.2 it (Ne.symm hne)).trans q
    · have hb' : b < s.heap.objs.size := by
        rcases List.mem_cons.mp hb with rfl | hb
        · exact hel
        · rw [List.mem_singleton.mp hb]
          exact hil
      rw [upd_ne (Nat.ne_of_lt hb')]
      exact (hf b hb).1
  done := by
    intro X hP hw hK hc i pins s σ H E I hf st hg
    subst hP hw hK
    obtain ⟨⟨old, he⟩, hit, hne, hai, hae⟩ := st
    obtain ⟨xs, hq, hx⟩ := hg
    obtain ⟨its, rv, tp, hz⟩ := I.tuple hq
    have hl := rv.length
    have hi : i = its.toArray.size := by
      rw [List.size_toArray]
      omega
    have Dr := Draws.tuple (prog := X.prog) (w := X.w) (A := X.A.in1) (I.ok.hd hc) it a hai its.toArray
    obtain ⟨f0, f1, f2, f3, f4, f5⟩ := hf it (List.mem_cons_of_mem _ List.mem_cons_self)
    exact wpAny_pyNext_enum_endD Dr he (by rw [← hi]; exact ⟨hit, tp⟩) fun h' eb => ⟨rfl, I.turned (t' := s.toks) (fun b o hb q => eb b o hb q) f0 f1 f3 f4 f5⟩
  self := fun A i s Q E ⟨⟨_, he⟩, _⟩ h => wpAny_pyIter_enum he h
def iEnumT (K : PySem.W.Frag) (ta : TA) : TI := fun σ H R => ta σ H fun vs H1 => ∃ a xs, vs = [.ref a] ∧ SqT K H1 a xs ∧ R (ItE K a) H1
theorem pi_enumT {X : Cx} {e : Expr} {ta : TA} {p pos tpos : Pos} {elts : List Expr} {kk : Nat} (hg : Gl X "enumerate") (hm : X.mg "enumerate" = none) (ha : PA X [e] ta) (hs : starEach [e] X.env = [(false, eval e X.env)]) :
    PI X (.Tuple elts kk tpos) (.Call (.Name "enumerate" p) [e] [] pos) (iEnumT X.K ta) := by
  refine ⟨fun pins s σ H R I h => ?_⟩
  refine Call_ (ld_blt I hg hm boot_enumerate (PyProof.Rows.callWith_type1 (thn (ha.run pos pins s σ H _ I h) fun us s1 ⟨vs, H1, I1, r1, q1⟩ => ?_) hs rfl))
  obtain ⟨a, xs, rfl, hq, q⟩ := q1
  obtain ⟨u, rfl, ru⟩ := vals1 r1
  have ru : u = Value.ref a := ru
  subst ru
  obtain ⟨its, rv, tp, hz⟩ := I1.tuple hq
  have al : a < s1.heap.objs.size := by
    obtain ⟨_, e1, _⟩ := tp
    exact Heap.lt_size e1
  refine enum_call (begins_tuple a its.toArray) tp fun h' he hit hk => wpAny_pyIter_enum he ?_
  have I2 : Inv X pins σ H1 { s1 with heap := h' } := I1.kept (t' := s1.toks) hk
  refine ⟨s1.heap.objs.size + 1, [s1.heap.objs.size + 1, s1.heap.objs.size], _, _, H1, rfl, I2, turn_enumT a (s1.heap.objs.size + 1) s1.heap.objs.size, ⟨⟨.none, he⟩, ⟨_, hit, rfl, rfl⟩, Nat.succ_ne_self _, Nat.ne_of_lt al, Nat.ne_of_lt (Nat.lt_succ_of_lt al)⟩, fun b hb => ?_, q⟩
  have hle : s1.heap.objs.size ≤ b := by
    rcases List.mem_cons.mp hb with rfl | hb
    · exact Nat.le_succ _
    · rw [List.mem_singleton.mp hb]
      exact Nat.le_refl _
  exact I1.fpOk hle (I1.hok.fresh hle)
section
variable {K : PySem.W.Frag} {m : Am} {H : Hp} {S : Store} {a : Addr} {xs : List V} {ds : List D}
def enD (ds : List D) : List D := ds.zipIdx.map fun (x, k) => .tup [.int (k : Nat), x]
theorem enD_get {i : Nat} : (enD ds)[i]? = (ds[i]?).map fun x => .tup [.int (i : Nat), x] := by
  unfold enD
  rw [List.getElem?_map, List.getElem?_zipIdx]
  cases ds[i]? <;> simp
theorem enD_len : (enD ds).length = ds.length := by simp [enD]
theorem srcJ_enT (q : ∀ m' H' S', Stx m H m' H' → Sto K m' H' S' → SqT K H' a xs ∧ VDs K m' H' ds xs) : SrcJ K m H (.items (enD ds)) (ItE K a) := by
  intro m' H' S' st s i
  obtain ⟨q1, q2⟩ := q m' H' S' st s
  rw [enD_len]
  refine ⟨fun hi => ?_, fun hi => ⟨xs, q1, by rw [q2.length, hi]⟩⟩
  have e : ds[i]? = some ds[i] := List.getElem?_eq_getElem hi
  obtain ⟨v, hv, vd⟩ := q2.get e
  refine ⟨⟨xs, v, q1, hv⟩, fun x H'' y => ?_⟩
  obtain ⟨T, y, rfl, hT, rfl, f⟩ := y
  have ex := f xs q1
  rw [hv] at ex
  cases ex
  refine ⟨.tup [.int (i : Nat), ds[i]], by rw [enD_get, e]; rfl, .inr ⟨T, _, hT, rfl⟩, ?_⟩
  exact VD.newT s hT ⟨.int (i : Nat), _, rfl, rfl, VDs.one vd⟩
theorem srcJ_enL (q : ∀ m' H' S', Stx m H m' H' → Sto K m' H' S' → SqL K H' a xs ∧ VDs K m' H' ds xs) : SrcJ K m H (.items (enD ds)) (Ite K a) := by
  intro m' H' S' st s i
  obtain ⟨q1, q2⟩ := q m' H' S' st s
  rw [enD_len]
  refine ⟨fun hi => ?_, fun hi => ⟨xs, q1, by rw [q2.length, hi]; exact Nat.le_refl _⟩⟩
  have e : ds[i]? = some ds[i] := List.getElem?_eq_getElem hi
  obtain ⟨v, hv, vd⟩ := q2.get e
  refine ⟨⟨xs, v, q1, hv⟩, fun x H'' y => ?_⟩
  obtain ⟨T, y, rfl, hT, rfl, f⟩ := y
  have ex := f xs q1
  rw [hv] at ex
  cases ex
  refine ⟨.tup [.int (i : Nat), ds[i]], by rw [enD_get, e]; rfl, .inr ⟨T, _, hT, rfl⟩, ?_⟩
  exact VD.newT s hT ⟨.int (i : Nat), _, rfl, rfl, VDs.one vd⟩
end
section
variable {X : Cx} {c : Ck} {sc : Scope} {fc : Str → Bool} {k : Nat} {call : Nat → List D → M D} {W : WX}
theorem free_ok {x : Str} (kx : Kx X c sc fc k call W) (g : gfree c sc x = true) : Gl X x ∧ X.mg x = none := by
  obtain ⟨g, _⟩ := ba' g
  obtain ⟨g1, g2⟩ := ba' g
  exact ⟨glb_ok (X := X) kx.sc g1, kx.free _ g2⟩
theorem pi_enum_ {e : Expr} {e' : E} {elts : List Expr} {kk : Nat} {tpos p pos : Pos} (gl : Gl X "enumerate") (hm : X.mg "enumerate" = none) (hn : noStar e = true) (h : GE X W call e e') :
    PI X (.Tuple elts kk tpos) (.Call (.Name "enumerate" p) [e] [] pos) (tis X.K X.mg W call .enum [e']) := by
  have pa : PA X [e] (tevs X.K X.mg W call [e']) := tevs_pa rfl (by rw [List.all_cons, hn]; rfl) fun q hq => by
    have e0 : q = (e, e') := by simpa using hq
    subst e0
    exact h
  refine ((pi_enum gl hm pa (star_one hn)).or (pi_enumT gl hm pa (star_one hn))).wk fun σ H R ⟨m, S, ρ, s, r, g⟩ => ?_
  cases e0 : evEs call [e'] ρ S with
  | none =>
    have g := Gd.bind g
    rw [e0] at g
    exact False.elim g
  | some r0 =>
    have g1 := Gd.bind g
    rw [e0] at g1
    cases r0 with
    | ex x S1 =>
      refine .inl ⟨m, S, ρ, s, r, ?_⟩
      rw [e0]
      exact g1
    | ok ds0 S1 =>
      have g1 : Gd (opt (srcOf .enum ds0) S1) _ _ := g1
      obtain ⟨sc, e1, g2⟩ := g1.opt
      unfold srcOf at e1
      split at e1
      all_goals first | (rename_i z; cases z; done) | (rename_i z _; cases z; done) | (cases e1; done) | skip
      rename_i d _ _
      obtain ⟨ds, e2, rfl⟩ := Option.map_eq_some_iff.mp e1
      have one : ∀ {m1 : Am} {H1 : Hp} {vs : List V}, VDs X.K m1 H1 [d] vs → ∃ v, vs = [v] ∧ VD X.K m1 H1 d v := fun q => by
        obtain ⟨v, r, rfl, vd, e3⟩ := q
        have e3 : r = [] := e3
        subst e3
        exact ⟨v, rfl, vd⟩
      cases d with
      | tup ds' =>
        cases e2
        refine .inr ⟨m, S, ρ, s, r, ?_⟩
        rw [e0]
        intro m1 H1 vs st s1 vds
        obtain ⟨v, rfl, vd⟩ := one vds
        obtain ⟨a, xs, rfl, q1, q2⟩ := vd
        refine ⟨a, xs, rfl, q1, g2 m1 H1 _ st s1 (srcJ_enT (xs := xs) fun m' H' S' st' s' => ?_)⟩
        exact ⟨st'.sqT s1 q1, VDs.monox s1 st' _ _ q2⟩
      | lst ds' =>
        cases e2
        refine .inl ⟨m, S, ρ, s, r, ?_⟩
        rw [e0]
        intro m1 H1 vs st s1 vds
        obtain ⟨v, rfl, vd⟩ := one vds
        obtain ⟨a, xs, rfl, q1, n1, q2⟩ := vd
        refine ⟨a, xs, rfl, SqL.of q1, g2 m1 H1 _ st s1 (srcJ_enL (xs := xs) fun m' H' S' st' s' => ?_)⟩
        exact ⟨SqL.of (st'.keep a _ q1 n1), VDs.monox s1 st' _ _ q2⟩
      | fro ds' =>
        cases e2
        refine .inl ⟨m, S, ρ, s, r, ?_⟩
        rw [e0]
        intro m1 H1 vs st s1 vds
        obtain ⟨v, rfl, vd⟩ := one vds
        obtain ⟨a, xs, rfl, q1, q2⟩ := vd
        refine ⟨a, xs, rfl, q1.sq, g2 m1 H1 _ st s1 (srcJ_enL (xs := xs) fun m' H' S' st' s' => ?_)⟩
        rcases q1 with ⟨o, q1⟩ | q1
        · exact ⟨.inl (.inr ⟨o, st'.keep a _ q1 (s1.notLst q1 fun _ z => by cases z)⟩), VDs.monox s1 st' _ _ q2⟩
        · exact ⟨q1 H', VDs.monox s1 st' _ _ q2⟩
      | _ => cases e2
theorem pi_ok {tg : Expr} {rec : Expr → E → Bool} (kx : Kx X c sc fc k call W) (hr : ∀ e e', rec e e' = true → GE X W call e e') : ∀ {iter : Expr} {kd : Sk} {src : List E}, chkI c sc rec tg iter kd src = true → PI X tg iter (tis X.K X.mg W call kd src) := by
  intro iter kd src h
  unfold chkI at h
  split at h
  · rename_i x _ a _ a'
    simp only [Bool.and_eq_true, decide_eq_true_eq] at h
    obtain ⟨⟨⟨h1, h2⟩, h3⟩, h4⟩ := h
    obtain ⟨gl, hm⟩ := range_ok kx h1 h2
    subst h2
    have pa : PA X [a] (tevs X.K X.mg W call [a']) := tevs_pa rfl (by rw [List.all_cons, h3]; rfl) fun p hp => by
      have e : p = (a, a') := by simpa using hp
      subst e
      exact hr _ _ h4
    refine (pi_range1 gl hm pa (star_one h3)).wk fun σ H R ⟨m, S, ρ, s, r, g⟩ => ?_
    refine tevs_of s r g fun ds S1 m1 H1 vs st s1 r1 vds g1 => ?_
    obtain ⟨sr, e1, g2⟩ := g1.opt
    obtain ⟨j, rfl, hj, rfl⟩ := src1 e1
    obtain ⟨v, r', rfl, vd, e0⟩ := vds
    have e0 : r' = [] := e0
    have vd : v = _ := vd
    subst e0 vd
    obtain ⟨h5, h6⟩ := inRg_ok hj
    exact ⟨j, rfl, h5, h6, g2 m1 H1 _ st s1 srcJ_range1⟩
  · rename_i x _ a b _ a' b'
    simp only [Bool.and_eq_true, decide_eq_true_eq] at h
    obtain ⟨⟨⟨⟨⟨h1, h2⟩, h3⟩, h3'⟩, h4⟩, h4'⟩ := h
    obtain ⟨gl, hm⟩ := range_ok kx h1 h2
    subst h2
    have pa : PA X [a, b] (tevs X.K X.mg W call [a', b']) := tevs_pa rfl (by simp [List.all_cons, h3, h3']) fun p hp => by
      have e : p = (a, a') ∨ p = (b, b') := by simpa using hp
      rcases e with e | e <;> subst e
      · exact hr _ _ h4
      · exact hr _ _ h4'
    refine (pi_range2 gl hm pa (by rw [star_cons h3, star_cons h3']; rfl) (star_one h3')).wk fun σ H R ⟨m, S, ρ, s, r, g⟩ => ?_
    refine tevs_of s r g fun ds S1 m1 H1 vs st s1 r1 vds g1 => ?_
    obtain ⟨sr, e1, g2⟩ := g1.opt
    obtain ⟨i, j, rfl, hi, hj, rfl⟩ := src2 e1
    obtain ⟨v, r', rfl, vd, v2, r2, rfl, vd2, e0⟩ := vds
    have e0 : r2 = [] := e0
    have vd : v = _ := vd
    have vd2 : v2 = _ := vd2
    subst e0 vd vd2
    obtain ⟨h5, h6⟩ := inRg_ok hi
    obtain ⟨h7, h8⟩ := inRg_ok hj
    exact ⟨i, j, rfl, ⟨h5, h6, h7, h8⟩, g2 m1 H1 _ st s1 srcJ_range1⟩
  · rename_i x _ a b d _ a' b' d'
    simp only [Bool.and_eq_true, decide_eq_true_eq] at h
    obtain ⟨⟨⟨⟨⟨⟨⟨h1, h2⟩, h3⟩, h3'⟩, h3''⟩, h4⟩, h4'⟩, h4''⟩ := h
    obtain ⟨gl, hm⟩ := range_ok kx h1 h2
    subst h2
    have pa : PA X [a, b, d] (tevs X.K X.mg W call [a', b', d']) := tevs_pa rfl (by simp [List.all_cons, h3, h3', h3'']) fun p hp => by
      have e : p = (a, a') ∨ p = (b, b') ∨ p = (d, d') := by simpa using hp
      rcases e with e | e | e <;> subst e
      · exact hr _ _ h4
      · exact hr _ _ h4'
      · exact hr _ _ h4''
    refine (pi_range3 gl hm pa (star_cons h3) (star_plain (by simp [List.all_cons, h3', h3'']))).wk fun σ H R ⟨m, S, ρ, s, r, g⟩ => ?_
    refine tevs_of s r g fun ds S1 m1 H1 vs st s1 r1 vds g1 => ?_
    obtain ⟨sr, e1, g2⟩ := g1.opt
    obtain ⟨i, j, q, rfl, hq, rfl⟩ := src3 e1
    obtain ⟨v, r', rfl, vd, v2, r2, rfl, vd2, v3, r3, rfl, vd3, e0⟩ := vds
    have e0 : r3 = [] := e0
    have vd : v = _ := vd
    have vd2 : v2 = _ := vd2
    have vd3 : v3 = _ := vd3
    subst e0 vd vd2 vd3
    exact ⟨i, j, q, _, rfl, hq, g2 m1 H1 _ st s1 srcJ_range⟩
  · rename_i x _ a _ a'
    simp only [Bool.and_eq_true, decide_eq_true_eq] at h
    obtain ⟨⟨⟨⟨ht, h1⟩, h2⟩, h3⟩, h4⟩ := h
    unfold isTup at ht
    split at ht
    · obtain ⟨gl, hm⟩ := free_ok kx h1
      subst h2
      exact pi_enum_ gl hm h3 (hr _ _ h4)
    · cases ht
  · rename_i e e'
    simp only [Bool.and_eq_true] at h
    exact pi_seq_ (hr _ _ h.2)
  · cases h
end
end Ev
set_option Elab.async false
set_option linter.all false
set_option maxRecDepth 100000
set_option maxHeartbeats 8000000
namespace Ev
open PySem PySem.Spec PyProof.Rows L2
/-- a target's reading -/
def gR (K : PySem.W.Frag) (tg : Tg) : TG := fun v σ H Q => ∃ m S ρ d ρ', Sto K m H S ∧ EnvR K m H σ ρ ∧ VD K m H d v ∧ asg tg d ρ = some ρ' ∧ ∀ σ', EnvR K m H σ' ρ' → (∀ i, i ∉ tgN tg → σ'[i]? = σ[i]?) → Q σ' H
def gRs (K : PySem.W.Frag) (ts : List Tg) : TGs := fun vs σ H Q => ∃ m S ρ ds ρ', Sto K m H S ∧ EnvR K m H σ ρ ∧ VDs K m H ds vs ∧ asg.asgs ts ds ρ = some ρ' ∧ ∀ σ', EnvR K m H σ' ρ' → (∀ i, i ∉ tgNs ts → σ'[i]? = σ[i]?) → Q σ' H
theorem _root_.L2.PG.wk {X : Cx} {e : Expr} {t t' : TG} (h : PG X e t) (f : ∀ v σ H Q, t' v σ H Q → t v σ H Q) : PG X e t' := ⟨fun p s σ H v u Q I r q => h.run p s σ H v u Q I r (f v σ H Q q)⟩
theorem _root_.L2.PGs.wk {X : Cx} {e : List Expr} {t t' : TGs} (h : PGs X e t) (f : ∀ v σ H Q, t' v σ H Q → t v σ H Q) : PGs X e t' := ⟨fun p s σ H v u Q I r q => h.run p s σ H v u Q I r (f v σ H Q q)⟩
theorem asg_cons {e : Expr} {es : List Expr} {env : PySem.Env} (h : noStar e = true) : assignEach (e :: es) env = (false, assign e env) :: assignEach es env := by
  cases e <;> first | rfl | cases h
theorem asg_len {env : PySem.Env} : ∀ {es : List Expr}, (assignEach es env).length = es.length
  | [] => rfl
  | e :: es => by
    have q : (assignEach (e :: es) env).length = (assignEach es env).length + 1 := by
      cases e <;> rfl
    rw [q, asg_len, List.length_cons]
theorem asg_find {env : PySem.Env} : ∀ {es : List Expr}, es.all noStar = true → (assignEach es env).findIdx? (·.1) = none
  | [], _ => rfl
  | e :: es, h => by
    rw [List.all_cons, Bool.and_eq_true] at h
    rw [asg_cons h.1, List.findIdx?_cons, asg_find h.2]
    rfl
section
variable {X : Cx} {c : Ck} {sc : Scope} {fc : Str → Bool}
theorem pgs_ok (hr : ∀ e t, chkT c sc fc k e t = true → PG X e (gR X.K t)) : ∀ {es : List Expr} {ts : List Tg}, es.length = ts.length → es.all noStar = true → ((es.zip ts).all fun p => chkT c sc fc k p.1 p.2) = true → PGs X es (gRs X.K ts)
  | [], [], _, _, _ => pgs_nil.wk fun vs σ H Q ⟨m, S, ρ, ds, ρ', s, r, vd, e, q⟩ => by
    cases ds with
    | nil =>
      cases e
      exact ⟨vd, q σ r fun _ _ => rfl⟩
    | cons _ _ => cases e
  | e :: es, t :: ts, hl, hs, hz => by
    rw [List.all_cons, Bool.and_eq_true] at hs
    rw [List.zip_cons_cons, List.all_cons, Bool.and_eq_true] at hz
    refine (pgs_cons (hr e t hz.1) (pgs_ok hr (Nat.succ.inj hl) hs.2 hz.2) (by rw [asg_cons hs.1]; rfl)).wk fun vs σ H Q ⟨m, S, ρ, ds, ρ', s, r, vd, ea, q⟩ => ?_
    cases ds with
    | nil => cases ea
    | cons d ds =>
      obtain ⟨v, rs, e1, vd1, vds⟩ := vd
      have ea : (match asg t d ρ with | some ρ' => asg.asgs ts ds ρ' | none => none) = some ρ' := ea
      cases e2 : asg t d ρ with
      | none =>
        rw [e2] at ea
        cases ea
      | some ρ1 =>
        rw [e2] at ea
        refine ⟨v, rs, e1, m, S, ρ, d, ρ1, s, r, vd1, e2, fun σ1 r1 k1 => ?_⟩
        refine ⟨m, S, ρ1, ds, ρ', s, r1, vds, ea, fun σ2 r2 k2 => q σ2 r2 fun i hi => ?_⟩
        have hi : i ∉ tgN t ++ tgNs ts := hi
        rw [List.mem_append, not_or] at hi
        rw [k2 i hi.2, k1 i hi.1]
  | [], _ :: _, hl, _, _ => by cases hl
  | _ :: _, [], hl, _, _ => by cases hl
theorem pg_ok (calm : X.calm = true) (hN : X.N = c.N) (nd : c.N.Nodup) (hsc : X.env.scope = sc) (hfc : ∀ x, fc x = true → X.fn x = true) : ∀ (n : Nat) (e : Expr) (t : Tg), chkT c sc fc n e t = true → PG X e (gR X.K t) := by
  intro n
  induction n with
  | zero =>
    intro e t h
    cases h
  | succ n ih =>
    intro e t h
    unfold chkT at h
    split at h
    · cases h
    · rename_i x p i e0
      obtain ⟨h1, h2⟩ := ba' h
      have hl : Loc X.env.scope x ∧ (X.fn x = true ∨ X.env.scope.names.lookup x = some .local) := by
        rw [hsc]
        unfold loc at h2
        split at h2
        · exact ⟨.inl (by assumption), .inr (by assumption)⟩
        · exact ⟨.inr (by assumption), .inl (hfc x h2)⟩
        · cases h2
      refine (pg_name (by rw [hN]; exact nd) (by rw [hN]; exact of_decide_eq_true h1) hl.1 hl.2).wk fun v σ H Q ⟨m, S, ρ, d, ρ', s, r, vd, ea, q⟩ => ?_
      unfold asg at ea
      split at ea
      · cases ea
        refine q _ (r.set vd) fun j hj => List.getElem?_set_ne fun e => hj ?_
        rw [e]
        exact List.mem_singleton.mpr rfl
      · cases ea
    · rename_i ts kk pp us e0
      cases e0
      simp only [Bool.and_eq_true, beq_iff_eq] at h
      obtain ⟨⟨h1, h2⟩, h3⟩ := h
      refine (pg_tup calm (pgs_ok ih h1 h2 h3) asg_len (asg_find h2)).wk fun v σ H Q ⟨m, S, ρ, d, ρ', s, r, vd, ea, q⟩ => ?_
      cases d with
      | tup ds =>
        obtain ⟨a, xs, rfl, q1, vds⟩ := vd
        have ea : asg.asgs us ds ρ = some ρ' := ea
        refine ⟨a, xs, rfl, q1, ?_, m, S, ρ, ds, ρ', s, r, vds, ea, q⟩
        rw [vds.length, h1]
        have len : ∀ (us : List Tg) (ds : List D) (ρ : Env), asg.asgs us ds ρ = some ρ' → ds.length = us.length := fun us => by
          induction us with
          | nil =>
            intro ds ρ ea
            cases ds with
            | nil => rfl
            | cons _ _ => cases ea
          | cons u us ih =>
            intro ds ρ ea
            cases ds with
            | nil => cases ea
            | cons d ds =>
              have ea : (match asg u d ρ with | some ρ' => asg.asgs us ds ρ' | none => none) = some ρ' := ea
              cases e2 : asg u d ρ with
              | none =>
                rw [e2] at ea
                cases ea
              | some ρ1 =>
                rw [e2] at ea
                rw [List.length_cons, List.length_cons, ih ds ρ1 ea]
        exact len us ds ρ ea
      | _ => cases ea
    · cases h
end
end Ev
set_option Elab.async false
set_option linter.all false
set_option maxRecDepth 100000
set_option maxHeartbeats 8000000
namespace Ev
open PySem PySem.Spec PyProof.Rows L2
/-! ### what a loop walks, by turns -/
def nxt : Src → Nat → Store → Option (Option D)
  | .items ds, i, _ => some ds[i]?
  | .ref n, i, S => match S[n]? with
    | some (.lst ds) => some ds[i]?
    | none => none
theorem nxt_ref {n i : Nat} {S : Store} {ds : List D} (e : S[n]? = some (.lst ds)) : nxt (.ref n) i S = some ds[i]? := by
  show (match S[n]? with
    | some (.lst ds) => some ds[i]?
    | none => none) = some ds[i]?
  rw [e]
theorem nxt_ref0 {n i : Nat} {S : Store} (e : S[n]? = none) : nxt (.ref n) i S = none := by
  show (match S[n]? with
    | some (.lst ds) => some ds[i]?
    | none => none) = none
  rw [e]
def compK (f : D → M (Option D)) (sc : Src) : Nat → Nat → List D → Store → Option (Rs (List D))
  | 0, _, _, _ => none
  | k + 1, i, acc, S => match nxt sc i S with
    | none => none
    | some none => some (.ok acc S)
    | some (some d) => match f d S with
      | some (.ok none S') => compK f sc k (i + 1) acc S'
      | some (.ok (some y) S') => if acc.length < sizeMax then compK f sc k (i + 1) (acc ++ [y]) S' else none
      | some (.ex x S') => some (.ex x S')
      | none => none
theorem drop_get {ds : List D} {i : Nat} {d : D} {r : List D} (h : ds.drop i = d :: r) : ds[i]? = some d ∧ ds.drop (i + 1) = r := by
  have h1 : (ds.drop i)[0]? = some d := by rw [h]; rfl
  rw [List.getElem?_drop] at h1
  refine ⟨h1, ?_⟩
  rw [← List.tail_drop, h]
  rfl
theorem compL_K {f : D → M (Option D)} {ds : List D} : ∀ (rest : List D) (i : Nat) (acc : List D) (S : Store), ds.drop i = rest → compK f (.items ds) (rest.length + 1) i acc S = compL f rest acc S
  | [], i, acc, S, h => by
    have e : ds[i]? = none := List.getElem?_eq_none (List.drop_eq_nil_iff.mp h)
    have nx : nxt (.items ds) i S = some none := by
      show some ds[i]? = _
      rw [e]
    unfold compK
    rw [nx]
    rfl
  | d :: r, i, acc, S, h => by
    obtain ⟨e, h2⟩ := drop_get h
    have ih := fun acc S => compL_K (f := f) r (i + 1) acc S h2
    have nx : nxt (.items ds) i S = some (some d) := by
      show some ds[i]? = _
      rw [e]
    unfold compK
    rw [nx]
    show _ = M.bind (f d) (fun o => match o with
      | none => compL f r acc
      | some y => if acc.length < sizeMax then compL f r (acc ++ [y]) else stuck) S
    unfold M.bind
    show (match f d S with
      | some (.ok none S') => compK f (.items ds) (r.length + 1) (i + 1) acc S'
      | some (.ok (some y) S') => if acc.length < sizeMax then compK f (.items ds) (r.length + 1) (i + 1) (acc ++ [y]) S' else none
      | some (.ex x S') => some (.ex x S')
      | none => none) = _
    cases e1 : f d S with
    | none => rfl
    | some q =>
      cases q with
      | ex x S' => rfl
      | ok o S' =>
        cases o with
        | none => exact ih acc S'
        | some y =>
          dsimp only
          by_cases hz : acc.length < sizeMax
          · rw [if_pos hz, if_pos hz]
            exact ih _ S'
          · rw [if_neg hz, if_neg hz]
            rfl
theorem compR_K {f : D → M (Option D)} {n : Nat} (i : Nat) (acc : List D) (S : Store) (r : Rs (List D)) (h : compR f n i acc S = some r) : ∃ k, compK f (.ref n) k i acc S = some r := by
  refine compR.partial_correctness f n (fun i acc S r => ∃ k, compK f (.ref n) k i acc S = some r) ?_ i acc S r h
  intro R ih i acc S r h
  cases e : S[n]? with
  | none =>
    rw [e] at h
    cases h
  | some o =>
    rw [e] at h
    cases o with
    | lst ds =>
      dsimp only at h
      have nx : nxt (.ref n) i S = some ds[i]? := nxt_ref e
      cases e1 : ds[i]? with
      | none =>
        rw [e1] at h nx
        refine ⟨1, ?_⟩
        unfold compK
        rw [nx]
        exact h
      | some d =>
        rw [e1] at h nx
        dsimp only at h
        cases e2 : f d S with
        | none =>
          rw [e2] at h
          cases h
        | some q =>
          rw [e2] at h
          cases q with
          | ex x S' =>
            refine ⟨1, ?_⟩
            unfold compK
            rw [nx]
            dsimp only
            rw [e2]
            exact h
          | ok o S' =>
            cases o with
            | none =>
              obtain ⟨k, q⟩ := ih _ _ _ _ h
              refine ⟨k + 1, ?_⟩
              unfold compK
              rw [nx]
              dsimp only
              rw [e2]
              exact q
            | some y =>
              dsimp only at h
              by_cases hz : acc.length < sizeMax
              · rw [if_pos hz] at h
                obtain ⟨k, q⟩ := ih _ _ _ _ h
                refine ⟨k + 1, ?_⟩
                unfold compK
                rw [nx]
                dsimp only
                rw [e2]
                dsimp only
                rw [if_pos hz]
                exact q
              · rw [if_neg hz] at h
                cases h
theorem compM_K {f : D → M (Option D)} {sc : Src} {S : Store} {φ : List D → Store → Prop} {ψ : Xn → Store → Prop} (h : Gd (compM f sc S) φ ψ) : ∃ k, Gd (compK f sc k 0 [] S) φ ψ := by
  cases sc with
  | items ds =>
    refine ⟨ds.length + 1, ?_⟩
    rw [compL_K ds 0 [] S (List.drop_zero)]
    exact h
  | ref n =>
    cases e : compM f (.ref n) S with
    | none =>
      rw [e] at h
      exact False.elim h
    | some r =>
      obtain ⟨k, q⟩ := compR_K 0 [] S r e
      exact ⟨k, by rw [q]; rw [e] at h; exact h⟩
theorem compK_step {f : D → M (Option D)} {sc : Src} {S : Store} {k i : Nat} {acc : List D} {φ : List D → Store → Prop} {ψ : Xn → Store → Prop} (h : Gd (compK f sc k i acc S) φ ψ) :
    (nxt sc i S = some none ∧ φ acc S) ∨ ∃ d k', k = k' + 1 ∧ nxt sc i S = some (some d) ∧ Gd (f d S) (fun o S' => match o with
      | none => Gd (compK f sc k' (i + 1) acc S') φ ψ
      | some y => acc.length < sizeMax ∧ Gd (compK f sc k' (i + 1) (acc ++ [y]) S') φ ψ) ψ := by
  cases k with
  | zero => exact False.elim h
  | succ k =>
    unfold compK at h
    cases e : nxt sc i S with
    | none =>
      rw [e] at h
      exact False.elim h
    | some o =>
      rw [e] at h
      cases o with
      | none => exact .inl ⟨rfl, h⟩
      | some d =>
        refine .inr ⟨d, k, rfl, rfl, ?_⟩
        dsimp only at h
        cases e2 : f d S with
        | none =>
          rw [e2] at h
          exact h
        | some q =>
          rw [e2] at h
          cases q with
          | ex x S' => exact h
          | ok o S' =>
            cases o with
            | none => exact h
            | some y =>
              dsimp only at h
              by_cases hz : acc.length < sizeMax
              · rw [if_pos hz] at h
                exact ⟨hz, h⟩
              · rw [if_neg hz] at h
                exact False.elim h
theorem Gd.noX {α : Type} {x : M α} {S : Store} {φ : α → Store → Prop} {ψ : Xn → Store → Prop} (h : Gd (Ev.noX x S) φ ψ) : Gd (x S) φ fun _ _ => False := by
  unfold Ev.noX at h
  cases e : x S with
  | none =>
    rw [e] at h
    exact h
  | some r =>
    rw [e] at h
    cases r with
    | ok a S' => exact h
    | ex _ _ => exact h
/-- a turn that may come -/
def okI : Src → Nat → Prop
  | .items ds, i => i ≤ ds.length
  | .ref _, _ => True
theorem okI_0 {sc : Src} : okI sc 0 := by
  cases sc with
  | items ds => exact Nat.zero_le _
  | ref n => trivial
theorem okI_s {sc : Src} {i : Nat} {S : Store} {d : D} (h : nxt sc i S = some (some d)) : okI sc (i + 1) := by
  cases sc with
  | items ds =>
    have h : ds[i]? = some d := Option.some.inj h
    exact (List.getElem?_eq_some_iff.mp h).1
  | ref n => trivial
/-- what the iterator yields -/
theorem srcJ_nxt {K : PySem.W.Frag} {m m' : Am} {H H' : Hp} {S' : Store} {sc : Src} {J : It} {i : Nat} (j : SrcJ K m H sc J) (st : Stx m H m' H') (s : Sto K m' H' S') (oi : okI sc i) :
    (nxt sc i S' = some none → J.stop i H') ∧ ∀ d, nxt sc i S' = some (some d) → J.go i H' ∧ ∀ x H'', J.yld i H' x H'' → Fr1 H' H'' ∧ VD K m' H'' d x := by
  cases sc with
  | items ds =>
    obtain ⟨j1, j2⟩ := j m' H' S' st s i
    refine ⟨fun e => j2 ?_, fun d e => ?_⟩
    · have e : ds[i]? = none := Option.some.inj e
      exact Nat.le_antisymm oi (List.getElem?_eq_none_iff.mp e)
    · have e : ds[i]? = some d := Option.some.inj e
      obtain ⟨g, y⟩ := j1 (List.getElem?_eq_some_iff.mp e).1
      refine ⟨g, fun x H'' yl => ?_⟩
      obtain ⟨d', e', eh, vd⟩ := y x H'' yl
      rw [e] at e'
      cases e'
      exact ⟨eh, vd⟩
  | ref n =>
    obtain ⟨a, ha, rfl⟩ := j
    have ha' := st.ix n a ha
    cases e1 : S'[n]? with
    | none => exact ⟨fun e => (by rw [nxt_ref0 e1] at e; cases e), fun d e => by rw [nxt_ref0 e1] at e; cases e⟩
    | some o =>
      cases o with
      | lst ds =>
        obtain ⟨xs, q1, q2⟩ := s.obj n a _ ha' e1
        rw [nxt_ref e1]
        refine ⟨fun e => ⟨xs, SqL.of q1, ?_⟩, fun d e => ?_⟩
        · have e : ds[i]? = none := Option.some.inj e
          rw [q2.length]
          exact List.getElem?_eq_none_iff.mp e
        · have e : ds[i]? = some d := Option.some.inj e
          obtain ⟨v, hv, vd⟩ := q2.get e
          refine ⟨⟨xs, v, SqL.of q1, hv⟩, fun x H'' y => ?_⟩
          obtain ⟨rfl, f⟩ := y
          have ex := f xs (SqL.of q1)
          rw [hv] at ex
          cases ex
          exact ⟨.inl rfl, vd⟩
theorem wipe_eq {σ σ' : L2.St} (hl : σ'.length = σ.length) : ∀ (vs : List Nat), (∀ i, i ∉ vs → σ'[i]? = σ[i]?) → wipe σ' vs = wipe σ vs := by
  intro vs h
  have key : ∀ (σ : L2.St) (vs : List Nat) (i : Nat), (wipe σ vs)[i]? = if i ∈ vs then (if i < σ.length then some none else none) else σ[i]? := by
    intro σ vs i
    induction vs with
    | nil => simp [wipe]
    | cons v vs ih =>
      unfold wipe
      rw [List.getElem?_set]
      by_cases e : v = i
      · subst e
        simp [wipe_length]
      · rw [if_neg e, ih]
        have e' : i ≠ v := fun z => e z.symm
        simp [e']
  refine List.ext_getElem? fun i => ?_
  rw [key, key, hl]
  by_cases hi : i ∈ vs
  · simp [hi]
  · simp [hi, h i hi]
theorem wipe_wipe (σ : L2.St) (vs : List Nat) : wipe (wipe σ vs) vs = wipe σ vs := wipe_eq (wipe_length σ vs) vs fun i hi => wipe_out hi
theorem alen : ∀ (t : Tg) (d : D) (ρ ρ' : Env), asg t d ρ = some ρ' → ρ'.length = ρ.length := by
  intro t
  refine Tg.rec (motive_1 := fun t => ∀ (d : D) (ρ ρ' : Env), asg t d ρ = some ρ' → ρ'.length = ρ.length) (motive_2 := fun ts => ∀ (ds : List D) (ρ ρ' : Env), asg.asgs ts ds ρ = some ρ' → ρ'.length = ρ.length) ?_ ?_ ?_ ?_ t
  · intro i d ρ ρ' h
    unfold asg at h
    split at h
    · cases h
      exact List.length_set
    · cases h
  · intro ts ih d ρ ρ' h
    cases d with
    | tup ds => exact ih ds ρ ρ' h
    | _ => cases h
  · intro ds ρ ρ' h
    cases ds with
    | nil =>
      cases h
      rfl
    | cons _ _ => cases h
  · intro t ts ih1 ih2 ds ρ ρ' h
    cases ds with
    | nil => cases h
    | cons d ds =>
      have h : (match asg t d ρ with | some ρ' => asg.asgs ts ds ρ' | none => none) = some ρ' := h
      cases e2 : asg t d ρ with
      | none =>
        rw [e2] at h
        cases h
      | some ρ1 =>
        rw [e2] at h
        rw [ih2 ds ρ1 ρ' h, ih1 d ρ ρ1 e2]
section
variable {K : PySem.W.Frag} {mg : Str → Option Value} {W : WX} {call : Nat → List D → M D}
/-- a clause's tests -/
def ttvs (K : PySem.W.Frag) (mg : Str → Option Value) (W : WX) (call : Nat → List D → M D) (cs : List E) : TT := fun σ H Q => ∃ m S ρ, Sto K m H S ∧ EnvR K m H σ ρ ∧ Gd (evTs call cs ρ S) (OkB K m H Q) (ExW K mg m H fun c d H' => W c d σ H')
theorem comp_tLc {vs : List Nat} {tg : Tg} {k : Sk} {src conds : List E} {elt : E} {σ : L2.St} {H : Hp} {Q : VK} (ht : ∀ i ∈ tgN tg, i ∈ vs) (h : tev K mg W call (.comp vs tg k src conds elt) σ H Q) :
    tLc (tis K mg W call k src) (gR K tg) (ttvs K mg (fun _ _ _ _ => False) call conds) (tev K mg (fun _ _ _ _ => False) call elt) vs σ H Q := by
  obtain ⟨m, S, ρ, s, r, g⟩ := h
  have g : Gd (M.bind (evEs call src ρ) (fun ds => M.bind (opt (srcOf k ds)) fun sc =>
      M.bind (compM (fun d => match asg tg d (wipeD ρ vs) with
        | some ρ' => noX (M.bind (evTs call conds ρ') fun t => if t then M.bind (evE call elt ρ') fun y => M.pure (some y) else M.pure none)
        | none => stuck) sc) fun ds => M.pure (.lst ds)) S) (OkW K m H Q) (ExW K mg m H fun c d H' => W c d σ H') := g
  refine ⟨m, S, ρ, s, r, Gd.join (Gd.mono (Gd.bind g) (fun ds S1 g1 => ?_) fun _ _ z => z)⟩
  obtain ⟨sc, e1, g2⟩ := Gd.opt (Gd.bind g1)
  rw [e1]
  show ∀ m' H' J, Stp m H m' H' → Sto K m' H' S1 → SrcJ K m' H' sc J → _
  intro m1 H1 J st1 s1 j D hD
  generalize hf : (fun d => match asg tg d (wipeD ρ vs) with
        | some ρ' => noX (M.bind (evTs call conds ρ') fun t => if t then M.bind (evE call elt ρ') fun y => M.pure (some y) else M.pure none)
        | none => stuck) = f at g2
  have g3 : Gd (compM f sc S1) (fun ds S2 => OkW K m H Q (.lst ds) S2) (ExW K mg m H fun c d H' => W c d σ H') := Gd.mono (Gd.bind g2) (fun _ _ z => z) fun _ _ z => z
  obtain ⟨k0, g4⟩ := compM_K g3
  have hDp : D ∉ m1.p := fun z => s1.nin hD (.inr z)
  refine ⟨fun i k' H' => okI sc i ∧ ∃ (m' : Am) (S' : Store) (accD : List Ev.D) (accV : List V), Sto K (m'.hold D) H' S' ∧ Stw (m1.hold D) (upd H1 D (.lst [])) (m'.hold D) H' ∧ (∀ a ∈ m1.p, H' a = H1 a) ∧ H' D = some (.lst accV) ∧ VDs K (m'.hold D) H' accD accV ∧
    Gd (compK f sc k' i accD S') (fun ds S2 => OkW K m H Q (.lst ds) S2) (ExW K mg m H fun c d H' => W c d σ H'), ⟨k0, okI_0, m1, S1, [], [], s1.hold hD [], Stp.refl.toStw, fun a ha => ?_, upd_same, rfl, g4⟩, ?_⟩
  · have ne : a ≠ D := fun e => hDp (e ▸ ha)
    exact upd_ne ne
  · rintro i k' H' ⟨oi, m', S', accD, accV, s', sw, pr, hDv, va, g5⟩
    have sx : Stx m1 H1 (m'.hold D) H' := (Stx.hold s1 hD _).trans sw.x
    have hmp : m'.p = m1.p := by
      obtain ⟨_, _, hq, _⟩ := sw.ext
      exact (List.cons_inj_right D).mp hq
    have st' : Stp m1 H1 m' H' := ⟨Stw.hold hD sw, pr⟩
    obtain ⟨n1, n2⟩ := srcJ_nxt (i := i) j sx s' oi
    rcases compK_step g5 with ⟨e, fin⟩ | ⟨d, k1, rfl, e, g6⟩
    · refine .inl ⟨n1 e, ?_⟩
      exact (fin : OkW K m H Q (.lst accD) S') m' H' (.ref D) (st1.trans st') s'.free ⟨D, accV, rfl, hDv, s'.pnin (by rw [hmp]; exact hDp), VDs.free _ _ va⟩
    · obtain ⟨go, yl⟩ := n2 d e
      refine .inr ⟨go, fun H2 => ∃ (m' : Am) (S' : Store) (accD : List Ev.D) (accV : List V), Sto K (m'.hold D) H2 S' ∧ Stw (m1.hold D) (upd H1 D (.lst [])) (m'.hold D) H2 ∧ (∀ a ∈ m1.p, H2 a = H1 a) ∧ H2 D = some (.lst accV) ∧ VDs K (m'.hold D) H2 accD accV ∧
        Gd (compK f sc k1 (i + 1) accD S') (fun ds S2 => OkW K m H Q (.lst ds) S2) (ExW K mg m H fun c d H' => W c d σ H'), fun H2 p => ⟨k1, Nat.lt_succ_self _, okI_s e, p⟩, fun x H'' y => ?_⟩
      obtain ⟨fr, vd⟩ := yl x H'' y
      obtain ⟨stf, s'⟩ := fr.step s'
      have sw := sw.trans stf.toStw
      have pr : ∀ a ∈ m1.p, H'' a = H1 a := fun a ha => (stf.pro a (List.mem_cons_of_mem _ (by rw [hmp]; exact ha))).trans (pr a ha)
      have hDv : H'' D = some (.lst accV) := (stf.pro D List.mem_cons_self).trans hDv
      have va : VDs K (m'.hold D) H'' accD accV := VDs.mono (by assumption) stf _ _ va
      have sx : Stx m1 H1 (m'.hold D) H'' := sx.trans stf.x
      rw [← hf] at g6
      dsimp only at g6
      cases ea : asg tg d (wipeD ρ vs) with
      | none =>
        rw [ea] at g6
        exact False.elim g6
      | some ρ' =>
        rw [ea] at g6
        rw [hf] at g6
        dsimp only at g6
        have er : EnvR K (m'.hold D) H'' (wipe σ vs) (wipeD ρ vs) := (EnvR.monox s1 sx (r.mono s st1)).wipe vs
        refine ⟨m'.hold D, S', wipeD ρ vs, d, ρ', s', er, vd, ea, fun σ2 r2 k2 => ⟨?_, ?_⟩⟩
        · have hl : σ2.length = (wipe σ vs).length := by
            rw [← r2.1, alen tg d _ _ ea]
            exact er.1
          rw [← wipe_wipe σ vs]
          exact wipe_eq hl vs fun i hi => k2 i fun z => hi (ht i z)
        · have g7 := Gd.bind g6.noX
          refine ⟨m'.hold D, S', ρ', s', r2, g7.mono (fun b S3 g8 m3 H3 st3 s3 => ?_) fun _ _ z => False.elim z⟩
          have hp3 : m3.p = D :: m'.p := by
            obtain ⟨_, _, hq, _⟩ := st3.ext
            exact hq
          have em3 : m3 = (Am.mk m3.l m'.p).hold D := by
            cases m3
            unfold Am.hold
            dsimp only at hp3 ⊢
            rw [hp3]
          generalize hm4 : Am.mk m3.l m'.p = m4 at em3
          subst em3
          have hp4 : m4.p = m'.p := by rw [← hm4]
          have hD3 : H3 D = some (.lst accV) := (st3.pro D List.mem_cons_self).trans hDv
          have sw3 := sw.trans st3.toStw
          have pr3 : ∀ a ∈ m1.p, H3 a = H1 a := fun a ha => (st3.pro a (List.mem_cons_of_mem _ (by rw [hmp]; exact ha))).trans (pr a ha)
          cases b with
          | false =>
            exact ⟨m4, S3, accD, accV, s3, sw3, pr3, hD3, VDs.mono s' st3 _ _ va, g8⟩
          | true =>
            refine (⟨m4.hold D, S3, ρ', s3, r2.mono s' st3, (Gd.bind g8).mono (fun y S4 g9 m5 H4 v st4 s4 vy => ?_) fun _ _ z => False.elim z⟩ : tev K mg (fun _ _ _ _ => False) call elt σ2 H3 _)
            obtain ⟨hz, g9⟩ := g9
            have hp5 : m5.p = D :: m4.p := by
              obtain ⟨_, _, hq, _⟩ := st4.ext
              exact hq
            have em5 : m5 = (Am.mk m5.l m4.p).hold D := by
              cases m5
              unfold Am.hold
              dsimp only at hp5 ⊢
              rw [hp5]
            generalize hm6 : Am.mk m5.l m4.p = m6 at em5
            subst em5
            have hp6 : m6.p = m4.p := by rw [← hm6]
            have hD4 : H4 D = some (.lst accV) := (st4.pro D List.mem_cons_self).trans hD3
            have va4 := VDs.mono s3 st4 _ _ (VDs.mono s' st3 _ _ va)
            obtain ⟨w1, w2⟩ := s4.wrote (by rw [hp6, hp4, hmp]; exact hDp) (accV ++ [v])
            refine ⟨accV, hD4, by rw [va4.length, ← sm_eq]; exact hz, m6, S4, accD ++ [y], accV ++ [v], w2, (sw3.trans st4.toStw).trans w1, fun a ha => ?_, upd_same, VDs.monow s4 w1 _ _ (va4.append (VDs.one vy)), g9⟩
            have ne : a ≠ D := fun e => hDp (e ▸ ha)
            rw [upd_ne ne]
            exact (st4.pro a (List.mem_cons_of_mem _ (by rw [hp4, hmp]; exact ha))).trans (pr3 a ha)
end
end Ev
set_option Elab.async false
set_option linter.all false
set_option maxRecDepth 100000
set_option maxHeartbeats 8000000
namespace Ev
open PySem PySem.Spec PyProof.Rows L2
def accK (f : D → List D → M (List D)) (sc : Src) : Nat → Nat → List D → M (List D)
  | 0, _, _ => fun _ => none
  | k + 1, i, acc => fun S => match nxt sc i S with
    | none => none
    | some none => some (.ok acc S)
    | some (some d) => match f d acc S with
      | some (.ok acc' S') => accK f sc k (i + 1) acc' S'
      | some (.ex x S') => some (.ex x S')
      | none => none
theorem accL_K {f : D → List D → M (List D)} {ds : List D} : ∀ (rest : List D) (i : Nat) (acc : List D) (S : Store), ds.drop i = rest → accK f (.items ds) (rest.length + 1) i acc S = accL f rest acc S
  | [], i, acc, S, h => by
    have e : ds[i]? = none := List.getElem?_eq_none (List.drop_eq_nil_iff.mp h)
    have nx : nxt (.items ds) i S = some none := by
      show some ds[i]? = _
      rw [e]
    unfold accK
    rw [nx]
    rfl
  | d :: r, i, acc, S, h => by
    obtain ⟨e, h2⟩ := drop_get h
    have ih := fun acc S => accL_K (f := f) r (i + 1) acc S h2
    have nx : nxt (.items ds) i S = some (some d) := by
      show some ds[i]? = _
      rw [e]
    unfold accK
    rw [nx]
    show _ = M.bind (f d acc) (fun acc => accL f r acc) S
    unfold M.bind
    show (match f d acc S with
      | some (.ok acc' S') => accK f (.items ds) (r.length + 1) (i + 1) acc' S'
      | some (.ex x S') => some (.ex x S')
      | none => none) = _
    cases e1 : f d acc S with
    | none => rfl
    | some q =>
      cases q with
      | ex x S' => rfl
      | ok o S' => exact ih o S'
theorem accR_K {f : D → List D → M (List D)} {n : Nat} (i : Nat) (acc : List D) (S : Store) (r : Rs (List D)) (h : accR f n i acc S = some r) : ∃ k, accK f (.ref n) k i acc S = some r := by
  refine accR.partial_correctness f n (fun i acc S r => ∃ k, accK f (.ref n) k i acc S = some r) ?_ i acc S r h
  intro R ih i acc S r h
  cases e : S[n]? with
  | none =>
    rw [e] at h
    cases h
  | some o =>
    rw [e] at h
    cases o with
    | lst ds =>
      dsimp only at h
      have nx : nxt (.ref n) i S = some ds[i]? := nxt_ref e
      have one : ∀ k, accK f (.ref n) (k + 1) i acc S = (match nxt (.ref n) i S with
        | none => none
        | some none => some (.ok acc S)
        | some (some d) => match f d acc S with
          | some (.ok acc' S') => accK f (.ref n) k (i + 1) acc' S'
          | some (.ex x S') => some (.ex x S')
          | none => none) := fun k => rfl
      cases e1 : ds[i]? with
      | none =>
        rw [e1] at h nx
        exact ⟨1, by rw [one, nx]; exact h⟩
      | some d =>
        rw [e1] at h nx
        dsimp only at h
        cases e2 : f d acc S with
        | none =>
          rw [e2] at h
          cases h
        | some q =>
          rw [e2] at h
          cases q with
          | ex x S' => exact ⟨1, by rw [one, nx]; dsimp only; rw [e2]; exact h⟩
          | ok o S' =>
            obtain ⟨k, q⟩ := ih _ _ _ _ h
            exact ⟨k + 1, by rw [one, nx]; dsimp only; rw [e2]; exact q⟩
theorem accM_K {f : D → List D → M (List D)} {sc : Src} {acc : List D} {S : Store} {φ : List D → Store → Prop} {ψ : Xn → Store → Prop} (h : Gd (accM f sc acc S) φ ψ) : ∃ k, Gd (accK f sc k 0 acc S) φ ψ := by
  cases sc with
  | items ds =>
    refine ⟨ds.length + 1, ?_⟩
    rw [accL_K ds 0 acc S List.drop_zero]
    exact h
  | ref n =>
    cases e : accM f (.ref n) acc S with
    | none =>
      rw [e] at h
      exact False.elim h
    | some r =>
      obtain ⟨k, q⟩ := accR_K 0 acc S r e
      exact ⟨k, by rw [q]; rw [e] at h; exact h⟩
theorem accK_step {f : D → List D → M (List D)} {sc : Src} {S : Store} {k i : Nat} {acc : List D} {φ : List D → Store → Prop} {ψ : Xn → Store → Prop} (h : Gd (accK f sc k i acc S) φ ψ) :
    (nxt sc i S = some none ∧ φ acc S) ∨ ∃ d k', k = k' + 1 ∧ nxt sc i S = some (some d) ∧ Gd (f d acc S) (fun acc' S' => Gd (accK f sc k' (i + 1) acc' S') φ ψ) ψ := by
  cases k with
  | zero => exact False.elim h
  | succ k =>
    unfold accK at h
    cases e : nxt sc i S with
    | none =>
      rw [e] at h
      exact False.elim h
    | some o =>
      rw [e] at h
      cases o with
      | none => exact .inl ⟨rfl, h⟩
      | some d =>
        refine .inr ⟨d, k, rfl, rfl, ?_⟩
        dsimp only at h
        cases e2 : f d acc S with
        | none =>
          rw [e2] at h
          exact h
        | some q =>
          rw [e2] at h
          cases q with
          | ex x S' => exact h
          | ok o S' => exact h
/-- the new list at D so far -/
structure CS (K : PySem.W.Frag) (m1 : Am) (H1 : Hp) (D : Addr) (H2 : Hp) (m' : Am) (S' : Store) (accD : List Ev.D) (accV : List V) : Prop where
  sto : Sto K (m'.hold D) H2 S'
  stw : Stw (m1.hold D) (upd H1 D (.lst [])) (m'.hold D) H2
  pro : ∀ a ∈ m1.p, H2 a = H1 a
  at_ : H2 D = some (.lst accV)
  vds : VDs K (m'.hold D) H2 accD accV
section
variable {K : PySem.W.Frag} {m1 m' m3 : Am} {H1 H2 H3 : Hp} {D : Addr} {S' S3 : Store} {accD : List Ev.D} {accV : List V}
theorem CS.mp (c : CS K m1 H1 D H2 m' S' accD accV) : m'.p = m1.p := by
  obtain ⟨_, _, hq, _⟩ := c.stw.ext
  exact (List.cons_inj_right D).mp hq
theorem CS.step (c : CS K m1 H1 D H2 m' S' accD accV) (st : Stp (m'.hold D) H2 m3 H3) (s : Sto K m3 H3 S3) : ∃ m4 : Am, m3 = m4.hold D ∧ CS K m1 H1 D H3 m4 S3 accD accV := by
  have hp3 : m3.p = D :: m'.p := by
    obtain ⟨_, _, hq, _⟩ := st.ext
    exact hq
  have em3 : m3 = (Am.mk m3.l m'.p).hold D := by
    cases m3
    unfold Am.hold
    dsimp only at hp3 ⊢
    rw [hp3]
  refine ⟨⟨m3.l, m'.p⟩, em3, by rw [← em3]; exact s, by rw [← em3]; exact c.stw.trans st.toStw, fun a ha => ?_, (st.pro D List.mem_cons_self).trans c.at_, by rw [← em3]; exact VDs.mono c.sto st _ _ c.vds⟩
  exact (st.pro a (List.mem_cons_of_mem _ (by rw [c.mp]; exact ha))).trans (c.pro a ha)
theorem CS.app (c : CS K m1 H1 D H2 m' S' accD accV) (hD : D ∉ m1.p) {y : Ev.D} {v : V} (vy : VD K (m'.hold D) H2 y v) : CS K m1 H1 D (upd H2 D (.lst (accV ++ [v]))) m' S' (accD ++ [y]) (accV ++ [v]) ∧ Stx (m'.hold D) H2 (m'.hold D) (upd H2 D (.lst (accV ++ [v]))) := by
  obtain ⟨w1, w2⟩ := c.sto.wrote (by rw [c.mp]; exact hD) (accV ++ [v])
  refine ⟨⟨w2, c.stw.trans w1, fun a ha => ?_, upd_same, VDs.monow c.sto w1 _ _ (c.vds.append (VDs.one vy))⟩, w1.x⟩
  have ne : a ≠ D := fun e => hD (e ▸ ha)
  rw [upd_ne ne]
  exact c.pro a ha
end
section
variable {K : PySem.W.Frag} {mg : Str → Option Value} {W : WX} {call : Nat → List D → M D}
theorem comp2_tLc2 {vs vs1 : List Nat} {tg tg1 : Tg} {k k1 : Sk} {src conds src1 conds1 : List E} {elt : E} {σ : L2.St} {H : Hp} {Q : VK} (ht : ∀ i ∈ tgN tg, i ∈ vs) (ht1 : ∀ i ∈ tgN tg1, i ∈ vs1) (h : tev K mg W call (.comp2 vs tg k src conds vs1 tg1 k1 src1 conds1 elt) σ H Q) :
    tLc2 (tis K mg W call k src) (gR K tg) (ttvs K mg (fun _ _ _ _ => False) call conds) (tis K mg (fun _ _ _ _ => False) call k1 src1) (gR K tg1) (ttvs K mg (fun _ _ _ _ => False) call conds1) (tev K mg (fun _ _ _ _ => False) call elt) vs vs1 σ H Q := by
  obtain ⟨m, S, ρ, s, r, g⟩ := h
  generalize hf1 : (fun (ρ1 : Env) (d1 : D) (acc : List D) => match asg tg1 d1 (wipeD ρ1 vs1) with
              | some ρ2 => M.bind (evTs call conds1 ρ2) fun t => if t then M.bind (evE call elt ρ2) fun y => if acc.length < sizeMax then M.pure (acc ++ [y]) else stuck else M.pure acc
              | none => stuck) = f1
  have g : Gd (M.bind (evEs call src ρ) (fun ds => M.bind (opt (srcOf k ds)) fun sc =>
      M.bind (accM (fun d acc => match asg tg d (wipeD ρ vs) with
        | some ρ1 => noX (M.bind (evTs call conds ρ1) fun t => if t then M.bind (evEs call src1 ρ1) fun ds1 => M.bind (opt (srcOf k1 ds1)) fun sc1 => accM (f1 ρ1) sc1 acc
          else M.pure acc)
        | none => stuck) sc []) fun ds => M.pure (.lst ds)) S) (OkW K m H Q) (ExW K mg m H fun c d H' => W c d σ H') := by
    rw [← hf1]
    exact g
  refine ⟨m, S, ρ, s, r, Gd.join (Gd.mono (Gd.bind g) (fun ds S1 g1 => ?_) fun _ _ z => z)⟩
  obtain ⟨sc, e1, g2⟩ := Gd.opt (Gd.bind g1)
  rw [e1]
  show ∀ m' H' J, Stp m H m' H' → Sto K m' H' S1 → SrcJ K m' H' sc J → _
  intro m1 H1 J st1 s1 j D hD
  generalize hf : (fun d acc => match asg tg d (wipeD ρ vs) with
        | some ρ1 => noX (M.bind (evTs call conds ρ1) fun t => if t then M.bind (evEs call src1 ρ1) fun ds1 => M.bind (opt (srcOf k1 ds1)) fun sc1 => accM (f1 ρ1) sc1 acc
          else M.pure acc)
        | none => stuck) = f at g2
  have g3 : Gd (accM f sc [] S1) (fun ds S2 => OkW K m H Q (.lst ds) S2) (ExW K mg m H fun c d H' => W c d σ H') := Gd.mono (Gd.bind g2) (fun _ _ z => z) fun _ _ z => z
  obtain ⟨k0, g4⟩ := accM_K g3
  have hDp : D ∉ m1.p := fun z => s1.nin hD (.inr z)
  have c0 : CS K m1 H1 D (upd H1 D (.lst [])) m1 S1 [] [] := ⟨s1.hold hD [], Stp.refl.toStw, fun a ha => upd_ne fun e => hDp (e ▸ ha), upd_same, rfl⟩
  refine ⟨fun i k' H' => okI sc i ∧ ∃ (m' : Am) (S' : Store) (accD : List Ev.D) (accV : List V), CS K m1 H1 D H' m' S' accD accV ∧
    Gd (accK f sc k' i accD S') (fun ds S2 => OkW K m H Q (.lst ds) S2) (ExW K mg m H fun c d H' => W c d σ H'), ⟨k0, okI_0, m1, S1, [], [], c0, g4⟩, ?_⟩
  rintro i k' H' ⟨oi, m', S', accD, accV, cs, g5⟩
  have sx : Stx m1 H1 (m'.hold D) H' := (Stx.hold s1 hD _).trans cs.stw.x
  have st' : Stp m1 H1 m' H' := ⟨Stw.hold hD cs.stw, cs.pro⟩
  obtain ⟨n1, n2⟩ := srcJ_nxt (i := i) j sx cs.sto oi
  rcases accK_step g5 with ⟨e, fin⟩ | ⟨d, k2, rfl, e, g6⟩
  · refine .inl ⟨n1 e, ?_⟩
    exact (fin : OkW K m H Q (.lst accD) S') m' H' (.ref D) (st1.trans st') cs.sto.free ⟨D, accV, rfl, cs.at_, cs.sto.pnin (by rw [cs.mp]; exact hDp), VDs.free _ _ cs.vds⟩
  · obtain ⟨go, yl⟩ := n2 d e
    refine .inr ⟨go, fun H2 => ∃ (m' : Am) (S' : Store) (accD : List Ev.D) (accV : List V), CS K m1 H1 D H2 m' S' accD accV ∧
        Gd (accK f sc k2 (i + 1) accD S') (fun ds S2 => OkW K m H Q (.lst ds) S2) (ExW K mg m H fun c d H' => W c d σ H'), fun H2 p => ⟨k2, Nat.lt_succ_self _, okI_s e, p⟩, fun x H'' y => ?_⟩
    obtain ⟨fr, vd⟩ := yl x H'' y
    obtain ⟨stf, s2⟩ := fr.step cs.sto
    obtain ⟨m2, em, cs⟩ := cs.step stf s2
    rw [em] at vd
    have sx : Stx m1 H1 (m2.hold D) H'' := (Stx.hold s1 hD _).trans cs.stw.x
    rw [← hf] at g6
    dsimp only at g6
    cases ea : asg tg d (wipeD ρ vs) with
    | none =>
      rw [ea] at g6
      exact False.elim g6
    | some ρ1 =>
      rw [ea] at g6
      rw [hf] at g6
      dsimp only at g6
      have er : EnvR K (m2.hold D) H'' (wipe σ vs) (wipeD ρ vs) := (EnvR.monox s1 sx (r.mono s st1)).wipe vs
      refine ⟨m2.hold D, S', wipeD ρ vs, d, ρ1, cs.sto, er, vd, ea, fun σ2 r2 q2 => ⟨?_, ?_⟩⟩
      · have hl : σ2.length = (wipe σ vs).length := by
          rw [← r2.1, alen tg d _ _ ea]
          exact er.1
        rw [← wipe_wipe σ vs]
        exact wipe_eq hl vs fun i hi => q2 i fun z => hi (ht i z)
      · have g7 := Gd.bind g6.noX
        refine ⟨m2.hold D, S', ρ1, cs.sto, r2, g7.mono (fun b S3 g8 m3 H3 st3 s3 => ?_) fun _ _ z => False.elim z⟩
        obtain ⟨m4, rfl, cs3⟩ := cs.step st3 s3
        have r3 := r2.mono cs.sto st3
        cases b with
        | false => exact ⟨m4, S3, accD, accV, cs3, g8⟩
        | true =>
          refine (⟨m4.hold D, S3, ρ1, s3, r3, ?_⟩ : tis K mg (fun _ _ _ _ => False) call k1 src1 σ2 H3 _)
          refine Gd.join (Gd.mono (Gd.bind g8) (fun ds1 S4 g9 => ?_) fun _ _ z => False.elim z)
          obtain ⟨sc1, e2, g10⟩ := Gd.opt (Gd.bind g9)
          rw [e2]
          show ∀ m' H' J, Stp (m4.hold D) H3 m' H' → Sto K m' H' S4 → SrcJ K m' H' sc1 J → _
          intro m5 H5 J1 st5 s5 j1
          obtain ⟨m6, rfl, cs5⟩ := cs3.step st5 s5
          have r5 := r3.mono s3 st5
          obtain ⟨k3, g11⟩ := accM_K g10
          refine ⟨fun i' k' H' => okI sc1 i' ∧ ∃ (m' : Am) (S' : Store) (accD : List Ev.D) (accV : List V), CS K m1 H1 D H' m' S' accD accV ∧ Stx (m6.hold D) H5 (m'.hold D) H' ∧ EnvR K (m'.hold D) H' σ2 ρ1 ∧
            Gd (accK (f1 ρ1) sc1 k' i' accD S') (fun acc S2 => Gd (accK f sc k2 (i + 1) acc S2) (fun ds S2 => OkW K m H Q (.lst ds) S2) (ExW K mg m H fun c d H' => W c d σ H')) (fun _ _ => False),
            ⟨k3, okI_0, m6, S4, accD, accV, cs5, Stp.refl.x, r5, g11⟩, ?_⟩
          rintro i' k' H6 ⟨oi', m', S6, accD6, accV6, cs6, sx6, r6, g12⟩
          obtain ⟨n3, n4⟩ := srcJ_nxt (i := i') j1 sx6 cs6.sto oi'
          rcases accK_step g12 with ⟨e', fin⟩ | ⟨d', k4, rfl, e', g13⟩
          · exact .inl ⟨n3 e', m', S6, accD6, accV6, cs6, fin⟩
          · obtain ⟨go', yl'⟩ := n4 d' e'
            refine .inr ⟨go', fun H2 => ∃ (m' : Am) (S' : Store) (accD : List Ev.D) (accV : List V), CS K m1 H1 D H2 m' S' accD accV ∧ Stx (m6.hold D) H5 (m'.hold D) H2 ∧ EnvR K (m'.hold D) H2 σ2 ρ1 ∧
              Gd (accK (f1 ρ1) sc1 k4 (i' + 1) accD S') (fun acc S2 => Gd (accK f sc k2 (i + 1) acc S2) (fun ds S2 => OkW K m H Q (.lst ds) S2) (ExW K mg m H fun c d H' => W c d σ H')) (fun _ _ => False),
              fun H2 p => ⟨k4, Nat.lt_succ_self _, okI_s e', p⟩, fun x H7 y => ?_⟩
            obtain ⟨fr, vd'⟩ := yl' x H7 y
            obtain ⟨stf', s7⟩ := fr.step cs6.sto
            have r7 := r6.mono cs6.sto stf'
            have sx7 := sx6.trans stf'.x
            obtain ⟨m7, em7, cs7⟩ := cs6.step stf' s7
            rw [em7] at vd' r7 sx7
            have hf2 := congrFun hf1 ρ1
            rw [← hf2] at g13
            dsimp only at g13
            cases ea' : asg tg1 d' (wipeD ρ1 vs1) with
            | none =>
              rw [ea'] at g13
              exact False.elim g13
            | some ρ2 =>
              rw [ea'] at g13
              rw [hf2] at g13
              dsimp only at g13
              refine ⟨m7.hold D, S6, wipeD ρ1 vs1, d', ρ2, cs7.sto, r7.wipe vs1, vd', ea', fun σ3 r8 q8 => ⟨?_, ?_⟩⟩
              · have hl : σ3.length = (wipe σ2 vs1).length := by
                  rw [← r8.1, alen tg1 d' _ _ ea']
                  exact (r7.wipe vs1).1
                rw [← wipe_wipe σ2 vs1]
                exact wipe_eq hl vs1 fun i hi => q8 i fun z => hi (ht1 i z)
              · refine ⟨m7.hold D, S6, ρ2, cs7.sto, r8, (Gd.bind g13).mono (fun b S8 g14 m8 H8 st8 s8 => ?_) fun _ _ z => False.elim z⟩
                have r9 := r8.mono cs7.sto st8
                have r7' := r7.mono cs7.sto st8
                have sx8 := sx7.trans st8.x
                obtain ⟨m9, rfl, cs8⟩ := cs7.step st8 s8
                cases b with
                | false => exact ⟨m9, S8, accD6, accV6, cs8, sx8, r7', g14⟩
                | true =>
                  refine (⟨m9.hold D, S8, ρ2, s8, r9, (Gd.bind g14).mono (fun y S9 g15 m10 H9 v st9 s9 vy => ?_) fun _ _ z => False.elim z⟩ : tev K mg (fun _ _ _ _ => False) call elt σ3 H8 _)
                  have r10 := r7'.mono s8 st9
                  have sx9 := sx8.trans st9.x
                  obtain ⟨m11, rfl, cs9⟩ := cs8.step st9 s9
                  by_cases hz : accD6.length < sizeMax
                  · rw [if_pos hz] at g15
                    obtain ⟨ca, sa⟩ := cs9.app hDp vy
                    exact ⟨accV6, cs9.at_, by rw [cs9.vds.length, ← sm_eq]; exact hz, m11, S9, accD6 ++ [y], accV6 ++ [v], ca, sx9.trans sa, EnvR.monox s9 sa r10, g15⟩
                  · rw [if_neg hz] at g15
                    exact False.elim g15
end
end Ev
set_option Elab.async false
set_option linter.all false
set_option maxRecDepth 100000
set_option maxHeartbeats 8000000
namespace Ev
open PySem PySem.Spec PyProof.Rows L2
section
variable {X : Cx} {c : Ck} {sc : Scope} {fc : Str → Bool} {k : Nat} {call : Nat → List D → M D} {W : WX}
theorem ge_var {x : Str} {p : Pos} {i : Nat} (kx : Kx X c sc fc k call W) (h1 : vis sc x = true) (h2 : c.N[i]? = some x) (h3 : plainName x = true) : SE X W call (.Name x p) (.var i) := by
  obtain ⟨n1, n2, n3⟩ := plain_ok h3
  refine SE.of ((pe_var (i := i) (by rw [kx.N]; exact h2) (by rw [kx.sc]; exact vis_ok h1) n1 n2).wk fun σ H Q ⟨m, S, ρ, s, r, g⟩ => ?_) rfl
  have g : Gd ((match ρ[i]? with
    | some (some d) => M.pure d
    | _ => stuck) S) (OkW X.K m H Q) (ExW X.K X.mg m H fun c d H' => W c d σ H') := g
  cases e : ρ[i]? with
  | none =>
    rw [e] at g
    exact False.elim g
  | some o =>
    rw [e] at g
    cases o with
    | none => exact False.elim g
    | some d =>
      obtain ⟨v, h1, vd⟩ := r.2 i d e
      exact ⟨v, h1, (g : OkW X.K m H Q d S) m H v Stp.refl s vd⟩
theorem ge_con {e : Expr} {d : D} {v : V} (h : PE X e (tC v)) (p : plainTest e = true) (vd : ∀ K m H, VD K m H d v) : SE X W call e (.c d) :=
  SE.of (h.wk fun σ H Q ⟨m, S, ρ, s, r, g⟩ => (g : OkW X.K m H Q d S) m H v Stp.refl s (vd _ _ _)) p
theorem ge_glob {x : Str} {p : Pos} {d : D} (kx : Kx X c sc fc k call W) (h1 : glb sc x = true) (h2 : flatD d = true) (h3 : plainName x = true) (h4 : (match c.cs.lookup x with | some d' => sameD d' d | none => false) = true) : SE X W call (.Name x p) (.c d) := by
  obtain ⟨n1, n2, n3⟩ := plain_ok h3
  cases e : c.cs.lookup x with
  | none =>
    rw [e] at h4
    cases h4
  | some d' =>
    rw [e] at h4
    cases sameD_eq h4
    obtain ⟨v, u, e1, r, vd⟩ := kx.cs x d e h2
    exact ge_con (pe_glob (glb_ok kx.sc h1) e1 r n1) rfl vd
theorem ge_const {q : Const} {j : Nat} {p : Pos} {d : D} (h : constD q d = true) : SE X W call (.Constant q j p) (.c d) := by
  unfold constD at h
  split at h
  · cases of_decide_eq_true h
    exact ge_con pe_int rfl fun _ _ _ => rfl
  · cases eq_of_beq h
    exact ge_con pe_bl rfl fun _ _ _ => rfl
  · exact ge_con pe_non rfl fun _ _ _ => rfl
  · cases of_decide_eq_true h
    exact ge_con pe_str rfl fun _ _ _ => rfl
  · cases h
theorem ge_neg {a : Expr} {a' : E} {p : Pos} (ha : GE X W call a a') : SE X W call (.UnaryOp .USub a p) (.neg a') := by
  refine SE.of ((pe_un un_neg ha).wk fun σ H Q ⟨m, S, ρ, s, r, g⟩ => ?_) rfl
  refine tev_of s r g fun d S1 m1 H1 v st1 s1 r1 vd g1 => ?_
  cases d with
  | int i =>
    have vd : v = _ := vd
    exact ⟨i, vd, (g1 : OkW X.K m H Q (.int (-i)) S1) m1 H1 _ st1 s1 rfl⟩
  | _ => exact False.elim g1
theorem zip_ok {es : List Expr} {us : List E} {f : Expr → E → Bool} (h : ((es.zip us).all fun p => f p.1 p.2) = true) (g : ∀ e u, f e u = true → GE X W call e u) : ∀ p ∈ es.zip us, GE X W call p.1 p.2 := fun p hp => g _ _ (List.all_eq_true.mp h p hp)
/-- what such an expression gives, whatever the heap -/
theorem mild_ok {e : Expr} {e' : E} (kx : Kx X c sc fc k call W) (h : chkM c sc e e' = true) : ∃ t : TE, PE X e t ∧ ∀ (m : Am) (H H' : Hp) (σ : L2.St) (S : Store) (ρ : Env) (d : D) (S' : Store) (Q : VK), EnvR X.K m H σ ρ → evE call e' ρ S = some (.ok d S') → S' = S ∧ ((∀ v, Q v H') → t σ H' Q) := by
  unfold chkM at h
  split at h
  · rename_i x p i
    simp only [Bool.and_eq_true, decide_eq_true_eq] at h
    obtain ⟨⟨h1, h2⟩, h3⟩ := h
    obtain ⟨n1, n2, n3⟩ := plain_ok h3
    refine ⟨_, pe_var (i := i) (by rw [kx.N]; exact h2) (by rw [kx.sc]; exact vis_ok h1) n1 n2, fun m H H' σ S ρ d S' Q r e => ?_⟩
    have e : (match ρ[i]? with
      | some (some d) => M.pure d
      | _ => stuck) S = some (.ok d S') := e
    cases e1 : ρ[i]? with
    | none =>
      rw [e1] at e
      cases e
    | some o =>
      rw [e1] at e
      cases o with
      | none => cases e
      | some d0 =>
        cases e
        obtain ⟨v, hv, _⟩ := r.2 i d e1
        exact ⟨rfl, fun q => ⟨v, hv, q v⟩⟩
  · rename_i q j p d
    have con : ∀ {v : V} {e : Expr}, PE X e (tC v) → ∃ t : TE, PE X e t ∧ ∀ (m : Am) (H H' : Hp) (σ : L2.St) (S : Store) (ρ : Env) (d' : D) (S' : Store) (Q : VK), EnvR X.K m H σ ρ → evE call (.c d) ρ S = some (.ok d' S') → S' = S ∧ ((∀ v, Q v H') → t σ H' Q) := fun {v e} h => ⟨_, h, fun m H H' σ S ρ d' S' Q r e => by
      cases e
      exact ⟨rfl, fun q => q v⟩⟩
    unfold constD at h
    split at h
    · exact con pe_int
    · exact con pe_bl
    · exact con pe_non
    · exact con pe_str
    · cases h
  · cases h
theorem pps_ok (kx : Kx X c sc fc k call W) {pos : Pos} : ∀ {keys : List (Option Expr)} {values : List Expr} {es : List E}, keys.all isCon = true → keys.length = values.length → values.length = es.length → ((values.zip es).all fun p => chkM c sc p.1 p.2) = true →
    ∃ trs, PPs X pos keys values trs ∧ ∀ (m : Am) (H : Hp) (σ : L2.St) (S : Store) (ρ : Env) (ds : List D) (S' : Store) (Q : List (V × V) → Hp → Prop), EnvR X.K m H σ ρ → evEs call es ρ S = some (.ok ds S') → S' = S ∧ ∀ H', (∀ ps : List (V × V), (∃ kvs : List (Key × V), ps = kvs.map (fun kv => (kV kv.1, kv.2)) ∧ kvs.length = keys.length) → Q ps H') → tPairs trs σ H' Q
  | [], [], [], _, _, _, _ => ⟨[], pps_nil, fun m H σ S ρ ds S' Q r e => by
    cases e
    exact ⟨rfl, fun H' q => q [] ⟨[], rfl, rfl⟩⟩⟩
  | key :: keys, v :: values, u :: es, h1, h2, h3, h4 => by
    rw [List.all_cons, Bool.and_eq_true] at h1
    rw [List.zip_cons_cons, List.all_cons, Bool.and_eq_true] at h4
    obtain ⟨trs, p1, p2⟩ := pps_ok kx (keys := keys) (values := values) (es := es) h1.2 (Nat.succ.inj h2) (Nat.succ.inj h3) h4.2
    obtain ⟨t, q1, q2⟩ := mild_ok kx h4.1
    have hk := h1.1
    unfold isCon at hk
    split at hk
    · rename_i x j p
      refine ⟨_, pps_cons pe_str q1 p1, fun m H σ S ρ ds S' Q r e => ?_⟩
      have e : M.bind (evE call u ρ) (fun d => M.bind (evEs call es ρ) fun ds => M.pure (d :: ds)) S = some (.ok ds S') := e
      unfold M.bind at e
      split at e
      · rename_i d S1 e1
        dsimp only at e
        split at e
        · rename_i ds2 S2 e2
          cases e
          obtain ⟨rfl, f1⟩ := q2 m H H σ S ρ d _ (fun _ _ => True) r e1
          obtain ⟨rfl, f2⟩ := p2 m H σ _ ρ ds2 _ (fun ps H' => True) r e2
          refine ⟨rfl, fun H' hq => ?_⟩
          refine (q2 m H H' σ _ ρ d _ _ r e1).2 fun v => ?_
          refine (p2 m H σ _ ρ ds2 _ _ r e2).2 H' fun ps hps => ?_
          obtain ⟨kvs, rfl, hl⟩ := hps
          exact hq _ ⟨(.inr x, v) :: kvs, rfl, by rw [List.length_cons, List.length_cons, hl]⟩
        · cases e
        · cases e
      · cases e
      · cases e
    · cases hk
theorem con_some {keys : List (Option Expr)} (h : keys.all isCon = true) : keys.all (·.isSome) = true := by
  rw [List.all_eq_true] at h ⊢
  intro x hx
  have := h x hx
  unfold isCon at this
  split at this
  · rfl
  · cases this
theorem ge_dic {keys : List (Option Expr)} {values : List Expr} {es : List E} {pos : Pos} (kx : Kx X c sc fc k call W) (h1 : keys.all isCon = true) (h0 : keys.isEmpty = false) (h15 : keys.length ≤ 15) (h2 : keys.length = values.length) (h3 : values.length = es.length)
    (h4 : ((values.zip es).all fun p => chkM c sc p.1 p.2) = true) : GE X W call (.Dict keys values pos) (.dic es) := by
  obtain ⟨trs, p1, p2⟩ := pps_ok kx (pos := pos) h1 h2 h3 h4
  refine (pe_disp p1 (con_some h1) h2 (fun z => by rw [z] at h0; cases h0) h15).wk fun σ H Q ⟨m, S, ρ, s, r, g⟩ => ?_
  have g : Gd (M.bind (evEs call es ρ) (fun _ => M.pure .dic) S) (OkW X.K m H Q) (ExW X.K X.mg m H fun c d H' => W c d σ H') := g
  intro p hp
  cases e : evEs call es ρ S with
  | none =>
    have g := Gd.bind g
    rw [e] at g
    exact False.elim g
  | some q =>
    cases q with
    | ex x S' =>
      exfalso
      have ne : ∀ (es : List E) (vs : List Expr) (S : Store) (x : Xn) (S' : Store), vs.length = es.length → ((vs.zip es).all fun p => chkM c sc p.1 p.2) = true → evEs call es ρ S ≠ some (.ex x S') := by
        intro es
        induction es with
        | nil =>
          intro vs S x S' _ _ h
          cases h
        | cons u us ih =>
          intro vs S x S' hl hz h
          cases vs with
          | nil => cases hl
          | cons v vs =>
            rw [List.zip_cons_cons, List.all_cons, Bool.and_eq_true] at hz
            have h : M.bind (evE call u ρ) (fun d => M.bind (evEs call us ρ) fun ds => M.pure (d :: ds)) S = some (.ex x S') := h
            unfold M.bind at h
            split at h
            · dsimp only at h
              split at h
              · cases h
              · rename_i e2
                exact ih vs _ _ _ (Nat.succ.inj hl) hz.2 e2
              · cases h
            · rename_i e1
              have hm := hz.1
              have nx : ∀ (v : Expr) (u : E) (S : Store) (y : Xn) (S' : Store), chkM c sc v u = true → evE call u ρ S ≠ some (.ex y S') := fun v u S y S' hm h => by
                unfold chkM at hm
                split at hm
                · rename_i i
                  have h : (match ρ[i]? with
                    | some (some d) => M.pure d
                    | _ => stuck) S = some (.ex y S') := h
                  cases e2 : ρ[i]? with
                  | none =>
                    rw [e2] at h
                    cases h
                  | some o =>
                    rw [e2] at h
                    cases o <;> cases h
                · cases h
                · cases hm
              exact absurd e1 (nx v u _ _ _ hm)
            · cases h
      exact ne es values S x S' h3 h4 e
    | ok ds S1 =>
      obtain ⟨rfl, f⟩ := p2 m H σ S ρ ds S1 _ r e
      have g := Gd.bind g
      rw [e] at g
      refine f _ fun ps hps => ?_
      obtain ⟨kvs, e1, hl⟩ := hps
      refine ⟨upd_same, kvs, e1, by rw [hl]; exact h15, ?_⟩
      rw [upd_upd]
      exact (g : OkW X.K m H Q .dic _) m _ (.ref p) (Stp.fresh s hp) (s.fresh hp) ⟨p, _, rfl, upd_same⟩
theorem own_ok {N : List Str} : ∀ {vs : List Nat} {own : List (Str × Nat)}, ownOf N vs = some own → own.map (·.2) = vs
  | [], own, h => by
    cases h
    rfl
  | i :: r, own, h => by
    unfold ownOf at h
    split at h
    · cases h
      rename_i o _ e
      rw [List.map_cons, own_ok e]
    · cases h
/-- the context of a block -/
theorem Kx.blk (kx : Kx X c sc fc k call W) (s : Shared) (H : Hp) (scope : Scope) (C : Addr) (cl : List (Str × Addr)) (fp : List Addr) :
    Kx (X.blk s H scope (compEnvC scope cl C X.env) fp) c (relSc scope sc) (fun x => scope.names.lookup x == some .cell) k call (fun _ _ _ _ => False) where
  calm := kx.calm
  N := kx.N
  nd := kx.nd
  sc := by
    show relS scope X.env.scope = _
    rw [kx.sc]
    rfl
  fc := fun x h => h
  room := kx.room
  guards := kx.guards
  own := PassesOwn.never
  tk := fun u s' ⟨a, B, sI, pins, σ, H, cls, d, e, I, nb, up, sky, na, os, ag, w⟩ => w
  free := kx.free
  cs := kx.cs
  calls := kx.calls
theorem ge_comp {elt tg iter : Expr} {ifs : List Expr} {scope : Scope} {pos : Pos} {vs : List Nat} {tg' : Tg} {kd : Sk} {src conds : List E} {elt' : E} {own : List (Str × Nat)} {n : Nat} (kx : Kx X c sc fc k call W)
    (ho : ownOf c.N vs = some own) (hb : blkC c.N sc scope own = true) (hi : PI X tg iter (tis X.K X.mg W call kd src)) (hs : ∀ x, foldedSetIterable iter X.env x = pure x)
    (ht : chkT c (relSc scope sc) (fun x => scope.names.lookup x == some .cell) n tg tg' = true) (hv : ∀ i ∈ tgN tg', i ∈ vs)
    (hc : ∀ (s : Shared) (H : Hp) (C : Addr) (cl : List (Str × Addr)) (fp : List Addr), PTs (X.blk s H scope (compEnvC scope cl C X.env) fp) ifs (ttvs X.K X.mg (fun _ _ _ _ => False) call conds))
    (he : ∀ (s : Shared) (H : Hp) (C : Addr) (cl : List (Str × Addr)) (fp : List Addr), PE (X.blk s H scope (compEnvC scope cl C X.env) fp) elt (tev X.K X.mg (fun _ _ _ _ => False) call elt')) :
    SE X W call (.ListComp elt [⟨tg, iter, ifs, 0⟩] scope pos) (.comp vs tg' kd src conds elt') := by
  have ok : BlkOk X.N X.env.scope scope own := by
    rw [kx.N, kx.sc]
    exact blkOk_by hb
  refine SE.of ((pe_lc (g := gR X.K tg') kx.calm (by rw [kx.N]; exact kx.nd) hi ok (fun s H C cl fp => ?_) hc he hs).wk fun σ H Q h => ?_) rfl
  · have kb := kx.blk s H scope C cl fp
    exact pg_ok kb.calm kb.N kb.nd kb.sc kb.fc n tg tg' ht
  · rw [own_ok ho]
    exact comp_tLc hv h
theorem ge_comp2 {elt tg iter tg1 iter1 : Expr} {ifs ifs1 : List Expr} {scope : Scope} {pos : Pos} {vs vs1 : List Nat} {tg' tg1' : Tg} {kd k1 : Sk} {src conds src1 conds1 : List E} {elt' : E} {own : List (Str × Nat)} {n : Nat} (kx : Kx X c sc fc k call W)
    (ho : ownOf c.N vs = some own) (hb : blkC c.N sc scope own = true) (hi : PI X tg iter (tis X.K X.mg W call kd src)) (hs : ∀ x, foldedSetIterable iter X.env x = pure x)
    (ht : chkT c (relSc scope sc) (fun x => scope.names.lookup x == some .cell) n tg tg' = true) (hv : ∀ i ∈ tgN tg', i ∈ vs)
    (hc : ∀ (s : Shared) (H : Hp) (C : Addr) (cl : List (Str × Addr)) (fp : List Addr), PTs (X.blk s H scope (compEnvC scope cl C X.env) fp) ifs (ttvs X.K X.mg (fun _ _ _ _ => False) call conds))
    (hi1 : ∀ (s : Shared) (H : Hp) (C : Addr) (cl : List (Str × Addr)) (fp : List Addr), PI (X.blk s H scope (compEnvC scope cl C X.env) fp) tg1 iter1 (tis X.K X.mg (fun _ _ _ _ => False) call k1 src1)) (hs1 : ∀ env x, foldedSetIterable iter1 env x = pure x)
    (ht1 : chkT c (relSc scope sc) (fun x => scope.names.lookup x == some .cell) n tg1 tg1' = true) (hv1 : ∀ i ∈ tgN tg1', i ∈ vs1) (hvv : ∀ i ∈ vs1, i ∈ vs)
    (hc1 : ∀ (s : Shared) (H : Hp) (C : Addr) (cl : List (Str × Addr)) (fp : List Addr), PTs (X.blk s H scope (compEnvC scope cl C X.env) fp) ifs1 (ttvs X.K X.mg (fun _ _ _ _ => False) call conds1))
    (he : ∀ (s : Shared) (H : Hp) (C : Addr) (cl : List (Str × Addr)) (fp : List Addr), PE (X.blk s H scope (compEnvC scope cl C X.env) fp) elt (tev X.K X.mg (fun _ _ _ _ => False) call elt')) :
    SE X W call (.ListComp elt [⟨tg, iter, ifs, 0⟩, ⟨tg1, iter1, ifs1, 0⟩] scope pos) (.comp2 vs tg' kd src conds vs1 tg1' k1 src1 conds1 elt') := by
  have ok : BlkOk X.N X.env.scope scope own := by
    rw [kx.N, kx.sc]
    exact blkOk_by hb
  refine SE.of ((pe_lc2 (vs1 := vs1) (g := gR X.K tg') (g1 := gR X.K tg1') kx.calm (by rw [kx.N]; exact kx.nd) hi ok (fun i h => ?_) (fun s H C cl fp => ?_) hc hi1 (fun s H C cl fp => ?_) hc1 he hs hs1).wk fun σ H Q h => ?_) rfl
  · rw [own_ok ho]
    exact hvv i h
  · have kb := kx.blk s H scope C cl fp
    exact pg_ok kb.calm kb.N kb.nd kb.sc kb.fc n tg tg' ht
  · have kb := kx.blk s H scope C cl fp
    exact pg_ok kb.calm kb.N kb.nd kb.sc kb.fc n tg1 tg1' ht1
  · rw [own_ok ho]
    exact comp2_tLc2 hv hv1 h
end
theorem chkI_fold {c : Ck} {sc : Scope} {rec : Expr → E → Bool} {tg iter : Expr} {kd : Sk} {src : List E} {env : PySem.Env} (h : chkI c sc rec tg iter kd src = true) : ∀ x, foldedSetIterable iter env x = pure x := by
  unfold chkI at h
  split at h
  · exact fun _ => rfl
  · exact fun _ => rfl
  · exact fun _ => rfl
  · exact fun _ => rfl
  · exact fold_plain (ba' h).1
  · cases h
theorem ttvs_nil {K : PySem.W.Frag} {mg : Str → Option Value} {W : WX} {call : Nat → List D → M D} {σ : L2.St} {H : Hp} {Q : Bool → Hp → Prop} (h : ttvs K mg W call [] σ H Q) : Q true H := by
  obtain ⟨m, S, ρ, s, r, g⟩ := h
  exact (g : OkB K m H Q true S) m H Stp.refl s
theorem pts_ok {X : Cx} {W : WX} {call : Nat → List D → M D} {rec : Expr → E → Bool} {ifs : List Expr} {conds : List E} (h : (match ifs, conds with
        | [], [] => true
        | [i], [i'] => testable i && rec i i'
        | _, _ => false) = true) (hr : ∀ i i', testable i = true → rec i i' = true → PT X i (ttv X.K X.mg W call i')) : PTs X ifs (ttvs X.K X.mg W call conds) := by
  split at h
  · exact ⟨fun pins s σ H Q I q => pts_nil.run pins s σ H Q I (ttvs_nil q)⟩
  · rename_i i i'
    obtain ⟨h1, h2⟩ := ba' h
    refine ⟨fun pins s σ H Q I q => (pts_one (hr _ _ h1 h2)).run pins s σ H Q I ?_⟩
    obtain ⟨m, S, ρ, st, r, g⟩ := q
    have g : Gd (M.bind (evE call i' ρ) (fun d => M.bind (truM d) fun t => if t then M.pure true else M.pure false) S) (OkB X.K m H Q) (ExW X.K X.mg m H fun c d H' => W c d σ H') := g
    refine ⟨m, S, ρ, st, r, Gd.join (Gd.mono (Gd.bind g) (fun d S1 g1 => ?_) fun _ _ z => z)⟩
    obtain ⟨t, e, g2⟩ := truM_of g1
    show Gd (truM d S1) _ _
    unfold truM
    rw [e]
    cases t with
    | true => exact g2
    | false => exact g2
  · cases h
theorem e_ok {c : Ck} {k : Nat} {call : Nat → List D → M D} : ∀ (n : Nat) {X : Cx} {sc : Scope} {fc : Str → Bool} {W : WX} {e : Expr} {e' : E}, Kx X c sc fc k call W → chkE c n sc e e' = true → SE X W call e e' := by
  intro n
  induction n with
  | zero =>
    intro X sc fc W e e' kx h
    cases h
  | succ n ih =>
    intro X sc fc W e e' kx h
    have ihv : ∀ e e', chkE c n sc e e' = true → GE X W call e e' := fun e e' h => (ih kx h).val
    unfold chkE at h
    split at h
    all_goals first | (cases h; done) | skip
    all_goals first | (rename_i e0; cases e0; done) | (rename_i e0; cases e0) | (rename_i e0 _; cases e0)
    all_goals try simp only [Bool.and_eq_true, decide_eq_true_eq, beq_iff_eq] at h
    · exact ge_var kx h.1.1 h.1.2 h.2
    · exact ge_glob kx h.1.1.1 h.1.1.2 h.1.2 h.2
    · exact ge_const h
    · obtain ⟨⟨rfl, h2⟩, h3⟩ := h
      exact SE.of (ge_bin (ihv _ _ h2) (ihv _ _ h3)) rfl
    · exact ge_neg (ihv _ _ h)
    · exact ge_not (ihv _ _ h.1) ((ih kx h.1).test h.2)
    · exact ge_and (ihv _ _ h.1.1) ((ih kx h.1.1).test h.1.2) (ih kx h.2)
    · exact ge_or (ihv _ _ h.1.1) ((ih kx h.1.1).test h.1.2) (ih kx h.2)
    · exact ge_one (ihv _ _ h.1) ((ih kx h.1).test h.2)
    · refine ⟨ge_if ((ih kx h.1.1.1).test h.1.1.2) (ihv _ _ h.1.2) (ihv _ _ h.2), fun z => (by cases z), fun z => by cases z⟩
    · obtain ⟨⟨⟨rfl, h2⟩, h3⟩, h4⟩ := h
      exact ge_cmp kx h2 (ihv _ _ h3) (ihv _ _ h4)
    · obtain ⟨⟨⟨⟨⟨rfl, rfl⟩, h2⟩, h3⟩, h4⟩, h5⟩ := h
      exact ge_chain kx h2 (ihv _ _ h3) (ihv _ _ h4) (ihv _ _ h5)
    · obtain ⟨⟨⟨h1, h2⟩, h3⟩, h4⟩ := h
      exact SE.of (ge_tup (tevs_pa h1 h3 (zip_ok h4 ihv)) (h1 ▸ h2)) rfl
    · obtain ⟨⟨⟨h1, h2⟩, h3⟩, h4⟩ := h
      exact SE.of (ge_lst (tevs_pa h1 h3 (zip_ok h4 ihv)) (h1 ▸ h2)) rfl
    · obtain ⟨⟨⟨h1, h2⟩, h3⟩, h4⟩ := h
      exact SE.of (ge_new (tevs_pa h1 h3 (zip_ok h4 ihv)) (h1 ▸ h2)) rfl
    · obtain ⟨⟨h1, h2⟩, h3⟩ := h
      refine SE.of (ge_sl (ihv _ _ h1) (po_any ?_) (po_any ?_)) rfl
      · split at h2
        · exact Bool.not_eq_true' _ ▸ h2
        · exact ⟨(ba' h2).1, ihv _ _ (ba' h2).2⟩
      · split at h3
        · exact Bool.not_eq_true' _ ▸ h3
        · exact ⟨(ba' h3).1, ihv _ _ (ba' h3).2⟩
    · exact SE.of (ge_idx h.1.1 (ihv _ _ h.1.2) (ihv _ _ h.2)) rfl
    · obtain ⟨⟨⟨⟨⟨h1, h2⟩, h3⟩, h4⟩, h5⟩, h6⟩ := h
      exact SE.of (ge_call kx h1 h2 (kx.calls _ _ _ h3) rfl h4 h5 (tevs_pa h4 h5 (zip_ok h6 ihv))) rfl
    · obtain ⟨⟨⟨⟨⟨h1, h2⟩, h3⟩, h4⟩, h5⟩, h6⟩ := h
      exact SE.of (bi_ok kx h2 h3 h1 h4 h5 (zip_ok h6 ihv)) rfl
    · obtain ⟨⟨⟨⟨⟨h1, h2⟩, h3⟩, h4⟩, h5⟩, h6⟩ := h
      exact SE.of (ge_isi kx h1 h2 h3 h4 h5 (ihv _ _ h6)) rfl
    · obtain ⟨⟨⟨⟨⟨⟨⟨h1, h2⟩, h3⟩, h4⟩, h5⟩, h6⟩, h7⟩, h8⟩ := h
      exact SE.of (ge_meth h1 h2 (by rw [h3]; exact beq_self_eq_true _) h4 h6 h5 (ihv _ _ h7) (tevs_pa h4 h6 (zip_ok h8 ihv))) rfl
    · obtain ⟨⟨⟨⟨⟨h1, h2⟩, h3⟩, h4⟩, h5⟩, h6⟩ := h
      exact SE.of (ge_dic kx h1 (by simpa using h2) h3 h4 h5 h6) rfl
    · obtain ⟨⟨⟨⟨⟨h1, h2⟩, h3⟩, h4⟩, h5⟩, h6⟩ := h
      split at h1
      · rename_i own e1
        have hv : ∀ i ∈ tgN _, i ∈ _ := fun i hi => List.contains_iff_mem.mp (List.all_eq_true.mp h4 i hi)
        refine ge_comp kx e1 h1 (pi_ok kx ihv h2) ?_ h3 hv (fun s H C cl fp => ?_) (fun s H C cl fp => ?_)
        · exact chkI_fold h2
        · exact pts_ok h5 fun i i' h7 h8 => (ih (kx.blk s H _ C cl fp) h8).test h7
        · exact (ih (kx.blk s H _ C cl fp) h6).val
      · cases h1
    · obtain ⟨⟨⟨⟨⟨⟨⟨⟨⟨⟨h1, h2⟩, h3⟩, h4⟩, h5⟩, h6⟩, h7⟩, h8⟩, h9⟩, h10⟩, h11⟩ := h
      split at h1
      · rename_i own e1
        refine ge_comp2 kx e1 h1 (pi_ok kx ihv h2) (chkI_fold h2) h3 (fun i hi => List.contains_iff_mem.mp (List.all_eq_true.mp h4 i hi)) (fun s H C cl fp => pts_ok h5 fun i i' h7 h8 => (ih (kx.blk s H _ C cl fp) h8).test h7)
          (fun s H C cl fp => pi_ok (kx.blk s H _ C cl fp) (fun e e' h => (ih (kx.blk s H _ C cl fp) h).val) h6) (fun env => chkI_fold h6) h7 (fun i hi => List.contains_iff_mem.mp (List.all_eq_true.mp h8 i hi)) (fun i hi => List.contains_iff_mem.mp (List.all_eq_true.mp h9 i hi))
          (fun s H C cl fp => pts_ok h10 fun i i' h7 h8 => (ih (kx.blk s H _ C cl fp) h8).test h7) fun s H C cl fp => (ih (kx.blk s H _ C cl fp) h11).val
      · cases h1
    · exact ⟨⟨fun p s σ H Q I ⟨m, S, ρ, st, r, g⟩ => False.elim g⟩, fun _ => ⟨fun p s σ H Q I ⟨m, S, ρ, st, r, g⟩ => False.elim g⟩, fun _ => ⟨fun w p s σ H Q I ⟨m, S, ρ, st, r, g⟩ => False.elim g⟩⟩
end Ev
set_option Elab.async false
set_option linter.all false
set_option maxRecDepth 100000
set_option maxHeartbeats 8000000
namespace Ev
open PySem PySem.Spec PyProof.Rows L2
def isNm : Expr → Bool
  | .Name _ _ => true
  | _ => false
/-- a store that is not swapped -/
def noSwap : Expr → Expr → Bool
  | .Tuple ts _ _, .Tuple vs _ _ => !(ts.length == 2 || ts.length == 3) || vs.length != ts.length || vs.all (foldedForSure 8) || !(ts.all isNm)
  | .List _ _, _ => false
  | _, _ => true
theorem fm_len {α β : Type} {f : α → Option β} {p : α → Bool} (hf : ∀ a, p a = false → f a = none) : ∀ {l : List α}, (l.all p) = false → (l.filterMap f).length < l.length
  | [], h => by cases h
  | a :: l, h => by
    rw [List.all_cons] at h
    cases e : p a with
    | false =>
      rw [List.filterMap_cons, hf a e]
      exact Nat.lt_succ_of_le (List.length_filterMap_le f l)
    | true =>
      rw [e, Bool.true_and] at h
      have ih := fm_len hf h
      rw [List.filterMap_cons]
      cases f a with
      | none => exact Nat.lt_succ_of_lt ih
      | some b =>
        rw [List.length_cons, List.length_cons]
        omega
theorem sw_none {tg e : Expr} {env : PySem.Env} (h : noSwap tg e = true) : swappedStores [tg] e env = pure none := by
  unfold noSwap at h
  split at h
  · rename_i ts _ _ vs _ _
    unfold swappedStores
    dsimp only
    simp only [Bool.or_eq_true, Bool.not_eq_true'] at h
    split
    · rfl
    · rename_i h1
      split
      · rfl
      · split
        · rfl
        · rename_i h3
          split
          · rfl
          · rename_i h4
            exfalso
            rcases h with ((h | h) | h) | h
            · exact h1 (by rw [h]; rfl)
            · exact h1 (by rw [h]; simp)
            · exact h4 h
            · refine h3 ?_
              have q := fm_len (f := fun (x : Expr) => match x with
                | .Name id pos => if env.kindOf id == some .local && pos.line == (ts.head?.map (·.pos.line)).getD 0 then some id else none
                | _ => none) (fun a ha => by cases a <;> first | rfl | cases ha) h
              have q' : _ ≠ ts.length := Nat.ne_of_lt q
              simp only [Bool.or_eq_true, bne_iff_ne, ne_eq]
              exact .inl q'
  · cases h
  · rename_i n2 n1
    cases tg with
    | Tuple ts q1 q2 =>
      cases e with
      | Tuple vs q3 q4 => exact absurd rfl (n1 ts q1 q2 vs q3 q4 rfl)
      | _ => rfl
    | List ts q1 => exact absurd rfl (n2 ts q1)
    | _ => rfl
/-- two local names, stored from the right -/
theorem sw_two {x y : Str} {px py pt pt2 : Pos} {a b : Expr} {kt k2 : Nat} {env : PySem.Env} (hk : env.scope.kind = .function) (hx : env.scope.names.lookup x = some .local) (hy : env.scope.names.lookup y = some .local) (hl : (py.line == px.line) = true) (hxy : x ≠ y)
    (hs : [a, b].all noStar = true) (h1 : [a, b].all (foldedForSure 8) = false) (h2 : [a, b].all (constantsAlone 8) = false) :
    swappedStores [.Tuple [.Name x px, .Name y py] kt pt] (.Tuple [a, b] k2 pt2) env = pure (some [x, y]) := by
  have bk : env.blockKind = .function := by
    unfold Env.blockKind
    rw [hk]
    rfl
  have kx : env.kindOf x = some .local := hx
  have ky : env.kindOf y = some .local := hy
  have ed : ([x, y].eraseDups).length = 2 := by
    have e : (y == x) = false := by simpa using fun z : y = x => hxy z.symm
    simp [List.eraseDups_cons, e]
  unfold swappedStores
  dsimp only
  have px' : (Expr.Name x px).pos.line = px.line := rfl
  simp only [bk, kx, ky, h1, h2, hl, ed, List.filterMap_cons, List.filterMap_nil, List.head?_cons, Option.map_some, Option.getD_some, px', beq_self_eq_true, Bool.and_true, Bool.true_and, List.length_cons, List.length_nil, if_true]
  rw [if_neg (by decide), if_neg ?_]
  · rfl
  · intro z
    rw [List.any_eq_true] at z
    obtain ⟨e, he, q⟩ := z
    have := List.all_eq_true.mp hs e he
    cases e <;> first | (cases q; done) | cases this
theorem sw_three {x y z : Str} {px py pz pt pt2 : Pos} {a b c : Expr} {kt k2 : Nat} {env : PySem.Env} (hk : env.scope.kind = .function) (hx : env.scope.names.lookup x = some .local) (hy : env.scope.names.lookup y = some .local) (hz : env.scope.names.lookup z = some .local)
    (hl : (py.line == px.line) = true) (hl2 : (pz.line == px.line) = true) (hxy : x ≠ y) (hxz : x ≠ z) (hyz : y ≠ z)
    (hs : [a, b, c].all noStar = true) (h1 : [a, b, c].all (foldedForSure 8) = false) (h2 : [a, b, c].all (constantsAlone 8) = false) :
    swappedStores [.Tuple [.Name x px, .Name y py, .Name z pz] kt pt] (.Tuple [a, b, c] k2 pt2) env = pure (some [x, y, z]) := by
  have bk : env.blockKind = .function := by
    unfold Env.blockKind
    rw [hk]
    rfl
  have kx : env.kindOf x = some .local := hx
  have ky : env.kindOf y = some .local := hy
  have kz : env.kindOf z = some .local := hz
  have ed : ([x, y, z].eraseDups).length = 3 := by
    have e : (y == x) = false := by simpa using fun z : y = x => hxy z.symm
    have e2 : (z == x) = false := by simpa using fun q : z = x => hxz q.symm
    have e3 : (z == y) = false := by simpa using fun q : z = y => hyz q.symm
    simp [List.eraseDups_cons, e, e2, e3]
  unfold swappedStores
  dsimp only
  have px' : (Expr.Name x px).pos.line = px.line := rfl
  simp only [bk, kx, ky, kz, h1, h2, hl, hl2, ed, List.filterMap_cons, List.filterMap_nil, List.head?_cons, Option.map_some, Option.getD_some, px', beq_self_eq_true, Bool.and_true, Bool.true_and, List.length_cons, List.length_nil, if_true]
  rw [if_neg (by decide), if_neg ?_]
  · rfl
  · intro z
    rw [List.any_eq_true] at z
    obtain ⟨e, he, q⟩ := z
    have := List.all_eq_true.mp hs e he
    cases e <;> first | (cases q; done) | cases this
section
variable {X : Cx} {pos : Pos}
/-- a, b, c = x, y, z with plain local names, stored from the right -/
def tPar3 (i j l : Nat) (ta : TA) : TS := fun D σ H => ta σ H fun vs H1 => ∃ u v w, vs = [u, v, w] ∧ D.nx (((σ.set l (some w)).set j (some v)).set i (some u)) H1
theorem ps_par3 {i j l : Nat} {x y z : Str} {a b c : Expr} {ta : TA} {px py pz pt : Pos} {kt k2 pt2} (hc : X.calm = true) (hN : X.N.Nodup) (hi : X.N[i]? = some x) (hj : X.N[j]? = some y) (hl : X.N[l]? = some z)
    (hx : X.env.scope.names.lookup x = some .local) (hy : X.env.scope.names.lookup y = some .local) (hz : X.env.scope.names.lookup z = some .local) (ha : PA X [a, b, c] ta)
    (hw : swappedStores [.Tuple [.Name x px, .Name y py, .Name z pz] kt pt] (.Tuple [a, b, c] k2 pt2) X.env = pure (some [x, y, z]))
    (hs : swapsWithSole [.Tuple [.Name x px, .Name y py, .Name z pz] kt pt] (.Tuple [a, b, c] k2 pt2) pos.line X.env = pure false := by rfl) :
    PS X (.Assign [.Tuple [.Name x px, .Name y py, .Name z pz] kt pt] (.Tuple [a, b, c] k2 pt2) pos) (tPar3 i j l ta) := by
  refine ⟨fun pins s σ H D I h => ?_⟩
  rw [exec_Assign_arm]
  refine wpAny_bind (wpAny_standAt ?_)
  rw [hs]
  refine wpAny_bind (wpAny_pure ?_)
  rw [if_neg (by decide)]
  refine wpAny_bind (Tuple_ (thn (ha.run _ pins s σ H _ I h) fun us s1 ⟨vs, H1, I1, r1, q1⟩ => ?_))
  obtain ⟨u, v, w, e1, q1⟩ := q1
  subst e1
  obtain ⟨u1, u2, u3, rfl, ru, rv, rw'⟩ : ∃ u1 u2 u3, us = [u1, u2, u3] ∧ RelV u u1 ∧ RelV v u2 ∧ RelV w u3 := by
    cases r1 with
    | cons p q =>
      cases q with
      | cons p' q' =>
        cases q' with
        | cons p'' q'' =>
          cases q''
          exact ⟨_, _, _, rfl, p, p', p''⟩
  refine wpAny_newObj_type ?_ (by show 3 ≤ sizeLine; decide)
  have I2 : Inv X pins σ H1 { s1 with heap := s1.heap.push { cls := .type "tuple", data := .seq [u1, u2, u3].toArray } } := I1.kept (t' := s1.toks) fun b o e => Heap.get?_push_of_some _ e
  rw [hw]
  refine wpAny_bind (wpAny_pure ?_)
  show wpAny (model X.prog X.w) X.A (do rule "assign.swapped-stores"; let items ← unpackItems (.ref s1.heap.objs.size) 3 none; assignInOrder [fun v => bindName X.env z v, fun v => bindName X.env y v, fun v => bindName X.env x v] items.reverse; pure Flow.next) _ _ _
  refine wpAny_bind (wpAny_rule (wpAny_bind (unpackItems_tuple (items := #[u1, u2, u3]) (I.ok.hd hc) (IsTup.new s1.heap _) fun h' hx' => ?_)))
  have I3 := I2.kept (h' := h') (t' := s1.toks) fun b o e => hx' b o (Nat.ne_of_lt (Heap.lt_size e)) e
  show wpAny _ _ (assignInOrder [fun v => bindName X.env z v, fun v => bindName X.env y v, fun v => bindName X.env x v] [u3, u2, u1] >>= fun _ => pure Flow.next) _ _ _
  refine wpAny_bind (assignInOrder_cons (wpAny_bindName (store_ok I3 hN hl (.inl hz) rw' (fun s2 I4 => ?_) (.inr hz))))
  refine assignInOrder_cons (wpAny_bindName (store_ok I4 hN hj (.inl hy) rv (fun s3 I5 => ?_) (.inr hy)))
  refine assignInOrder_cons (wpAny_bindName (store_ok I5 hN hi (.inl hx) ru (fun s4 I6 => assignInOrder_nil (wpAny_pure ?_)) (.inr hx)))
  exact ⟨_, H1, I6, q1⟩
end
end Ev
set_option Elab.async false
set_option linter.all false
set_option maxRecDepth 100000
set_option maxHeartbeats 8000000
namespace Ev
open PySem PySem.Spec PyProof.Rows L2
/-! ### statements against the own syntax -/
def isComp : Expr → Bool
  | .ListComp _ _ _ _ => true
  | .SetComp _ _ _ _ => true
  | .DictComp _ _ _ _ _ => true
  | _ => false
def locl (sc : Scope) (x : Str) : Bool := match sc.names.lookup x with
  | some .local => true
  | _ => false
def chkC (c : Ck) (n : Nat) (sc : Scope) (elt : Expr) (tg iter : Expr) (ifs : List Expr) (scope : Scope) (vs : List Nat) (tg' : Tg) (k : Sk) (src conds : List E) (elt' : E) : Bool :=
  (match ownOf c.N vs with
        | some own => blkC c.N sc scope own
        | none => false) &&
      chkI c sc (chkE c n sc) tg iter k src &&
      chkT c (relSc scope sc) (fun x => scope.names.lookup x == some .cell) n tg tg' && ((tgN tg').all fun i => vs.contains i) &&
      (match ifs, conds with
        | [], [] => true
        | [i], [i'] => testable i && chkE c n (relSc scope sc) i i'
        | _, _ => false) &&
      chkE c n (relSc scope sc) elt elt'
def inA (A : List Nat) (i : Nat) : Bool := A.contains i
mutual
def chkS (c : Ck) (fc : Str → Bool) (sc : Scope) (A : List Nat) : Nat → Stmt → S → Bool
  | 0, _, _ => false
  | n + 1, .Assign [.Name y py] (.ListComp elt [⟨tg, iter, ifs, 0⟩] scope pos) spos, .set (.name i) (.comp vs tg' k src conds elt') =>
    inA A i && decide (c.N[i]? = some y) && locl sc y && (py.line == pos.line) && !(scope.names.any fun (n, k) => n == y && (k == .local || k == .cell)) && chkC c n sc elt tg iter ifs scope vs tg' k src conds elt'
  | n + 1, .Assign [.Name y py] (.ListComp elt [⟨tg, iter, ifs, 0⟩, ⟨tg1, iter1, ifs1, 0⟩] scope pos) spos, .set (.name i) (.comp2 vs tg' k src conds vs1 tg1' k1 src1 conds1 elt') =>
    inA A i && decide (c.N[i]? = some y) && locl sc y && (py.line == pos.line) && !(scope.names.any fun (n, k) => n == y && (k == .local || k == .cell)) &&
      chkE c (n + 1) sc (.ListComp elt [⟨tg, iter, ifs, 0⟩, ⟨tg1, iter1, ifs1, 0⟩] scope pos) (.comp2 vs tg' k src conds vs1 tg1' k1 src1 conds1 elt')
  | n + 1, .Assign [.Tuple [.Name x px, .Name y py] _ _] (.Tuple [a, b] _ _) _, .par i j a' b' =>
    inA A i && inA A j && decide (c.N[i]? = some x) && decide (c.N[j]? = some y) && decide (i ≠ j) && locl sc x && locl sc y && (py.line == px.line) && decide (x ≠ y) && [a, b].all noStar && ![a, b].all (foldedForSure 8) && ![a, b].all (constantsAlone 8) &&
      chkE c n sc a a' && chkE c n sc b b'
  | n + 1, .Assign [.Tuple [.Name x px, .Name y py, .Name z pz] _ _] (.Tuple [a, b, d] _ _) _, .par3 i j l a' b' d' =>
    inA A i && inA A j && inA A l && decide (c.N[i]? = some x) && decide (c.N[j]? = some y) && decide (c.N[l]? = some z) && locl sc x && locl sc y && locl sc z && (py.line == px.line) && (pz.line == px.line) && decide (x ≠ y) && decide (x ≠ z) && decide (y ≠ z) &&
      [a, b, d].all noStar && ![a, b, d].all (foldedForSure 8) && ![a, b, d].all (constantsAlone 8) && chkE c n sc a a' && chkE c n sc b b' && chkE c n sc d d'
  | n + 1, .Assign [.Subscript o i _] e _, .setI o' i' e' => noSlice i && !isComp e && chkE c n sc o o' && chkE c n sc i i' && chkE c n sc e e'
  | n + 1, .Assign [tg] e _, .set tg' e' => !isComp e && noStar tg && noSwap tg e && chkT c sc fc n tg tg' && ((tgN tg').all fun i => inA A i) && chkE c n sc e e'
  | n + 1, .AugAssign (.Name x _) op e _, .aug o i e' => inA A i && decide (op = opOf o) && decide (c.N[i]? = some x) && loc sc fc x && chkE c n sc e e'
  | n + 1, .AugAssign (.Subscript o i _) op e _, .augI q o' i' e' => noSlice i && decide (op = opOf q) && chkE c n sc o o' && chkE c n sc i i' && chkE c n sc e e'
  | _ + 1, .Expr (.Constant (.str _) _ _) _, .pass => true
  | n + 1, .Expr e _, .ex e' => !isComp e && chkE c n sc e e'
  | n + 1, .Return (some e) _, .ret e' => chkE c n sc e e'
  | _ + 1, .Return none _, .retN => true
  | n + 1, .If t a b _, .ifS t' a' b' => testable t && chkE c n sc t t' && chkSs c fc sc A n a a' && chkSs c fc sc A n b b'
  | n + 1, .For tg iter body [] _, .forS tg' k src body' => chkI c sc (chkE c n sc) tg iter k src && chkT c sc fc n tg tg' && ((tgN tg').all fun i => inA A i) && chkSs c fc sc A n body body'
  | n + 1, .While t body [] _, .whileS t' body' => testable t && chkE c n sc t t' && chkSs c fc sc A n body body'
  | _ + 1, .Break _, .brk => true
  | _ + 1, .Continue _, .cont => true
  | _ + 1, .Pass _, .pass => true
  | _ + 1, _, .never => true
  | _ + 1, _, _ => false
def chkSs (c : Ck) (fc : Str → Bool) (sc : Scope) (A : List Nat) : Nat → List Stmt → List S → Bool
  | 0, _, _ => false
  | _ + 1, [], [] => true
  | n + 1, s :: ss, t :: ts => chkS c fc sc A n s t && chkSs c fc sc A n ss ts
  | _ + 1, _, _ => false
end
/-! ### readings of statements -/
def Agr (A : List Nat) (σ σ' : L2.St) : Prop := ∀ i, i ∉ A → σ'[i]? = σ[i]?
theorem Agr.refl {A : List Nat} {σ : L2.St} : Agr A σ σ := fun _ _ => rfl
theorem Agr.trans {A : List Nat} {σ σ1 σ2 : L2.St} (h : Agr A σ σ1) (h2 : Agr A σ1 σ2) : Agr A σ σ2 := fun i hi => (h2 i hi).trans (h i hi)
def OkF (K : PySem.W.Frag) (m : Am) (H : Hp) (A : List Nat) (σ : L2.St) (Dn : Ends) : Fl × Env → Store → Prop := fun r S' => ∀ m' H' σ', Stp m H m' H' → Sto K m' H' S' → EnvR K m' H' σ' r.2 → Agr A σ σ' → match r.1 with
  | .nx => Dn.nx σ' H'
  | .bk => Dn.bk σ' H'
  | .ct => Dn.ct σ' H'
  | .rt d => ∀ v, VD K m' H' d v → Dn.rt v H'
def ExS (K : PySem.W.Frag) (mg : Str → Option Value) (m : Am) (H : Hp) (A : List Nat) (σ : L2.St) (W : WX) : Xn → Store → Prop := fun x S' => ∀ m' H' c d σ', Stp m H m' H' → Sto K m' H' S' → XRel K mg m' H' x c d → Agr A σ σ' → W c d σ' H'
def sR (K : PySem.W.Frag) (mg : Str → Option Value) (W : WX) (A : List Nat) (f : Env → M (Fl × Env)) : TS := fun Dn σ H => ∃ m S ρ, Sto K m H S ∧ EnvR K m H σ ρ ∧ Gd (f ρ S) (OkF K m H A σ Dn) (ExS K mg m H A σ W)
section
variable {K : PySem.W.Frag} {mg : Str → Option Value} {W : WX} {A : List Nat} {m m1 : Am} {H H1 : Hp} {σ σ1 : L2.St} {Dn : Ends} {S : Store} {call : Nat → List D → M D} {ρ : Env}
theorem OkF.step (st : Stp m H m1 H1) (a : Agr A σ σ1) {r : Fl × Env} {S' : Store} (h : OkF K m H A σ Dn r S') : OkF K m1 H1 A σ1 Dn r S' := fun m' H' σ' s2 s e a2 => h m' H' σ' (st.trans s2) s e (a.trans a2)
theorem ExS.step (st : Stp m H m1 H1) (a : Agr A σ σ1) {r : Xn} {S' : Store} (h : ExS K mg m H A σ W r S') : ExS K mg m1 H1 A σ1 W r S' := fun m' H' c d σ' s2 s x a2 => h m' H' c d σ' (st.trans s2) s x (a.trans a2)
theorem ExS.ex {r : Xn} {S' : Store} (h : ExS K mg m H A σ W r S') : ExW K mg m H (fun c d H' => W c d σ H') r S' := fun m' H' c d st s x => h m' H' c d σ st s x .refl
theorem Agr.set {i : Nat} {v : Option V} (h : inA A i = true) : Agr A σ (σ.set i v) := fun j hj => List.getElem?_set_ne fun e => hj (by rw [← e]; exact List.contains_iff_mem.mp h)
/-- an expression of a statement, then the rest -/
theorem sev_of (s : Sto K m H S) (r : EnvR K m H σ ρ) {e : E} {β : Type} {f : D → M β} {φ : β → Store → Prop} {Q : VK} (h : Gd (M.bind (evE call e ρ) f S) φ (ExS K mg m H A σ W))
    (k : ∀ d S' m' H' v, Stp m H m' H' → Sto K m' H' S' → EnvR K m' H' σ ρ → VD K m' H' d v → Gd (f d S') φ (ExS K mg m' H' A σ W) → Q v H') : tev K mg W call e σ H Q :=
  ⟨m, S, ρ, s, r, h.bind.mono (fun d S' g m' H' v st s' vd => k d S' m' H' v st s' (r.mono s st) vd (g.mono (fun _ _ z => z) fun _ _ z => z.step st .refl)) fun _ _ z => z.ex⟩
theorem stv_of (s : Sto K m H S) (r : EnvR K m H σ ρ) {e : E} {β : Type} {f : Bool → M β} {φ : β → Store → Prop} {Q : Bool → Hp → Prop} (h : Gd (M.bind (evT call e ρ) f S) φ (ExS K mg m H A σ W))
    (k : ∀ d S' m' H', Stp m H m' H' → Sto K m' H' S' → EnvR K m' H' σ ρ → Gd (f d S') φ (ExS K mg m' H' A σ W) → Q d H') : ttv K mg W call e σ H Q :=
  ⟨m, S, ρ, s, r, h.bind.mono (fun d S' g m' H' st s' => k d S' m' H' st s' (r.mono s st) (g.mono (fun _ _ z => z) fun _ _ z => z.step st .refl)) fun _ _ z => z.ex⟩
end
section
variable {X : Cx} {c : Ck} {sc : Scope} {fc : Str → Bool} {k : Nat} {call : Nat → List D → M D} {W : WX} {A : List Nat}
def GS (X : Cx) (W : WX) (A : List Nat) (call : Nat → List D → M D) (s : Stmt) (s' : Ev.S) : Prop := PS X s (sR X.K X.mg W A (exS call s'))
def GSs (X : Cx) (W : WX) (A : List Nat) (call : Nat → List D → M D) (s : List Stmt) (s' : List Ev.S) : Prop := PSs X s (sR X.K X.mg W A (exSs call s'))
theorem asub_plain {o i : Expr} {pos : Pos} {env : PySem.Env} (h : noSlice i = true) : ∀ v, assign (.Subscript o i pos) env v = (do
      let ov ← holding [v] (eval o env)
      let iv ← holding [v, ov] (eval i env)
      standAt pos
      holding [v, ov, iv] (setItem ov iv v)
      release [v, ov, iv] []) := by
  intro v
  cases i <;> first | rfl | cases h
theorem swapsW_none {e : Expr} {t : Option Expr} {n : Nat} {env : PySem.Env} (h : isComp e = false) : swapsWith e t n env = pure false := by
  cases e <;> first | (cases h; done) | skip
  all_goals rfl
/-- target = e -/
theorem gs_set {tg e : Expr} {tg' : Tg} {e' : E} {n : Nat} {pos : Pos} (kx : Kx X c sc fc k call W) (h1 : isComp e = false) (h2 : noStar tg = true) (h3 : noSwap tg e = true) (h4 : chkT c sc fc n tg tg' = true) (h5 : ∀ i ∈ tgN tg', i ∈ A) (he : GE X W call e e') :
    GS X W A call (.Assign [tg] e pos) (.set tg' e') := by
  refine (ps_asg he (pg_ok kx.calm kx.N kx.nd kx.sc kx.fc n tg tg' h4) (swapsW_none h1) (sw_none h3) (by rw [asg_cons h2]; rfl)).wk fun Dn σ H ⟨m, S, ρ, s, r, g⟩ => ?_
  refine sev_of s r (show Gd (M.bind (evE call e' ρ) (fun d => match asg tg' d ρ with
    | some ρ' => M.pure (.nx, ρ')
    | none => stuck) S) (OkF X.K m H A σ Dn) _ from g) fun d S1 m1 H1 v st1 s1 r1 vd g1 => ?_
  cases ea : asg tg' d ρ with
  | none =>
    rw [ea] at g1
    exact False.elim g1
  | some ρ' =>
    rw [ea] at g1
    refine ⟨m1, S1, ρ, d, ρ', s1, r1, vd, ea, fun σ' r' ag => ?_⟩
    exact (g1 : OkF X.K m H A σ Dn (.nx, ρ') S1) m1 H1 σ' st1 s1 r' fun i hi => ag i fun z => hi (h5 i z)
/-- name = a comprehension on the same line -/
theorem gs_comp {elt tg iter : Expr} {ifs : List Expr} {scope : Scope} {pos py spos : Pos} {y : Str} {i : Nat} {vs : List Nat} {tg' : Tg} {kd : Sk} {src conds : List E} {elt' : E} {own : List (Str × Nat)} {n : Nat} (kx : Kx X c sc fc k call W)
    (hk : X.env.scope.kind = .function) (hA : inA A i = true) (hy : c.N[i]? = some y) (hl : locl sc y = true) (hln : (py.line == pos.line) = true) (hown : (scope.names.any fun (n, k) => n == y && (k == .local || k == .cell)) = false)
    (ho : ownOf c.N vs = some own) (hb : blkC c.N sc scope own = true) (hi : PI X tg iter (tis X.K X.mg W call kd src)) (hs : ∀ x, foldedSetIterable iter X.env x = pure x)
    (ht : chkT c (relSc scope sc) (fun x => scope.names.lookup x == some .cell) n tg tg' = true) (hv : ∀ i ∈ tgN tg', i ∈ vs)
    (hc : ∀ (s : Shared) (H : Hp) (C : Addr) (cl : List (Str × Addr)) (fp : List Addr), PTs (X.blk s H scope (compEnvC scope cl C X.env) fp) ifs (ttvs X.K X.mg (fun _ _ _ _ => False) call conds))
    (he : ∀ (s : Shared) (H : Hp) (C : Addr) (cl : List (Str × Addr)) (fp : List Addr), PE (X.blk s H scope (compEnvC scope cl C X.env) fp) elt (tev X.K X.mg (fun _ _ _ _ => False) call elt')) :
    GS X W A call (.Assign [.Name y py] (.ListComp elt [⟨tg, iter, ifs, 0⟩] scope pos) spos) (.set (.name i) (.comp vs tg' kd src conds elt')) := by
  have ok : BlkOk X.N X.env.scope scope own := by
    rw [kx.N, kx.sc]
    exact blkOk_by hb
  have hyl : X.env.scope.names.lookup y = some .local := by
    rw [kx.sc]
    unfold locl at hl
    split at hl
    · assumption
    · cases hl
  refine (ps_setLc (g := gR X.K tg') (i := i) kx.calm (by rw [kx.N]; exact kx.nd) (by rw [kx.N]; exact hy) hyl (sw_true hk hyl hln hown) hi ok (fun s H C cl fp => ?_) hc he hs).wk fun Dn σ H ⟨m, S, ρ, s, r, g⟩ => ?_
  · have kb := kx.blk s H scope C cl fp
    exact pg_ok kb.calm kb.N kb.nd kb.sc kb.fc n tg tg' ht
  · rw [own_ok ho]
    refine comp_tLc hv (sev_of s r (show Gd (M.bind (evE call (.comp vs tg' kd src conds elt') ρ) (fun d => match asg (.name i) d ρ with
      | some ρ' => M.pure (.nx, ρ')
      | none => stuck) S) (OkF X.K m H A σ Dn) _ from g) fun d S1 m1 H1 v st1 s1 r1 vd g1 => ?_)
    cases ea : asg (.name i) d ρ with
    | none =>
      rw [ea] at g1
      exact False.elim g1
    | some ρ' =>
      rw [ea] at g1
      unfold asg at ea
      split at ea
      · cases ea
        exact (g1 : OkF X.K m H A σ Dn (.nx, ρ.set i (some d)) S1) m1 H1 (σ.set i (some v)) st1 s1 (r1.set vd) (Agr.set hA)
      · cases ea
/-- name = a comprehension of two clauses on the same line -/
theorem gs_comp2 {elt tg iter tg1 iter1 : Expr} {ifs ifs1 : List Expr} {scope : Scope} {pos py spos : Pos} {y : Str} {i : Nat} {vs vs1 : List Nat} {tg' tg1' : Tg} {kd k1 : Sk} {src conds src1 conds1 : List E} {elt' : E} {own : List (Str × Nat)} {n : Nat} (kx : Kx X c sc fc k call W)
    (hk : X.env.scope.kind = .function) (hA : inA A i = true) (hy : c.N[i]? = some y) (hl : locl sc y = true) (hln : (py.line == pos.line) = true) (hown : (scope.names.any fun (n, k) => n == y && (k == .local || k == .cell)) = false)
    (ho : ownOf c.N vs = some own) (hb : blkC c.N sc scope own = true) (hi : PI X tg iter (tis X.K X.mg W call kd src)) (hs : ∀ x, foldedSetIterable iter X.env x = pure x)
    (ht : chkT c (relSc scope sc) (fun x => scope.names.lookup x == some .cell) n tg tg' = true) (hv : ∀ i ∈ tgN tg', i ∈ vs)
    (hc : ∀ (s : Shared) (H : Hp) (C : Addr) (cl : List (Str × Addr)) (fp : List Addr), PTs (X.blk s H scope (compEnvC scope cl C X.env) fp) ifs (ttvs X.K X.mg (fun _ _ _ _ => False) call conds))
    (hi1 : ∀ (s : Shared) (H : Hp) (C : Addr) (cl : List (Str × Addr)) (fp : List Addr), PI (X.blk s H scope (compEnvC scope cl C X.env) fp) tg1 iter1 (tis X.K X.mg (fun _ _ _ _ => False) call k1 src1)) (hs1 : ∀ env x, foldedSetIterable iter1 env x = pure x)
    (ht1 : chkT c (relSc scope sc) (fun x => scope.names.lookup x == some .cell) n tg1 tg1' = true) (hv1 : ∀ i ∈ tgN tg1', i ∈ vs1) (hvv : ∀ i ∈ vs1, i ∈ vs)
    (hc1 : ∀ (s : Shared) (H : Hp) (C : Addr) (cl : List (Str × Addr)) (fp : List Addr), PTs (X.blk s H scope (compEnvC scope cl C X.env) fp) ifs1 (ttvs X.K X.mg (fun _ _ _ _ => False) call conds1))
    (he : ∀ (s : Shared) (H : Hp) (C : Addr) (cl : List (Str × Addr)) (fp : List Addr), PE (X.blk s H scope (compEnvC scope cl C X.env) fp) elt (tev X.K X.mg (fun _ _ _ _ => False) call elt')) :
    GS X W A call (.Assign [.Name y py] (.ListComp elt [⟨tg, iter, ifs, 0⟩, ⟨tg1, iter1, ifs1, 0⟩] scope pos) spos) (.set (.name i) (.comp2 vs tg' kd src conds vs1 tg1' k1 src1 conds1 elt')) := by
  have ok : BlkOk X.N X.env.scope scope own := by
    rw [kx.N, kx.sc]
    exact blkOk_by hb
  have hyl : X.env.scope.names.lookup y = some .local := by
    rw [kx.sc]
    unfold locl at hl
    split at hl
    · assumption
    · cases hl
  refine (ps_setLc2 (vs1 := vs1) (g := gR X.K tg') (g1 := gR X.K tg1') (i := i) kx.calm (by rw [kx.N]; exact kx.nd) (by rw [kx.N]; exact hy) hyl (sw_true hk hyl hln hown) hi ok (fun i h => ?_) (fun s H C cl fp => ?_) hc hi1 (fun s H C cl fp => ?_) hc1 he hs hs1).wk fun Dn σ H ⟨m, S, ρ, s, r, g⟩ => ?_
  · rw [own_ok ho]
    exact hvv i h
  · have kb := kx.blk s H scope C cl fp
    exact pg_ok kb.calm kb.N kb.nd kb.sc kb.fc n tg tg' ht
  · have kb := kx.blk s H scope C cl fp
    exact pg_ok kb.calm kb.N kb.nd kb.sc kb.fc n tg1 tg1' ht1
  · rw [own_ok ho]
    refine comp2_tLc2 hv hv1 (sev_of s r (show Gd (M.bind (evE call (.comp2 vs tg' kd src conds vs1 tg1' k1 src1 conds1 elt') ρ) (fun d => match asg (.name i) d ρ with
      | some ρ' => M.pure (.nx, ρ')
      | none => stuck) S) (OkF X.K m H A σ Dn) _ from g) fun d S1 m1 H1 v st1 s1 r1 vd g1 => ?_)
    cases ea : asg (.name i) d ρ with
    | none =>
      rw [ea] at g1
      exact False.elim g1
    | some ρ' =>
      rw [ea] at g1
      unfold asg at ea
      split at ea
      · cases ea
        exact (g1 : OkF X.K m H A σ Dn (.nx, ρ.set i (some d)) S1) m1 H1 (σ.set i (some v)) st1 s1 (r1.set vd) (Agr.set hA)
      · cases ea
theorem locl_ok {x : Str} (kx : Kx X c sc fc k call W) (h : locl sc x = true) : X.env.scope.names.lookup x = some .local := by
  rw [kx.sc]
  unfold locl at h
  split at h
  · assumption
  · cases h
theorem sevs_of {K : PySem.W.Frag} {mg : Str → Option Value} {m : Am} {H : Hp} {σ : L2.St} {S : Store} {ρ : Env} (s : Sto K m H S) (r : EnvR K m H σ ρ) {es : List E} {β : Type} {f : List D → M β} {φ : β → Store → Prop} {Q : List V → Hp → Prop} (h : Gd (M.bind (evEs call es ρ) f S) φ (ExS K mg m H A σ W))
    (k : ∀ ds S' m' H' vs, Stp m H m' H' → Sto K m' H' S' → EnvR K m' H' σ ρ → VDs K m' H' ds vs → Gd (f ds S') φ (ExS K mg m' H' A σ W) → Q vs H') : tevs K mg W call es σ H Q :=
  ⟨m, S, ρ, s, r, h.bind.mono (fun d S' g m' H' v st s' vd => k d S' m' H' v st s' (r.mono s st) vd (g.mono (fun _ _ z => z) fun _ _ z => z.step st .refl)) fun _ _ z => z.ex⟩
theorem gs_par {x y : Str} {px py pt pt2 spos : Pos} {a b : Expr} {kt k2 i j : Nat} {a' b' : E} (kx : Kx X c sc fc k call W) (hk : X.env.scope.kind = .function) (hA : inA A i = true) (hA2 : inA A j = true) (hi : c.N[i]? = some x) (hj : c.N[j]? = some y) (hij : i ≠ j)
    (hx : locl sc x = true) (hy : locl sc y = true) (hl : (py.line == px.line) = true) (hxy : x ≠ y) (hs : [a, b].all noStar = true) (h1 : [a, b].all (foldedForSure 8) = false) (h2 : [a, b].all (constantsAlone 8) = false) (ha : GE X W call a a') (hb : GE X W call b b') :
    GS X W A call (.Assign [.Tuple [.Name x px, .Name y py] kt pt] (.Tuple [a, b] k2 pt2) spos) (.par i j a' b') := by
  have pa : PA X [a, b] (tevs X.K X.mg W call [a', b']) := tevs_pa rfl hs fun p hp => by
    have e : p = (a, a') ∨ p = (b, b') := by simpa using hp
    rcases e with e | e <;> subst e
    · exact ha
    · exact hb
  refine (ps_par kx.calm (by rw [kx.N]; exact kx.nd) (by rw [kx.N]; exact hi) (by rw [kx.N]; exact hj) hij (locl_ok kx hx) (locl_ok kx hy) pa (sw_two hk (locl_ok kx hx) (locl_ok kx hy) hl hxy hs h1 h2) rfl).wk fun Dn σ H ⟨m, S, ρ, s, r, g⟩ => ?_
  have g : Gd (M.bind (evEs call [a', b'] ρ) (fun ds => match ds with
    | [u, v] => M.pure (.nx, (ρ.set i (some u)).set j (some v))
    | _ => stuck) S) (OkF X.K m H A σ Dn) (ExS X.K X.mg m H A σ W) := by
    have g0 : Gd (M.bind (evE call a' ρ) (fun x => M.bind (evE call b' ρ) fun y => (M.pure (Fl.nx, (ρ.set i (some x)).set j (some y)) : M (Fl × Env))) S) (OkF X.K m H A σ Dn) (ExS X.K X.mg m H A σ W) := g
    simp only [evEs, M.assoc, M.left]
    exact g0
  refine sevs_of s r g fun ds S1 m1 H1 vs st1 s1 r1 vds g1 => ?_
  match ds, vds, g1 with
  | [u, v], vds, g1 =>
    obtain ⟨xu, _, rfl, vu, xv, _, rfl, vv, e0⟩ := vds
    have e0 : _ = [] := e0
    subst e0
    refine ⟨xu, xv, rfl, ?_⟩
    exact (g1 : OkF X.K m H A σ Dn (.nx, (ρ.set i (some u)).set j (some v)) S1) m1 H1 _ st1 s1 ((r1.set vu).set vv) ((Agr.set hA).trans (Agr.set hA2))
  | [], _, g1 => exact False.elim g1
  | [_], _, g1 => exact False.elim g1
  | _ :: _ :: _ :: _, _, g1 => exact False.elim g1
theorem gs_par3 {x y z : Str} {px py pz pt pt2 spos : Pos} {a b d : Expr} {kt k2 i j l : Nat} {a' b' d' : E} (kx : Kx X c sc fc k call W) (hk : X.env.scope.kind = .function) (hA : inA A i = true) (hA2 : inA A j = true) (hA3 : inA A l = true) (hi : c.N[i]? = some x) (hj : c.N[j]? = some y) (hl : c.N[l]? = some z)
    (hx : locl sc x = true) (hy : locl sc y = true) (hz : locl sc z = true) (hl1 : (py.line == px.line) = true) (hl2 : (pz.line == px.line) = true) (hxy : x ≠ y) (hxz : x ≠ z) (hyz : y ≠ z) (hs : [a, b, d].all noStar = true) (h1 : [a, b, d].all (foldedForSure 8) = false) (h2 : [a, b, d].all (constantsAlone 8) = false)
    (ha : GE X W call a a') (hb : GE X W call b b') (hd : GE X W call d d') :
    GS X W A call (.Assign [.Tuple [.Name x px, .Name y py, .Name z pz] kt pt] (.Tuple [a, b, d] k2 pt2) spos) (.par3 i j l a' b' d') := by
  have pa : PA X [a, b, d] (tevs X.K X.mg W call [a', b', d']) := tevs_pa rfl hs fun p hp => by
    have e : p = (a, a') ∨ p = (b, b') ∨ p = (d, d') := by simpa using hp
    rcases e with e | e | e <;> subst e
    · exact ha
    · exact hb
    · exact hd
  refine (ps_par3 kx.calm (by rw [kx.N]; exact kx.nd) (by rw [kx.N]; exact hi) (by rw [kx.N]; exact hj) (by rw [kx.N]; exact hl) (locl_ok kx hx) (locl_ok kx hy) (locl_ok kx hz) pa (sw_three hk (locl_ok kx hx) (locl_ok kx hy) (locl_ok kx hz) hl1 hl2 hxy hxz hyz hs h1 h2) rfl).wk fun Dn σ H ⟨m, S, ρ, s, r, g⟩ => ?_
  have g : Gd (M.bind (evEs call [a', b', d'] ρ) (fun ds => match ds with
    | [u, v, w] => M.pure (.nx, ((ρ.set l (some w)).set j (some v)).set i (some u))
    | _ => stuck) S) (OkF X.K m H A σ Dn) (ExS X.K X.mg m H A σ W) := by
    have g0 : Gd (M.bind (evE call a' ρ) (fun x => M.bind (evE call b' ρ) fun y => M.bind (evE call d' ρ) fun z => (M.pure (Fl.nx, ((ρ.set l (some z)).set j (some y)).set i (some x)) : M (Fl × Env))) S) (OkF X.K m H A σ Dn) (ExS X.K X.mg m H A σ W) := g
    simp only [evEs, M.assoc, M.left]
    exact g0
  refine sevs_of s r g fun ds S1 m1 H1 vs st1 s1 r1 vds g1 => ?_
  match ds, vds, g1 with
  | [u, v, w], vds, g1 =>
    obtain ⟨xu, _, rfl, vu, xv, _, rfl, vv, xw, _, rfl, vw, e0⟩ := vds
    have e0 : _ = [] := e0
    subst e0
    refine ⟨xu, xv, xw, rfl, ?_⟩
    exact (g1 : OkF X.K m H A σ Dn (.nx, ((ρ.set l (some w)).set j (some v)).set i (some u)) S1) m1 H1 _ st1 s1 (((r1.set vw).set vv).set vu) (((Agr.set hA3).trans (Agr.set hA2)).trans (Agr.set hA))
  | [], _, g1 => exact False.elim g1
  | [_], _, g1 => exact False.elim g1
  | [_, _], _, g1 => exact False.elim g1
  | _ :: _ :: _ :: _ :: _, _, g1 => exact False.elim g1
/-- o[i] = e -/
theorem gs_setI {o i e : Expr} {o' i' e' : E} {p pos : Pos} (hn : noSlice i = true) (h1 : isComp e = false) (ho : GE X W call o o') (hi : GE X W call i i') (he : GE X W call e e') : GS X W A call (.Assign [.Subscript o i p] e pos) (.setI o' i' e') := by
  refine (ps_asg he (pg_sub ho hi set_any (asub_plain hn)) (show swapsWithSole [.Subscript o i p] e pos.line X.env = pure false from swapsW_none (t := some (.Subscript o i p)) (n := pos.line) (env := X.env) h1) (sw_none rfl) rfl).wk fun Dn σ H ⟨m, S, ρ, s, r, g⟩ => ?_
  refine sev_of s r (show Gd (M.bind (evE call e' ρ) (fun v => M.bind (evE call o' ρ) fun x => M.bind (evE call i' ρ) fun y => M.bind (setIM x y v) fun _ => M.pure (.nx, ρ)) S) (OkF X.K m H A σ Dn) _ from g) fun d S1 m1 H1 v st1 s1 r1 vd g1 => ?_
  refine sev_of s1 r1 g1 fun d2 S2 m2 H2 v2 st2 s2 r2 vd2 g2 => ?_
  refine sev_of s2 r2 g2 fun d3 S3 m3 H3 v3 st3 s3 r3 vd3 g3 => ?_
  refine ⟨m3, S3, d2, d3, d, s3, vd2.mono s2 st3, vd3, (vd.mono s1 st2).mono s2 st3, ?_⟩
  obtain ⟨n, q, j, ls, e1, e2, e3, e4, g4⟩ := setIM_ok (Gd.bind g3)
  have st : Stp m H m3 H3 := (st1.trans st2).trans st3
  subst e1 e2
  unfold setIM
  refine Gd.join ?_
  show Gd (getO n S3) _ _
  unfold getO
  rw [e3]
  show Gd ((match ixN ls.length q with | some j => putO n (.lst (ls.set j d)) | none => stuck) S3) _ _
  rw [e4]
  show Gd (putO n (.lst (ls.set j d)) S3) _ _
  unfold putO
  rw [if_pos (List.getElem?_eq_some_iff.mp e3).1]
  intro m' H' st' s'
  exact (g4 : OkF X.K m H A σ Dn (.nx, ρ) _) m' H' σ (st.trans st') s' (EnvR.mono s3 st' r3) .refl
end
end Ev
set_option Elab.async false
set_option linter.all false
set_option maxRecDepth 100000
set_option maxHeartbeats 8000000
namespace Ev
open PySem PySem.Spec PyProof.Rows L2
/-! ### loops by fuel -/
def loopK (turn : D → Env → M (Fl × Env)) (sc : Src) : Nat → Nat → Env → M (Fl × Env)
  | 0, _, _ => fun _ => none
  | k + 1, i, ρ => fun S => match nxt sc i S with
    | none => none
    | some none => some (.ok (.nx, ρ) S)
    | some (some d) => match turn d ρ S with
      | some (.ok (.nx, ρ') S') => loopK turn sc k (i + 1) ρ' S'
      | some (.ok (.ct, ρ') S') => loopK turn sc k (i + 1) ρ' S'
      | some (.ok (.bk, ρ') S') => some (.ok (.nx, ρ') S')
      | some (.ok (.rt v, ρ') S') => some (.ok (.rt v, ρ') S')
      | some (.ex x S') => some (.ex x S')
      | none => none
theorem loopL_K {turn : D → Env → M (Fl × Env)} {ds : List D} : ∀ (rest : List D) (i : Nat) (ρ : Env) (S : Store), ds.drop i = rest → loopK turn (.items ds) (rest.length + 1) i ρ S = loopL turn rest ρ S
  | [], i, ρ, S, h => by
    have e : ds[i]? = none := List.getElem?_eq_none (List.drop_eq_nil_iff.mp h)
    have nx : nxt (.items ds) i S = some none := by
      show some ds[i]? = _
      rw [e]
    unfold loopK
    rw [nx]
    rfl
  | d :: r, i, ρ, S, h => by
    obtain ⟨e, h2⟩ := drop_get h
    have ih := fun ρ S => loopL_K (turn := turn) r (i + 1) ρ S h2
    have nx : nxt (.items ds) i S = some (some d) := by
      show some ds[i]? = _
      rw [e]
    unfold loopK
    rw [nx]
    show _ = M.bind (turn d ρ) (fun (f, ρ') => match f with
      | .nx => loopL turn r ρ'
      | .ct => loopL turn r ρ'
      | .bk => M.pure (.nx, ρ')
      | .rt v => M.pure (.rt v, ρ')) S
    unfold M.bind
    show (match turn d ρ S with
      | some (.ok (.nx, ρ') S') => loopK turn (.items ds) (r.length + 1) (i + 1) ρ' S'
      | some (.ok (.ct, ρ') S') => loopK turn (.items ds) (r.length + 1) (i + 1) ρ' S'
      | some (.ok (.bk, ρ') S') => some (.ok (.nx, ρ') S')
      | some (.ok (.rt v, ρ') S') => some (.ok (.rt v, ρ') S')
      | some (.ex x S') => some (.ex x S')
      | none => none) = _
    cases e1 : turn d ρ S with
    | none => rfl
    | some q =>
      cases q with
      | ex x S' => rfl
      | ok o S' =>
        obtain ⟨f, ρ'⟩ := o
        cases f with
        | nx => exact ih ρ' S'
        | ct => exact ih ρ' S'
        | bk => rfl
        | rt v => rfl
theorem loopR_K {turn : D → Env → M (Fl × Env)} {n : Nat} (i : Nat) (ρ : Env) (S : Store) (r : Rs (Fl × Env)) (h : loopR turn n i ρ S = some r) : ∃ k, loopK turn (.ref n) k i ρ S = some r := by
  refine loopR.partial_correctness turn n (fun i ρ S r => ∃ k, loopK turn (.ref n) k i ρ S = some r) ?_ i ρ S r h
  intro R ih i ρ S r h
  cases e : S[n]? with
  | none =>
    rw [e] at h
    cases h
  | some o =>
    rw [e] at h
    cases o with
    | lst ds =>
      dsimp only at h
      have nx : nxt (.ref n) i S = some ds[i]? := nxt_ref e
      have one : ∀ k, loopK turn (.ref n) (k + 1) i ρ S = (match nxt (.ref n) i S with
        | none => none
        | some none => some (.ok (.nx, ρ) S)
        | some (some d) => match turn d ρ S with
          | some (.ok (.nx, ρ') S') => loopK turn (.ref n) k (i + 1) ρ' S'
          | some (.ok (.ct, ρ') S') => loopK turn (.ref n) k (i + 1) ρ' S'
          | some (.ok (.bk, ρ') S') => some (.ok (.nx, ρ') S')
          | some (.ok (.rt v, ρ') S') => some (.ok (.rt v, ρ') S')
          | some (.ex x S') => some (.ex x S')
          | none => none) := fun k => rfl
      cases e1 : ds[i]? with
      | none =>
        rw [e1] at h nx
        exact ⟨1, by rw [one, nx]; exact h⟩
      | some d =>
        rw [e1] at h nx
        dsimp only at h
        cases e2 : turn d ρ S with
        | none =>
          rw [e2] at h
          cases h
        | some q =>
          rw [e2] at h
          cases q with
          | ex x S' => exact ⟨1, by rw [one, nx]; dsimp only; rw [e2]; exact h⟩
          | ok o S' =>
            obtain ⟨f, ρ'⟩ := o
            cases f with
            | nx =>
              obtain ⟨k, q⟩ := ih _ _ _ _ h
              exact ⟨k + 1, by rw [one, nx]; dsimp only; rw [e2]; exact q⟩
            | ct =>
              obtain ⟨k, q⟩ := ih _ _ _ _ h
              exact ⟨k + 1, by rw [one, nx]; dsimp only; rw [e2]; exact q⟩
            | bk => exact ⟨1, by rw [one, nx]; dsimp only; rw [e2]; exact h⟩
            | rt v => exact ⟨1, by rw [one, nx]; dsimp only; rw [e2]; exact h⟩
theorem loopM_K {turn : D → Env → M (Fl × Env)} {sc : Src} {ρ : Env} {S : Store} {φ : Fl × Env → Store → Prop} {ψ : Xn → Store → Prop} (h : Gd (loopM turn sc ρ S) φ ψ) : ∃ k, Gd (loopK turn sc k 0 ρ S) φ ψ := by
  cases sc with
  | items ds =>
    refine ⟨ds.length + 1, ?_⟩
    rw [loopL_K ds 0 ρ S List.drop_zero]
    exact h
  | ref n =>
    cases e : loopM turn (.ref n) ρ S with
    | none =>
      rw [e] at h
      exact False.elim h
    | some r =>
      obtain ⟨k, q⟩ := loopR_K 0 ρ S r e
      exact ⟨k, by rw [q]; rw [e] at h; exact h⟩
theorem loopK_step {turn : D → Env → M (Fl × Env)} {sc : Src} {S : Store} {k i : Nat} {ρ : Env} {φ : Fl × Env → Store → Prop} {ψ : Xn → Store → Prop} (h : Gd (loopK turn sc k i ρ S) φ ψ) :
    (nxt sc i S = some none ∧ φ (.nx, ρ) S) ∨ ∃ d k', k = k' + 1 ∧ nxt sc i S = some (some d) ∧ Gd (turn d ρ S) (fun r S' => match r.1 with
      | .nx => Gd (loopK turn sc k' (i + 1) r.2 S') φ ψ
      | .ct => Gd (loopK turn sc k' (i + 1) r.2 S') φ ψ
      | .bk => φ (.nx, r.2) S'
      | .rt v => φ (.rt v, r.2) S') ψ := by
  cases k with
  | zero => exact False.elim h
  | succ k =>
    unfold loopK at h
    cases e : nxt sc i S with
    | none =>
      rw [e] at h
      exact False.elim h
    | some o =>
      rw [e] at h
      cases o with
      | none => exact .inl ⟨rfl, h⟩
      | some d =>
        refine .inr ⟨d, k, rfl, rfl, ?_⟩
        dsimp only at h
        cases e2 : turn d ρ S with
        | none =>
          rw [e2] at h
          exact h
        | some q =>
          rw [e2] at h
          cases q with
          | ex x S' => exact h
          | ok o S' =>
            obtain ⟨f, ρ'⟩ := o
            cases f <;> exact h
def whileK (c : Env → M Bool) (b : Env → M (Fl × Env)) : Nat → Env → M (Fl × Env)
  | 0, _ => fun _ => none
  | k + 1, ρ => fun S => match c ρ S with
    | some (.ok true S1) => (match b ρ S1 with
      | some (.ok (.nx, ρ') S') => whileK c b k ρ' S'
      | some (.ok (.ct, ρ') S') => whileK c b k ρ' S'
      | some (.ok (.bk, ρ') S') => some (.ok (.nx, ρ') S')
      | some (.ok (.rt v, ρ') S') => some (.ok (.rt v, ρ') S')
      | some (.ex x S') => some (.ex x S')
      | none => none)
    | some (.ok false S1) => some (.ok (.nx, ρ) S1)
    | some (.ex x S') => some (.ex x S')
    | none => none
theorem whileM_K' {c : Env → M Bool} {b : Env → M (Fl × Env)} (ρ : Env) (S : Store) (r : Rs (Fl × Env)) (h : whileM c b ρ S = some r) : ∃ k, whileK c b k ρ S = some r := by
  refine whileM.partial_correctness c b (fun ρ S r => ∃ k, whileK c b k ρ S = some r) ?_ ρ S r h
  intro R ih ρ S r h
  have one : ∀ k, whileK c b (k + 1) ρ S = (match c ρ S with
    | some (.ok true S1) => (match b ρ S1 with
      | some (.ok (.nx, ρ') S') => whileK c b k ρ' S'
      | some (.ok (.ct, ρ') S') => whileK c b k ρ' S'
      | some (.ok (.bk, ρ') S') => some (.ok (.nx, ρ') S')
      | some (.ok (.rt v, ρ') S') => some (.ok (.rt v, ρ') S')
      | some (.ex x S') => some (.ex x S')
      | none => none)
    | some (.ok false S1) => some (.ok (.nx, ρ) S1)
    | some (.ex x S') => some (.ex x S')
    | none => none) := fun k => rfl
  cases e : c ρ S with
  | none =>
    rw [e] at h
    cases h
  | some q =>
    rw [e] at h
    cases q with
    | ex x S' => exact ⟨1, by rw [one, e]; exact h⟩
    | ok t S1 =>
      cases t with
      | false => exact ⟨1, by rw [one, e]; exact h⟩
      | true =>
        dsimp only at h
        cases e2 : b ρ S1 with
        | none =>
          rw [e2] at h
          cases h
        | some q =>
          rw [e2] at h
          cases q with
          | ex x S' => exact ⟨1, by rw [one, e]; dsimp only; rw [e2]; exact h⟩
          | ok o S' =>
            obtain ⟨f, ρ'⟩ := o
            cases f with
            | nx =>
              obtain ⟨k, q⟩ := ih _ _ _ h
              exact ⟨k + 1, by rw [one, e]; dsimp only; rw [e2]; exact q⟩
            | ct =>
              obtain ⟨k, q⟩ := ih _ _ _ h
              exact ⟨k + 1, by rw [one, e]; dsimp only; rw [e2]; exact q⟩
            | bk => exact ⟨1, by rw [one, e]; dsimp only; rw [e2]; exact h⟩
            | rt v => exact ⟨1, by rw [one, e]; dsimp only; rw [e2]; exact h⟩
theorem whileM_K {c : Env → M Bool} {b : Env → M (Fl × Env)} {ρ : Env} {S : Store} {φ : Fl × Env → Store → Prop} {ψ : Xn → Store → Prop} (h : Gd (whileM c b ρ S) φ ψ) : ∃ k, Gd (whileK c b k ρ S) φ ψ := by
  cases e : whileM c b ρ S with
  | none =>
    rw [e] at h
    exact False.elim h
  | some r =>
    obtain ⟨k, q⟩ := whileM_K' ρ S r e
    exact ⟨k, by rw [q]; rw [e] at h; exact h⟩
theorem whileK_step {c : Env → M Bool} {b : Env → M (Fl × Env)} {S : Store} {k : Nat} {ρ : Env} {φ : Fl × Env → Store → Prop} {ψ : Xn → Store → Prop} (h : Gd (whileK c b k ρ S) φ ψ) :
    ∃ k', k = k' + 1 ∧ Gd (c ρ S) (fun t S1 => match t with
      | false => φ (.nx, ρ) S1
      | true => Gd (b ρ S1) (fun r S' => match r.1 with
        | .nx => Gd (whileK c b k' r.2 S') φ ψ
        | .ct => Gd (whileK c b k' r.2 S') φ ψ
        | .bk => φ (.nx, r.2) S'
        | .rt v => φ (.rt v, r.2) S') ψ) ψ := by
  cases k with
  | zero => exact False.elim h
  | succ k =>
    refine ⟨k, rfl, ?_⟩
    unfold whileK at h
    cases e : c ρ S with
    | none =>
      rw [e] at h
      exact h
    | some q =>
      rw [e] at h
      cases q with
      | ex x S' => exact h
      | ok t S1 =>
        cases t with
        | false => exact h
        | true =>
          show Gd (b ρ S1) _ _
          dsimp only at h
          cases e2 : b ρ S1 with
          | none =>
            rw [e2] at h
            exact h
          | some q =>
            rw [e2] at h
            cases q with
            | ex x S' => exact h
            | ok o S' =>
              obtain ⟨f, ρ'⟩ := o
              cases f <;> exact h
section
variable {X : Cx} {c : Ck} {sc : Scope} {fc : Str → Bool} {k : Nat} {call : Nat → List D → M D} {W : WX} {A : List Nat}
theorem gs_for {tg iter : Expr} {body : List Stmt} {pos : Pos} {tg' : Tg} {kd : Sk} {src : List E} {body' : List Ev.S} {n : Nat} (kx : Kx X c sc fc k call W) (hi : PI X tg iter (tis X.K X.mg W call kd src)) (hs : ∀ x, foldedSetIterable iter X.env x = pure x)
    (ht : chkT c sc fc n tg tg' = true) (h5 : ∀ i ∈ tgN tg', i ∈ A) (hb : GSs X W A call body body') : GS X W A call (.For tg iter body [] pos) (.forS tg' kd src body') := by
  refine (ps_for kx.own kx.calm hi (pg_ok kx.calm kx.N kx.nd kx.sc kx.fc n tg tg' ht) hb hs).wk fun Dn σ H ⟨m, S, ρ, s, r, g⟩ => ?_
  have g : Gd (M.bind (evEs call src ρ) (fun ds => M.bind (opt (srcOf kd ds)) fun sc => loopM (fun d ρ => match asg tg' d ρ with
        | some ρ' => exSs call body' ρ'
        | none => stuck) sc ρ) S) (OkF X.K m H A σ Dn) (ExS X.K X.mg m H A σ W) := g
  refine ⟨m, S, ρ, s, r, Gd.join (Gd.mono (Gd.bind g) (fun ds S1 g1 => ?_) fun _ _ z => z.ex)⟩
  obtain ⟨sr, e1, g2⟩ := Gd.opt (Gd.bind g1)
  rw [e1]
  show ∀ m' H' J, Stp m H m' H' → Sto X.K m' H' S1 → SrcJ X.K m' H' sr J → _
  intro m1 H1 J st1 s1 j
  generalize hf : (fun d ρ => match asg tg' d ρ with
        | some ρ' => exSs call body' ρ'
        | none => stuck) = turn at g2
  obtain ⟨k0, g4⟩ := loopM_K g2
  refine ⟨fun i k' σ' H' => okI sr i ∧ ∃ (m' : Am) (S' : Store) (ρ' : Env), Sto X.K m' H' S' ∧ EnvR X.K m' H' σ' ρ' ∧ Stp m1 H1 m' H' ∧ Agr A σ σ' ∧ Gd (loopK turn sr k' i ρ' S') (OkF X.K m H A σ Dn) (ExS X.K X.mg m H A σ W),
    ⟨k0, okI_0, m1, S1, ρ, s1, r.mono s st1, Stp.refl, Agr.refl, g4⟩, ?_⟩
  rintro i k' σ' H' ⟨oi, m', S', ρ', s', r', st', ag, g5⟩
  obtain ⟨n1, n2⟩ := srcJ_nxt (i := i) j st'.x s' oi
  rcases loopK_step g5 with ⟨e, fin⟩ | ⟨d, k1, rfl, e, g6⟩
  · exact .inl ⟨n1 e, (fin : OkF X.K m H A σ Dn (.nx, ρ') S') m' H' σ' (st1.trans st') s' r' ag⟩
  · obtain ⟨go, yl⟩ := n2 d e
    refine .inr ⟨go, fun σ2 H2 => ∃ (m' : Am) (S' : Store) (ρ' : Env), Sto X.K m' H2 S' ∧ EnvR X.K m' H2 σ2 ρ' ∧ Stp m1 H1 m' H2 ∧ Agr A σ σ2 ∧ Gd (loopK turn sr k1 (i + 1) ρ' S') (OkF X.K m H A σ Dn) (ExS X.K X.mg m H A σ W),
      fun σ2 H2 p => ⟨k1, Nat.lt_succ_self _, okI_s e, p⟩, fun x H'' y => ?_⟩
    obtain ⟨fr, vd⟩ := yl x H'' y
    obtain ⟨stf, s''⟩ := fr.step s'
    have r' := EnvR.mono s' stf r'
    have st' := st'.trans stf
    have s' := s''
    rw [← hf] at g6
    dsimp only at g6
    cases ea : asg tg' d ρ' with
    | none =>
      rw [ea] at g6
      exact False.elim g6
    | some ρ2 =>
      rw [ea] at g6
      rw [hf] at g6
      refine ⟨m', S', ρ', d, ρ2, s', r', vd, ea, fun σ2 r2 k2 => ?_⟩
      have ag2 : Agr A σ σ2 := ag.trans fun i hi => k2 i fun z => hi (h5 i z)
      refine ⟨m', S', ρ2, s', r2, Gd.mono g6 (fun q S3 g7 m3 H3 σ3 st3 s3 r3 ag3 => ?_) fun _ _ z => z.step (st1.trans st') ag2⟩
      obtain ⟨f, ρ3⟩ := q
      cases f with
      | nx => exact ⟨m3, S3, ρ3, s3, r3, st'.trans st3, ag2.trans ag3, g7⟩
      | ct => exact ⟨m3, S3, ρ3, s3, r3, st'.trans st3, ag2.trans ag3, g7⟩
      | bk => exact (g7 : OkF X.K m H A σ Dn (.nx, ρ3) S3) m3 H3 σ3 ((st1.trans st').trans st3) s3 r3 (ag2.trans ag3)
      | rt v => exact (g7 : OkF X.K m H A σ Dn (.rt v, ρ3) S3) m3 H3 σ3 ((st1.trans st').trans st3) s3 r3 (ag2.trans ag3)
theorem gs_while {t : Expr} {body : List Stmt} {pos : Pos} {t' : E} {body' : List Ev.S} (kx : Kx X c sc fc k call W) (ht : PT X t (ttv X.K X.mg W call t')) (hb : GSs X W A call body body') : GS X W A call (.While t body [] pos) (.whileS t' body') := by
  refine (ps_while kx.own ht hb).wk fun Dn σ H ⟨m, S, ρ, s, r, g⟩ => ?_
  have g : Gd (whileM (evT call t') (exSs call body') ρ S) (OkF X.K m H A σ Dn) (ExS X.K X.mg m H A σ W) := g
  obtain ⟨k0, g4⟩ := whileM_K g
  refine ⟨fun k' σ' H' => ∃ (m' : Am) (S' : Store) (ρ' : Env), Sto X.K m' H' S' ∧ EnvR X.K m' H' σ' ρ' ∧ Stp m H m' H' ∧ Agr A σ σ' ∧ Gd (whileK (evT call t') (exSs call body') k' ρ' S') (OkF X.K m H A σ Dn) (ExS X.K X.mg m H A σ W),
    ⟨k0, m, S, ρ, s, r, Stp.refl, Agr.refl, g4⟩, ?_⟩
  rintro k' σ' H' ⟨m', S', ρ', s', r', st', ag, g5⟩
  obtain ⟨k1, rfl, g6⟩ := whileK_step g5
  refine ⟨m', S', ρ', s', r', Gd.mono g6 (fun b S1 g7 m2 H2 st2 s2 => ?_) fun _ _ z => (z.step st' ag).ex⟩
  cases b with
  | false => exact (g7 : OkF X.K m H A σ Dn (.nx, ρ') S1) m2 H2 σ' (st'.trans st2) s2 (r'.mono s' st2) ag
  | true =>
    refine ⟨fun σ2 H2 => ∃ (m' : Am) (S' : Store) (ρ' : Env), Sto X.K m' H2 S' ∧ EnvR X.K m' H2 σ2 ρ' ∧ Stp m H m' H2 ∧ Agr A σ σ2 ∧ Gd (whileK (evT call t') (exSs call body') k1 ρ' S') (OkF X.K m H A σ Dn) (ExS X.K X.mg m H A σ W),
      fun σ2 H2 p => ⟨k1, Nat.lt_succ_self _, p⟩, m2, S1, ρ', s2, r'.mono s' st2, Gd.mono g7 (fun q S3 g8 m3 H3 σ3 st3 s3 r3 ag3 => ?_) fun _ _ z => z.step (st'.trans st2) ag⟩
    obtain ⟨f, ρ3⟩ := q
    cases f with
    | nx => exact ⟨m3, S3, ρ3, s3, r3, (st'.trans st2).trans st3, ag.trans ag3, g8⟩
    | ct => exact ⟨m3, S3, ρ3, s3, r3, (st'.trans st2).trans st3, ag.trans ag3, g8⟩
    | bk => exact (g8 : OkF X.K m H A σ Dn (.nx, ρ3) S3) m3 H3 σ3 ((st'.trans st2).trans st3) s3 r3 (ag.trans ag3)
    | rt v => exact (g8 : OkF X.K m H A σ Dn (.rt v, ρ3) S3) m3 H3 σ3 ((st'.trans st2).trans st3) s3 r3 (ag.trans ag3)
theorem gs_nil : GSs X W A call [] [] := pss_nil.wk fun Dn σ H ⟨m, S, ρ, s, r, g⟩ => (g : OkF X.K m H A σ Dn (.nx, ρ) S) m H σ Stp.refl s r .refl
theorem gs_cons {st : Stmt} {rest : List Stmt} {st' : Ev.S} {rest' : List Ev.S} (h1 : GS X W A call st st') (h2 : GSs X W A call rest rest') : GSs X W A call (st :: rest) (st' :: rest') := by
  refine (pss_cons h1 h2).wk fun Dn σ H ⟨m, S, ρ, s, r, g⟩ => ?_
  have g : Gd (M.bind (exS call st' ρ) (fun (f, ρ') => match f with
    | .nx => exSs call rest' ρ'
    | f => M.pure (f, ρ')) S) (OkF X.K m H A σ Dn) (ExS X.K X.mg m H A σ W) := g
  refine ⟨m, S, ρ, s, r, Gd.mono (Gd.bind g) (fun q S1 g1 m1 H1 σ1 st1 s1 r1 ag1 => ?_) fun _ _ z => z⟩
  obtain ⟨f, ρ1⟩ := q
  cases f with
  | nx => exact ⟨m1, S1, ρ1, s1, r1, Gd.mono g1 (fun _ _ z => z.step st1 ag1) fun _ _ z => z.step st1 ag1⟩
  | bk => exact (g1 : OkF X.K m H A σ Dn (.bk, ρ1) S1) m1 H1 σ1 st1 s1 r1 ag1
  | ct => exact (g1 : OkF X.K m H A σ Dn (.ct, ρ1) S1) m1 H1 σ1 st1 s1 r1 ag1
  | rt v => exact (g1 : OkF X.K m H A σ Dn (.rt v, ρ1) S1) m1 H1 σ1 st1 s1 r1 ag1
theorem gs_if {t : Expr} {a b : List Stmt} {pos : Pos} {t' : E} {a' b' : List Ev.S} (ht : PT X t (ttv X.K X.mg W call t')) (ha : GSs X W A call a a') (hb : GSs X W A call b b') : GS X W A call (.If t a b pos) (.ifS t' a' b') := by
  refine (ps_if ht ha hb).wk fun Dn σ H ⟨m, S, ρ, s, r, g⟩ => ?_
  refine stv_of s r (show Gd (M.bind (evT call t' ρ) (fun t => if t then exSs call a' ρ else exSs call b' ρ) S) (OkF X.K m H A σ Dn) _ from g) fun d S1 m1 H1 st1 s1 r1 g1 => ?_
  cases d with
  | true => exact ⟨m1, S1, ρ, s1, r1, Gd.mono g1 (fun _ _ z => z.step st1 .refl) fun _ _ z => z⟩
  | false => exact ⟨m1, S1, ρ, s1, r1, Gd.mono g1 (fun _ _ z => z.step st1 .refl) fun _ _ z => z⟩
theorem gs_ex {e : Expr} {e' : E} {pos : Pos} (h : isComp e = false) (he : GE X W call e e') : GS X W A call (.Expr e pos) (.ex e') := by
  refine (ps_expr he (swapsW_none h)).wk fun Dn σ H ⟨m, S, ρ, s, r, g⟩ => ?_
  refine sev_of s r (show Gd (M.bind (evE call e' ρ) (fun _ => M.pure (.nx, ρ)) S) (OkF X.K m H A σ Dn) _ from g) fun d S1 m1 H1 v st1 s1 r1 vd g1 => ?_
  exact (g1 : OkF X.K m H A σ Dn (.nx, ρ) S1) m1 H1 σ st1 s1 r1 .refl
theorem gs_ret {e : Expr} {e' : E} {pos : Pos} (he : GE X W call e e') : GS X W A call (.Return (some e) pos) (.ret e') := by
  refine (ps_ret he).wk fun Dn σ H ⟨m, S, ρ, s, r, g⟩ => ?_
  refine sev_of s r (show Gd (M.bind (evE call e' ρ) (fun d => M.pure (.rt d, ρ)) S) (OkF X.K m H A σ Dn) _ from g) fun d S1 m1 H1 v st1 s1 r1 vd g1 => ?_
  exact (g1 : OkF X.K m H A σ Dn (.rt d, ρ) S1) m1 H1 σ st1 s1 r1 .refl v vd
theorem gs_retN {pos : Pos} : GS X W A call (.Return none pos) .retN := ps_retN.wk fun Dn σ H ⟨m, S, ρ, s, r, g⟩ => (g : OkF X.K m H A σ Dn (.rt .non, ρ) S) m H σ Stp.refl s r .refl .non rfl
theorem gs_pass {pos : Pos} : GS X W A call (.Pass pos) .pass := ps_pass.wk fun Dn σ H ⟨m, S, ρ, s, r, g⟩ => (g : OkF X.K m H A σ Dn (.nx, ρ) S) m H σ Stp.refl s r .refl
theorem gs_doc {x : Str} {j : Nat} {p pos : Pos} : GS X W A call (.Expr (.Constant (.str x) j p) pos) .pass := ps_doc.wk fun Dn σ H ⟨m, S, ρ, s, r, g⟩ => (g : OkF X.K m H A σ Dn (.nx, ρ) S) m H σ Stp.refl s r .refl
theorem gs_brk {pos : Pos} : GS X W A call (.Break pos) .brk := ps_break.wk fun Dn σ H ⟨m, S, ρ, s, r, g⟩ => (g : OkF X.K m H A σ Dn (.bk, ρ) S) m H σ Stp.refl s r .refl
theorem gs_cont {pos : Pos} : GS X W A call (.Continue pos) .cont := ps_continue.wk fun Dn σ H ⟨m, S, ρ, s, r, g⟩ => (g : OkF X.K m H A σ Dn (.ct, ρ) S) m H σ Stp.refl s r .refl
theorem loc_ok {x : Str} (kx : Kx X c sc fc k call W) (h2 : loc sc fc x = true) : Loc X.env.scope x ∧ (X.fn x = true ∨ X.env.scope.names.lookup x = some .local) := by
  rw [kx.sc]
  unfold loc at h2
  split at h2
  · exact ⟨.inl (by assumption), .inr (by assumption)⟩
  · exact ⟨.inr (by assumption), .inl (kx.fc x h2)⟩
  · cases h2
theorem gs_aug {x : Str} {e : Expr} {e' : E} {o : Op} {i : Nat} {p pos : Pos} (kx : Kx X c sc fc k call W) (hA : inA A i = true) (hi : c.N[i]? = some x) (hl : loc sc fc x = true) (he : GE X W call e e') : GS X W A call (.AugAssign (.Name x p) (opOf o) e pos) (.aug o i e') := by
  obtain ⟨l1, l2⟩ := loc_ok kx hl
  refine (ps_aug (i := i) (by rw [kx.N]; exact kx.nd) (by rw [kx.N]; exact hi) l1 he (op_aug o) l2).wk fun Dn σ H ⟨m, S, ρ, s, r, g⟩ => ?_
  have g : Gd ((match ρ[i]? with
    | some (some x) => M.bind (evE call e' ρ) fun y => M.bind (opt (augV o x y)) fun z => (M.pure (Fl.nx, ρ.set i (some z)) : M (Fl × Env))
    | _ => stuck) S) (OkF X.K m H A σ Dn) (ExS X.K X.mg m H A σ W) := g
  cases e1 : ρ[i]? with
  | none =>
    rw [e1] at g
    exact False.elim g
  | some q =>
    rw [e1] at g
    cases q with
    | none => exact False.elim g
    | some d0 =>
      obtain ⟨v0, hv, vd0⟩ := r.2 i d0 e1
      refine ⟨v0, hv, sev_of s r g fun d S1 m1 H1 v st1 s1 r1 vd g1 => ?_⟩
      obtain ⟨z, e2, g2⟩ := Gd.opt (Gd.bind g1)
      refine ⟨m1, S1, d0, d, z, s1, vd0.mono s st1, vd, e2, fun m2 H2 w st2 s2 vz => ?_⟩
      exact (g2 : OkF X.K m H A σ Dn (.nx, ρ.set i (some z)) S1) m2 H2 _ (st1.trans st2) s2 ((r1.mono s1 st2).set vz) (Agr.set hA)
theorem gs_augI {o i e : Expr} {o' i' e' : E} {q : Op} {p pos : Pos} (hn : noSlice i = true) (ho : GE X W call o o') (hi : GE X W call i i') (he : GE X W call e e') : GS X W A call (.AugAssign (.Subscript o i p) (opOf q) e pos) (.augI q o' i' e') := by
  refine (ps_augS ho hi get_any he (op_aug q) set_any (fun ov iv new => by cases i <;> first | rfl | cases hn)).wk fun Dn σ H ⟨m, S, ρ, s, r, g⟩ => ?_
  refine sev_of s r (show Gd (M.bind (evE call o' ρ) (fun x => M.bind (evE call i' ρ) fun y => M.bind (getIM x y) fun old =>
      M.bind (evE call e' ρ) fun v => M.bind (opt (augV q old v)) fun z => M.bind (setIM x y z) fun _ => M.pure (.nx, ρ)) S) (OkF X.K m H A σ Dn) _ from g) fun d S1 m1 H1 v st1 s1 r1 vd g1 => ?_
  refine sev_of s1 r1 g1 fun d2 S2 m2 H2 v2 st2 s2 r2 vd2 g2 => ?_
  have vd := vd.mono s1 st2
  have g2 := Gd.bind g2
  obtain ⟨n, k, ls, y, e1, e2, e3, e4, g3⟩ := getIM_ok g2
  subst e1 e2
  refine ⟨m2, S2, .ref n, .int k, s2, vd, vd2, ?_⟩
  unfold getIM
  refine Gd.join ?_
  show Gd (getO n S2) _ _
  unfold getO
  rw [e3]
  show Gd (opt (L2.atI ls k) S2) _ _
  rw [e4]
  intro m3 H3 x3 st3 s3 vd3
  have vd := vd.mono s2 st3
  have r3 := EnvR.mono s2 st3 r2
  have g3 : Gd _ (OkF X.K m H A σ Dn) (ExS X.K X.mg m3 H3 A σ W) := Gd.mono g3 (fun _ _ z => z) fun _ _ z => z.step st3 .refl
  refine sev_of s3 r3 g3 fun d4 S4 m4 H4 v4 st4 s4 r4 vd4 g4 => ?_
  have vd := vd.mono s3 st4
  obtain ⟨z, e5, g5⟩ := Gd.opt (Gd.bind g4)
  refine ⟨m4, S4, y, d4, z, s4, vd3.mono s3 st4, vd4, e5, fun m5 H5 x5 st5 s5 vd5 => ?_⟩
  have vd := vd.mono s4 st5
  obtain ⟨n', q', j, ls', e1, e2, e6, e7, g6⟩ := setIM_ok (Gd.bind g5)
  cases e1
  cases e2
  refine ⟨m5, S4, .ref n, .int k, z, s5, vd, by have e : v2 = _ := vd2; exact e, vd5, ?_⟩
  unfold setIM
  refine Gd.join ?_
  show Gd (getO n S4) _ _
  unfold getO
  rw [e6]
  show Gd ((match ixN ls'.length k with | some j => putO n (.lst (ls'.set j z)) | none => stuck) S4) _ _
  rw [e7]
  show Gd (putO n (.lst (ls'.set j z)) S4) _ _
  unfold putO
  rw [if_pos (List.getElem?_eq_some_iff.mp e6).1]
  intro m' H' st' s'
  exact (g6 : OkF X.K m H A σ Dn (.nx, ρ) _) m' H' σ (((((st1.trans st2).trans st3).trans st4).trans st5).trans st') s' (EnvR.mono s5 st' (EnvR.mono s4 st5 r4)) .refl
end
theorem allA {A l : List Nat} (h : (l.all fun i => inA A i) = true) : ∀ i ∈ l, i ∈ A := fun i hi => List.contains_iff_mem.mp (List.all_eq_true.mp h i hi)
theorem s_ok {X : Cx} {c : Ck} {sc : Scope} {fc : Str → Bool} {k : Nat} {call : Nat → List D → M D} {W : WX} {A : List Nat} (kx : Kx X c sc fc k call W) (hk : X.env.scope.kind = .function) : ∀ n : Nat,
    (∀ s s', chkS c fc sc A n s s' = true → GS X W A call s s') ∧ ∀ ss ss', chkSs c fc sc A n ss ss' = true → GSs X W A call ss ss' := by
  intro n
  induction n with
  | zero => exact ⟨fun _ _ h => (by cases h), fun _ _ h => (by cases h)⟩
  | succ n ih =>
    obtain ⟨ih1, ih2⟩ := ih
    have ihe : ∀ e e', chkE c n sc e e' = true → GE X W call e e' := fun e e' h => (e_ok n kx h).val
    refine ⟨fun s s' h => ?_, fun ss ss' h => ?_⟩
    · unfold chkS at h
      split at h
      all_goals first | (cases h; done) | skip
      all_goals first | (rename_i e0; cases e0) | (rename_i e0 _; cases e0)
      all_goals try simp only [Bool.and_eq_true, Bool.not_eq_true', decide_eq_true_eq, chkC] at h
      · obtain ⟨⟨⟨⟨⟨h1, h2⟩, h3⟩, h4⟩, h5⟩, ⟨⟨⟨⟨h6, h7⟩, h8⟩, h9⟩, h10⟩, h11⟩ := h
        split at h6
        · rename_i own e1
          refine gs_comp kx hk h1 h2 h3 h4 h5 e1 h6 (pi_ok kx ihe h7) (chkI_fold h7) h8 (fun i hi => List.contains_iff_mem.mp (List.all_eq_true.mp h9 i hi)) (fun s H C cl fp => ?_) fun s H C cl fp => ?_
          · exact pts_ok h10 fun i i' h7 h8 => (e_ok n (kx.blk s H _ C cl fp) h8).test h7
          · exact (e_ok n (kx.blk s H _ C cl fp) h11).val
        · cases h6
      · obtain ⟨⟨⟨⟨⟨q1, q2⟩, q3⟩, q4⟩, q5⟩, h⟩ := h
        unfold chkE at h
        simp only [Bool.and_eq_true] at h
        obtain ⟨⟨⟨⟨⟨⟨⟨⟨⟨⟨h1, h2⟩, h3⟩, h4⟩, h5⟩, h6⟩, h7⟩, h8⟩, h9⟩, h10⟩, h11⟩ := h
        split at h1
        · rename_i own e1
          refine gs_comp2 kx hk q1 q2 q3 q4 q5 e1 h1 (pi_ok kx ihe h2) (chkI_fold h2) h3 (fun i hi => List.contains_iff_mem.mp (List.all_eq_true.mp h4 i hi)) (fun s H C cl fp => pts_ok h5 fun i i' h7 h8 => (e_ok n (kx.blk s H _ C cl fp) h8).test h7)
            (fun s H C cl fp => pi_ok (kx.blk s H _ C cl fp) (fun e e' h => (e_ok n (kx.blk s H _ C cl fp) h).val) h6) (fun env => chkI_fold h6) h7 (fun i hi => List.contains_iff_mem.mp (List.all_eq_true.mp h8 i hi)) (fun i hi => List.contains_iff_mem.mp (List.all_eq_true.mp h9 i hi))
            (fun s H C cl fp => pts_ok h10 fun i i' h7 h8 => (e_ok n (kx.blk s H _ C cl fp) h8).test h7) fun s H C cl fp => (e_ok n (kx.blk s H _ C cl fp) h11).val
        · cases h1
      · obtain ⟨⟨⟨⟨⟨⟨⟨⟨⟨⟨⟨⟨⟨h1, h2⟩, h3⟩, h4⟩, h5⟩, h6⟩, h7⟩, h8⟩, h9⟩, h10⟩, h11⟩, h12⟩, h13⟩, h14⟩ := h
        exact gs_par kx hk h1 h2 h3 h4 h5 h6 h7 h8 h9 h10 h11 h12 (ihe _ _ h13) (ihe _ _ h14)
      · obtain ⟨⟨⟨⟨⟨⟨⟨⟨⟨⟨⟨⟨⟨⟨⟨⟨⟨⟨⟨h1, h2⟩, h3⟩, h4⟩, h5⟩, h6⟩, h7⟩, h8⟩, h9⟩, h10⟩, h11⟩, h12⟩, h13⟩, h14⟩, h15⟩, h16⟩, h17⟩, h18⟩, h19⟩, h20⟩ := h
        exact gs_par3 kx hk h1 h2 h3 h4 h5 h6 h7 h8 h9 h10 h11 h12 h13 h14 h15 h16 h17 (ihe _ _ h18) (ihe _ _ h19) (ihe _ _ h20)
      · obtain ⟨⟨⟨⟨h1, h2⟩, h3⟩, h4⟩, h5⟩ := h
        exact gs_setI h1 h2 (ihe _ _ h3) (ihe _ _ h4) (ihe _ _ h5)
      · obtain ⟨⟨⟨⟨⟨h1, h2⟩, h3⟩, h4⟩, h5⟩, h6⟩ := h
        exact gs_set kx h1 h2 h3 h4 (allA h5) (ihe _ _ h6)
      · obtain ⟨⟨⟨⟨h1, rfl⟩, h3⟩, h4⟩, h5⟩ := h
        exact gs_aug kx h1 h3 h4 (ihe _ _ h5)
      · obtain ⟨⟨⟨⟨h1, rfl⟩, h3⟩, h4⟩, h5⟩ := h
        exact gs_augI h1 (ihe _ _ h3) (ihe _ _ h4) (ihe _ _ h5)
      · exact gs_doc
      · exact gs_ex h.1 (ihe _ _ h.2)
      · exact gs_ret (ihe _ _ h)
      · exact gs_retN
      · obtain ⟨⟨⟨h1, h2⟩, h3⟩, h4⟩ := h
        exact gs_if ((e_ok n kx h2).test h1) (ih2 _ _ h3) (ih2 _ _ h4)
      · obtain ⟨⟨⟨h1, h2⟩, h3⟩, h4⟩ := h
        exact gs_for kx (pi_ok kx ihe h1) (chkI_fold h1) h2 (allA h3) (ih2 _ _ h4)
      · obtain ⟨⟨h1, h2⟩, h3⟩ := h
        exact gs_while kx ((e_ok n kx h2).test h1) (ih2 _ _ h3)
      · exact gs_brk
      · exact gs_cont
      · exact gs_pass
      · exact ⟨fun p s σ H D I ⟨m, S, ρ, st, r, g⟩ => False.elim g⟩
    · unfold chkSs at h
      split at h
      · cases h
      · exact gs_nil
      · rename_i e0
        cases e0
        obtain ⟨h1, h2⟩ := ba' h
        exact gs_cons (ih1 _ _ h1) (ih2 _ _ h2)
      · cases h
end Ev
set_option Elab.async false
set_option linter.all false
set_option maxRecDepth 100000
set_option maxHeartbeats 8000000
namespace Ev
open PySem PySem.Spec PyProof.Rows L2
/-! ### all defs of a text -/
structure DefI where
  x : Str
  st : Stmt
  ps : List Str
  N : List Str
  fd : Fd
def fnsOf (ds : List DefI) : List (Str × Nat × Nat) := ds.zipIdx.map fun p => (p.1.x, p.2, p.1.ps.length)
def progOf (ds : List DefI) : Nat → Option Fd := fun i => (ds[i]?).map (·.fd)
def okDef (fns : List (Str × Nat × Nat)) (cs : List (Str × D)) (free : List Str) (fuel : Nat) (d : DefI) : Bool :=
  C8.scC d.N d.ps (defScope d.st) && decide (d.fd.np = d.ps.length) && decide (d.fd.n = d.N.length) &&
    chkSs ⟨d.N, fns, cs, free⟩ (fun _ => true) (defScope d.st) (List.range d.N.length) fuel (defBody d.st) d.fd.body
/-- what the head tells of a def -/
def DefHas (K : PySem.W.Frag) (mg : Str → Option Value) (d : DefI) : Prop := ∃ fa fd, mg d.x = some (.ref fa) ∧ FunD K d.x d.x (defArgs d.st) (defBody d.st) (defScope d.st) [] [] fa fd ∧ Binds K fd d.ps []
structure Tab (K : PySem.W.Frag) (mg : Str → Option Value) (ds : List DefI) (cs : List (Str × D)) (free : List Str) : Prop where
  defs : ∀ d ∈ ds, DefHas K mg d
  cs : ∀ x d, cs.lookup x = some d → flatD d = true → ∃ v u, mg x = some u ∧ L2.RelV v u ∧ ∀ K m H, VD K m H d v
  free : ∀ x, free.contains x = true → mg x = none
def FnAt (P : Program) (w : World) (K : PySem.W.Frag) (mg : Str → Option Value) (base : Heap) (ds : List DefI) (k : Nat) (f : Nat) (d : DefI) : Prop :=
  ∀ fa fd, FunD K d.x d.x (defArgs d.st) (defBody d.st) (defScope d.st) [] [] fa fd → FnG P w K mg base k fa fd d.ps (spC K mg (callV (progOf ds) k f) d.ps.length)
theorem env_start {K : PySem.W.Frag} {m : Am} {H : Hp} {N : List Str} {vs : List V} {ds : List D} {n : Nat} (vd : VDs K m H ds vs) (hn : n = N.length) : EnvR K m H (L2.start N vs) (ds.map some ++ List.replicate (n - ds.length) none) := by
  have hl := vd.length
  subst hn
  unfold L2.start
  refine ⟨by simp [hl], fun i d e => ?_⟩
  by_cases hi : i < ds.length
  · rw [List.getElem?_append_left (by simpa using hi), List.getElem?_map] at e
    have e2 : ds[i]? = some d := by
      cases e3 : ds[i]? with
      | none =>
        rw [e3] at e
        cases e
      | some z =>
        rw [e3] at e
        cases e
        rfl
    obtain ⟨v, hv, q⟩ := vd.get e2
    refine ⟨v, ?_, q⟩
    rw [List.getElem?_append_left (by rw [List.length_map]; omega), List.getElem?_map, hv]
    rfl
  · rw [List.getElem?_append_right (by simpa using hi), List.getElem?_replicate] at e
    split at e <;> cases e
theorem defs_ok {P : Program} {w : World} {K : PySem.W.Frag} {mg : Str → Option Value} {base : Heap} {ds : List DefI} {cs : List (Str × D)} {free : List Str} {fuel : Nat} (T : Tab K mg ds cs free) (ok : ∀ d ∈ ds, okDef (fnsOf ds) cs free fuel d = true) :
    ∀ (k f : Nat) (d : DefI), ds[f]? = some d → FnAt P w K mg base ds k f d := by
  intro k
  induction k with
  | zero =>
    intro f d hd fa fd F
    exact ⟨fun vs H Q E h => h.1, fun A outer s H args us vs Q E hr hg e0 hb r h => by
      obtain ⟨_, m, S, dd, s, vd, g⟩ := h
      exact False.elim g⟩
  | succ k ih =>
    intro f d hd fa fd F
    have h := ok d (List.mem_of_getElem? hd)
    unfold okDef at h
    simp only [Bool.and_eq_true, decide_eq_true_eq] at h
    obtain ⟨⟨⟨h1, h2⟩, h3⟩, h4⟩ := h
    refine FnG.of F (C8.fnScope_by h1) (fun vs H Q E h => h.1) fun cd A outer s H vs Q E hr hg h => ?_
    have sc : FnScope d.N d.ps (defScope d.st) := C8.fnScope_by h1
    have kx : Kx (cxOf (CX P w) P w K mg base d.N d.x (defScope d.st) fa cd A outer s H E) ⟨d.N, fnsOf ds, cs, free⟩ (defScope d.st) (fun _ => true) k (callV (progOf ds) k) (fun cls e _ H => E cls e H) := {
      calm := rfl
      N := rfl
      nd := sc.nd
      sc := rfl
      fc := fun _ _ => rfl
      room := hr
      guards := hg
      own := passes_of rfl
      tk := takes_of rfl rfl rfl rfl
      free := T.free
      cs := T.cs
      calls := fun x f' np hx => by
        have hm := mem_of_lookup hx
        obtain ⟨⟨d', i⟩, hp, e⟩ := List.mem_map.mp hm
        have hp' := List.mem_zipIdx' hp
        cases e
        have hd' : ds[i]? = some d' := by
          obtain ⟨hi, e⟩ := hp'
          rw [List.getElem?_eq_getElem hi, e]
        obtain ⟨fa', fd', g1, g2, g3⟩ := T.defs d' (List.mem_of_getElem? hd')
        exact ⟨fa', fd', d'.ps, g1, g2.kp, g3, ih i d' hd' fa' fd' g2⟩ }
    refine ⟨_, (s_ok kx sc.kind fuel).2 _ _ h4, ?_⟩
    obtain ⟨hl, m, S, dd, st, vd, g⟩ := h
    have hf : progOf ds f = some d.fd := by
      unfold progOf
      rw [hd]
      rfl
    have hlen : dd.length = d.fd.np := by rw [← vd.length, hl, h2]
    have g : Gd ((match progOf ds f with
      | some fd => if dd.length = fd.np then M.bind (exSs (callV (progOf ds) k) fd.body (dd.map some ++ List.replicate (fd.n - fd.np) none)) outM else stuck
      | none => stuck) S) (OkW K m H Q) (ExW K mg m H E) := g
    rw [hf] at g
    dsimp only at g
    rw [if_pos hlen, ← hlen] at g
    refine ⟨m, S, _, st, env_start vd h3, Gd.mono (Gd.bind g) (fun r S1 g1 m1 H1 σ1 st1 s1 r1 ag => ?_) fun x S1 z m1 H1 c d' σ1 st1 s1 xr ag => z m1 H1 c d' st1 s1 xr⟩
    obtain ⟨fl, ρ1⟩ := r
    cases fl with
    | nx => exact (g1 : OkW K m H Q .non S1) m1 H1 .non st1 s1 rfl
    | rt v => exact fun u vd => (g1 : OkW K m H Q v S1) m1 H1 u st1 s1 vd
    | bk => exact False.elim g1
    | ct => exact False.elim g1
end Ev
set_option Elab.async false
set_option linter.all false
set_option maxRecDepth 100000
set_option maxHeartbeats 8000000
namespace Ev
open PySem PySem.Spec PyProof.Rows L2
/-! ### a law's end, where no repr runs around the call -/
/-- the call from the outside, by a heap that tracks the script alone, or nothing -/
theorem ask_law {P : Program} {w : World} {K : PySem.W.Frag} {mg mb : Str → Option Value} {k : Nat} {fa a : Addr} {fd : FuncData} {x : Str} {cl : List D → M D} {s : Shared} {oa : Obj} {xs : List V} {H : Hp} {ds : List D} {S' : Store}
    (kin : K.In s.heap) (g0 : s.heap.Ns mainGlobals mg) (b0 : s.heap.Ns builtinsNs mb) (bb : ∀ x : Str, x ≠ "__name__" → mb x = bootBuiltins x) (lim : s.heap.NoLimit) (gens : s.gens = #[]) (room : Room k callerA)
    (F : ∀ base : Heap, K.In base → base.Ns mainGlobals mg → FnG P w K mg base k fa fd [x] (spC K mg cl 1)) (bnd : ∀ (s : Shared) (u : Value), BindsTo s fd ⟨[u], []⟩ [(x, u)])
    (oe : s.heap.get? a = some oa) (od : ∃ vs : Array Value, ∃ z, oa.data = .seq vs z) (only : ∀ b u, H b = some u → b = a ∧ K.lookup a = none ∧ u = .frz oa (.lst xs)) (ok : HOk P w H s.heap)
    (fro : FroAt K H a xs) (vd : VDs K ⟨[], []⟩ H ds xs) (hl : cl [.fro ds] [] = some (.ok (.bl true) S')) :
    codeAny (model P w) callerA (.call (.ref fa) ⟨[.ref a], []⟩) (fun r s' => r = .ok (.ret (.bool true)) ∧ OldK s.heap s'.heap ∧ s'.os = s.os ∧ AllBare s'.gens) s := by
  have off : ∀ {b : Addr}, b ≠ a → H b = none := fun {b} ne => by
    cases e : H b with
    | none => rfl
    | some u => exact absurd (only b u e).1 ne
  have nodict : ∀ {b : Addr} {o : Obj} {es : Array DictEntry} {ep : Nat}, s.heap.get? b = some o → o.data = .dict es ep → H b = none := fun {b o es ep} e1 e2 => off fun z => by
    rw [z, oe] at e1
    cases e1
    obtain ⟨vs, q, e3⟩ := od
    rw [e3] at e2
    cases e2
  have ns : ∀ {b : Addr} {m : Str → Option Value}, s.heap.Ns b m → (hidT s.heap H).Ns b m := fun ⟨o, es, ep, e1, e2, e3⟩ => ⟨o, es, ep, hidT_get e1 (nodict e1 e2), e2, e3⟩
  have kin2 : K.In (hidT s.heap H) := fun b o e1 => hidT_get (kin b o e1) (by
    cases e : H b with
    | none => rfl
    | some u =>
      obtain ⟨z, n, _⟩ := only b u e
      rw [z, n] at e1
      cases e1)
  have md : Mod K mg (hidT s.heap H) := ⟨kin2, ns g0, ⟨mb, ns b0, bb⟩, by
    obtain ⟨mc, l1, l2⟩ := lim
    exact ⟨mc, ns l1, l2⟩⟩
  have env : Env0 P w K mg (hidT s.heap H) callerA [] s H := ⟨rfl, md, fun _ _ e1 => of_hidT e1, Nat.le_of_eq (hidT_size _ _), trivial, fun _ hb => (by cases hb), ok, .of_eq gens⟩
  have sto : Sto K ⟨[], []⟩ H [] := ⟨List.nodup_nil, fun _ h => (by cases h), fun _ h => (by cases h), rfl, fun _ _ _ h => (by cases h)⟩
  have ask : spC K mg cl 1 [.ref a] H (fun v _ => v = .bl true) fun _ _ _ => False :=
    ⟨rfl, ⟨[], []⟩, [], [.fro ds], sto, ⟨.ref a, [], rfl, ⟨a, xs, rfl, fro, vd⟩, rfl⟩, by rw [hl]; exact fun _ _ v _ _ q => q⟩
  refine codeAny_mono ((F _ kin2 (ns g0)).run callerA [] s H ⟨[.ref a], []⟩ [.ref a] [.ref a] _ _ room rfl env (bnd s (.ref a)) (.cons rfl .nil) ask) fun r s' q => ?_
  cases r with
  | error e =>
    exfalso
    have q : CX P w [] H s (fun _ _ _ => False) e s' := q
    obtain ⟨_, _, _, _, _, _, _, _, _, _, _, _, q⟩ := q
    exact q
  | ok fl =>
    cases fl with
    | ret u =>
      obtain ⟨v, H', os, bare, un, ok', rv, e⟩ := q
      have e : v = .bl true := e
      subst e
      have rv : u = Value.bool true := rv
      subst rv
      refine ⟨rfl, OldK.of_keep fun b o e1 => ?_, os, bare⟩
      cases e2 : H b with
      | none => exact un.keep b o e1 e2 (fun z => by cases z) (by simp)
      | some u =>
        obtain ⟨_, _, e3⟩ := only b u e2
        rw [e3] at e2
        have n2 := un.frzs b oa _ e2
        obtain ⟨p1, _⟩ := ok b _ e2
        obtain ⟨p2, _⟩ := ok' b _ n2
        rw [e1] at p1
        cases p1
        exact p2
    | next => exact False.elim q
    | brk => exact False.elim q
    | cont => exact False.elim q
theorem ints_vd {K : PySem.W.Frag} {m : Am} {H : Hp} : ∀ ns : List Int, VDs K m H (ns.map D.int) (ns.map V.int)
  | [] => rfl
  | n :: ns => ⟨.int n, _, rfl, rfl, ints_vd ns⟩
theorem ask_ints {P : Program} {w : World} {K : PySem.W.Frag} {mg mb : Str → Option Value} {k : Nat} {fa a : Addr} {fd : FuncData} {x : Str} {cl : List D → M D} {s : Shared} {vs : List Value} {ns : List Int} {S' : Store}
    (kin : K.In s.heap) (g0 : s.heap.Ns mainGlobals mg) (b0 : s.heap.Ns builtinsNs mb) (bb : ∀ x : Str, x ≠ "__name__" → mb x = bootBuiltins x) (lim : s.heap.NoLimit) (gens : s.gens = #[]) (room : Room k callerA)
    (F : ∀ base : Heap, K.In base → base.Ns mainGlobals mg → FnG P w K mg base k fa fd [x] (spC K mg cl 1)) (bnd : ∀ (s : Shared) (u : Value), BindsTo s fd ⟨[u], []⟩ [(x, u)])
    (oe : s.heap.get? a = some { cls := .type "list", data := .seq vs.toArray }) (iv : IntsAre vs ns) (sz : ns.length ≤ sizeLine) (hl : cl [.fro (ns.map .int)] [] = some (.ok (.bl true) S')) :
    codeAny (model P w) callerA (.call (.ref fa) ⟨[.ref a], []⟩) (fun r s' => r = .ok (.ret (.bool true)) ∧ OldK s.heap s'.heap ∧ s'.os = s.os ∧ AllBare s'.gens) s := by
  have rv := vals_ints iv
  cases hk : K.lookup a with
  | some o =>
    have e1 := kin a o hk
    rw [oe] at e1
    cases e1
    refine ask_law (H := fun _ => none) (xs := ns.map V.int) (ds := ns.map D.int) kin g0 b0 bb lim gens room F bnd oe ⟨_, _, rfl⟩ (fun b u e => by cases e) (fun b u e => by cases e) (.inr fun H' => .inr ?_) (ints_vd ns) hl
    exact ⟨_, vs.toArray, _, hk, rfl, rfl, rfl, by rw [List.size_toArray, iv.length]; exact sz, by simpa using rv⟩
  | none =>
    refine ask_law (H := fun b => if b = a then some (.frz { cls := .type "list", data := .seq vs.toArray } (.lst (ns.map V.int))) else none) (xs := ns.map V.int) (ds := ns.map D.int) kin g0 b0 bb lim gens room F bnd oe ⟨_, _, rfl⟩ (fun b u e => ?_) (fun b u e => ?_) (.inl ⟨_, if_pos rfl⟩) (ints_vd ns) hl
    · by_cases h : b = a
      · exact ⟨h, hk, (Option.some.inj ((if_pos h).symm.trans e)).symm⟩
      · exact nomatch (if_neg h).symm.trans e
    · by_cases h : b = a
      · cases (if_pos h).symm.trans e
        subst h
        exact ⟨oe, by rw [List.length_map]; exact sz, vs, _, rv, oe⟩
      · exact nomatch (if_neg h).symm.trans e
/-- what is left behind the head: the law's promise, by the evaluator -/
theorem walk_ev {l : PySem.W.OpenLaw} {n k : Nat} {q : Program} {loose : List Str} {XP : (Str → Option Value) → Heap → Prop} {YP : World → Heap → Prop} {d : DefRec} {x : Str} {cl : List D → M D}
    (hn : l.most = some n) (hn2 : n ≤ sizeLine) (hdf : d.params.defaults = []) (hr : Room k callerA)
    (F : ∀ (w : World) (mg : Str → Option Value) (fa : Addr) (h : Heap), YP w h → h.Ns mainGlobals mg → mg d.name = some (.ref fa) →
      ∃ (K : PySem.W.Frag) (fd : FuncData), K.In h ∧ (∀ (s : Shared) (u : Value), BindsTo s fd ⟨[u], []⟩ [(x, u)]) ∧
        ∀ base : Heap, K.In base → base.Ns mainGlobals mg → FnG l.prog w K mg base k fa fd [x] (spC K mg cl 1))
    (hl : ∀ ns : List Int, ns.length ≤ n → ∃ S', cl [.fro (ns.map .int)] [] = some (.ok (.bl true) S')) :
    PySem.W.WalkO q loose XP YP l.row.toRowW d [] (fun f vs => PySem.call f vs) := by
  refine Att.attach_call hn hdf fun w s₀ s₁ mg mb fa o pm cd doc a vs ns G Y ho hd hcd hmg hobj hints hlen hg => ?_
  obtain ⟨K, fd, kin, bnd, hF⟩ := F w mg fa _ Y G.T.g hmg
  obtain ⟨S', hS⟩ := hl ns hlen
  exact ask_ints kin G.T.g G.T.b G.T.builtins G.T.nolimit hg hr hF bnd hobj hints (Nat.le_trans hlen hn2) hS
end Ev
set_option linter.all false
set_option maxRecDepth 100000
set_option maxHeartbeats 1000000
namespace Ev
open PySem
/-! ### the evaluator reasoned about: it ends, without an exception -/
def T {α : Type} (r : Option (Rs α)) (φ : α → Store → Prop) : Prop := ∃ a S', r = some (.ok a S') ∧ φ a S'
section
variable {α β : Type} {φ ψ : α → Store → Prop} {S : Store}
theorem T.mono {r : Option (Rs α)} (h : T r φ) (f : ∀ a S, φ a S → ψ a S) : T r ψ := by
  obtain ⟨a, S', e, q⟩ := h
  exact ⟨a, S', e, f a S' q⟩
@[simp] theorem T_bind {x : M β} {f : β → M α} : T (M.bind x f S) φ ↔ T (x S) fun a S' => T (f a S') φ := by
  unfold M.bind
  constructor
  · rintro ⟨a, S', e, q⟩
    cases e1 : x S with
    | none =>
      rw [e1] at e
      cases e
    | some r =>
      rw [e1] at e
      cases r with
      | ok b S1 => exact ⟨b, S1, rfl, a, S', e, q⟩
      | ex y S1 => cases e
  · rintro ⟨b, S1, e, a, S', e2, q⟩
    exact ⟨a, S', by rw [e]; exact e2, q⟩
@[simp] theorem T_pure {a : α} : T (M.pure a S) φ ↔ φ a S :=
  ⟨fun ⟨_, _, e, q⟩ => (by cases e; exact q), fun q => ⟨a, S, rfl, q⟩⟩
@[simp] theorem T_opt {o : Option α} : T (opt o S) φ ↔ ∃ a, o = some a ∧ φ a S := by
  cases o with
  | none => exact ⟨fun ⟨_, _, e, _⟩ => (by cases e), fun ⟨_, e, _⟩ => (by cases e)⟩
  | some a => exact ⟨fun ⟨_, _, e, q⟩ => (by cases e; exact ⟨a, rfl, q⟩), fun ⟨_, e, q⟩ => (by cases e; exact ⟨a, S, rfl, q⟩)⟩
@[simp] theorem T_stuck : T (stuck S) φ ↔ False := ⟨fun ⟨_, _, e, _⟩ => (by cases e), False.elim⟩
@[simp] theorem T_some {a : α} {S' : Store} : T (some (.ok a S')) φ ↔ φ a S' := ⟨fun ⟨_, _, e, q⟩ => (by cases e; exact q), fun q => ⟨a, S', rfl, q⟩⟩
@[simp] theorem T_none : T (none : Option (Rs α)) φ ↔ False := ⟨fun ⟨_, _, e, _⟩ => (by cases e), False.elim⟩
theorem T_ite {c : Prop} [Decidable c] {x y : M α} : T ((if c then x else y) S) φ ↔ (if c then T (x S) φ else T (y S) φ) := by
  split <;> rfl
@[simp] theorem T_truM {d : D} {φ : Bool → Store → Prop} : T (truM d S) φ ↔ ∃ b, truP S d = some b ∧ φ b S := by
  unfold truM
  cases truP S d with
  | none => simp
  | some b => simp
@[simp] theorem T_peek {d : D} {φ : D → Store → Prop} : T (peek d S) φ ↔ ∃ b, peekP S d = some b ∧ φ b S := by
  unfold peek
  cases peekP S d with
  | none => simp
  | some b => simp
@[simp] theorem T_getO {n : Nat} {φ : SO → Store → Prop} : T (getO n S) φ ↔ ∃ b, S[n]? = some b ∧ φ b S := by
  unfold getO
  cases S[n]? with
  | none => simp
  | some b => simp
@[simp] theorem T_putO {n : Nat} {o : SO} {φ : Unit → Store → Prop} : T (putO n o S) φ ↔ n < S.length ∧ φ () (S.set n o) := by
  unfold putO
  by_cases h : n < S.length
  · rw [if_pos h]
    simp [h]
  · rw [if_neg h]
    simp [h]
@[simp] theorem T_alloc {o : SO} {φ : D → Store → Prop} : T (alloc o S) φ ↔ φ (.ref S.length) (S ++ [o]) := by
  unfold alloc
  simp
@[simp] theorem T_noX {x : M α} : T (noX x S) φ ↔ T (x S) φ := by
  unfold noX T
  cases x S with
  | none => simp
  | some r => cases r <;> simp
@[simp] theorem ex_lift {p : Bool} {d : D} {φ : D → Prop} : (∃ z, liftD p d = some z ∧ φ z) ↔ p = true ∧ φ d := by
  unfold liftD
  cases p <;> simp
end
section
variable {call : Nat → List D → M D} {ρ : Env} {S : Store} {φ : D → Store → Prop}
@[simp] theorem T_var {i : Nat} : T (evE call (.var i) ρ S) φ ↔ ∃ d, ρ[i]? = some (some d) ∧ φ d S := by
  show T ((match ρ[i]? with
    | some (some d) => M.pure d
    | _ => stuck) S) φ ↔ _
  cases e : ρ[i]? with
  | none => simp
  | some o => cases o <;> simp
@[simp] theorem T_c {d : D} : T (evE call (.c d) ρ S) φ ↔ φ d S := T_pure
@[simp] theorem T_tup {es : List E} : T (evE call (.tup es) ρ S) φ ↔ T (evEs call es ρ S) fun ds S' => φ (.tup ds) S' := by simp [evE]
@[simp] theorem T_lst {es : List E} : T (evE call (.lst es) ρ S) φ ↔ T (evEs call es ρ S) fun ds S' => φ (.lst ds) S' := by simp [evE]
@[simp] theorem T_dic {es : List E} : T (evE call (.dic es) ρ S) φ ↔ T (evEs call es ρ S) fun ds S' => φ .dic S' := by simp [evE]
@[simp] theorem T_new {es : List E} : T (evE call (.new es) ρ S) φ ↔ T (evEs call es ρ S) fun ds S' => φ (.ref S'.length) (S' ++ [.lst ds]) := by simp [evE]
@[simp] theorem T_bin {o : Op} {a b : E} : T (evE call (.bin o a b) ρ S) φ ↔ T (evE call a ρ S) fun x S => T (evE call b ρ S) fun y S => ∃ z, binV o x y = some z ∧ φ z S := by simp [evE]
@[simp] theorem T_neg {a : E} : T (evE call (.neg a) ρ S) φ ↔ T (evE call a ρ S) fun x S => ∃ i, x = .int i ∧ φ (.int (-i)) S := by
  simp only [evE, T_bind]
  constructor
  · intro h
    refine h.mono fun x S q => ?_
    cases x <;> first | (cases q.choose_spec.choose_spec.1; done) | skip
    exact ⟨_, rfl, T_pure.mp q⟩
  · intro h
    refine h.mono fun x S ⟨i, e, q⟩ => ?_
    subst e
    exact T_pure.mpr q
@[simp] theorem T_not {a : E} : T (evE call (.notE a) ρ S) φ ↔ T (evE call a ρ S) fun x S => ∃ t, truP S x = some t ∧ φ (.bl !t) S := by simp [evE]
@[simp] theorem T_and {a b : E} : T (evE call (.andE a b) ρ S) φ ↔ T (evE call a ρ S) fun x S => ∃ t, truP S x = some t ∧ if t = true then T (evE call b ρ S) φ else φ x S := by simp [evE, T_ite]
@[simp] theorem T_or {a b : E} : T (evE call (.orE a b) ρ S) φ ↔ T (evE call a ρ S) fun x S => ∃ t, truP S x = some t ∧ if t = true then φ x S else T (evE call b ρ S) φ := by simp [evE, T_ite]
@[simp] theorem T_cmp {o : Cm} {a b : E} : T (evE call (.cmp o a b) ρ S) φ ↔ T (evE call a ρ S) fun x S => T (evE call b ρ S) fun y S => ∃ t, cmpV o x y = some t ∧ φ (.bl t) S := by simp [evE]
@[simp] theorem T_chain {o p : Cm} {a b c : E} : T (evE call (.chain o p a b c) ρ S) φ ↔ T (evE call a ρ S) fun x S => T (evE call b ρ S) fun y S => ∃ t, cmpV o x y = some t ∧ if t = true then T (evE call c ρ S) fun z S => ∃ t, cmpV p y z = some t ∧ φ (.bl t) S else φ (.bl false) S := by simp [evE, T_ite]
@[simp] theorem T_ifE {c a b : E} : T (evE call (.ifE c a b) ρ S) φ ↔ T (evE call c ρ S) fun x S => ∃ t, truP S x = some t ∧ if t = true then T (evE call a ρ S) φ else T (evE call b ρ S) φ := by simp [evE, T_ite]
@[simp] theorem T_idx {a b : E} : T (evE call (.idx a b) ρ S) φ ↔ T (evE call a ρ S) fun x S => T (evE call b ρ S) fun y S => ∃ x', peekP S x = some x' ∧ ∃ z, idxV x' y = some z ∧ φ z S := by simp [evE]
@[simp] theorem T_sl {a lo hi : E} {l h : Bool} : T (evE call (.sl a l lo h hi) ρ S) φ ↔ T (evE call a ρ S) fun x S => T ((if l = true then evE call lo ρ else M.pure .non) S) fun y S => ∃ y', partM l y = some y' ∧ T ((if h = true then evE call hi ρ else M.pure .non) S) fun z S => ∃ z', partM h z = some z' ∧ ∃ x', peekP S x = some x' ∧ ∃ z, slV x' y' z' = some z ∧ φ z S := by simp [evE]
@[simp] theorem T_call {f : Nat} {es : List E} : T (evE call (.call f es) ρ S) φ ↔ T (evEs call es ρ S) fun ds S => T (call f ds S) φ := by simp [evE]
@[simp] theorem T_bi {b : Bi} {es : List E} : T (evE call (.bi b es) ρ S) φ ↔ T (evEs call es ρ S) fun ds S => T (biM b ds S) φ := by simp [evE]
@[simp] theorem T_isi {a : E} {t : Ty} : T (evE call (.isi a t) ρ S) φ ↔ T (evE call a ρ S) fun x S => ∃ x', peekP S x = some x' ∧ ∃ b, isiV x' t = some b ∧ φ (.bl b) S := by simp [evE]
@[simp] theorem T_nils {φ : List D → Store → Prop} : T (evEs call [] ρ S) φ ↔ φ [] S := by simp [evEs]
@[simp] theorem T_conss {e : E} {es : List E} {φ : List D → Store → Prop} : T (evEs call (e :: es) ρ S) φ ↔ T (evE call e ρ S) fun d S => T (evEs call es ρ S) fun ds S => φ (d :: ds) S := by simp [evEs]
@[simp] theorem T_evT {e : E} {φ : Bool → Store → Prop} : T (evT call e ρ S) φ ↔ T (evE call e ρ S) fun d S => ∃ b, truP S d = some b ∧ φ b S := by simp [evT]
theorem T_comp {vs : List Nat} {tg : Tg} {k : Sk} {src conds : List E} {elt : E} : T (evE call (.comp vs tg k src conds elt) ρ S) φ ↔ T (evEs call src ρ S) fun ds S => ∃ sc, srcOf k ds = some sc ∧ T (compM (fun d => match asg tg d (wipeD ρ vs) with
        | some ρ' => noX (M.bind (evTs call conds ρ') fun t => if t then M.bind (evE call elt ρ') fun y => M.pure (some y) else M.pure none)
        | none => stuck) sc S) fun ds S => φ (.lst ds) S := by
  simp only [evE, T_bind, T_opt, T_pure]
  try exact Iff.rfl
end
section
variable {call : Nat → List D → M D} {ρ : Env} {S : Store} {φ : Fl × Env → Store → Prop}
@[simp] theorem X_nil : T (exSs call [] ρ S) φ ↔ φ (.nx, ρ) S := by simp [exSs]
theorem X_cons {s : Ev.S} {ss : List Ev.S} : T (exSs call (s :: ss) ρ S) φ ↔ T (exS call s ρ S) fun r S => match r.1 with
    | .nx => T (exSs call ss r.2 S) φ
    | _ => φ r S := by
  simp only [exSs, T_bind]
  constructor
  · intro h
    refine h.mono fun r S q => ?_
    obtain ⟨f, ρ'⟩ := r
    cases f <;> first | exact q | exact T_pure.mp q
  · intro h
    refine h.mono fun r S q => ?_
    obtain ⟨f, ρ'⟩ := r
    cases f <;> first | exact q | exact T_pure.mpr q
theorem X_set {tg : Tg} {e : E} : T (exS call (.set tg e) ρ S) φ ↔ T (evE call e ρ S) fun d S => ∃ ρ', asg tg d ρ = some ρ' ∧ φ (.nx, ρ') S := by
  simp only [exS, T_bind]
  constructor
  · intro h
    refine h.mono fun d S q => ?_
    cases e : asg tg d ρ with
    | none =>
      rw [e] at q
      exact (T_stuck.mp q).elim
    | some ρ' =>
      rw [e] at q
      exact ⟨ρ', rfl, T_pure.mp q⟩
  · intro h
    refine h.mono fun d S ⟨ρ', e, q⟩ => ?_
    rw [e]
    exact T_pure.mpr q
theorem X_par {i j : Nat} {a b : E} : T (exS call (.par i j a b) ρ S) φ ↔ T (evE call a ρ S) fun x S => T (evE call b ρ S) fun y S => φ (.nx, (ρ.set i (some x)).set j (some y)) S := by simp [exS]
theorem X_par3 {i j l : Nat} {a b c : E} : T (exS call (.par3 i j l a b c) ρ S) φ ↔ T (evE call a ρ S) fun x S => T (evE call b ρ S) fun y S => T (evE call c ρ S) fun z S => φ (.nx, ((ρ.set l (some z)).set j (some y)).set i (some x)) S := by simp [exS]
theorem X_setI {o i e : E} : T (exS call (.setI o i e) ρ S) φ ↔ T (evE call e ρ S) fun v S => T (evE call o ρ S) fun x S => T (evE call i ρ S) fun y S => T (setIM x y v S) fun _ S => φ (.nx, ρ) S := by simp [exS]
theorem X_ex {e : E} : T (exS call (.ex e) ρ S) φ ↔ T (evE call e ρ S) fun _ S => φ (.nx, ρ) S := by simp [exS]
theorem X_ret {e : E} : T (exS call (.ret e) ρ S) φ ↔ T (evE call e ρ S) fun d S => φ (.rt d, ρ) S := by simp [exS]
theorem X_retN : T (exS call .retN ρ S) φ ↔ φ (.rt .non, ρ) S := by simp [exS]
theorem X_if {c : E} {a b : List Ev.S} : T (exS call (.ifS c a b) ρ S) φ ↔ T (evE call c ρ S) fun d S => ∃ t, truP S d = some t ∧ if t = true then T (exSs call a ρ S) φ else T (exSs call b ρ S) φ := by simp [exS, T_ite]
theorem X_for {tg : Tg} {k : Sk} {src : List E} {body : List Ev.S} : T (exS call (.forS tg k src body) ρ S) φ ↔ T (evEs call src ρ S) fun ds S => ∃ sc, srcOf k ds = some sc ∧ T (loopM (fun d ρ => match asg tg d ρ with
        | some ρ' => exSs call body ρ'
        | none => stuck) sc ρ S) φ := by
  simp only [exS, T_bind, T_opt]
  try exact Iff.rfl
theorem X_while {c : E} {body : List Ev.S} : T (exS call (.whileS c body) ρ S) φ ↔ T (whileM (evT call c) (exSs call body) ρ S) φ := by simp [exS]
end
/-! ### calls -/
theorem T_callV {prog : Nat → Option Fd} {k f : Nat} {ds : List D} {S : Store} {φ : D → Store → Prop} {fd : Fd} (h : prog f = some fd) (hl : ds.length = fd.np) :
    T (callV prog (k + 1) f ds S) φ ↔ T (exSs (callV prog k) fd.body (ds.map some ++ List.replicate (fd.n - fd.np) none) S) fun r S => match r.1 with
      | .rt d => φ d S
      | .nx => φ .non S
      | _ => False := by
  show T ((match prog f with
    | some fd => if ds.length = fd.np then M.bind (exSs (callV prog k) fd.body (ds.map some ++ List.replicate (fd.n - fd.np) none)) outM else stuck
    | none => stuck) S) φ ↔ _
  rw [h]
  dsimp only
  rw [if_pos hl, T_bind]
  constructor
  · intro h
    refine h.mono fun r S q => ?_
    obtain ⟨fl, ρ⟩ := r
    cases fl
    · exact T_pure.mp q
    · exact T_pure.mp q
    · exact (T_none.mp q).elim
    · exact (T_none.mp q).elim
  · intro h
    refine h.mono fun r S q => ?_
    obtain ⟨fl, ρ⟩ := r
    cases fl
    · exact T_pure.mpr q
    · exact T_pure.mpr q
    · exact q.elim
    · exact q.elim
/-! ### loops -/
theorem T_loopL_nil {turn : D → Env → M (Fl × Env)} {ρ : Env} {S : Store} {φ : Fl × Env → Store → Prop} : T (loopL turn [] ρ S) φ ↔ φ (.nx, ρ) S := T_pure
theorem T_loopL_cons {turn : D → Env → M (Fl × Env)} {d : D} {ds : List D} {ρ : Env} {S : Store} {φ : Fl × Env → Store → Prop} : T (loopL turn (d :: ds) ρ S) φ ↔ T (turn d ρ S) fun r S => match r.1 with
    | .nx => T (loopL turn ds r.2 S) φ
    | .ct => T (loopL turn ds r.2 S) φ
    | .bk => φ (.nx, r.2) S
    | .rt v => φ (.rt v, r.2) S := by
  show T (M.bind (turn d ρ) _ S) φ ↔ _
  rw [T_bind]
  constructor
  · intro h
    refine h.mono fun r S q => ?_
    obtain ⟨f, ρ'⟩ := r
    cases f <;> first | exact q | exact T_pure.mp q
  · intro h
    refine h.mono fun r S q => ?_
    obtain ⟨f, ρ'⟩ := r
    cases f <;> first | exact q | exact T_pure.mpr q
/-- a loop over items by an invariant; some turn may return -/
theorem loop_inv {turn : D → Env → M (Fl × Env)} {φ : Fl × Env → Store → Prop} (I : List D → Env → Store → Prop)
    (h : ∀ d ds ρ S, I (d :: ds) ρ S → T (turn d ρ S) fun r S' => match r.1 with
      | .nx => I ds r.2 S'
      | .ct => I ds r.2 S'
      | .bk => φ (.nx, r.2) S'
      | .rt v => φ (.rt v, r.2) S') (hn : ∀ ρ S, I [] ρ S → φ (.nx, ρ) S) : ∀ ds ρ S, I ds ρ S → T (loopL turn ds ρ S) φ
  | [], ρ, S, i => T_loopL_nil.mpr (hn ρ S i)
  | d :: ds, ρ, S, i => by
    rw [T_loopL_cons]
    refine (h d ds ρ S i).mono fun r S' q => ?_
    obtain ⟨f, ρ'⟩ := r
    cases f
    · exact loop_inv I h hn ds ρ' S' q
    · exact q
    · exact q
    · exact loop_inv I h hn ds ρ' S' q
theorem T_while {c : Env → M Bool} {b : Env → M (Fl × Env)} {ρ : Env} {S : Store} {φ : Fl × Env → Store → Prop} : T (whileM c b ρ S) φ ↔ T (c ρ S) fun t S => if t = true then T (b ρ S) fun r S => match r.1 with
    | .nx => T (whileM c b r.2 S) φ
    | .ct => T (whileM c b r.2 S) φ
    | .bk => φ (.nx, r.2) S
    | .rt v => φ (.rt v, r.2) S
    else φ (.nx, ρ) S := by
  rw [whileM.eq_1]
  cases e : c ρ S with
  | none => simp
  | some q =>
    cases q with
    | ex x S' =>
      constructor
      · rintro ⟨_, _, e, _⟩
        cases e
      · rintro ⟨_, _, e, _⟩
        cases e
    | ok t S1 =>
      rw [T_some]
      cases t with
      | false =>
        dsimp only
        rw [T_some]
        simp
      | true =>
        dsimp only
        rw [if_pos rfl]
        cases e2 : b ρ S1 with
        | none => simp
        | some q =>
          cases q with
          | ex x S' =>
            constructor
            · rintro ⟨_, _, e, _⟩
              cases e
            · rintro ⟨_, _, e, _⟩
              cases e
          | ok o S' =>
            obtain ⟨f, ρ'⟩ := o
            rw [T_some]
            cases f <;> first | exact Iff.rfl | exact T_some
/-- a comprehension by what each item gives -/
theorem compL_inv {f : D → M (Option D)} {φ : List D → Store → Prop} (I : List D → List D → Store → Prop)
    (h : ∀ d ds acc S, I (d :: ds) acc S → T (f d S) fun o S' => match o with
      | none => I ds acc S'
      | some y => acc.length < sizeMax ∧ I ds (acc ++ [y]) S') (hn : ∀ acc S, I [] acc S → φ acc S) : ∀ ds acc S, I ds acc S → T (compL f ds acc S) φ
  | [], acc, S, i => T_pure.mpr (hn acc S i)
  | d :: ds, acc, S, i => by
    show T (M.bind (f d) _ S) φ
    rw [T_bind]
    refine (h d ds acc S i).mono fun o S' q => ?_
    cases o with
    | none => exact compL_inv I h hn ds acc S' q
    | some y =>
      dsimp only
      rw [if_pos q.1]
      exact compL_inv I h hn ds (acc ++ [y]) S' q.2
/-- each item gives one, the store left as it is -/
theorem compL_map {f : D → M (Option D)} {g : D → D} {S : Store} : ∀ (ds acc : List D), acc.length + ds.length ≤ sizeMax → (∀ d ∈ ds, f d S = some (.ok (some (g d)) S)) → compL f ds acc S = some (.ok (acc ++ ds.map g) S)
  | [], acc, _, _ => by
    rw [List.map_nil, List.append_nil]
    rfl
  | d :: ds, acc, hz, h => by
    show M.bind (f d) _ S = _
    unfold M.bind
    rw [h d List.mem_cons_self]
    dsimp only
    rw [List.length_cons] at hz
    rw [if_pos (by omega), compL_map ds (acc ++ [g d]) (by rw [List.length_append, List.length_singleton]; omega) fun d' hd => h d' (List.mem_cons_of_mem _ hd)]
    rw [List.map_cons, List.append_assoc]
    rfl
end Ev
set_option linter.all false
set_option maxRecDepth 100000
set_option maxHeartbeats 1000000
namespace Ev
open PySem
/-! ### values and what is done with them -/
theorem T_eq {α : Type} {r : Option (Rs α)} {x : α} {S : Store} (h : T r fun a S' => a = x ∧ S' = S) : r = some (.ok x S) := by
  obtain ⟨a, S', e, rfl, rfl⟩ := h
  exact e
theorem T_of {α : Type} {r : Option (Rs α)} {x : α} {S : Store} {φ : α → Store → Prop} (h : r = some (.ok x S)) : T r φ ↔ φ x S := by rw [h, T_some]
/-- no reference, at the top -/
def nr : D → Bool
  | .ref _ => false
  | _ => true
@[simp] theorem peek_tup {S : Store} {ds : List D} : peekP S (.tup ds) = some (.tup ds) := rfl
@[simp] theorem peek_lst {S : Store} {ds : List D} : peekP S (.lst ds) = some (.lst ds) := rfl
@[simp] theorem peek_fro {S : Store} {ds : List D} : peekP S (.fro ds) = some (.fro ds) := rfl
@[simp] theorem peek_int {S : Store} {i : Int} : peekP S (.int i) = some (.int i) := rfl
@[simp] theorem peek_bl {S : Store} {i : Bool} : peekP S (.bl i) = some (.bl i) := rfl
@[simp] theorem peek_str {S : Store} {i : Str} : peekP S (.str i) = some (.str i) := rfl
@[simp] theorem peek_non {S : Store} : peekP S .non = some .non := rfl
@[simp] theorem peek_dic {S : Store} : peekP S .dic = some .dic := rfl
theorem peek_nr {S : Store} {d : D} (h : nr d = true) : peekP S d = some d := by
  cases d <;> first | rfl | cases h
theorem peek_ref {S : Store} {n : Nat} {ds : List D} (h : S[n]? = some (.lst ds)) : peekP S (.ref n) = some (.lst ds) := by
  show (match S[n]? with
    | some (.lst ds) => some (D.lst ds)
    | none => none) = _
  rw [h]
@[simp] theorem tru_bl {S : Store} {b : Bool} : truP S (.bl b) = some b := rfl
@[simp] theorem tru_int {S : Store} {i : Int} : truP S (.int i) = some (i != 0) := rfl
@[simp] theorem tru_tup {S : Store} {ds : List D} : truP S (.tup ds) = some (!ds.isEmpty) := rfl
@[simp] theorem tru_lst {S : Store} {ds : List D} : truP S (.lst ds) = some (!ds.isEmpty) := rfl
@[simp] theorem tru_non {S : Store} : truP S .non = some false := rfl
theorem T_biR {b : Bi} {d : D} {S : Store} {φ : D → Store → Prop} (h : biReads b = true) : T (biM b [d] S) φ ↔ ∃ d', peekP S d = some d' ∧ ∃ z, biV b [d'] = some z ∧ φ z S := by
  unfold biM
  dsimp only
  rw [if_pos h]
  simp
theorem T_biN {b : Bi} {d : D} {S : Store} {φ : D → Store → Prop} (h : biReads b = false) : T (biM b [d] S) φ ↔ ∃ z, biV b [d] = some z ∧ φ z S := by
  unfold biM
  dsimp only
  rw [if_neg (by rw [h]; decide)]
  simp
@[simp] theorem T_len {d : D} {S : Store} {φ : D → Store → Prop} : T (biM .len [d] S) φ ↔ ∃ d', peekP S d = some d' ∧ ∃ n, lenV d' = some n ∧ φ (.int (n : Nat)) S := by
  rw [T_biR rfl]
  simp only [biV, one1, Option.map_eq_some_iff]
  constructor
  · rintro ⟨d', h1, z, ⟨n, h2, rfl⟩, h3⟩
    exact ⟨d', h1, n, h2, h3⟩
  · rintro ⟨d', h1, n, h2, h3⟩
    exact ⟨d', h1, _, ⟨n, h2, rfl⟩, h3⟩
@[simp] theorem T_tuple {d : D} {S : Store} {φ : D → Store → Prop} : T (biM .tuple [d] S) φ ↔ ∃ d', peekP S d = some d' ∧ ∃ n, itemsV d' = some n ∧ φ (.tup n) S := by
  rw [T_biR rfl]
  simp only [biV, one1, Option.map_eq_some_iff]
  constructor
  · rintro ⟨d', h1, z, ⟨n, h2, rfl⟩, h3⟩
    exact ⟨d', h1, n, h2, h3⟩
  · rintro ⟨d', h1, n, h2, h3⟩
    exact ⟨d', h1, _, ⟨n, h2, rfl⟩, h3⟩
@[simp] theorem T_list {d : D} {S : Store} {φ : D → Store → Prop} : T (biM .list [d] S) φ ↔ ∃ d', peekP S d = some d' ∧ ∃ n, itemsV d' = some n ∧ φ (.lst n) S := by
  rw [T_biR rfl]
  simp only [biV, one1, Option.map_eq_some_iff]
  constructor
  · rintro ⟨d', h1, z, ⟨n, h2, rfl⟩, h3⟩
    exact ⟨d', h1, n, h2, h3⟩
  · rintro ⟨d', h1, n, h2, h3⟩
    exact ⟨d', h1, _, ⟨n, h2, rfl⟩, h3⟩
@[simp] theorem T_any {d : D} {S : Store} {φ : D → Store → Prop} : T (biM .any [d] S) φ ↔ ∃ d', peekP S d = some d' ∧ ∃ z, anyV d' = some z ∧ φ z S := by
  rw [T_biR rfl]
  simp [biV, one1]
@[simp] theorem T_all {d : D} {S : Store} {φ : D → Store → Prop} : T (biM .all [d] S) φ ↔ ∃ d', peekP S d = some d' ∧ ∃ z, allV d' = some z ∧ φ z S := by
  rw [T_biR rfl]
  simp [biV, one1]
@[simp] theorem T_max {d : D} {S : Store} {φ : D → Store → Prop} : T (biM .max [d] S) φ ↔ ∃ d', peekP S d = some d' ∧ ∃ z, maxV d' = some z ∧ φ z S := by
  rw [T_biR rfl]
  simp [biV, one1]
@[simp] theorem T_min {d : D} {S : Store} {φ : D → Store → Prop} : T (biM .min [d] S) φ ↔ ∃ d', peekP S d = some d' ∧ ∃ z, minV d' = some z ∧ φ z S := by
  rw [T_biR rfl]
  simp [biV, one1]
@[simp] theorem T_abs {i : Int} {S : Store} {φ : D → Store → Prop} : T (biM .abs [.int i] S) φ ↔ φ (.int (if i < 0 then -i else i)) S := by
  rw [T_biN rfl]
  simp [biV, one1, absV]
@[simp] theorem T_int {i : Int} {S : Store} {φ : D → Store → Prop} : T (biM .int [.int i] S) φ ↔ φ (.int i) S := by
  rw [T_biN rfl]
  simp [biV, one1, intV]
@[simp] theorem T_repr {d : D} {S : Store} {φ : D → Store → Prop} : T (biM .repr [d] S) φ ↔ ∃ z, reprV d = some z ∧ φ z S := by
  rw [T_biN rfl]
  simp [biV, one1]
@[simp] theorem T_max2 {i j : Int} {S : Store} {φ : D → Store → Prop} : T (biM .max2 [.int i, .int j] S) φ ↔ φ (.int (if j > i then j else i)) S := by
  show T (opt (biV .max2 [.int i, .int j]) S) φ ↔ _
  simp [biV, two2]
@[simp] theorem T_min2 {i j : Int} {S : Store} {φ : D → Store → Prop} : T (biM .min2 [.int i, .int j] S) φ ↔ φ (.int (if j < i then j else i)) S := by
  show T (opt (biV .min2 [.int i, .int j]) S) φ ↔ _
  simp [biV, two2]
/-! #### ints -/
@[simp] theorem bin_add {i j : Int} : binV .add (.int i) (.int j) = some (.int (i + j)) := rfl
@[simp] theorem bin_sub {i j : Int} : binV .sub (.int i) (.int j) = some (.int (i - j)) := rfl
@[simp] theorem bin_mul {i j : Int} : binV .mul (.int i) (.int j) = liftD (mulOk i j) (.int (i * j)) := rfl
@[simp] theorem bin_fdiv {i j : Int} : binV .fdiv (.int i) (.int j) = liftD (decide (j ≠ 0) && decide (j.natAbs < 1073741824)) (.int (i.fdiv j)) := rfl
@[simp] theorem bin_mod {i j : Int} : binV .mod (.int i) (.int j) = liftD (decide (j ≠ 0)) (.int (i.fmod j)) := rfl
@[simp] theorem bin_pow {i j : Int} : binV .pow (.int i) (.int j) = liftD (decide (0 ≤ j) && decide (j ≤ 1000000) && decide (i.natAbs < 2 ^ 64)) (.int (i ^ j.toNat)) := rfl
@[simp] theorem bin_addT {a b : List D} : binV .add (.tup a) (.tup b) = liftD (decide (a.length + b.length ≤ sizeMax)) (.tup (a ++ b)) := rfl
@[simp] theorem bin_addL {a b : List D} : binV .add (.lst a) (.lst b) = liftD (decide (a.length + b.length ≤ sizeMax)) (.lst (a ++ b)) := rfl
@[simp] theorem bin_mulT {a : List D} {k : Int} : binV .mul (.tup a) (.int k) = liftD (repOk a.length k) (.tup (listRep a k)) := rfl
@[simp] theorem bin_mulL {a : List D} {k : Int} : binV .mul (.lst a) (.int k) = liftD (repOk a.length k) (.lst (listRep a k)) := rfl
@[simp] theorem aug_add {i j : Int} : augV .add (.int i) (.int j) = some (.int (i + j)) := rfl
@[simp] theorem aug_sub {i j : Int} : augV .sub (.int i) (.int j) = some (.int (i - j)) := rfl
theorem mulOk_r {i j : Int} (h : -(2 ^ 64) < j) (h2 : j < 2 ^ 64) : mulOk i j = true := by
  unfold mulOk
  rw [decide_eq_true h, decide_eq_true h2]
  simp
theorem mulOk_l {i j : Int} (h : -(2 ^ 64) < i) (h2 : i < 2 ^ 64) : mulOk i j = true := by
  unfold mulOk
  rw [decide_eq_true h, decide_eq_true h2]
  simp
@[simp] theorem cmp_lt {i j : Int} : cmpV .lt (.int i) (.int j) = some (decide (i < j)) := rfl
@[simp] theorem cmp_le {i j : Int} : cmpV .le (.int i) (.int j) = some (decide (i ≤ j)) := rfl
@[simp] theorem cmp_gt {i j : Int} : cmpV .gt (.int i) (.int j) = some (decide (j < i)) := rfl
@[simp] theorem cmp_ge {i j : Int} : cmpV .ge (.int i) (.int j) = some (decide (j ≤ i)) := rfl
@[simp] theorem cmp_eq {a b : D} : cmpV .eq a b = eqD a b := by cases a <;> cases b <;> rfl
@[simp] theorem cmp_ne {a b : D} : cmpV .ne a b = (eqD a b).map (!·) := by cases a <;> cases b <;> rfl
@[simp] theorem cmp_isN {a : D} : cmpV .isN a .non = some (isNon a) := by cases a <;> rfl
@[simp] theorem cmp_notN {a : D} : cmpV .notN a .non = some (!isNon a) := by cases a <;> rfl
@[simp] theorem eqD_int {i j : Int} : eqD (.int i) (.int j) = some (decide (i = j)) := by
  show (if min 0 0 ≤ 60 then some (i == j) else none) = _
  rw [if_pos (by decide)]
  by_cases h : i = j <;> simp [h]
theorem eqD_str {i j : Str} : eqD (.str i) (.str j) = some (decide (i = j)) := by
  show (if min 0 0 ≤ 60 then some (i == j) else none) = _
  rw [if_pos (by decide)]
  by_cases h : i = j <;> simp [h]
/-! #### tuples of ints -/
abbrev ti (xs : List Int) : D := .tup (xs.map .int)
@[simp] theorem toPsI_ : ∀ xs : List Int, toPs (xs.map .int) = some (xs.map .int)
  | [] => rfl
  | x :: xs => by
    show (match toP (.int x), toPs (xs.map .int) with
      | some p, some ps => some (p :: ps)
      | _, _ => none) = _
    rw [toPsI_ xs]
    rfl
theorem depthI_ : ∀ xs : List Int, PyData.depthAll (xs.map .int) = 0
  | [] => by simp [PyData.depthAll]
  | x :: xs => by
    rw [List.map_cons, PyData.depthAll, depthI_ xs]
    simp [PyData.depth]
theorem eqvI_ : ∀ xs ys : List Int, PyData.eqvAll (xs.map .int) (ys.map .int) = decide (xs = ys)
  | [], [] => by simp [PyData.eqvAll]
  | [], _ :: _ => by simp [PyData.eqvAll]
  | _ :: _, [] => by simp [PyData.eqvAll]
  | x :: xs, y :: ys => by
    rw [List.map_cons, List.map_cons, PyData.eqvAll, eqvI_ xs ys, PyData.eqv]
    by_cases h1 : x = y <;> by_cases h2 : xs = ys <;> simp [h1, h2]
theorem toP_ti {xs : List Int} : toP (ti xs) = some (.tuple (xs.map .int)) := by
  show (toPs (xs.map D.int)).map PyData.tuple = _
  rw [toPsI_]
  rfl
@[simp] theorem eqD_ti {xs ys : List Int} : eqD (.tup (xs.map .int)) (.tup (ys.map .int)) = some (decide (xs = ys)) := by
  unfold eqD
  rw [toP_ti, toP_ti]
  dsimp only
  rw [if_pos (by rw [PyData.depth, depthI_]; omega), PyData.eqv, eqvI_]
theorem eqD_li {xs ys : List Int} : eqD (.lst (xs.map .int)) (.lst (ys.map .int)) = some (decide (xs = ys)) := by
  have e : ∀ xs : List Int, toP (.lst (xs.map .int)) = some (.list (xs.map .int)) := fun xs => by
    show (toPs (xs.map D.int)).map PyData.list = _
    rw [toPsI_]
    rfl
  unfold eqD
  rw [e, e]
  dsimp only
  rw [if_pos (by rw [PyData.depth, depthI_]; omega), PyData.eqv, eqvI_]
/-- a row: head, ring -/
abbrev rw_ (h r : List Int) : D := .tup [ti h, ti r]
theorem toP_rw {h r : List Int} : toP (rw_ h r) = some (.tuple [.tuple (h.map .int), .tuple (r.map .int)]) := by
  show (toPs [ti h, ti r]).map PyData.tuple = _
  have e : toPs [ti h, ti r] = some [.tuple (h.map .int), .tuple (r.map .int)] := by
    show (match toP (ti h), (match toP (ti r), toPs [] with
      | some p, some ps => some (p :: ps)
      | _, _ => none) with
      | some p, some ps => some (p :: ps)
      | _, _ => none) = _
    rw [toP_ti, toP_ti]
    rfl
  rw [e]
  rfl
theorem eqD_rw {h r h' r' : List Int} : eqD (rw_ h r) (rw_ h' r') = some (decide (h = h' ∧ r = r')) := by
  unfold eqD
  rw [toP_rw, toP_rw]
  dsimp only
  have d : ∀ h r : List Int, (PyData.tuple [.tuple (h.map .int), .tuple (r.map .int)]).depth = 2 := fun h r => by
    simp [PyData.depth, PyData.depthAll, depthI_]
  rw [d, d, if_pos (by decide), PyData.eqv, PyData.eqvAll, PyData.eqvAll, PyData.eqvAll, PyData.eqv, PyData.eqv, eqvI_, eqvI_]
  by_cases h1 : h = h' <;> by_cases h2 : r = r' <;> simp [h1, h2]
@[simp] theorem len_tup {ds : List D} : lenV (.tup ds) = some ds.length := rfl
@[simp] theorem len_lst {ds : List D} : lenV (.lst ds) = some ds.length := rfl
@[simp] theorem len_fro {ds : List D} : lenV (.fro ds) = some ds.length := rfl
@[simp] theorem items_tup {ds : List D} : itemsV (.tup ds) = some ds := rfl
@[simp] theorem items_lst {ds : List D} : itemsV (.lst ds) = some ds := rfl
@[simp] theorem items_fro {ds : List D} : itemsV (.fro ds) = some ds := rfl
@[simp] theorem idx_tup {ds : List D} {i : Int} : idxV (.tup ds) (.int i) = L2.atI ds i := rfl
@[simp] theorem idx_lst {ds : List D} {i : Int} : idxV (.lst ds) (.int i) = L2.atI ds i := rfl
@[simp] theorem idx_fro {ds : List D} {i : Int} : idxV (.fro ds) (.int i) = L2.atI ds i := rfl
@[simp] theorem sl_tup {ds : List D} {lo hi : Option Int} : slV (.tup ds) lo hi = some (.tup (cutD ds lo hi)) := rfl
@[simp] theorem sl_lst {ds : List D} {lo hi : Option Int} : slV (.lst ds) lo hi = some (.lst (cutD ds lo hi)) := rfl
@[simp] theorem sl_fro {ds : List D} {lo hi : Option Int} : slV (.fro ds) lo hi = some (.lst (cutD ds lo hi)) := rfl
@[simp] theorem part_f {d : D} : partM false d = some none := rfl
@[simp] theorem part_t {i : Int} : partM true (.int i) = some (some i) := rfl
theorem at_map {α β : Type} (f : α → β) (xs : List α) (i : Int) : L2.atI (xs.map f) i = (L2.atI xs i).map f := by
  unfold L2.atI
  rw [List.length_map]
  cases L2.ixN xs.length i with
  | none => rfl
  | some j => simp
theorem at_nat {α : Type} {xs : List α} {n : Nat} : L2.atI xs (n : Int) = xs[n]? := by
  unfold L2.atI L2.ixN
  rw [if_pos (by omega)]
  by_cases h : n < xs.length
  · rw [if_pos (by omega)]
    simp
  · rw [if_neg (by omega)]
    simp
    omega
theorem at_last {α : Type} {xs : List α} : L2.atI xs (-1) = xs.getLast? := by
  unfold L2.atI L2.ixN
  rw [if_neg (by decide), List.getLast?_eq_getElem?]
  cases xs with
  | nil => rfl
  | cons x xs =>
    rw [if_pos (by rw [List.length_cons]; omega)]
    show (x :: xs)[(-1 + (((x :: xs).length : Nat) : Int)).toNat]? = _
    congr 1
    omega
theorem at_back {α : Type} {xs : List α} {n : Nat} (h : 0 < n) (h2 : n ≤ xs.length) : L2.atI xs (-(n : Int)) = xs[xs.length - n]? := by
  unfold L2.atI L2.ixN
  rw [if_neg (by omega), if_pos (by omega)]
  show xs[(-(n : Int) + (xs.length : Int)).toNat]? = _
  congr 1
  omega
@[simp] theorem at_0 {α : Type} {x : α} {xs : List α} : L2.atI (x :: xs) 0 = some x := at_nat (n := 0)
@[simp] theorem at_1 {α : Type} {x y : α} {xs : List α} : L2.atI (x :: y :: xs) 1 = some y := at_nat (n := 1)
@[simp] theorem at_2 {α : Type} {x y z : α} {xs : List α} : L2.atI (x :: y :: z :: xs) 2 = some z := at_nat (n := 2)
@[simp] theorem at_3 {α : Type} {x y z a : α} {xs : List α} : L2.atI (x :: y :: z :: a :: xs) 3 = some a := at_nat (n := 3)
@[simp] theorem at_4 {α : Type} {x y z a b : α} {xs : List α} : L2.atI (x :: y :: z :: a :: b :: xs) 4 = some b := at_nat (n := 4)
def cutL {α : Type} (xs : List α) (lo hi : Option Int) : List α := (xs.drop (HT.sIx xs.length 0 lo)).take (HT.sIx xs.length xs.length hi - HT.sIx xs.length 0 lo)
theorem cut_map (xs : List Int) (lo hi : Option Int) : cutD (xs.map .int) lo hi = (cutL xs lo hi).map .int := by
  unfold cutD cutL
  rw [List.length_map, List.map_take, List.map_drop]
theorem cutD_eq (xs : List D) (lo hi : Option Int) : cutD xs lo hi = cutL xs lo hi := rfl
section
variable {α : Type} {xs : List α}
theorem cut_to {n : Nat} : cutL xs none (some (n : Int)) = xs.take n := by
  unfold cutL
  rw [HT.sIx_nat, HT.sIx_none, List.drop_zero, Nat.sub_zero]
  by_cases h : n ≤ xs.length
  · rw [Nat.min_eq_left h]
  · rw [Nat.min_eq_right (by omega), List.take_length, List.take_of_length_le (by omega)]
theorem cut_from {n : Nat} : cutL xs (some (n : Int)) none = xs.drop n := by
  unfold cutL
  rw [HT.sIx_nat, HT.sIx_none]
  by_cases h : n ≤ xs.length
  · rw [Nat.min_eq_left h, List.take_of_length_le (by rw [List.length_drop]; omega)]
  · rw [Nat.min_eq_right (by omega), Nat.sub_self, List.take_zero, List.drop_of_length_le (by omega)]
theorem sIx_neg {n d : Nat} : HT.sIx n d (some (-1)) = n - 1 := by
  show (if (-1 : Int) < 0 then ((-1 : Int) + (n : Int)).toNat else min (-1 : Int).toNat n) = _
  rw [if_pos (by decide)]
  omega
theorem cut_front : cutL xs none (some (-1)) = xs.dropLast := by
  unfold cutL
  rw [HT.sIx_none, List.drop_zero, Nat.sub_zero, List.dropLast_eq_take, sIx_neg]
theorem cut_end : cutL xs (some (-1)) none = xs.drop (xs.length - 1) := by
  unfold cutL
  rw [HT.sIx_none, sIx_neg, List.take_of_length_le]
  rw [List.length_drop]
  exact Nat.le_refl _
theorem cut_all : cutL xs none none = xs := by
  unfold cutL
  rw [HT.sIx_none, HT.sIx_none, List.drop_zero, Nat.sub_zero, List.take_length]
end
theorem rep_map (xs : List Int) (k : Int) : listRep (xs.map D.int) k = (listRep xs k).map .int := by
  unfold listRep
  induction k.toNat with
  | zero => rfl
  | succ n ih => rw [List.replicate_succ, List.replicate_succ, List.flatten_cons, List.flatten_cons, List.map_append, ih]
theorem rep_len {α : Type} (xs : List α) (k : Int) : (listRep xs k).length = xs.length * k.toNat := by
  unfold listRep
  induction k.toNat with
  | zero => simp
  | succ n ih => rw [List.replicate_succ, List.flatten_cons, List.length_append, ih, Nat.mul_succ]; omega
/-! #### loops' sources, targets -/
@[simp] theorem ex_rng1 {j : Int} {φ : Src → Prop} : (∃ sc, srcOf .rng1 [.int j] = some sc ∧ φ sc) ↔ inRg j = true ∧ φ (.items (rangeD 0 j.toNat)) := by
  show (∃ sc, (if inRg j = true then some (Src.items (rangeD 0 j.toNat)) else none) = some sc ∧ φ sc) ↔ _
  by_cases h : inRg j = true
  · rw [if_pos h]
    simp [h]
  · rw [if_neg h]
    simp [h]
@[simp] theorem ex_rng2 {i j : Int} {φ : Src → Prop} : (∃ sc, srcOf .rng2 [.int i, .int j] = some sc ∧ φ sc) ↔ (inRg i = true ∧ inRg j = true) ∧ φ (.items (rangeD i (j - i).toNat)) := by
  show (∃ sc, (if (inRg i && inRg j) = true then some (Src.items (rangeD i (j - i).toNat)) else none) = some sc ∧ φ sc) ↔ _
  by_cases h : inRg i = true ∧ inRg j = true
  · rw [if_pos (by rw [h.1, h.2]; rfl)]
    simp [h]
  · rw [if_neg (by simpa using h)]
    simp only [reduceCtorEq, false_and, exists_false, false_iff]
    exact fun z => h z.1
@[simp] theorem src_tup {ds : List D} : srcOf .seq [.tup ds] = some (.items ds) := rfl
@[simp] theorem src_lst {ds : List D} : srcOf .seq [.lst ds] = some (.items ds) := rfl
@[simp] theorem src_fro {ds : List D} : srcOf .seq [.fro ds] = some (.items ds) := rfl
theorem inRg_of {i : Int} (h : -(2 ^ 62) ≤ i) (h2 : i < 2 ^ 62) : inRg i = true := by
  unfold inRg
  rw [decide_eq_true h, decide_eq_true h2]
  rfl
@[simp] theorem asg_name {i : Nat} {d : D} {ρ : Env} : asg (.name i) d ρ = if i < ρ.length then some (ρ.set i (some d)) else none := rfl
@[simp] theorem asg_tup {ts : List Tg} {ds : List D} {ρ : Env} : asg (.tup ts) (.tup ds) ρ = asg.asgs ts ds ρ := rfl
@[simp] theorem asgs_nil {ρ : Env} : asg.asgs [] [] ρ = some ρ := rfl
theorem asgs_cons {t : Tg} {ts : List Tg} {d : D} {ds : List D} {ρ ρ' : Env} (h : asg t d ρ = some ρ') : asg.asgs (t :: ts) (d :: ds) ρ = asg.asgs ts ds ρ' := by
  show (match asg t d ρ with
    | some ρ' => asg.asgs ts ds ρ'
    | none => none) = _
  rw [h]
@[simp] theorem asgs_name {i : Nat} {ts : List Tg} {d : D} {ds : List D} {ρ : Env} : asg.asgs (.name i :: ts) (d :: ds) ρ = if i < ρ.length then asg.asgs ts ds (ρ.set i (some d)) else none := by
  by_cases h : i < ρ.length
  · rw [asgs_cons (ρ' := ρ.set i (some d)) (by rw [asg_name, if_pos h]), if_pos h]
  · show (match asg (.name i) d ρ with
      | some ρ' => asg.asgs ts ds ρ'
      | none => none) = _
    rw [asg_name, if_neg h, if_neg h]
@[simp] theorem T_setIM {n : Nat} {i : Int} {v : D} {S : Store} {φ : Unit → Store → Prop} : T (setIM (.ref n) (.int i) v S) φ ↔ ∃ ds, S[n]? = some (.lst ds) ∧ ∃ j, L2.ixN ds.length i = some j ∧ φ () (S.set n (.lst (ds.set j v))) := by
  unfold setIM
  rw [T_bind, T_getO]
  constructor
  · rintro ⟨o, e, h⟩
    cases o with
    | lst ds =>
      dsimp only at h
      cases e2 : L2.ixN ds.length i with
      | none =>
        rw [e2] at h
        exact (T_stuck.mp h).elim
      | some j =>
        rw [e2] at h
        exact ⟨ds, e, j, e2, (T_putO.mp h).2⟩
  · rintro ⟨ds, e, j, e2, h⟩
    refine ⟨.lst ds, e, ?_⟩
    dsimp only
    rw [e2]
    exact T_putO.mpr ⟨(List.getElem?_eq_some_iff.mp e).1, h⟩
/-- a comprehension over known items -/
theorem T_compI {call : Nat → List D → M D} {vs : List Nat} {tg : Tg} {k : Sk} {src conds : List E} {elt : E} {ρ : Env} {S : Store} {φ : D → Store → Prop} {ds : List D} (hs : T (evEs call src ρ S) fun vs S' => srcOf k vs = some (.items ds) ∧ S' = S)
    (g : D → D) (hz : ds.length ≤ sizeMax) (h : ∀ d ∈ ds, ∃ ρ', asg tg d (wipeD ρ vs) = some ρ' ∧ T (evTs call conds ρ' S) (fun t S' => t = true ∧ S' = S) ∧ T (evE call elt ρ' S) fun y S' => y = g d ∧ S' = S) (hφ : φ (.lst (ds.map g)) S) : T (evE call (.comp vs tg k src conds elt) ρ S) φ := by
  rw [T_comp]
  refine hs.mono fun v S' ⟨e, e2⟩ => ?_
  subst e2
  refine ⟨_, e, ?_⟩
  show T (compL _ ds [] S') _
  rw [compL_map (g := g) ds [] (by rw [List.length_nil]; omega) fun d hd => ?_]
  · rw [T_some, List.nil_append]
    exact hφ
  · obtain ⟨ρ', e1, h1, h2⟩ := h d hd
    rw [e1]
    refine T_eq (T_noX.mpr (T_bind.mpr (h1.mono fun t S2 ⟨et, es⟩ => ?_)))
    subst et es
    rw [if_pos rfl, T_bind]
    exact h2.mono fun y S3 ⟨ey, es⟩ => by
      subst ey es
      exact T_pure.mpr ⟨rfl, rfl⟩
@[simp] theorem Ts_nil {call : Nat → List D → M D} {ρ : Env} {S : Store} {φ : Bool → Store → Prop} : T (evTs call [] ρ S) φ ↔ φ true S := by simp [evTs]
@[simp] theorem Ts_one {call : Nat → List D → M D} {ρ : Env} {S : Store} {e : E} {φ : Bool → Store → Prop} : T (evTs call [e] ρ S) φ ↔ T (evE call e ρ S) fun d S => ∃ b, truP S d = some b ∧ φ b S := by
  simp only [evTs, T_bind, T_truM]
  constructor
  · intro h
    refine h.mono fun d S ⟨b, e, q⟩ => ⟨b, e, ?_⟩
    cases b <;> exact T_pure.mp q
  · intro h
    refine h.mono fun d S ⟨b, e, q⟩ => ⟨b, e, ?_⟩
    cases b <;> exact T_pure.mpr q
end Ev
namespace Ev
open PySem
/-- a statement, then the rest, by what holds between -/
theorem X_seq {call : Nat → List D → M D} {s : Ev.S} {ss : List Ev.S} {ρ : Env} {S : Store} {φ : Fl × Env → Store → Prop} (ψ : Env → Store → Prop) (h1 : T (exS call s ρ S) fun r S' => match r.1 with
    | .nx => ψ r.2 S'
    | _ => φ r S') (h2 : ∀ ρ' S', ψ ρ' S' → T (exSs call ss ρ' S') φ) : T (exSs call (s :: ss) ρ S) φ := by
  rw [X_cons]
  refine h1.mono fun r S' q => ?_
  obtain ⟨f, ρ'⟩ := r
  cases f
  · exact h2 ρ' S' q
  · exact q
  · exact q
  · exact q
end Ev
namespace Ev
open PySem
@[simp] theorem cut_ints {xs : List Int} {lo hi : Option Int} : cutD (List.map D.int xs) lo hi = List.map D.int (cutL xs lo hi) := cut_map xs lo hi
@[simp] theorem rep_ints {xs : List Int} {k : Int} : listRep (List.map D.int xs) k = List.map D.int (listRep xs k) := rep_map xs k
theorem app_ints {xs ys : List Int} : List.map D.int xs ++ List.map D.int ys = List.map D.int (xs ++ ys) := (List.map_append).symm
@[simp] theorem toIs_ints : ∀ xs : List Int, toIs (List.map D.int xs) = some xs
  | [] => rfl
  | x :: xs => by
    show (match toI (.int x), toIs (List.map D.int xs) with
      | some i, some is => some (i :: is)
      | _, _ => none) = _
    rw [toIs_ints xs]
    rfl
@[simp] theorem max_ints {xs : List Int} : maxV (.tup (List.map D.int xs)) = (maxI xs).map .int := by simp [maxV]
@[simp] theorem max_intsL {xs : List Int} : maxV (.lst (List.map D.int xs)) = (maxI xs).map .int := by simp [maxV]
@[simp] theorem min_ints {xs : List Int} : minV (.tup (List.map D.int xs)) = (minI xs).map .int := by simp [minV]
@[simp] theorem at_ints {xs : List Int} {i : Int} : L2.atI (List.map D.int xs) i = (L2.atI xs i).map .int := at_map _ xs i
@[simp] theorem eqD_nil {xs : List Int} : eqD (.tup (List.map D.int xs)) (.tup []) = some (decide (xs = [])) := eqD_ti (ys := [])
@[simp] theorem ex_int {o : Option Int} {φ : D → Prop} : (∃ z, (∃ a, o = some a ∧ D.int a = z) ∧ φ z) ↔ ∃ a, o = some a ∧ φ (.int a) := by
  constructor
  · rintro ⟨z, ⟨a, e, rfl⟩, q⟩
    exact ⟨a, e, q⟩
  · rintro ⟨a, e, q⟩
    exact ⟨_, ⟨a, e, rfl⟩, q⟩
theorem last_some {α : Type} {xs : List α} (h : xs ≠ []) : L2.atI xs (-1) = some (xs.getLast h) := by
  rw [at_last, List.getLast?_eq_some_getLast h]
theorem max_ne {xs : List Int} (h : xs ≠ []) : ∃ m, maxI xs = some m := by
  cases xs with
  | nil => exact absurd rfl h
  | cons x xs => exact ⟨_, rfl⟩
theorem max_some {x : Int} {xs : List Int} : maxI (x :: xs) = some (xs.foldl max x) := rfl
theorem src_nat {n : Nat} (h : n ≤ 1000000) : inRg (n : Int) = true := inRg_of (by omega) (by omega)
theorem mem_range {lo : Int} {n : Nat} {d : D} (h : d ∈ rangeD lo n) : ∃ i : Int, d = .int i ∧ lo ≤ i ∧ i < lo + n := by
  unfold rangeD at h
  obtain ⟨j, hj, rfl⟩ := List.mem_map.mp h
  have := List.mem_range.mp hj
  exact ⟨_, rfl, by omega, by omega⟩
/-- a loop whose turns all keep a thing, or leave -/
theorem loop_keep {turn : D → Env → M (Fl × Env)} {φ : Fl × Env → Store → Prop} (J : Env → Store → Prop) {ds : List D}
    (h : ∀ d ∈ ds, ∀ ρ S, J ρ S → T (turn d ρ S) fun r S' => match r.1 with
      | .nx => J r.2 S'
      | .ct => J r.2 S'
      | .bk => φ (.nx, r.2) S'
      | .rt v => φ (.rt v, r.2) S') (hn : ∀ ρ S, J ρ S → φ (.nx, ρ) S) {ρ : Env} {S : Store} (j : J ρ S) : T (loopL turn ds ρ S) φ :=
  loop_inv (fun es ρ S => (∃ pre, ds = pre ++ es) ∧ J ρ S) (fun d es ρ S ⟨⟨pre, e⟩, j⟩ => (h d (by rw [e]; simp) ρ S j).mono fun r S' q => by
    have e' : ∃ pre, ds = pre ++ es := ⟨pre ++ [d], by rw [e]; simp⟩
    obtain ⟨f, ρ'⟩ := r
    cases f
    · exact ⟨e', q⟩
    · exact q
    · exact q
    · exact ⟨e', q⟩) (fun ρ S ⟨_, j⟩ => hn ρ S j) ds ρ S ⟨⟨[], rfl⟩, j⟩
/-- a comprehension whose items all keep a thing -/
theorem comp_keep {f : D → M (Option D)} {φ : List D → Store → Prop} (J : List D → Store → Prop) {ds : List D} (hz : ds.length ≤ sizeMax)
    (h : ∀ d ∈ ds, ∀ acc S, J acc S → T (f d S) fun o S' => match o with
      | none => J acc S'
      | some y => J (acc ++ [y]) S') (hn : ∀ acc S, acc.length ≤ ds.length → J acc S → φ acc S) {S : Store} (j : J [] S) : T (compL f ds [] S) φ :=
  compL_inv (fun es acc S => (∃ pre, ds = pre ++ es ∧ acc.length ≤ pre.length) ∧ J acc S) (fun d es acc S ⟨⟨pre, e, l⟩, j⟩ => (h d (by rw [e]; simp) acc S j).mono fun o S' q => by
    have el : ds.length = pre.length + (es.length + 1) := by rw [e]; simp
    have e' : ds = (pre ++ [d]) ++ es := by rw [e]; simp
    cases o with
    | none => exact ⟨⟨pre ++ [d], e', by simp; omega⟩, q⟩
    | some y => exact ⟨by omega, ⟨pre ++ [d], e', by simp; omega⟩, q⟩) (fun acc S ⟨⟨pre, e, l⟩, j⟩ => hn acc S (by rw [e]; simp; exact l) j) ds [] S ⟨⟨[], rfl, Nat.le_refl _⟩, j⟩
end Ev
namespace Ev
open PySem
theorem T_compL_nil {f : D → M (Option D)} {acc : List D} {S : Store} {φ : List D → Store → Prop} : T (compL f [] acc S) φ ↔ φ acc S := T_pure
theorem T_compL_cons {f : D → M (Option D)} {d : D} {ds acc : List D} {S : Store} {φ : List D → Store → Prop} : T (compL f (d :: ds) acc S) φ ↔ T (f d S) fun o S => match o with
    | none => T (compL f ds acc S) φ
    | some y => acc.length < sizeMax ∧ T (compL f ds (acc ++ [y]) S) φ := by
  show T (M.bind (f d) _ S) φ ↔ _
  rw [T_bind]
  constructor
  · intro h
    refine h.mono fun o S q => ?_
    cases o with
    | none => exact q
    | some y =>
      dsimp only at q ⊢
      by_cases hz : acc.length < sizeMax
      · rw [if_pos hz] at q
        exact ⟨hz, q⟩
      · rw [if_neg hz] at q
        exact (T_none.mp q).elim
  · intro h
    refine h.mono fun o S q => ?_
    cases o with
    | none => exact q
    | some y =>
      dsimp only at q ⊢
      rw [if_pos q.1]
      exact q.2
theorem toPs_bls : ∀ bs : List Bool, toPs (bs.map .bl) = some (bs.map .bool)
  | [] => rfl
  | b :: bs => by
    show (match toP (.bl b), toPs (bs.map .bl) with
      | some p, some ps => some (p :: ps)
      | _, _ => none) = _
    rw [toPs_bls bs]
    rfl
theorem truNs_bls : ∀ bs : List Bool, truNs (bs.map .bl) = some bs
  | [] => rfl
  | b :: bs => by
    show (match truN (.bl b), truNs (bs.map .bl) with
      | some b, some bs => some (b :: bs)
      | _, _ => none) = _
    rw [truNs_bls bs]
    rfl
theorem truNs_ints : ∀ xs : List Int, truNs (xs.map D.int) = some (xs.map fun x => x != 0)
  | [] => rfl
  | x :: xs => by
    show (match truN (.int x), truNs (xs.map D.int) with
      | some b, some bs => some (b :: bs)
      | _, _ => none) = _
    rw [truNs_ints xs]
    rfl
theorem allBls {bs : List Bool} : allV (.lst (bs.map .bl)) = some (.bl (bs.all id)) := by simp [allV, toPs_bls, truNs_bls]
theorem anyBls {bs : List Bool} : anyV (.lst (bs.map .bl)) = some (.bl (bs.any id)) := by simp [anyV, toPs_bls, truNs_bls]
theorem anyInts {xs : List Int} : anyV (.tup (xs.map D.int)) = some (.bl (xs.any fun x => x != 0)) := by simp [anyV, truNs_ints, List.any_map]
@[simp] theorem anyNil : anyV (.tup []) = some (.bl false) := rfl
@[simp] theorem allNil : allV (.tup []) = some (.bl true) := rfl
@[simp] theorem allNilL : allV (.lst []) = some (.bl true) := rfl
theorem ints_all {l : List D} {p : D → Bool} (hp : ∀ d, p d = true → ∃ i, d = .int i) (h : l.all p = true) : ∃ xs : List Int, l = xs.map .int := by
  induction l with
  | nil => exact ⟨[], rfl⟩
  | cons d l ih =>
    rw [List.all_cons, Bool.and_eq_true] at h
    obtain ⟨i, rfl⟩ := hp d h.1
    obtain ⟨xs, rfl⟩ := ih h.2
    exact ⟨i :: xs, rfl⟩
theorem rep_one {α : Type} {xs : List α} : listRep xs 1 = xs := by simp [listRep, List.replicate]
theorem cut_to1 {α : Type} {xs : List α} : cutL xs none (some 1) = xs.take 1 := cut_to (n := 1)
theorem cut_to2 {α : Type} {xs : List α} : cutL xs none (some 2) = xs.take 2 := cut_to (n := 2)
theorem cut_to3 {α : Type} {xs : List α} : cutL xs none (some 3) = xs.take 3 := cut_to (n := 3)
end Ev
set_option linter.all false
set_option maxRecDepth 100000
set_option maxHeartbeats 1000000
namespace Ev
open PySem
/-! the order of tuples of ints -/
def ltL (xs ys : List Int) : Bool := PySem.W.listLt xs ys
theorem ltL_nil : ltL [] [] = false := rfl
theorem ltL_nc {y : Int} {ys : List Int} : ltL [] (y :: ys) = true := rfl
theorem ltL_cn {y : Int} {ys : List Int} : ltL (y :: ys) [] = false := rfl
theorem ltL_cons {x y : Int} {xs ys : List Int} : ltL (x :: xs) (y :: ys) = if x = y then ltL xs ys else decide (x < y) := rfl
theorem ltD_ti {xs ys : List Int} : ltD (ti xs) (ti ys) = some (ltL xs ys) := by
  unfold ltD
  rw [toP_ti, toP_ti]
  dsimp only
  have h1 := PySem.W.DatumOrd.alike (α := PySem.W.Tup Int) ⟨xs⟩ ⟨ys⟩
  have h2 := PySem.W.DatumOrd.lt_eq (α := PySem.W.Tup Int) ⟨xs⟩ ⟨ys⟩
  have h1 : PySem.W.alike (.tuple (xs.map .int)) (.tuple (ys.map .int)) = true := h1
  have h2 : PySem.W.dataLt (.tuple (xs.map .int)) (.tuple (ys.map .int)) = ltL xs ys := h2
  rw [h1, h2, if_pos]
  rw [PyData.depth, depthI_]
  simp only [PyData.isNone, Bool.not_false, Bool.and_true, decide_eq_true_eq]
  omega
theorem toP_pair {a : Int} {xs : List Int} : toP (.tup [.int a, ti xs]) = some (.tuple [.int a, .tuple (xs.map .int)]) := by
  show (toPs [.int a, ti xs]).map PyData.tuple = _
  have e : toPs [.int a, ti xs] = some [.int a, .tuple (xs.map .int)] := by
    show (match toP (.int a), (match toP (ti xs), toPs [] with
      | some p, some ps => some (p :: ps)
      | _, _ => none) with
      | some p, some ps => some (p :: ps)
      | _, _ => none) = _
    rw [toP_ti]
    rfl
  rw [e]
  rfl
theorem ltD_pair {a b : Int} {xs ys : List Int} : ltD (.tup [.int a, ti xs]) (.tup [.int b, ti ys]) = some (if a = b then ltL xs ys else decide (a < b)) := by
  unfold ltD
  rw [toP_pair, toP_pair]
  dsimp only
  have h1 := PySem.W.DatumOrd.alike (α := Int × PySem.W.Tup Int) (a, ⟨xs⟩) (b, ⟨ys⟩)
  have h2 := PySem.W.DatumOrd.lt_eq (α := Int × PySem.W.Tup Int) (a, ⟨xs⟩) (b, ⟨ys⟩)
  have h1 : PySem.W.alike (.tuple [.int a, .tuple (xs.map .int)]) (.tuple [.int b, .tuple (ys.map .int)]) = true := h1
  have h2 : PySem.W.dataLt (.tuple [.int a, .tuple (xs.map .int)]) (.tuple [.int b, .tuple (ys.map .int)]) = if a = b then ltL xs ys else decide (a < b) := h2
  have d : ∀ (a : Int) (xs : List Int), (PyData.tuple [.int a, .tuple (xs.map .int)]).depth ≤ 3 := fun a xs => by
    simp [PyData.depth, PyData.depthAll, depthI_]
  rw [h1, h2, if_pos]
  have := d a xs
  simp only [PyData.isNone, Bool.not_false, Bool.and_true, decide_eq_true_eq]
  omega
@[simp] theorem cmp_ltT {a b : List D} : cmpV .lt (.tup a) (.tup b) = ltD (.tup a) (.tup b) := rfl
@[simp] theorem cmp_gtT {a b : List D} : cmpV .gt (.tup a) (.tup b) = ltD (.tup b) (.tup a) := rfl
@[simp] theorem cmp_geT {a b : List D} : cmpV .ge (.tup a) (.tup b) = (ltD (.tup a) (.tup b)).map (!·) := rfl
theorem ltL_irrefl : ∀ xs, ltL xs xs = false
  | [] => rfl
  | x :: xs => by rw [ltL_cons, if_pos rfl, ltL_irrefl xs]
theorem ltL_asymm : ∀ {xs ys}, ltL xs ys = true → ltL ys xs = false
  | [], [], h => by cases h
  | [], _ :: _, _ => rfl
  | _ :: _, [], h => by cases h
  | x :: xs, y :: ys, h => by
    rw [ltL_cons] at h ⊢
    by_cases e : x = y
    · rw [if_pos e] at h
      rw [if_pos e.symm]
      exact ltL_asymm h
    · rw [if_neg e] at h
      rw [if_neg (fun z => e z.symm)]
      have := of_decide_eq_true h
      exact decide_eq_false (by omega)
/-- extended at the end -/
theorem ltL_append : ∀ {xs ys : List Int} (us vs : List Int), xs.length = ys.length → ltL xs ys = true → ltL (xs ++ us) (ys ++ vs) = true
  | [], [], _, _, _, h => by cases h
  | [], _ :: _, _, _, h, _ => by cases h
  | _ :: _, [], _, _, h, _ => by cases h
  | x :: xs, y :: ys, us, vs, hl, h => by
    rw [List.cons_append, List.cons_append, ltL_cons]
    rw [ltL_cons] at h
    by_cases e : x = y
    · rw [if_pos e] at h ⊢
      exact ltL_append us vs (by simpa using hl) h
    · rw [if_neg e] at h ⊢
      exact h
theorem ltL_last : ∀ {xs : List Int} {a b : Int}, a < b → ltL (xs ++ [a]) (xs ++ [b]) = true
  | [], a, b, h => by
    rw [List.nil_append, List.nil_append, ltL_cons, if_neg (by omega)]
    exact decide_eq_true h
  | x :: xs, a, b, h => by
    rw [List.cons_append, List.cons_append, ltL_cons, if_pos rfl]
    exact ltL_last h
/-! lists of the store -/
@[simp] theorem T_meth {call : Nat → List D → M D} {ρ : Env} {S : Store} {m : Me} {o : E} {es : List E} {φ : D → Store → Prop} : T (evE call (.meth m o es) ρ S) φ ↔ T (evE call o ρ S) fun x S => T (meReady m x S) fun _ S => T (evEs call es ρ S) fun ds S => T (meM m x ds S) φ := by simp [evE]
@[simp] theorem T_ready {m : Me} {n : Nat} {S : Store} {φ : Unit → Store → Prop} : T (meReady m (.ref n) S) φ ↔ ∃ ds, S[n]? = some (.lst ds) ∧ φ () S := by
  unfold meReady
  rw [T_bind, T_getO]
  constructor
  · rintro ⟨o, e, h⟩
    cases o with
    | lst ds => exact ⟨ds, e, T_pure.mp h⟩
  · rintro ⟨ds, e, h⟩
    exact ⟨_, e, T_pure.mpr h⟩
@[simp] theorem T_append {n : Nat} {d : D} {S : Store} {φ : D → Store → Prop} : T (meM .append (.ref n) [d] S) φ ↔ ∃ ds, S[n]? = some (.lst ds) ∧ ds.length < sizeMax ∧ φ .non (S.set n (.lst (ds ++ [d]))) := by
  show T (appM (.ref n) [d] S) φ ↔ _
  unfold appM
  rw [T_bind, T_getO]
  constructor
  · rintro ⟨o, e, h⟩
    cases o with
    | lst ds =>
      dsimp only at h
      by_cases z : ds.length < sizeMax
      · rw [if_pos z, T_bind] at h
        exact ⟨ds, e, z, T_pure.mp (T_putO.mp h).2⟩
      · rw [if_neg z] at h
        exact (T_stuck.mp h).elim
  · rintro ⟨ds, e, z, h⟩
    refine ⟨_, e, ?_⟩
    dsimp only
    rw [if_pos z, T_bind]
    exact T_putO.mpr ⟨(List.getElem?_eq_some_iff.mp e).1, T_pure.mpr h⟩
@[simp] theorem T_extL {n : Nat} {es : List D} {S : Store} {φ : D → Store → Prop} : T (meM .extend (.ref n) [.lst es] S) φ ↔ ∃ ds, S[n]? = some (.lst ds) ∧ ds.length + es.length ≤ sizeMax ∧ φ .non (S.set n (.lst (ds ++ es))) := by
  show T (M.bind (getO n) _ S) φ ↔ _
  rw [T_bind, T_getO]
  constructor
  · rintro ⟨o, e, h⟩
    cases o with
    | lst ds =>
      dsimp only at h
      by_cases z : ds.length + es.length ≤ sizeMax
      · rw [if_pos z, T_bind] at h
        exact ⟨ds, e, z, T_pure.mp (T_putO.mp h).2⟩
      · rw [if_neg z] at h
        exact (T_stuck.mp h).elim
  · rintro ⟨ds, e, z, h⟩
    refine ⟨_, e, ?_⟩
    dsimp only
    rw [if_pos z, T_bind]
    exact T_putO.mpr ⟨(List.getElem?_eq_some_iff.mp e).1, T_pure.mpr h⟩
@[simp] theorem T_extT {n : Nat} {es : List D} {S : Store} {φ : D → Store → Prop} : T (meM .extend (.ref n) [.tup es] S) φ ↔ ∃ ds, S[n]? = some (.lst ds) ∧ ds.length + es.length ≤ sizeMax ∧ φ .non (S.set n (.lst (ds ++ es))) := by
  show T (M.bind (getO n) _ S) φ ↔ _
  rw [T_bind, T_getO]
  constructor
  · rintro ⟨o, e, h⟩
    cases o with
    | lst ds =>
      dsimp only at h
      by_cases z : ds.length + es.length ≤ sizeMax
      · rw [if_pos z, T_bind] at h
        exact ⟨ds, e, z, T_pure.mp (T_putO.mp h).2⟩
      · rw [if_neg z] at h
        exact (T_stuck.mp h).elim
  · rintro ⟨ds, e, z, h⟩
    refine ⟨_, e, ?_⟩
    dsimp only
    rw [if_pos z, T_bind]
    exact T_putO.mpr ⟨(List.getElem?_eq_some_iff.mp e).1, T_pure.mpr h⟩
theorem rep_single {x : D} {k : Int} : listRep [x] k = List.replicate k.toNat x := by
  unfold listRep
  induction k.toNat with
  | zero => rfl
  | succ n ih => rw [List.replicate_succ, List.flatten_cons, ih, List.replicate_succ]; rfl
theorem rep_ok {n : Nat} {k : Int} (h0 : 0 ≤ k) (h1 : k ≤ 1000) (h2 : n ≤ 1000) : repOk n k = true := by
  unfold repOk
  have : n * k.toNat ≤ 1000 * 1000 := Nat.mul_le_mul h2 (by omega)
  rw [decide_eq_true (by omega), decide_eq_true (by omega), decide_eq_true (Nat.le_trans this (by decide))]
  rfl
theorem mem_items {α : Type} {l : List α} {j : Nat} {d : α} {es : List α} (e : d :: es = l.drop j) : l[j]? = some d ∧ l.drop (j + 1) = es ∧ j < l.length := by
  have h1 : l[j]? = some d := by
    have h1 : (l.drop j)[0]? = some d := by rw [← e]; rfl
    rwa [List.getElem?_drop] at h1
  refine ⟨h1, ?_, (List.getElem?_eq_some_iff.mp h1).1⟩
  rw [← List.tail_drop, ← e]
  rfl
theorem range_at {lo : Int} {n j : Nat} {d : D} (h : (rangeD lo n)[j]? = some d) : d = .int (lo + j) ∧ j < n := by
  have jm : j < n := by
    have := (List.getElem?_eq_some_iff.mp h).1
    simpa [rangeD] using this
  unfold rangeD at h
  rw [List.getElem?_map, List.getElem?_range jm] at h
  exact ⟨(Option.some.inj h).symm, jm⟩
theorem range_len {lo : Int} {n : Nat} : (rangeD lo n).length = n := by simp [rangeD]
/-- a loop by its place -/
theorem loop_at {turn : D → Env → M (Fl × Env)} {φ : Fl × Env → Store → Prop} {ds : List D} (I : Nat → Env → Store → Prop)
    (h : ∀ j d ρ S, ds[j]? = some d → I j ρ S → T (turn d ρ S) fun r S' => match r.1 with
      | .nx => I (j + 1) r.2 S'
      | .ct => I (j + 1) r.2 S'
      | .bk => φ (.nx, r.2) S'
      | .rt v => φ (.rt v, r.2) S') (hn : ∀ ρ S, I ds.length ρ S → φ (.nx, ρ) S) {ρ : Env} {S : Store} (i : I 0 ρ S) : T (loopL turn ds ρ S) φ :=
  loop_inv (fun es ρ S => ∃ j, es = ds.drop j ∧ j ≤ ds.length ∧ I j ρ S) (fun d es ρ S ⟨j, e, jl, i⟩ => by
    obtain ⟨h1, h2, h3⟩ := mem_items e
    refine (h j d ρ S h1 i).mono fun r S' q => ?_
    obtain ⟨f, ρ'⟩ := r
    cases f
    · exact ⟨j + 1, h2.symm, h3, q⟩
    · exact q
    · exact q
    · exact ⟨j + 1, h2.symm, h3, q⟩) (fun ρ S ⟨j, e, jl, i⟩ => by
    have : j = ds.length := by
      have := congrArg List.length e
      simp at this
      omega
    subst this
    exact hn ρ S i) ds ρ S ⟨0, rfl, Nat.zero_le _, i⟩
end Ev
set_option linter.all false
set_option maxRecDepth 100000
set_option maxHeartbeats 1000000
namespace Ev
open PySem
/-- an accumulating loop over known items, by what each adds -/
theorem accL_flat {f : D → List D → M (List D)} {g : D → List D} {S : Store} : ∀ (ds acc : List D), acc.length + (ds.flatMap g).length ≤ sizeMax → (∀ d ∈ ds, ∀ acc : List D, acc.length + (g d).length ≤ sizeMax → f d acc S = some (.ok (acc ++ g d) S)) →
    accL f ds acc S = some (.ok (acc ++ ds.flatMap g) S)
  | [], acc, _, _ => by
    rw [List.flatMap_nil, List.append_nil]
    rfl
  | d :: ds, acc, hz, h => by
    rw [List.flatMap_cons, List.length_append] at hz
    show M.bind (f d acc) _ S = _
    unfold M.bind
    rw [h d List.mem_cons_self acc (by omega)]
    dsimp only
    rw [accL_flat ds (acc ++ g d) (by rw [List.length_append]; omega) fun d' hd => h d' (List.mem_cons_of_mem _ hd)]
    rw [List.flatMap_cons, List.append_assoc]
theorem flat_single {α β : Type} {f : α → β} : ∀ {l : List α}, l.flatMap (fun d => [f d]) = l.map f
  | [] => rfl
  | x :: l => by rw [List.flatMap_cons, List.map_cons, List.singleton_append, flat_single]
theorem T_comp2I {call : Nat → List D → M D} {vs vs1 : List Nat} {tg tg1 : Tg} {k k1 : Sk} {src conds src1 conds1 : List E} {elt : E} {ρ : Env} {S : Store} {φ : D → Store → Prop} {ds : List D} (hs : T (evEs call src ρ S) fun vs S' => srcOf k vs = some (.items ds) ∧ S' = S)
    (g : D → List D) (hz : (ds.flatMap g).length ≤ sizeMax) (h : ∀ d ∈ ds, ∃ ρ1, asg tg d (wipeD ρ vs) = some ρ1 ∧ T (evTs call conds ρ1 S) (fun t S' => t = true ∧ S' = S) ∧ ∃ ds1 e, T (evEs call src1 ρ1 S) (fun vs S' => srcOf k1 vs = some (.items ds1) ∧ S' = S) ∧ g d = ds1.map e ∧
      ∀ d1 ∈ ds1, ∃ ρ2, asg tg1 d1 (wipeD ρ1 vs1) = some ρ2 ∧ T (evTs call conds1 ρ2 S) (fun t S' => t = true ∧ S' = S) ∧ T (evE call elt ρ2 S) fun y S' => y = e d1 ∧ S' = S) (hφ : φ (.lst (ds.flatMap g)) S) : T (evE call (.comp2 vs tg k src conds vs1 tg1 k1 src1 conds1 elt) ρ S) φ := by
  unfold evE
  rw [T_bind]
  refine hs.mono fun v S' ⟨e, e2⟩ => ?_
  subst e2
  rw [T_bind, T_opt]
  refine ⟨_, e, ?_⟩
  rw [T_bind]
  show T (accL _ ds [] S') _
  rw [accL_flat (g := g) ds [] (by rw [List.length_nil]; omega) fun d hd acc hl => ?_]
  · rw [T_some, List.nil_append]
    exact T_pure.mpr hφ
  · obtain ⟨ρ1, e1, h1, ds1, ee, h2, eg, h3⟩ := h d hd
    rw [e1]
    refine T_eq (T_noX.mpr (T_bind.mpr (h1.mono fun t S2 ⟨et, es⟩ => ?_)))
    subst et es
    rw [if_pos rfl, T_bind]
    refine h2.mono fun v2 S3 ⟨e3, es⟩ => ?_
    subst es
    rw [T_bind, T_opt]
    refine ⟨_, e3, ?_⟩
    show T (accL _ ds1 acc S3) _
    have fm : ds1.flatMap (fun d => [ee d]) = ds1.map ee := flat_single
    rw [eg, ← fm] at hl ⊢
    rw [accL_flat (g := fun d => [ee d]) ds1 acc hl fun d1 hd1 acc2 hl2 => ?_]
    · rw [T_some]
      exact ⟨rfl, rfl⟩
    · obtain ⟨ρ2, e4, h4, h5⟩ := h3 d1 hd1
      rw [e4]
      refine T_eq (T_bind.mpr (h4.mono fun t S2 ⟨et, es⟩ => ?_))
      subst et es
      rw [if_pos rfl, T_bind]
      refine h5.mono fun y S3 ⟨ey, es⟩ => ?_
      subst ey es
      rw [if_pos (by simp at hl2; omega)]
      exact T_pure.mpr ⟨rfl, rfl⟩
/-- a comprehension with a condition -/
theorem compL_fm {f : D → M (Option D)} {g : D → Option D} {S : Store} : ∀ (ds acc : List D), acc.length + ds.length ≤ sizeMax → (∀ d ∈ ds, f d S = some (.ok (g d) S)) → compL f ds acc S = some (.ok (acc ++ ds.filterMap g) S)
  | [], acc, _, _ => by
    rw [List.filterMap_nil, List.append_nil]
    rfl
  | d :: ds, acc, hz, h => by
    show M.bind (f d) _ S = _
    unfold M.bind
    rw [h d List.mem_cons_self]
    rw [List.length_cons] at hz
    cases e : g d with
    | none =>
      dsimp only
      rw [compL_fm ds acc (by omega) fun d' hd => h d' (List.mem_cons_of_mem _ hd), List.filterMap_cons_none e]
    | some y =>
      dsimp only
      rw [if_pos (by omega), compL_fm ds (acc ++ [y]) (by rw [List.length_append, List.length_singleton]; omega) fun d' hd => h d' (List.mem_cons_of_mem _ hd)]
      rw [List.filterMap_cons_some e, List.append_assoc]
      rfl
theorem filter_fm {α β : Type} {p : α → Bool} {g : α → β} : ∀ {ds : List α}, ds.filterMap (fun d => if p d then some (g d) else none) = (ds.filter p).map g
  | [] => rfl
  | d :: ds => by
    have ih := filter_fm (p := p) (g := g) (ds := ds)
    cases q : p d
    · rw [List.filterMap_cons_none (by rw [q]; rfl), List.filter_cons_of_neg (by rw [q]; decide), ih]
    · rw [List.filterMap_cons_some (b := g d) (by rw [q]; rfl), List.filter_cons_of_pos q, List.map_cons, ih]
theorem T_compF {call : Nat → List D → M D} {vs : List Nat} {tg : Tg} {k : Sk} {src conds : List E} {elt : E} {ρ : Env} {S : Store} {φ : D → Store → Prop} {ds : List D} (hs : T (evEs call src ρ S) fun vs S' => srcOf k vs = some (.items ds) ∧ S' = S)
    (p : D → Bool) (g : D → D) (hz : ds.length ≤ sizeMax) (h : ∀ d ∈ ds, ∃ ρ', asg tg d (wipeD ρ vs) = some ρ' ∧ T (evTs call conds ρ' S) (fun t S' => t = p d ∧ S' = S) ∧ (p d = true → T (evE call elt ρ' S) fun y S' => y = g d ∧ S' = S)) (hφ : φ (.lst ((ds.filter p).map g)) S) : T (evE call (.comp vs tg k src conds elt) ρ S) φ := by
  rw [T_comp]
  refine hs.mono fun v S' ⟨e, e2⟩ => ?_
  subst e2
  refine ⟨_, e, ?_⟩
  show T (compL _ ds [] S') _
  have fm := filter_fm (p := p) (g := g) (ds := ds)
  rw [compL_fm (g := fun d => if p d then some (g d) else none) ds [] (by rw [List.length_nil]; omega) fun d hd => ?_]
  · rw [T_some, List.nil_append, fm]
    exact hφ
  · obtain ⟨ρ', e1, h1, h2⟩ := h d hd
    rw [e1]
    refine T_eq (T_noX.mpr (T_bind.mpr (h1.mono fun t S2 ⟨et, es⟩ => ?_)))
    subst et es
    cases q : p d with
    | false =>
      rw [if_neg (by decide)]
      exact T_pure.mpr ⟨rfl, rfl⟩
    | true =>
      rw [if_pos rfl, T_bind]
      exact (h2 q).mono fun y S3 ⟨ey, es⟩ => by
        subst ey es
        exact T_pure.mpr ⟨rfl, rfl⟩
/-- a loop that looks for one to return -/
theorem loop_find {turn : D → Env → M (Fl × Env)} {φ : Fl × Env → Store → Prop} (J : Env → Store → Prop) (f : D → Option D) : ∀ {ds : List D}
    (h : ∀ d ∈ ds, ∀ ρ S, J ρ S → T (turn d ρ S) fun r S' => J r.2 S' ∧ match f d with
      | some v => r.1 = .rt v
      | none => r.1 = .nx) (hn : ∀ ρ S, J ρ S → match ds.findSome? f with
      | some v => φ (.rt v, ρ) S
      | none => φ (.nx, ρ) S) {ρ : Env} {S : Store} (j : J ρ S), T (loopL turn ds ρ S) φ
  | [], h, hn, ρ, S, j => T_loopL_nil.mpr (hn ρ S j)
  | d :: ds, h, hn, ρ, S, j => by
    rw [T_loopL_cons]
    refine (h d List.mem_cons_self ρ S j).mono fun r S' ⟨j', q⟩ => ?_
    obtain ⟨fl, ρ'⟩ := r
    rw [List.findSome?_cons] at hn
    cases e : f d with
    | none =>
      rw [e] at q hn
      have q : fl = .nx := q
      subst q
      exact loop_find J f (fun d' hd => h d' (List.mem_cons_of_mem _ hd)) hn j'
    | some v =>
      rw [e] at q hn
      have q : fl = .rt v := q
      subst q
      exact hn ρ' S' j'
/-! sources that lie in the store -/
theorem compR_fm {f : D → M (Option D)} {g : D → Option D} {n : Nat} {ds : List D} {S : Store} (hS : S[n]? = some (.lst ds)) (hz : ds.length ≤ sizeMax) (h : ∀ d ∈ ds, f d S = some (.ok (g d) S)) : ∀ (m j : Nat) (acc : List D), ds.length ≤ m + j → acc.length ≤ j → j ≤ ds.length → compR f n j acc S = some (.ok (acc ++ (ds.drop j).filterMap g) S) := by
  intro m
  induction m with
  | zero =>
    intro j acc l la lj
    rw [compR.eq_1, hS]
    dsimp only
    rw [List.getElem?_eq_none (by omega), List.drop_of_length_le (by omega)]
    simp
  | succ m ih =>
    intro j acc l la lj
    rw [compR.eq_1, hS]
    dsimp only
    by_cases q : j < ds.length
    · rw [List.getElem?_eq_getElem q]
      dsimp only
      rw [h _ (List.getElem_mem q)]
      have dr : ds.drop j = ds[j] :: ds.drop (j + 1) := List.drop_eq_getElem_cons q
      cases e : g ds[j] with
      | none =>
        dsimp only
        rw [ih (j + 1) acc (by omega) (by omega) (by omega), dr, List.filterMap_cons_none e]
      | some y =>
        dsimp only
        rw [if_pos (by omega), ih (j + 1) (acc ++ [y]) (by omega) (by rw [List.length_append, List.length_singleton]; omega) (by omega), dr, List.filterMap_cons_some e, List.append_assoc]
        rfl
    · rw [List.getElem?_eq_none (by omega), List.drop_of_length_le (by omega)]
      simp
theorem T_compFR {call : Nat → List D → M D} {vs : List Nat} {tg : Tg} {k : Sk} {src conds : List E} {elt : E} {ρ : Env} {S : Store} {φ : D → Store → Prop} {ds : List D} {n : Nat} (hS : S[n]? = some (.lst ds)) (hs : T (evEs call src ρ S) fun vs S' => srcOf k vs = some (.ref n) ∧ S' = S)
    (p : D → Bool) (g : D → D) (hz : ds.length ≤ sizeMax) (h : ∀ d ∈ ds, ∃ ρ', asg tg d (wipeD ρ vs) = some ρ' ∧ T (evTs call conds ρ' S) (fun t S' => t = p d ∧ S' = S) ∧ (p d = true → T (evE call elt ρ' S) fun y S' => y = g d ∧ S' = S)) (hφ : φ (.lst ((ds.filter p).map g)) S) : T (evE call (.comp vs tg k src conds elt) ρ S) φ := by
  rw [T_comp]
  refine hs.mono fun v S' ⟨e, e2⟩ => ?_
  subst e2
  refine ⟨_, e, ?_⟩
  show T (compR _ n 0 [] S') _
  have fm := filter_fm (p := p) (g := g) (ds := ds)
  rw [compR_fm (g := fun d => if p d then some (g d) else none) hS hz (fun d hd => ?_) ds.length 0 [] (by omega) (by simp) (by omega)]
  · rw [T_some, List.nil_append, List.drop_zero, fm]
    exact hφ
  · obtain ⟨ρ', e1, h1, h2⟩ := h d hd
    rw [e1]
    refine T_eq (T_noX.mpr (T_bind.mpr (h1.mono fun t S2 ⟨et, es⟩ => ?_)))
    subst et es
    cases q : p d with
    | false =>
      rw [if_neg (by decide)]
      exact T_pure.mpr ⟨rfl, rfl⟩
    | true =>
      rw [if_pos rfl, T_bind]
      exact (h2 q).mono fun y S3 ⟨ey, es⟩ => by
        subst ey es
        exact T_pure.mpr ⟨rfl, rfl⟩
/-- a loop over a list of the store that stays -/
theorem loopR_at {turn : D → Env → M (Fl × Env)} {φ : Fl × Env → Store → Prop} {n : Nat} {ds : List D} (I : Nat → Env → Store → Prop) (hS : ∀ j ρ S, I j ρ S → S[n]? = some (.lst ds))
    (h : ∀ j d ρ S, ds[j]? = some d → I j ρ S → T (turn d ρ S) fun r S' => match r.1 with
      | .nx => I (j + 1) r.2 S'
      | .ct => I (j + 1) r.2 S'
      | .bk => φ (.nx, r.2) S'
      | .rt v => φ (.rt v, r.2) S') (hn : ∀ ρ S, I ds.length ρ S → φ (.nx, ρ) S) : ∀ (m j : Nat) {ρ : Env} {S : Store}, ds.length ≤ m + j → j ≤ ds.length → I j ρ S → T (loopR turn n j ρ S) φ := by
  intro m
  induction m with
  | zero =>
    intro j ρ S l lj i
    rw [loopR.eq_1, hS j ρ S i]
    dsimp only
    have e : j = ds.length := by omega
    subst e
    rw [List.getElem?_eq_none (by omega)]
    exact T_some.mpr (hn ρ S i)
  | succ m ih =>
    intro j ρ S l lj i
    rw [loopR.eq_1, hS j ρ S i]
    dsimp only
    by_cases q : j < ds.length
    · obtain ⟨⟨fl, ρ'⟩, S', e, q2⟩ := h j _ ρ S (List.getElem?_eq_getElem q) i
      rw [List.getElem?_eq_getElem q]
      dsimp only
      rw [e]
      cases fl
      · exact ih (j + 1) (by omega) (by omega) q2
      · exact T_some.mpr q2
      · exact T_some.mpr q2
      · exact ih (j + 1) (by omega) (by omega) q2
    · have e : j = ds.length := by omega
      subst e
      rw [List.getElem?_eq_none (by omega)]
      exact T_some.mpr (hn ρ S i)
theorem src_rng1 {j : Int} (h : inRg j = true) : srcOf .rng1 [.int j] = some (.items (rangeD 0 j.toNat)) := by
  show (if inRg j = true then some (Src.items (rangeD 0 j.toNat)) else none) = _
  rw [if_pos h]
theorem src_rng2 {i j : Int} (h : inRg i = true) (h2 : inRg j = true) : srcOf .rng2 [.int i, .int j] = some (.items (rangeD i (j - i).toNat)) := by
  show (if (inRg i && inRg j) = true then some (Src.items (rangeD i (j - i).toNat)) else none) = _
  rw [if_pos (by rw [h, h2]; rfl)]
end Ev
set_option linter.all false
set_option maxRecDepth 100000
set_option maxHeartbeats 1000000
namespace Ev
open PySem
/-! ### repr is told of plain data -/
mutual
def plD : D → Bool
  | .non => true
  | .bl _ => true
  | .int i => decide (i.natAbs.log2 < 1920)
  | .tup ds => plDs ds
  | .lst ds => plDs ds
  | _ => false
def plDs : List D → Bool
  | [] => true
  | d :: ds => plD d && plDs ds
end
mutual
def ndD : D → Nat
  | .tup ds => 1 + ndDs ds
  | .lst ds => 1 + ndDs ds
  | _ => 1
def ndDs : List D → Nat
  | [] => 0
  | d :: ds => ndD d + ndDs ds
end
mutual
def dpD : D → Nat
  | .tup ds => 1 + dpDs ds
  | .lst ds => 1 + dpDs ds
  | _ => 0
def dpDs : List D → Nat
  | [] => 0
  | d :: ds => max (dpD d) (dpDs ds)
end
theorem textFrom_up : ∀ (ts : List Str) (k : Nat) (acc : Str), (textFrom k acc ts).length ≤ acc.length + piled ts
  | [], k, acc => by
    show acc.length ≤ _
    omega
  | t :: r, k, acc => by
    have ih := textFrom_up r (k + 1) (acc ++ (if k > 0 then ", " else "" : String) ++ t)
    have e : (acc ++ (if k > 0 then ", " else "" : String) ++ t).length ≤ acc.length + 2 + t.length := by
      rw [strLen_append, strLen_append]
      split
      · have : ((", " : String) : Str).length = 2 := rfl
        omega
      · have : (("" : String) : Str).length = 0 := rfl
        omega
    have p : piled (t :: r) = t.length + 2 + piled r := by simp [piled]
    show (textFrom (k + 1) _ r).length ≤ _
    omega
theorem list_up (ts : List Str) : (listText ts).length ≤ 2 + piled ts := by
  unfold listText
  rw [strLen_append]
  have := textFrom_up ts 0 "["
  have e1 : (("[" : String) : Str).length = 1 := rfl
  have e2 : (("]" : String) : Str).length = 1 := rfl
  omega
theorem tuple_up (ts : List Str) : (tupleText ts).length ≤ 3 + piled ts := by
  unfold tupleText
  rw [strLen_append, strLen_append]
  have e1 : (("(" : String) : Str).length = 1 := rfl
  have e2 : (((if ts.length == 1 then ",)" else ")" : String)) : Str).length ≤ 2 := by
    split
    · exact Nat.le_refl _
    · exact (by decide : 1 ≤ 2)
  have e3 : (Str.join ", " ts).length ≤ piled ts := by
    by_cases h : ts = []
    · subst h
      exact Nat.zero_le _
    · have := join_length_add ts h
      omega
  omega
mutual
theorem pl_toP : ∀ d : D, plD d = true → ∃ p, toP d = some p ∧ p.showable = true ∧ p.hasDict = false ∧ p.depth = dpD d ∧ p.shown.length + 2 ≤ 2000 * ndD d
  | .non, _ => ⟨.none, rfl, rfl, rfl, rfl, by decide⟩
  | .bl b, _ => ⟨.bool b, rfl, rfl, rfl, rfl, by cases b <;> decide⟩
  | .int i, h => by
    unfold plD at h
    refine ⟨.int i, rfl, h, rfl, rfl, ?_⟩
    have := PyProof.Rows.int_text_len_1921 (of_decide_eq_true h)
    unfold ndD
    have e : (PyData.int i).shown = Str.ofString (toString i) := rfl
    rw [e]
    omega
  | .str _, h => by cases h
  | .tup ds, h => by
    unfold plD at h
    obtain ⟨ps, e, a, b, c, l⟩ := pl_toPs ds h
    refine ⟨.tuple ps, by unfold toP; rw [e]; rfl, a, b, ?_, ?_⟩
    · rw [PyData.depth, c]
      unfold dpD
      omega
    · have := tuple_up (PyData.shownAll ps)
      have e : (PyData.tuple ps).shown = tupleText (PyData.shownAll ps) := by simp only [PyData.shown]
      rw [e]
      unfold ndD
      omega
  | .lst ds, h => by
    unfold plD at h
    obtain ⟨ps, e, a, b, c, l⟩ := pl_toPs ds h
    refine ⟨.list ps, by unfold toP; rw [e]; rfl, a, b, ?_, ?_⟩
    · rw [PyData.depth, c]
      unfold dpD
      omega
    · have := list_up (PyData.shownAll ps)
      have e : (PyData.list ps).shown = listText (PyData.shownAll ps) := by simp only [PyData.shown]
      rw [e]
      unfold ndD
      omega
  | .fro _, h => by cases h
  | .ref _, h => by cases h
  | .dic, h => by cases h
theorem pl_toPs : ∀ ds : List D, plDs ds = true → ∃ ps, toPs ds = some ps ∧ PyData.showableAll ps = true ∧ PyData.hasDictAll ps = false ∧ PyData.depthAll ps = dpDs ds ∧ piled (PyData.shownAll ps) ≤ 2000 * ndDs ds
  | [], _ => ⟨[], rfl, rfl, rfl, rfl, by decide⟩
  | d :: ds, h => by
    unfold plDs at h
    rw [Bool.and_eq_true] at h
    obtain ⟨p, e, a, b, c, l⟩ := pl_toP d h.1
    obtain ⟨ps, e2, a2, b2, c2, l2⟩ := pl_toPs ds h.2
    refine ⟨p :: ps, by unfold toPs; rw [e, e2], ?_, ?_, ?_, ?_⟩
    · rw [PyData.showableAll, a, a2]
      rfl
    · rw [PyData.hasDictAll, b, b2]
      rfl
    · rw [PyData.depthAll, c, c2]
      simp [dpDs]
    · rw [PyData.shownAll]
      have : piled (p.shown :: PyData.shownAll ps) = p.shown.length + 2 + piled (PyData.shownAll ps) := by simp [piled]
      rw [this]
      unfold ndDs
      have : 1 ≤ ndD d := by cases d <;> (unfold ndD; omega)
      omega
end
theorem repr_pl {d : D} (h : plD d = true) (n : ndD d ≤ 8000) (dp : dpD d ≤ 32) : ∃ x, reprV d = some (.str x) := by
  obtain ⟨p, e, a, b, c, l⟩ := pl_toP d h
  refine ⟨p.shown, ?_⟩
  unfold reprV
  rw [e]
  dsimp only
  have zm : sizeMax = 16777216 := rfl
  rw [if_pos]
  rw [a, b, decide_eq_true (by omega), decide_eq_true (by omega)]
  rfl
@[simp] theorem pl_ints : ∀ {xs : List Int}, (∀ x ∈ xs, x.natAbs < 2 ^ 250) → plDs (xs.map .int) = true
  | [], _ => rfl
  | x :: xs, h => by
    have ih := pl_ints (xs := xs) fun y hy => h y (List.mem_cons_of_mem _ hy)
    show (plD (.int x) && plDs (xs.map .int)) = true
    rw [ih]
    unfold plD
    have := h x List.mem_cons_self
    rw [decide_eq_true]
    · rfl
    · by_cases z : x.natAbs = 0
      · rw [z]
        decide
      · exact (Nat.log2_lt z).mpr (Nat.lt_of_lt_of_le this (Nat.pow_le_pow_right (by decide) (by decide)))
@[simp] theorem nd_ints : ∀ {xs : List Int}, ndDs (xs.map .int) = xs.length
  | [] => rfl
  | x :: xs => by
    show ndD (.int x) + ndDs (xs.map .int) = _
    rw [nd_ints (xs := xs), List.length_cons]
    unfold ndD
    omega
@[simp] theorem dp_ints : ∀ {xs : List Int}, dpDs (xs.map .int) = 0
  | [] => rfl
  | x :: xs => by
    show max (dpD (.int x)) (dpDs (xs.map .int)) = _
    rw [dp_ints (xs := xs)]
    rfl
section
variable {d : D} {ds : List D}
@[simp] theorem pl_tup : plD (.tup ds) = plDs ds := rfl
@[simp] theorem pl_lst : plD (.lst ds) = plDs ds := rfl
@[simp] theorem pl_non : plD .non = true := rfl
@[simp] theorem pl_bl {b : Bool} : plD (.bl b) = true := rfl
@[simp] theorem pl_nil : plDs [] = true := rfl
@[simp] theorem pl_cons : plDs (d :: ds) = (plD d && plDs ds) := rfl
@[simp] theorem nd_tup : ndD (.tup ds) = 1 + ndDs ds := rfl
@[simp] theorem nd_lst : ndD (.lst ds) = 1 + ndDs ds := rfl
@[simp] theorem nd_nil : ndDs [] = 0 := rfl
@[simp] theorem nd_cons : ndDs (d :: ds) = ndD d + ndDs ds := rfl
@[simp] theorem nd_non : ndD .non = 1 := rfl
@[simp] theorem nd_int {i : Int} : ndD (.int i) = 1 := rfl
@[simp] theorem nd_bl {b : Bool} : ndD (.bl b) = 1 := rfl
@[simp] theorem dp_tup : dpD (.tup ds) = 1 + dpDs ds := rfl
@[simp] theorem dp_lst : dpD (.lst ds) = 1 + dpDs ds := rfl
@[simp] theorem dp_nil : dpDs [] = 0 := rfl
@[simp] theorem dp_cons : dpDs (d :: ds) = max (dpD d) (dpDs ds) := rfl
@[simp] theorem dp_non : dpD .non = 0 := rfl
@[simp] theorem dp_int {i : Int} : dpD (.int i) = 0 := rfl
@[simp] theorem dp_bl {b : Bool} : dpD (.bl b) = 0 := rfl
end
end Ev
set_option Elab.async false
set_option linter.all false
set_option maxRecDepth 100000
set_option maxHeartbeats 0
namespace Lk72
open PySem PySem.Spec PyProof.Rows L2 Ev
def top (i : Nat) : Stmt := PySem.Challenge.pw_rootfigures_k72_whole_rows_told_by_gaps.main.body.getD i (.Pass ⟨0, 0, 0, 0⟩)
abbrev f_is_integer : Nat := 0
abbrev f_is_within : Nat := 1
abbrev f_is_sized : Nat := 2
abbrev f_once : Nat := 3
abbrev f_shortest : Nat := 4
abbrev f_figure_of : Nat := 5
abbrev f_is_below : Nat := 6
abbrev f_tail_of : Nat := 7
abbrev f_bad_tail : Nat := 8
abbrev f_raw_gap_rule : Nat := 9
abbrev f_grown : Nat := 10
abbrev f_raw_gap_word : Nat := 11
abbrev f_heads_from : Nat := 12
abbrev f_begins_so : Nat := 13
abbrev f_one_of_gaps : Nat := 14
abbrev f__law_hand : Nat := 15
abbrev f__law_draw : Nat := 16
abbrev f__law_some : Nat := 17
abbrev f__law_is : Nat := 18
abbrev f__law_is_base : Nat := 19
abbrev f__law_begin : Nat := 20
abbrev f__law_heads : Nat := 21
abbrev f__law_due : Nat := 22
abbrev f__law_drawn : Nat := 23
abbrev f_law : Nat := 24
def b_is_integer : List S := [.ret (.andE (.isi (.var 0) .int) (.notE (.isi (.var 0) .bool)))]
def d_is_integer : DefI := ⟨"is_integer", top 4, ["thing"], ["thing"], ⟨1, 1, b_is_integer⟩⟩
def b_is_within : List S := [.ret (.andE (.call f_is_integer [(.var 0)]) (.chain .le .le (.var 1) (.var 0) (.var 2)))]
def d_is_within : DefI := ⟨"is_within", top 5, ["thing", "low", "high"], ["thing", "low", "high"], ⟨3, 3, b_is_within⟩⟩
def b_is_sized : List S := [.ret (.andE (.isi (.var 0) .tuple) (.chain .le .le (.var 1) (.bi .len [(.var 0)]) (.var 2)))]
def d_is_sized : DefI := ⟨"is_sized", top 6, ["thing", "low", "high"], ["thing", "low", "high"], ⟨3, 3, b_is_sized⟩⟩
def b_once : List S := [.set (.name 1) (.bi .len [(.var 0)]),
  .set (.name 3) (.comp [2] (.name 2) .rng2 [(.c (.int 1)), (.bin .add (.var 1) (.c (.int 1)))] [(.andE (.cmp .eq (.bin .mod (.var 1) (.var 2)) (.c (.int 0))) (.cmp .eq (.var 0) (.bin .mul (.sl (.var 0) false .never true (.var 2)) (.bin .fdiv (.var 1) (.var 2)))))] (.var 2)),
  .ret (.ifE (.cmp .gt (.bi .len [(.var 3)]) (.c (.int 0))) (.sl (.var 0) false .never true (.idx (.var 3) (.c (.int 0)))) (.var 0))]
def d_once : DefI := ⟨"once", top 7, ["row"], ["row", "many", "size", "good"], ⟨1, 4, b_once⟩⟩
def b_shortest : List S := [.set (.name 1) (.ifE (.notE (.bi .any [(.var 1)])) (.tup []) (.call f_once [(.var 1)])),
  .whileS (.andE (.cmp .gt (.bi .len [(.var 0)]) (.c (.int 0))) (.andE (.cmp .gt (.bi .len [(.var 1)]) (.c (.int 0))) (.cmp .eq (.idx (.var 0) (.neg (.c (.int 1)))) (.idx (.var 1) (.neg (.c (.int 1)))))))
   [.par 0 1 (.sl (.var 0) false .never true (.neg (.c (.int 1)))) (.bin .add (.tup [(.idx (.var 1) (.neg (.c (.int 1))))]) (.sl (.var 1) false .never true (.neg (.c (.int 1)))))],
  .whileS (.andE (.cmp .eq (.bi .len [(.var 1)]) (.c (.int 0))) (.andE (.cmp .gt (.bi .len [(.var 0)]) (.c (.int 0))) (.cmp .eq (.idx (.var 0) (.neg (.c (.int 1)))) (.c (.int 0)))))
   [.set (.name 0) (.sl (.var 0) false .never true (.neg (.c (.int 1))))],
  .ret (.tup [(.var 0), (.var 1)])]
def d_shortest : DefI := ⟨"shortest", top 8, ["head", "ring"], ["head", "ring"], ⟨2, 2, b_shortest⟩⟩
def b_figure_of : List S := [.ifS (.cmp .lt (.var 2) (.bi .len [(.var 0)]))
   [.ret (.idx (.var 0) (.var 2))]
   [],
  .ret (.ifE (.cmp .gt (.bi .len [(.var 1)]) (.c (.int 0))) (.idx (.var 1) (.bin .mod (.bin .sub (.var 2) (.bi .len [(.var 0)])) (.bi .len [(.var 1)]))) (.c (.int 0)))]
def d_figure_of : DefI := ⟨"figure_of", top 9, ["head", "ring", "at"], ["head", "ring", "at"], ⟨3, 3, b_figure_of⟩⟩
def b_is_below : List S := [.set (.name 2) (.bin .add (.bi .max2 [(.bi .len [(.idx (.var 0) (.c (.int 0)))]), (.bi .len [(.idx (.var 1) (.c (.int 0)))])]) (.bin .mul (.bi .max2 [(.c (.int 1)), (.bi .len [(.idx (.var 0) (.c (.int 1)))])]) (.bi .max2 [(.c (.int 1)), (.bi .len [(.idx (.var 1) (.c (.int 1)))])]))),
  .forS (.name 3) .rng1 [(.var 2)]
   [.par 4 5 (.call f_figure_of [(.idx (.var 0) (.c (.int 0))), (.idx (.var 0) (.c (.int 1))), (.var 3)]) (.call f_figure_of [(.idx (.var 1) (.c (.int 0))), (.idx (.var 1) (.c (.int 1))), (.var 3)]),
    .ifS (.cmp .ne (.var 4) (.var 5))
     [.ret (.ifE (.cmp .lt (.var 4) (.var 5)) (.neg (.c (.int 1))) (.c (.int 1)))]
     []],
  .ret (.c (.int 0))]
def d_is_below : DefI := ⟨"is_below", top 10, ["one", "other"], ["one", "other", "many", "at", "mine", "its"], ⟨2, 6, b_is_below⟩⟩
def b_tail_of : List S := [.set (.tup [(.name 2), (.name 3)]) (.var 0),
  .ifS (.cmp .le (.var 1) (.bi .len [(.var 2)]))
   [.ret (.call f_shortest [(.sl (.var 2) true (.var 1) false .never), (.var 3)])]
   [],
  .ifS (.cmp .eq (.bi .len [(.var 3)]) (.c (.int 0)))
   [.ret (.tup [(.tup []), (.tup [])])]
   [],
  .set (.name 4) (.bin .mod (.bin .sub (.var 1) (.bi .len [(.var 2)])) (.bi .len [(.var 3)])),
  .ret (.call f_shortest [(.tup []), (.bin .add (.sl (.var 3) true (.var 4) false .never) (.sl (.var 3) false .never true (.var 4)))])]
def d_tail_of : DefI := ⟨"tail_of", top 11, ["row", "n"], ["row", "n", "head", "ring", "turn"], ⟨2, 5, b_tail_of⟩⟩
def b_bad_tail : List S := [.ifS (.cmp .eq (.var 0) (.tup [(.tup [(.c (.int 1))]), (.tup [])]))
   [.ret (.c (.int 0))]
   [],
  .set (.name 1) (.bin .add (.bi .len [(.idx (.var 0) (.c (.int 0)))]) (.bi .len [(.idx (.var 0) (.c (.int 1)))])),
  .forS (.name 2) .rng2 [(.c (.int 1)), (.bin .add (.var 1) (.c (.int 1)))]
   [.ifS (.cmp .ge (.call f_is_below [(.call f_tail_of [(.var 0), (.var 2)]), (.var 0)]) (.c (.int 0)))
     [.ret (.var 2)]
     []],
  .ret (.c .non)]
def d_bad_tail : DefI := ⟨"bad_tail", top 13, ["row"], ["row", "many", "n"], ⟨1, 3, b_bad_tail⟩⟩
def b_raw_gap_rule : List S := [.set (.tup [(.name 1), (.name 2)]) (.var 0),
  .par 3 4 (.bin .add (.bi .len [(.var 1)]) (.bi .len [(.var 2)])) (.new []),
  .forS (.name 5) .rng1 [(.var 3)]
   [.set (.name 6) (.bin .add (.var 5) (.c (.int 1))),
    .ifS (.cmp .eq (.var 6) (.var 3))
     [.set (.name 6) (.ifE (.cmp .gt (.bi .len [(.var 2)]) (.c (.int 0))) (.bi .len [(.var 1)]) (.c .non))]
     [],
    .ex (.meth .append (.var 4) [(.bin .add (.bin .mul (.tup [(.c (.int 0))]) (.call f_figure_of [(.var 1), (.var 2), (.var 5)])) (.ifE (.cmp .isN (.var 6) (.c .non)) (.tup []) (.tup [(.var 6)])))])],
  .ret (.bi .tuple [(.var 4)])]
def d_raw_gap_rule : DefI := ⟨"raw_gap_rule", top 15, ["row"], ["row", "head", "ring", "many", "found", "at", "later"], ⟨1, 7, b_raw_gap_rule⟩⟩
def b_grown : List S := [.set (.name 2) (.new []),
  .forS (.name 3) .seq [(.var 1)]
   [.ex (.meth .extend (.var 2) [(.idx (.var 0) (.var 3))])],
  .ret (.bi .tuple [(.var 2)])]
def d_grown : DefI := ⟨"grown", top 16, ["rule", "word"], ["rule", "word", "found", "one"], ⟨2, 4, b_grown⟩⟩
def b_raw_gap_word : List S := [.set (.name 2) (.tup [(.c (.int 0))]),
  .whileS (.cmp .lt (.bi .len [(.var 2)]) (.var 1))
   [.set (.name 2) (.sl (.call f_grown [(.var 0), (.var 2)]) false .never true (.var 1))],
  .ret (.sl (.var 2) false .never true (.var 1))]
def d_raw_gap_word : DefI := ⟨"raw_gap_word", top 17, ["rule", "n"], ["rule", "n", "word"], ⟨2, 3, b_raw_gap_word⟩⟩
def b_heads_from : List S := [.set (.name 2) (.lst [(.tup [(.var 0)])]),
  .forS (.name 3) .rng1 [(.bin .sub (.var 1) (.c (.int 1)))]
   [.set (.name 2) (.comp2 [4, 5] (.name 4) .seq [(.var 2)] [] [5] (.name 5) .rng1 [(.bin .add (.var 0) (.c (.int 1)))] [] (.bin .add (.var 4) (.tup [(.var 5)])))],
  .ret (.comp [4] (.name 4) .seq [(.var 2)] [(.cmp .gt (.idx (.var 4) (.neg (.c (.int 1)))) (.c (.int 0)))] (.var 4))]
def d_heads_from : DefI := ⟨"heads_from", top 22, ["first", "size"], ["first", "size", "found", "turn", "head", "one"], ⟨2, 6, b_heads_from⟩⟩
def b_begins_so : List S := [.set (.name 2) (.tup [(.var 0), (.tup [])]),
  .ret (.andE (.cmp .isN (.call f_bad_tail [(.var 2)]) (.c .non)) (.cmp .eq (.call f_raw_gap_word [(.call f_raw_gap_rule [(.var 2)]), (.bi .len [(.var 1)])]) (.var 1)))]
def d_begins_so : DefI := ⟨"begins_so", top 23, ["head", "word"], ["head", "word", "row"], ⟨2, 3, b_begins_so⟩⟩
def b_one_of_gaps : List S := [.ifS (.orE (.notE (.call f_is_sized [(.var 0), (.c (.int 2)), (.c (.int 400))])) (.orE (.notE (.bi .all [(.comp [1] (.name 1) .seq [(.var 0)] [] (.call f_is_within [(.var 1), (.c (.int 0)), (.c (.int 4))]))])) (.cmp .ne (.idx (.var 0) (.c (.int 0))) (.c (.int 0)))))
   [.never]
   [],
  .set (.name 3) (.comp [2, 1] (.tup [(.name 2), (.name 1)]) .enum [(.var 0)] [(.cmp .ne (.var 1) (.c (.int 0)))] (.var 2)),
  .ifS (.cmp .eq (.bi .len [(.var 3)]) (.c (.int 0)))
   [.ret (.tup [(.tup [(.c (.int 2))]), (.tup [])])]
   [],
  .ifS (.cmp .gt (.idx (.var 3) (.c (.int 0))) (.c (.int 9)))
   [.ret (.c .non)]
   [],
  .forS (.name 4) .rng2 [(.c (.int 1)), (.bin .add (.c (.int 5)) (.c (.int 1)))]
   [.forS (.name 5) .seq [(.call f_heads_from [(.idx (.var 3) (.c (.int 0))), (.var 4)])]
     [.ifS (.call f_begins_so [(.var 5), (.var 0)])
       [.ret (.tup [(.var 5), (.tup [])])]
       []]],
  .ret (.c .non)]
def d_one_of_gaps : DefI := ⟨"one_of_gaps", top 24, ["word"], ["word", "one", "at", "others", "size", "head"], ⟨1, 6, b_one_of_gaps⟩⟩
def b__law_hand : List S := [.set (.name 2) (.comp [1] (.name 1) .seq [(.sl (.var 0) false .never true (.c (.int 63)))] [] (.bi .abs [(.bi .int [(.var 1)])])),
  .ret (.new [(.var 2), (.c (.int 0)), (.c (.int 0)), (.bin .add (.c (.int 5965)) (.bin .mul (.c (.int 19)) (.bi .len [(.var 2)]))), (.c (.int 0))])]
def d__law_hand : DefI := ⟨"_law_hand", top 26, ["script"], ["script", "cell", "cells"], ⟨1, 3, b__law_hand⟩⟩
def b__law_draw : List S := [.ifS (.andE (.cmp .eq (.idx (.var 0) (.c (.int 2))) (.c (.int 0))) (.cmp .lt (.idx (.var 0) (.c (.int 1))) (.bi .len [(.idx (.var 0) (.c (.int 0)))])))
   [.set (.name 2) (.idx (.idx (.var 0) (.c (.int 0))) (.idx (.var 0) (.c (.int 1)))),
    .setI (.var 0) (.c (.int 1)) (.bin .add (.idx (.var 0) (.c (.int 1))) (.c (.int 1))),
    .setI (.var 0) (.c (.int 3)) (.bin .mod (.bi .int [(.bin .add (.bin .add (.bin .mul (.idx (.var 0) (.c (.int 3))) (.c (.int 69621))) (.bin .mul (.var 2) (.c (.int 40692)))) (.c (.int 6355)))]) (.c (.int 2147483629))),
    .ifS (.cmp .ge (.var 2) (.bin .pow (.c (.int 10)) (.c (.int 18))))
     [.setI (.var 0) (.c (.int 2)) (.var 2)]
     []]
   [],
  .ifS (.cmp .gt (.idx (.var 0) (.c (.int 2))) (.c (.int 0)))
   [.set (.name 3) (.bin .mod (.bi .int [(.idx (.var 0) (.c (.int 2)))]) (.var 1)),
    .setI (.var 0) (.c (.int 2)) (.bin .fdiv (.idx (.var 0) (.c (.int 2))) (.var 1)),
    .ret (.var 3)]
   [],
  .setI (.var 0) (.c (.int 4)) (.bin .add (.idx (.var 0) (.c (.int 4))) (.c (.int 1))),
  .set (.name 4) (.bin .mod (.bi .int [(.bin .mul (.bi .int [(.bin .add (.idx (.var 0) (.c (.int 3))) (.bin .mul (.c (.int 7919)) (.idx (.var 0) (.c (.int 4)))))]) (.c (.int 48271)))]) (.c (.int 2147483647))),
  .set (.name 4) (.bin .mod (.bi .int [(.bin .mul (.var 4) (.bin .add (.bin .fdiv (.var 4) (.c (.int 1009))) (.c (.int 69621))))]) (.c (.int 2147483647))),
  .set (.name 4) (.bin .mod (.bi .int [(.bin .mul (.var 4) (.bin .add (.bin .fdiv (.var 4) (.c (.int 2003))) (.c (.int 40692))))]) (.c (.int 2147483399))),
  .ret (.bin .mod (.bi .int [(.bin .fdiv (.var 4) (.c (.int 16)))]) (.var 1))]
def d__law_draw : DefI := ⟨"_law_draw", top 27, ["hand", "many"], ["hand", "many", "cell", "digit", "number"], ⟨2, 5, b__law_draw⟩⟩
def b__law_some : List S := [.ret (.idx (.var 1) (.call f__law_draw [(.var 0), (.bi .len [(.var 1)])]))]
def d__law_some : DefI := ⟨"_law_some", top 28, ["hand", "items"], ["hand", "items"], ⟨2, 2, b__law_some⟩⟩
def b__law_is : List S := [.ret (.cmp .eq (.bi .repr [(.var 0)]) (.bi .repr [(.var 1)]))]
def d__law_is : DefI := ⟨"_law_is", top 29, ["told", "due"], ["told", "due"], ⟨2, 2, b__law_is⟩⟩
def b__law_is_base : List S := [.set (.name 1) (.bin .add (.var 0) (.bin .mul (.tup [(.c (.int 0))]) (.bi .len [(.var 0)]))),
  .ret (.andE (.cmp .ne (.var 0) (.tup [(.c (.int 1))])) (.bi .all [(.comp [2] (.name 2) .rng2 [(.c (.int 1)), (.bi .len [(.var 0)])] [] (.cmp .lt (.bin .add (.sl (.var 0) true (.var 2) false .never) (.bin .mul (.tup [(.c (.int 0))]) (.var 2))) (.sl (.var 1) false .never true (.bi .len [(.var 0)]))))]))]
def d__law_is_base : DefI := ⟨"_law_is_base", top 30, ["head"], ["head", "whole", "at"], ⟨1, 3, b__law_is_base⟩⟩
def b__law_begin : List S := [.set (.tup [(.name 2), (.name 3)]) (.tup [(.tup [(.c (.int 0))]), (.c (.int 0))]),
  .whileS (.chain .lt .lt (.var 3) (.bi .len [(.var 2)]) (.var 1))
   [.par 3 4 (.bi .len [(.var 2)]) (.new []),
    .forS (.name 5) .seq [(.var 2)]
     [.ifS (.cmp .lt (.bi .len [(.var 4)]) (.var 1))
       [.ex (.meth .extend (.var 4) [(.bin .add (.bin .mul (.lst [(.c (.int 0))]) (.idx (.var 0) (.var 5))) (.ifE (.cmp .lt (.bin .add (.var 5) (.c (.int 1))) (.bi .len [(.var 0)])) (.lst [(.bin .add (.var 5) (.c (.int 1)))]) (.lst [])))])]
       []],
    .set (.name 2) (.bi .tuple [(.sl (.var 4) false .never true (.var 1))])],
  .ret (.sl (.var 2) false .never true (.var 1))]
def d__law_begin : DefI := ⟨"_law_begin", top 31, ["head", "many"], ["head", "many", "found", "many_now", "later", "gap"], ⟨2, 6, b__law_begin⟩⟩
def b__law_heads : List S := [.set (.name 2) (.new [(.tup [(.var 1)])]),
  .forS (.name 3) .rng1 [(.bin .sub (.var 0) (.c (.int 1)))]
   [.set (.name 4) (.new []),
    .forS (.name 5) .seq [(.var 2)]
     [.ex (.meth .extend (.var 4) [(.comp [6] (.name 6) .rng1 [(.bin .add (.var 1) (.c (.int 1)))] [] (.bin .add (.var 5) (.tup [(.var 6)])))])],
    .set (.name 2) (.var 4)],
  .ret (.comp [5] (.name 5) .seq [(.var 2)] [(.cmp .gt (.idx (.var 5) (.neg (.c (.int 1)))) (.c (.int 0)))] (.var 5))]
def d__law_heads : DefI := ⟨"_law_heads", top 32, ["size", "first"], ["size", "first", "found", "turn", "longer", "head", "figure"], ⟨2, 7, b__law_heads⟩⟩
def b__law_due : List S := [.set (.name 1) (.c (.int 0)),
  .whileS (.andE (.cmp .lt (.var 1) (.bi .len [(.var 0)])) (.cmp .eq (.idx (.var 0) (.var 1)) (.c (.int 0))))
   [.set (.name 1) (.bin .add (.var 1) (.c (.int 1)))],
  .ifS (.cmp .eq (.var 1) (.bi .len [(.var 0)]))
   [.ret (.tup [(.tup [(.c (.int 2))]), (.tup [])])]
   [],
  .ifS (.cmp .gt (.var 1) (.c (.int 9)))
   [.ret (.c .non)]
   [],
  .forS (.name 2) .rng2 [(.c (.int 2)), (.c (.int 6))]
   [.forS (.name 3) .seq [(.call f__law_heads [(.var 2), (.var 1)])]
     [.ifS (.andE (.call f__law_is_base [(.var 3)]) (.cmp .eq (.call f__law_begin [(.var 3), (.bi .len [(.var 0)])]) (.var 0)))
       [.ret (.tup [(.var 3), (.tup [])])]
       []]],
  .ret (.c .non)]
def d__law_due : DefI := ⟨"_law_due", top 33, ["word"], ["word", "ahead", "size", "head"], ⟨1, 4, b__law_due⟩⟩
def b__law_drawn : List S := [.set (.name 1) (.tup [(.bin .add (.c (.int 1)) (.call f__law_draw [(.var 0), (.c (.int 3))]))]),
  .forS (.name 2) .rng1 [(.call f__law_draw [(.var 0), (.c (.int 5))])]
   [.set (.name 1) (.bin .add (.var 1) (.tup [(.call f__law_draw [(.var 0), (.bin .add (.idx (.var 1) (.c (.int 0))) (.c (.int 1)))])]))],
  .whileS (.cmp .eq (.idx (.var 1) (.neg (.c (.int 1)))) (.c (.int 0)))
   [.set (.name 1) (.sl (.var 1) false .never true (.neg (.c (.int 1))))],
  .ret (.ifE (.call f__law_is_base [(.var 1)]) (.var 1) (.tup [(.idx (.var 1) (.c (.int 0))), (.idx (.var 1) (.c (.int 0)))]))]
def d__law_drawn : DefI := ⟨"_law_drawn", top 34, ["hand"], ["hand", "head", "turn"], ⟨1, 3, b__law_drawn⟩⟩
def b_law : List S := [.set (.name 1) (.call f__law_hand [(.var 0)]),
  .set (.name 2) (.lst [(.call f_one_of_gaps [(.tup [(.c (.int 0)), (.c (.int 1)), (.c (.int 0)), (.c (.int 0)), (.c (.int 1))])]), (.call f_one_of_gaps [(.tup [(.c (.int 0)), (.c (.int 0))])]), (.call f_one_of_gaps [(.tup [(.c (.int 0)), (.c (.int 2))])])]),
  .ifS (.notE (.call f__law_is [(.var 2), (.lst [(.tup [(.tup [(.c (.int 1)), (.c (.int 1))]), (.tup [])]), (.tup [(.tup [(.c (.int 2))]), (.tup [])]), (.c .non)])]))
   [.ret (.c (.bl false))]
   [],
  .forS (.name 3) .rng1 [(.c (.int 4))]
   [.set (.name 4) (.call f__law_drawn [(.var 1)]),
    .set (.name 5) (.call f__law_begin [(.var 4), (.call f__law_some [(.var 1), (.lst [(.c (.int 3)), (.c (.int 8)), (.c (.int 20)), (.c (.int 60))])])]),
    .ifS (.cmp .gt (.bi .len [(.var 5)]) (.c (.int 1)))
     [.set (.name 6) (.bin .add (.c (.int 1)) (.call f__law_draw [(.var 1), (.bin .sub (.bi .len [(.var 5)]) (.c (.int 1)))])),
      .set (.name 7) (.bin .add (.bin .add (.sl (.var 5) false .never true (.var 6)) (.tup [(.call f__law_draw [(.var 1), (.c (.int 5))])])) (.sl (.var 5) true (.bin .add (.var 6) (.c (.int 1))) false .never)),
      .ifS (.notE (.call f__law_is [(.lst [(.call f_one_of_gaps [(.var 5)]), (.call f_one_of_gaps [(.var 7)])]), (.lst [(.call f__law_due [(.var 5)]), (.call f__law_due [(.var 7)])])]))
       [.ret (.c (.bl false))]
       [],
      .set (.name 8) (.sl (.var 5) false .never true (.bin .add (.c (.int 2)) (.call f__law_draw [(.var 1), (.bin .sub (.bi .len [(.var 5)]) (.c (.int 1)))]))),
      .par 9 10 (.call f_one_of_gaps [(.var 8)]) (.call f_one_of_gaps [(.var 5)]),
      .ifS (.orE (.cmp .isN (.var 9) (.c .non)) (.orE (.cmp .isN (.var 10) (.c .non)) (.cmp .gt (.tup [(.bi .len [(.idx (.var 9) (.c (.int 0)))]), (.idx (.var 9) (.c (.int 0)))]) (.tup [(.bi .len [(.idx (.var 10) (.c (.int 0)))]), (.idx (.var 10) (.c (.int 0)))]))))
       [.ret (.c (.bl false))]
       []]
     []],
  .ret (.c (.bl true))]
def d_law : DefI := ⟨"law", top 35, ["script"], ["script", "hand", "told", "lap", "head", "word", "at", "bent", "cut", "one", "other"], ⟨1, 11, b_law⟩⟩
def ds : List DefI := [d_is_integer, d_is_within, d_is_sized, d_once, d_shortest, d_figure_of, d_is_below, d_tail_of, d_bad_tail, d_raw_gap_rule, d_grown, d_raw_gap_word, d_heads_from, d_begins_so, d_one_of_gaps, d__law_hand, d__law_draw, d__law_some, d__law_is, d__law_is_base, d__law_begin, d__law_heads, d__law_due, d__law_drawn, d_law]
def cs : List (Str × D) := [("MOST_GAP", (.int 4)), ("MOST_HEAD", (.int 5)), ("MOST_TOLD", (.int 400))]
def fr : List Str := ["abs", "all", "any", "bool", "enumerate", "int", "isinstance", "len", "max", "range", "repr", "tuple"]
def fns : List (Str × Nat × Nat) := [("is_integer", 0, 1), ("is_within", 1, 3), ("is_sized", 2, 3), ("once", 3, 1), ("shortest", 4, 2), ("figure_of", 5, 3), ("is_below", 6, 2), ("tail_of", 7, 2), ("bad_tail", 8, 1), ("raw_gap_rule", 9, 1), ("grown", 10, 2), ("raw_gap_word", 11, 2), ("heads_from", 12, 2), ("begins_so", 13, 2), ("one_of_gaps", 14, 1), ("_law_hand", 15, 1), ("_law_draw", 16, 2), ("_law_some", 17, 2), ("_law_is", 18, 2), ("_law_is_base", 19, 1), ("_law_begin", 20, 2), ("_law_heads", 21, 2), ("_law_due", 22, 1), ("_law_drawn", 23, 1), ("law", 24, 1)]
theorem fns_eq : fnsOf ds = fns := by kernel_rfl
theorem ok_is_integer : okDef fns cs fr 60 d_is_integer = true := by kernel_rfl
theorem ok_is_within : okDef fns cs fr 60 d_is_within = true := by kernel_rfl
theorem ok_is_sized : okDef fns cs fr 60 d_is_sized = true := by kernel_rfl
theorem ok_once : okDef fns cs fr 60 d_once = true := by kernel_rfl
theorem ok_shortest : okDef fns cs fr 60 d_shortest = true := by kernel_rfl
theorem ok_figure_of : okDef fns cs fr 60 d_figure_of = true := by kernel_rfl
theorem ok_is_below : okDef fns cs fr 60 d_is_below = true := by kernel_rfl
theorem ok_tail_of : okDef fns cs fr 60 d_tail_of = true := by kernel_rfl
theorem ok_bad_tail : okDef fns cs fr 60 d_bad_tail = true := by kernel_rfl
theorem ok_raw_gap_rule : okDef fns cs fr 60 d_raw_gap_rule = true := by kernel_rfl
theorem ok_grown : okDef fns cs fr 60 d_grown = true := by kernel_rfl
theorem ok_raw_gap_word : okDef fns cs fr 60 d_raw_gap_word = true := by kernel_rfl
theorem ok_heads_from : okDef fns cs fr 60 d_heads_from = true := by kernel_rfl
theorem ok_begins_so : okDef fns cs fr 60 d_begins_so = true := by kernel_rfl
theorem ok_one_of_gaps : okDef fns cs fr 60 d_one_of_gaps = true := by kernel_rfl
theorem ok__law_hand : okDef fns cs fr 60 d__law_hand = true := by kernel_rfl
theorem ok__law_draw : okDef fns cs fr 60 d__law_draw = true := by kernel_rfl
theorem ok__law_some : okDef fns cs fr 60 d__law_some = true := by kernel_rfl
theorem ok__law_is : okDef fns cs fr 60 d__law_is = true := by kernel_rfl
theorem ok__law_is_base : okDef fns cs fr 60 d__law_is_base = true := by kernel_rfl
theorem ok__law_begin : okDef fns cs fr 60 d__law_begin = true := by kernel_rfl
theorem ok__law_heads : okDef fns cs fr 60 d__law_heads = true := by kernel_rfl
theorem ok__law_due : okDef fns cs fr 60 d__law_due = true := by kernel_rfl
theorem ok__law_drawn : okDef fns cs fr 60 d__law_drawn = true := by kernel_rfl
theorem ok_law : okDef fns cs fr 60 d_law = true := by kernel_rfl
theorem oks : ∀ d ∈ ds, okDef (fnsOf ds) cs fr 60 d = true := by
  rw [fns_eq]
  intro d hd
  simp only [ds, List.mem_cons, List.not_mem_nil, or_false] at hd
  rcases hd with rfl | rfl | rfl | rfl | rfl | rfl | rfl | rfl | rfl | rfl | rfl | rfl | rfl | rfl | rfl | rfl | rfl | rfl | rfl | rfl | rfl | rfl | rfl | rfl | rfl
  · exact ok_is_integer
  · exact ok_is_within
  · exact ok_is_sized
  · exact ok_once
  · exact ok_shortest
  · exact ok_figure_of
  · exact ok_is_below
  · exact ok_tail_of
  · exact ok_bad_tail
  · exact ok_raw_gap_rule
  · exact ok_grown
  · exact ok_raw_gap_word
  · exact ok_heads_from
  · exact ok_begins_so
  · exact ok_one_of_gaps
  · exact ok__law_hand
  · exact ok__law_draw
  · exact ok__law_some
  · exact ok__law_is
  · exact ok__law_is_base
  · exact ok__law_begin
  · exact ok__law_heads
  · exact ok__law_due
  · exact ok__law_drawn
  · exact ok_law
def toD (d : DefI) : He.DefD := ⟨(d.x, none), d.x, d.x, defArgs d.st, defBody d.st, defScope d.st, [], []⟩
def fn : List He.DefD := ds.map toD
def fa : List He.Fa := ds.map (fun d => .glo d.x) ++ [.int "MOST_GAP" 4, .int "MOST_HEAD" 5, .int "MOST_TOLD" 400] ++ fr.map .free
def lo0 : List Str := ["RootError", "NoGaps", "is_integer", "is_within", "is_sized", "once", "shortest", "figure_of", "is_below", "tail_of", "bad_tail", "raw_gap_rule", "grown", "raw_gap_word", "MOST_TOLD", "MOST_HEAD", "MOST_GAP", "heads_from", "begins_so", "one_of_gaps", "_law_hand", "_law_draw", "_law_some", "_law_is", "_law_is_base", "_law_begin", "_law_heads", "_law_due", "_law_drawn"]
def lo : List Str := lo0
abbrev R : PySem.W.OpenRow := PySem.W.OpenLaw.row PySem.Challenge.rw_rootfigures_k72_whole_rows_told_by_gaps
abbrev hk : PySem.W.Hook := He.hookD 4 fa fn
def ob (s : PySem.W.SharedT) : He.AlD := He.obsDG 4 fa fn (HandSHeadRun.getT s)
theorem ob_eq (s : PySem.W.SharedT) : ob s = hk.obs s.abs := He.obsDG_eq (HandSHeadRun.getT_eq s)
theorem run (w : World) : HandSHeadRun.RunEq R (PySem.W.view R.prog [35]) hk ob 4000 lo w := by
  intro os
  kernel_rfl
theorem tab {K : PySem.W.Frag} {h : Heap} {mg : Str → Option Value} (X : K.In h) (G : h.Ns mainGlobals mg) (c : He.SaysD fa fn K) : Tab K mg ds cs fr := by
  have df : ∀ (i : Nat) (d : DefI), ds[i]? = some d → ∃ fd, FunD K d.x d.x (defArgs d.st) (defBody d.st) (defScope d.st) [] [] (He.fAd K (d.x, none)) fd ∧ mg d.x = some (.ref (He.ga K d.x)) := fun i d hd => by
    obtain ⟨fd, F⟩ := c.def_ i (d := toD d) (by unfold fn; rw [List.getElem?_map, hd]; rfl)
    have hm : (He.Fa.glo d.x) ∈ fa := List.mem_append_left _ (List.mem_append_left _ (List.mem_map.mpr ⟨d, List.mem_of_getElem? hd, rfl⟩))
    obtain ⟨j, hj⟩ := List.getElem?_of_mem hm
    exact ⟨fd, F, He.glo_ok X G (c.fact j hj)⟩
  refine ⟨fun d hd => ?_, fun x d hx _ => ?_, fun x hx => ?_⟩
  · simp only [ds, List.mem_cons, List.not_mem_nil, or_false] at hd
    rcases hd with rfl | rfl | rfl | rfl | rfl | rfl | rfl | rfl | rfl | rfl | rfl | rfl | rfl | rfl | rfl | rfl | rfl | rfl | rfl | rfl | rfl | rfl | rfl | rfl | rfl
    · obtain ⟨fd, F, g⟩ := df 0 d_is_integer rfl
      exact ⟨_, fd, g, F, FunD.bindsN F fun _ _ _ _ _ _ us hl => match us, hl with | [_], _ => rfl⟩
    · obtain ⟨fd, F, g⟩ := df 1 d_is_within rfl
      exact ⟨_, fd, g, F, FunD.bindsN F fun _ _ _ _ _ _ us hl => match us, hl with | [_, _, _], _ => rfl⟩
    · obtain ⟨fd, F, g⟩ := df 2 d_is_sized rfl
      exact ⟨_, fd, g, F, FunD.bindsN F fun _ _ _ _ _ _ us hl => match us, hl with | [_, _, _], _ => rfl⟩
    · obtain ⟨fd, F, g⟩ := df 3 d_once rfl
      exact ⟨_, fd, g, F, FunD.bindsN F fun _ _ _ _ _ _ us hl => match us, hl with | [_], _ => rfl⟩
    · obtain ⟨fd, F, g⟩ := df 4 d_shortest rfl
      exact ⟨_, fd, g, F, FunD.bindsN F fun _ _ _ _ _ _ us hl => match us, hl with | [_, _], _ => rfl⟩
    · obtain ⟨fd, F, g⟩ := df 5 d_figure_of rfl
      exact ⟨_, fd, g, F, FunD.bindsN F fun _ _ _ _ _ _ us hl => match us, hl with | [_, _, _], _ => rfl⟩
    · obtain ⟨fd, F, g⟩ := df 6 d_is_below rfl
      exact ⟨_, fd, g, F, FunD.bindsN F fun _ _ _ _ _ _ us hl => match us, hl with | [_, _], _ => rfl⟩
    · obtain ⟨fd, F, g⟩ := df 7 d_tail_of rfl
      exact ⟨_, fd, g, F, FunD.bindsN F fun _ _ _ _ _ _ us hl => match us, hl with | [_, _], _ => rfl⟩
    · obtain ⟨fd, F, g⟩ := df 8 d_bad_tail rfl
      exact ⟨_, fd, g, F, FunD.bindsN F fun _ _ _ _ _ _ us hl => match us, hl with | [_], _ => rfl⟩
    · obtain ⟨fd, F, g⟩ := df 9 d_raw_gap_rule rfl
      exact ⟨_, fd, g, F, FunD.bindsN F fun _ _ _ _ _ _ us hl => match us, hl with | [_], _ => rfl⟩
    · obtain ⟨fd, F, g⟩ := df 10 d_grown rfl
      exact ⟨_, fd, g, F, FunD.bindsN F fun _ _ _ _ _ _ us hl => match us, hl with | [_, _], _ => rfl⟩
    · obtain ⟨fd, F, g⟩ := df 11 d_raw_gap_word rfl
      exact ⟨_, fd, g, F, FunD.bindsN F fun _ _ _ _ _ _ us hl => match us, hl with | [_, _], _ => rfl⟩
    · obtain ⟨fd, F, g⟩ := df 12 d_heads_from rfl
      exact ⟨_, fd, g, F, FunD.bindsN F fun _ _ _ _ _ _ us hl => match us, hl with | [_, _], _ => rfl⟩
    · obtain ⟨fd, F, g⟩ := df 13 d_begins_so rfl
      exact ⟨_, fd, g, F, FunD.bindsN F fun _ _ _ _ _ _ us hl => match us, hl with | [_, _], _ => rfl⟩
    · obtain ⟨fd, F, g⟩ := df 14 d_one_of_gaps rfl
      exact ⟨_, fd, g, F, FunD.bindsN F fun _ _ _ _ _ _ us hl => match us, hl with | [_], _ => rfl⟩
    · obtain ⟨fd, F, g⟩ := df 15 d__law_hand rfl
      exact ⟨_, fd, g, F, FunD.bindsN F fun _ _ _ _ _ _ us hl => match us, hl with | [_], _ => rfl⟩
    · obtain ⟨fd, F, g⟩ := df 16 d__law_draw rfl
      exact ⟨_, fd, g, F, FunD.bindsN F fun _ _ _ _ _ _ us hl => match us, hl with | [_, _], _ => rfl⟩
    · obtain ⟨fd, F, g⟩ := df 17 d__law_some rfl
      exact ⟨_, fd, g, F, FunD.bindsN F fun _ _ _ _ _ _ us hl => match us, hl with | [_, _], _ => rfl⟩
    · obtain ⟨fd, F, g⟩ := df 18 d__law_is rfl
      exact ⟨_, fd, g, F, FunD.bindsN F fun _ _ _ _ _ _ us hl => match us, hl with | [_, _], _ => rfl⟩
    · obtain ⟨fd, F, g⟩ := df 19 d__law_is_base rfl
      exact ⟨_, fd, g, F, FunD.bindsN F fun _ _ _ _ _ _ us hl => match us, hl with | [_], _ => rfl⟩
    · obtain ⟨fd, F, g⟩ := df 20 d__law_begin rfl
      exact ⟨_, fd, g, F, FunD.bindsN F fun _ _ _ _ _ _ us hl => match us, hl with | [_, _], _ => rfl⟩
    · obtain ⟨fd, F, g⟩ := df 21 d__law_heads rfl
      exact ⟨_, fd, g, F, FunD.bindsN F fun _ _ _ _ _ _ us hl => match us, hl with | [_, _], _ => rfl⟩
    · obtain ⟨fd, F, g⟩ := df 22 d__law_due rfl
      exact ⟨_, fd, g, F, FunD.bindsN F fun _ _ _ _ _ _ us hl => match us, hl with | [_], _ => rfl⟩
    · obtain ⟨fd, F, g⟩ := df 23 d__law_drawn rfl
      exact ⟨_, fd, g, F, FunD.bindsN F fun _ _ _ _ _ _ us hl => match us, hl with | [_], _ => rfl⟩
    · obtain ⟨fd, F, g⟩ := df 24 d_law rfl
      exact ⟨_, fd, g, F, FunD.bindsN F fun _ _ _ _ _ _ us hl => match us, hl with | [_], _ => rfl⟩
  · have hm := mem_of_lookup hx
    simp only [cs, List.mem_cons, List.not_mem_nil, or_false, Prod.mk.injEq] at hm
    rcases hm with ⟨rfl, rfl⟩ | ⟨rfl, rfl⟩ | ⟨rfl, rfl⟩
    · obtain ⟨t, e⟩ := He.int_ok X G (c.fact 25 (f := He.Fa.int "MOST_GAP" 4) rfl)
      exact ⟨V.int (4), _, e, ⟨t, rfl⟩, fun _ _ _ => rfl⟩
    · obtain ⟨t, e⟩ := He.int_ok X G (c.fact 26 (f := He.Fa.int "MOST_HEAD" 5) rfl)
      exact ⟨V.int (5), _, e, ⟨t, rfl⟩, fun _ _ _ => rfl⟩
    · obtain ⟨t, e⟩ := He.int_ok X G (c.fact 27 (f := He.Fa.int "MOST_TOLD" 400) rfl)
      exact ⟨V.int (400), _, e, ⟨t, rfl⟩, fun _ _ _ => rfl⟩
  · have hm : (He.Fa.free x) ∈ fa := List.mem_append_right _ (List.mem_map.mpr ⟨x, List.contains_iff_mem.mp hx, rfl⟩)
    obtain ⟨j, hj⟩ := List.getElem?_of_mem hm
    exact He.free_ok X G (c.fact j hj)
end Lk72
set_option linter.all false
set_option maxRecDepth 100000
set_option maxHeartbeats 4000000
namespace Lk72
open PySem Ev
abbrev P := progOf ds
/-! ### the hand -/
/-- the hand lies first in the store -/
def HOk (S : Store) : Prop := ∃ (cs : List Int) (i d s c : Int) (R : Store), S = .lst [.lst (cs.map .int), .int i, .int d, .int s, .int c] :: R ∧ (∀ x ∈ cs, 0 ≤ x) ∧ 0 ≤ i ∧ 0 ≤ d
theorem HOk.mk {cs : List Int} {i d s c : Int} {R : Store} (h1 : ∀ x ∈ cs, 0 ≤ x) (h2 : 0 ≤ i) (h3 : 0 ≤ d) : HOk (.lst [.lst (cs.map .int), .int i, .int d, .int s, .int c] :: R) := ⟨cs, i, d, s, c, R, rfl, h1, h2, h3⟩
theorem fmod_lt {a b : Int} (h : 0 < b) : 0 ≤ a.fmod b ∧ a.fmod b < b := ⟨Int.fmod_nonneg_of_pos a h, Int.fmod_lt_of_pos a h⟩
variable {k : Nat} {S : Store}
theorem c_draw {w : Int} (hw : 0 < w) (hw2 : w < 1073741824) (h : HOk S) : T (callV P (k + 1) f__law_draw [.ref 0, .int w] S) fun r S' => (∃ x : Int, r = .int x ∧ 0 ≤ x ∧ x < w) ∧ HOk S' := by
  obtain ⟨cs, i, d, s, c, R, rfl, h1, h2, h3⟩ := h
  refine (T_callV (fd := d__law_draw.fd) rfl rfl).mpr ?_
  show T (exSs _ b__law_draw _ _) _
  unfold b__law_draw
  refine X_seq (fun ρ S' => (∃ x, ρ = [some (.ref 0), some (.int w), x, none, none]) ∧ HOk S') ?_ ?_
  · rw [X_if]
    simp [d__law_draw, peekP]
    by_cases hd : d = 0
    · subst hd
      refine .inr ⟨rfl, ?_⟩
      by_cases hi : i < cs.length
      · refine .inr ⟨hi, ?_⟩
        have hz : cs[i.toNat]? = some cs[i.toNat] := List.getElem?_eq_getElem (by omega)
        have hat : L2.atI (cs.map D.int) i = some (.int cs[i.toNat]) := by
          rw [at_map]
          have := at_nat (xs := cs) (n := i.toNat)
          rw [Int.toNat_of_nonneg h2, hz] at this
          rw [this]
          rfl
        have hp := h1 _ (List.getElem_mem (by omega : i.toNat < cs.length))
        generalize cs[i.toNat] = x at hat hp
        rw [X_cons, X_set]
        simp [peekP, hat]
        rw [X_cons, X_setI]
        simp [peekP, L2.ixN]
        rw [X_cons, X_setI]
        simp [peekP, L2.ixN, mulOk_r]
        rw [X_cons, X_if]
        simp
        by_cases hx : x < 1000000000000000000
        · exact .inl ⟨hx, HOk.mk h1 (by omega) (by omega)⟩
        · refine .inr ⟨by omega, ?_⟩
          rw [X_cons, X_setI]
          simp [L2.ixN]
          exact HOk.mk h1 (by omega) (by omega)
      · refine .inl ⟨by omega, ?_⟩
        exact HOk.mk h1 h2 (by omega)
    · refine .inl ⟨hd, ?_⟩
      exact HOk.mk h1 h2 h3
  · rintro ρ' S' ⟨⟨y, rfl⟩, h⟩
    obtain ⟨cs, i, d, s, c, R, rfl, h1, h2, h3⟩ := h
    rw [X_cons, X_if]
    simp [peekP]
    by_cases hd : 0 < d
    · refine .inr ⟨hd, ?_⟩
      rw [X_cons, X_set]
      simp [peekP]
      refine ⟨by omega, ?_⟩
      rw [X_cons, X_setI]
      simp [peekP, L2.ixN]
      refine ⟨by omega, ?_⟩
      rw [X_cons, X_ret]
      simp
      refine ⟨fmod_lt hw, HOk.mk h1 h2 ?_⟩
      exact Int.fdiv_nonneg (by omega) (by omega)
    · refine .inl ⟨by omega, ?_⟩
      rw [X_cons, X_setI]
      simp [peekP, L2.ixN]
      rw [X_cons, X_set]
      simp [peekP, mulOk_r, mulOk_l]
      generalize hn : ((s + 7919 * (c + 1)) * 48271).fmod 2147483647 = n
      have b1 := fmod_lt (a := (s + 7919 * (c + 1)) * 48271) (b := 2147483647) (by decide)
      rw [hn] at b1
      rw [X_cons, X_set]
      simp
      refine ⟨mulOk_l (by omega) (by omega), ?_⟩
      generalize hn2 : (n * (n.fdiv 1009 + 69621)).fmod 2147483647 = n2
      have b2 := fmod_lt (a := n * (n.fdiv 1009 + 69621)) (b := 2147483647) (by decide)
      rw [hn2] at b2
      rw [X_cons, X_set]
      simp
      refine ⟨mulOk_l (by omega) (by omega), ?_⟩
      rw [X_cons, X_ret]
      simp
      exact ⟨by omega, fmod_lt hw, HOk.mk h1 h2 h3⟩
theorem HOk.app {S R : Store} (h : HOk S) : HOk (S ++ R) := by
  obtain ⟨cs, i, d, s, c, R', rfl, h1, h2, h3⟩ := h
  exact ⟨cs, i, d, s, c, R' ++ R, rfl, h1, h2, h3⟩
end Lk72
set_option linter.all false
set_option maxRecDepth 100000
set_option maxHeartbeats 4000000
namespace Lk72
open PySem Ev
variable {k : Nat} {S : Store}
theorem c_some {ds : List D} (h0 : ds ≠ []) (h1 : ds.length < 1073741824) (h : HOk S) : T (callV P (k + 2) f__law_some [.ref 0, .lst ds] S) fun r S' => r ∈ ds ∧ HOk S' := by
  refine (T_callV (fd := d__law_some.fd) rfl rfl).mpr ?_
  show T (exSs _ b__law_some _ _) _
  unfold b__law_some
  rw [X_cons, X_ret]
  simp [d__law_some]
  have hl : 0 < ds.length := List.length_pos_iff.mpr h0
  refine (c_draw (by omega) (by omega) h).mono fun r S' ⟨⟨x, e, x0, x1⟩, h'⟩ => ?_
  subst e
  simp
  have e : x = (x.toNat : Int) := by omega
  rw [e, at_nat, List.getElem?_eq_getElem (by omega)]
  exact ⟨_, rfl, List.getElem_mem _, h'⟩
theorem c_hand {ns : List Int} : T (callV P (k + 1) f__law_hand [.fro (ns.map .int)] []) fun r S' => r = .ref 0 ∧ HOk S' := by
  refine (T_callV (fd := d__law_hand.fd) rfl rfl).mpr ?_
  show T (exSs _ b__law_hand _ _) _
  unfold b__law_hand
  rw [X_cons, X_set]
  refine T_compI (ds := (cutL ns none (some 63)).map .int) (g := fun d => match d with | .int i => .int (if i < 0 then -i else i) | d => d) ?_ ?_ ?_ ?_
  · simp [d__law_hand]
  · rw [List.length_map, show (63 : Int) = ((63 : Nat) : Int) from rfl, cut_to, List.length_take]
    exact Nat.le_trans (Nat.min_le_left _ _) (by decide)
  · intro d hd
    obtain ⟨i, _, rfl⟩ := List.mem_map.mp hd
    refine ⟨[some (.fro (ns.map .int)), some (.int i), none], rfl, ?_, ?_⟩
    · simp
    · simp
  · rw [show (63 : Int) = ((63 : Nat) : Int) from rfl, cut_to, List.map_map]
    refine ⟨_, rfl, ?_⟩
    rw [X_cons, X_ret]
    simp [mulOk_l, d__law_hand]
    refine ⟨(ns.take 63).map fun i => if i < 0 then -i else i, 0, 0, 5965 + 19 * ((min 63 ns.length : Nat) : Int), 0, [], ?_, ?_, by omega, by omega⟩
    · rw [List.map_map, ← List.map_take]
      rfl
    · intro x hx
      obtain ⟨i, _, rfl⟩ := List.mem_map.mp hx
      split <;> omega
end Lk72
set_option linter.all false
set_option maxRecDepth 100000
set_option maxHeartbeats 1000000
namespace Lk72
open PySem Ev
variable {k : Nat} {S : Store} {d a b : D}
def isI : D → Bool
  | .int _ => true
  | _ => false
def inR (lo hi : Int) : D → Bool
  | .int i => decide (lo ≤ i) && decide (i ≤ hi)
  | _ => false
def isPair : D → Bool
  | .tup xs => decide (xs.length = 2)
  | _ => false
def sized (lo hi : Int) : D → Bool
  | .tup xs => decide (lo ≤ xs.length) && decide ((xs.length : Int) ≤ hi)
  | _ => false
theorem c_is_integer (h : nr d = true) : callV P (k + 1) f_is_integer [d] S = some (.ok (.bl (isI d)) S) := by
  refine T_eq ((T_callV (fd := d_is_integer.fd) rfl rfl).mpr ?_)
  cases d <;> first | (cases h; done) | (simp [d_is_integer, b_is_integer, X_cons, X_ret, peekP, isiV, isI])
theorem c_is_within (h : nr d = true) {lo hi : Int} : callV P (k + 2) f_is_within [d, .int lo, .int hi] S = some (.ok (.bl (inR lo hi d)) S) := by
  refine T_eq ((T_callV (fd := d_is_within.fd) rfl rfl).mpr ?_)
  simp [d_is_within, b_is_within, X_cons, X_ret, c_is_integer h, peekP]
  cases d <;> simp [isI, inR]
  omega
theorem c_is_sized (h : nr d = true) {lo hi : Int} : callV P (k + 1) f_is_sized [d, .int lo, .int hi] S = some (.ok (.bl (sized lo hi d)) S) := by
  refine T_eq ((T_callV (fd := d_is_sized.fd) rfl rfl).mpr ?_)
  cases d <;> first | (cases h; done) | (simp [d_is_sized, b_is_sized, X_cons, X_ret, peekP, isiV, sized])
  omega
/-- noughts at the end go -/
def trim (h : List Int) : List Int := (h.reverse.dropWhile fun x => x == 0).reverse
theorem trim_snoc (h : List Int) (x : Int) : trim (h ++ [x]) = if x = 0 then trim h else h ++ [x] := by
  unfold trim
  rw [List.reverse_append, List.reverse_singleton, List.singleton_append, List.dropWhile_cons]
  by_cases e : x = 0 <;> simp [e]
theorem w_trim {call : Nat → List D → M D} : ∀ (n : Nat) {h : List Int}, h.length ≤ n → T (whileM (evT call (.andE (.cmp .eq (.bi .len [(.var 1)]) (.c (.int 0))) (.andE (.cmp .gt (.bi .len [(.var 0)]) (.c (.int 0))) (.cmp .eq (.idx (.var 0) (.neg (.c (.int 1)))) (.c (.int 0))))))
    (exSs call [.set (.name 0) (.sl (.var 0) false .never true (.neg (.c (.int 1))))]) [some (ti h), some (.tup [])] S)
    fun res S' => S' = S ∧ res = (.nx, [some (ti (trim h)), some (.tup [])]) := by
  intro n
  induction n with
  | zero =>
    intro h hn
    have e : h = [] := List.length_eq_zero_iff.mp (by omega)
    subst e
    rw [T_while]
    simp [trim]
  | succ n ih =>
    intro h hn
    rw [T_while]
    simp
    by_cases h0 : h = []
    · subst h0
      simp [trim]
    · have hp := List.length_pos_iff.mpr h0
      have sp : h = h.dropLast ++ [h.getLast h0] := (List.dropLast_concat_getLast h0).symm
      have tr : trim h = if h.getLast h0 = 0 then trim h.dropLast else h := by
        conv => lhs; rw [sp]
        rw [trim_snoc]
        split
        · rfl
        · exact sp.symm
      simp [h0, hp, last_some h0]
      by_cases q : h.getLast h0 = 0
      · simp [q, h0, hp]
        rw [X_cons, X_set]
        simp [cut_front]
        have e2 : ∀ (l : List Int), D.tup ((List.map D.int l).dropLast) = ti l.dropLast := fun l => by simp
        rw [e2]
        refine (ih (h := h.dropLast) (by simp; omega)).mono fun res S' ⟨es, e3⟩ => ⟨es, ?_⟩
        rw [e3, tr, if_pos q]
      · simp [q, h0, hp, tr]
theorem c_shortest {h : List Int} : callV P (k + 1) f_shortest [ti h, .tup []] S = some (.ok (.tup [ti (trim h), .tup []]) S) := by
  refine T_eq ((T_callV (fd := d_shortest.fd) rfl rfl).mpr ?_)
  show T (exSs _ b_shortest _ _) _
  unfold b_shortest
  rw [X_cons, X_set]
  simp [d_shortest]
  rw [X_cons, X_while, T_while]
  by_cases h0 : h = []
  · subst h0
    simp
    rw [X_cons, X_while]
    refine (w_trim (h := []) 0 (Nat.le_refl _)).mono fun res S' ⟨es, e⟩ => ?_
    subst es e
    rw [X_cons, X_ret]
    simp
  · have hp := List.length_pos_iff.mpr h0
    simp [h0, hp]
    rw [X_cons, X_while]
    refine (w_trim h.length (Nat.le_refl _)).mono fun res S' ⟨es, e⟩ => ?_
    subst es e
    rw [X_cons, X_ret]
    simp
end Lk72
set_option linter.all false
set_option maxRecDepth 100000
set_option maxHeartbeats 1000000
namespace Lk72
open PySem Ev
variable {k : Nat} {S : Store} {d a b : D}
/-- the figure at a place of an ended row -/
def fig (h : List Int) (i : Nat) : Int := h.getD i 0
theorem c_figure {h : List Int} {i : Nat} : callV P (k + 1) f_figure_of [ti h, .tup [], .int i] S = some (.ok (.int (fig h i)) S) := by
  refine T_eq ((T_callV (fd := d_figure_of.fd) rfl rfl).mpr ?_)
  show T (exSs _ b_figure_of _ _) _
  unfold b_figure_of
  rw [X_cons, X_if]
  simp [d_figure_of]
  by_cases q : i < h.length
  · refine .inr ⟨q, ?_⟩
    rw [X_cons, X_ret]
    simp [at_nat, fig, List.getElem?_eq_getElem q, List.getD_eq_getElem?_getD]
  · refine .inl ⟨by omega, ?_⟩
    rw [X_cons, X_ret]
    simp [fig, List.getD_eq_getElem?_getD, List.getElem?_eq_none (by omega : h.length ≤ i)]
/-- the order by the first place that differs -/
def lexc (f g : Nat → Int) : Nat → Nat → Int
  | _, 0 => 0
  | i, n + 1 => if f i = g i then lexc f g (i + 1) n else if f i < g i then -1 else 1
theorem c_below {h g : List Int} (hl : h.length ≤ 1000) (gl : g.length ≤ 1000) : callV P (k + 2) f_is_below [.tup [ti h, .tup []], .tup [ti g, .tup []]] S = some (.ok (.int (lexc (fig h) (fig g) 0 (max h.length g.length + 1))) S) := by
  refine T_eq ((T_callV (fd := d_is_below.fd) rfl rfl).mpr ?_)
  show T (exSs _ b_is_below _ _) _
  unfold b_is_below
  rw [X_cons, X_set]
  simp [d_is_below, mulOk_l]
  have em : (if h.length < g.length then (g.length : Int) else h.length) + 1 = ((max h.length g.length + 1 : Nat) : Int) := by
    split <;> omega
  rw [em]
  generalize hm : max h.length g.length + 1 = many
  rw [X_cons, X_for]
  simp
  refine ⟨inRg_of (by omega) (by omega), ?_⟩
  show T (loopL _ _ _ _) _
  refine loop_inv (fun es ρ S' => ∃ j, es = (rangeD 0 many).drop j ∧ j ≤ many ∧ S' = S ∧ (∃ x y z, ρ = [some (D.tup [ti h, D.tup []]), some (D.tup [ti g, D.tup []]), some (.int many), x, y, z]) ∧ lexc (fig h) (fig g) 0 many = lexc (fig h) (fig g) j (many - j)) (fun d es ρ S' ⟨j, e, jl, eS, ⟨x, y, z, eρ⟩, el⟩ => ?_) (fun ρ S' ⟨j, e, jl, eS, ⟨x, y, z, eρ⟩, el⟩ => ?_) _ _ _ ⟨0, rfl, Nat.zero_le _, rfl, ⟨none, none, none, rfl⟩, rfl⟩
  · subst eS eρ
    have hd : (rangeD 0 many)[j]? = some d ∧ (rangeD 0 many).drop (j + 1) = es := by
      have h1 : ((rangeD 0 many).drop j)[0]? = some d := by rw [← e]; rfl
      rw [List.getElem?_drop] at h1
      refine ⟨h1, ?_⟩
      rw [← List.tail_drop, ← e]
      rfl
    obtain ⟨h1, h2⟩ := hd
    have jm : j < many := by
      have := (List.getElem?_eq_some_iff.mp h1).1
      simpa [rangeD] using this
    have ed : d = .int j := by
      unfold rangeD at h1
      rw [List.getElem?_map, List.getElem?_range jm] at h1
      simpa using h1.symm
    subst ed
    simp
    rw [X_cons, X_par]
    simp [T_of c_figure]
    rw [X_cons, X_if]
    simp
    have st : many - j = (many - (j + 1)) + 1 := by omega
    rw [st] at el
    by_cases q : fig h j = fig g j
    · refine .inl ⟨q, j + 1, h2.symm, by omega, ?_⟩
      rw [el]
      show (if fig h j = fig g j then _ else _) = _
      rw [if_pos q]
    · refine .inr ⟨q, ?_⟩
      rw [X_cons, X_ret]
      have ev : lexc (fig h) (fig g) 0 many = if fig h j < fig g j then -1 else 1 := by
        rw [el]
        show (if fig h j = fig g j then _ else _) = _
        rw [if_neg q]
      by_cases q2 : fig h j < fig g j
      · simp [q2, ev]
      · simp [q2, ev]
  · subst eS eρ
    rw [X_cons, X_ret]
    have jm : j = many := by
      have := congrArg List.length e
      simp [rangeD] at this
      omega
    subst jm
    rw [Nat.sub_self] at el
    simp [el, lexc]
end Lk72
set_option linter.all false
set_option maxRecDepth 100000
set_option maxHeartbeats 1000000
namespace Lk72
open PySem Ev
variable {k : Nat} {S : Store} {d a b : D}
abbrev er (h : List Int) : D := .tup [ti h, .tup []]
theorem c_tail {h : List Int} {n : Nat} (hn : n ≤ h.length) : callV P (k + 2) f_tail_of [er h, .int n] S = some (.ok (er (trim (h.drop n))) S) := by
  refine T_eq ((T_callV (fd := d_tail_of.fd) rfl rfl).mpr ?_)
  show T (exSs _ b_tail_of _ _) _
  unfold b_tail_of
  rw [X_cons, X_set]
  simp [d_tail_of]
  rw [X_cons, X_if]
  simp [hn]
  rw [X_cons, X_ret]
  simp [cut_from, -List.map_drop]
  rw [T_of c_shortest]
  simp
theorem tw_mem {x : Int} : ∀ {l : List Int}, x ∈ l.takeWhile (fun x => x == 0) → x = 0
  | [], h => by simp at h
  | y :: l, h => by
    rw [List.takeWhile_cons] at h
    split at h
    · rename_i e
      rcases List.mem_cons.mp h with rfl | h
      · simpa using e
      · exact tw_mem h
    · simp at h
theorem trim_fig (h : List Int) (i : Nat) : fig (trim h) i = fig h i ∧ (trim h).length ≤ h.length := by
  unfold trim
  have e : h.reverse = (h.reverse.takeWhile fun x => x == 0) ++ (h.reverse.dropWhile fun x => x == 0) := (List.takeWhile_append_dropWhile).symm
  have e2 : h = (h.reverse.dropWhile fun x => x == 0).reverse ++ (h.reverse.takeWhile fun x => x == 0).reverse := by
    rw [← List.reverse_append, ← e, List.reverse_reverse]
  have z : ∀ x ∈ (h.reverse.takeWhile fun x => x == 0).reverse, x = 0 := fun x hx => by
    rw [List.mem_reverse] at hx
    exact tw_mem hx
  generalize (h.reverse.dropWhile fun x => x == 0).reverse = p at e2
  generalize (h.reverse.takeWhile fun x => x == 0).reverse = q at e2 z
  subst e2
  refine ⟨?_, by simp⟩
  unfold fig
  rw [List.getD_eq_getElem?_getD, List.getD_eq_getElem?_getD]
  by_cases hi : i < p.length
  · rw [List.getElem?_append_left hi]
  · rw [List.getElem?_append_right (by omega), List.getElem?_eq_none (by omega : p.length ≤ i)]
    cases eq : q[i - p.length]? with
    | none => rfl
    | some x => simp [z x (List.mem_of_getElem? eq)]
/-- the tail from the n-th place on, against the row -/
def tl (h : List Int) (n : Nat) : Int := lexc (fun i => fig h (n + i)) (fig h) 0 (h.length + 1)
theorem lexc_ext {f f' g : Nat → Int} (e : ∀ i, f i = f' i) : ∀ n i, lexc f g i n = lexc f' g i n := by
  have : f = f' := funext e
  subst this
  exact fun _ _ => rfl
theorem fig_drop {h : List Int} {n i : Nat} : fig (h.drop n) i = fig h (n + i) := by
  unfold fig
  rw [List.getD_eq_getElem?_getD, List.getD_eq_getElem?_getD, List.getElem?_drop]
theorem c_tl {h : List Int} {n : Nat} (hl : h.length ≤ 1000) (hn : n ≤ h.length) : callV P (k + 2) f_is_below [er (trim (h.drop n)), er h] S = some (.ok (.int (tl h n)) S) := by
  have l1 := (trim_fig (h.drop n) 0).2
  have l2 : (trim (h.drop n)).length ≤ h.length := Nat.le_trans l1 (by rw [List.length_drop]; omega)
  rw [c_below (by omega) hl, Nat.max_eq_right l2]
  unfold tl
  rw [lexc_ext (f' := fun i => fig h (n + i)) fun i => by rw [(trim_fig _ i).1, fig_drop]]
theorem c_bad {h : List Int} (hl : h.length ≤ 1000) (h1 : h ≠ [1]) : T (callV P (k + 3) f_bad_tail [er h] S) fun v S' => S' = S ∧ ((v = .non ∧ ∀ n, 1 ≤ n → n ≤ h.length → tl h n < 0) ∨ ∃ n : Nat, v = .int n ∧ 1 ≤ n ∧ n ≤ h.length ∧ 0 ≤ tl h n) := by
  refine (T_callV (fd := d_bad_tail.fd) rfl rfl).mpr ?_
  show T (exSs _ b_bad_tail _ _) _
  unfold b_bad_tail
  rw [X_cons, X_if]
  have e0 : eqD (er h) (.tup [.tup [.int 1], .tup []]) = some false := by
    have := eqD_rw (h := h) (r := []) (h' := [1]) (r' := [])
    have e : decide (h = [1] ∧ ([] : List Int) = []) = false := decide_eq_false fun z => h1 z.1
    rw [e] at this
    exact this
  simp [d_bad_tail, e0]
  rw [X_cons, X_set]
  simp
  refine X_seq (fun ρ S' => S' = S ∧ ∀ n, 1 ≤ n → n ≤ h.length → tl h n < 0) ?_ ?_
  · rw [X_for]
    simp
    refine ⟨⟨inRg_of (by decide) (by decide), inRg_of (by omega) (by omega)⟩, ?_⟩
    show T (loopL _ _ _ _) _
    refine loop_inv (fun es ρ S' => ∃ j, es = (rangeD 1 h.length).drop j ∧ S' = S ∧ (∃ x, ρ = [some (er h), some (.int h.length), x]) ∧ ∀ n, 1 ≤ n → n ≤ j → tl h n < 0) (fun d es ρ S' ⟨j, e, eS, ⟨x, eρ⟩, el⟩ => ?_) (fun ρ S' ⟨j, e, eS, ⟨x, eρ⟩, el⟩ => ⟨eS, fun n n1 n2 => el n n1 ?_⟩) _ _ _ ⟨0, rfl, rfl, ⟨none, rfl⟩, fun n a b => by omega⟩
    · subst eS eρ
      have h1 : (rangeD 1 h.length)[j]? = some d := by
        have h1 : ((rangeD 1 h.length).drop j)[0]? = some d := by rw [← e]; rfl
        rwa [List.getElem?_drop] at h1
      have h2 : (rangeD 1 h.length).drop (j + 1) = es := by
        rw [← List.tail_drop, ← e]
        rfl
      have jm : j < h.length := by
        have := (List.getElem?_eq_some_iff.mp h1).1
        simpa [rangeD] using this
      have ed : d = .int ((1 + j : Nat) : Int) := by
        unfold rangeD at h1
        rw [List.getElem?_map, List.getElem?_range jm] at h1
        have := Option.some.inj h1
        rw [← this]
        simp
      subst ed
      simp only [asg_name]
      rw [if_pos (by simp)]
      dsimp only
      rw [X_cons, X_if]
      simp only [T_cmp, T_call, T_conss, T_nils, T_var, T_c, List.set_cons_succ, List.set_cons_zero, List.getElem?_cons_zero, List.getElem?_cons_succ, Option.some.injEq, exists_eq_left']
      rw [T_of (c_tail (k := k) (by omega)), T_of (c_tl (k := k) hl (by omega))]
      simp
      by_cases q : 0 ≤ tl h (1 + j)
      · rw [if_pos q, X_cons, X_ret]
        simp
        exact ⟨1 + j, by omega, by omega, by omega, q⟩
      · rw [if_neg q]
        refine ⟨j + 1, h2.symm, fun n n1 n2 => ?_⟩
        by_cases z : n ≤ j
        · exact el n n1 z
        · have : n = 1 + j := by omega
          rw [this]
          omega
    · have := congrArg List.length e
      simp [rangeD] at this
      omega
  · rintro ρ S' ⟨rfl, q⟩
    rw [X_cons, X_ret]
    simp
    exact q
end Lk72
set_option linter.all false
set_option maxRecDepth 100000
set_option maxHeartbeats 1000000
namespace Lk72
open PySem Ev
/-! ### what gaps grow to, in plain Lean -/
/-- heads that may be -/
structure Hd (h : List Int) : Prop where
  two : 1 ≤ h.length
  big : h.length = 1 → 2 ≤ fig h 0
  five : h.length ≤ 5
  fst : 1 ≤ fig h 0
  nn : ∀ i, 0 ≤ fig h i
  nine : ∀ i, fig h i ≤ 9
  le : ∀ i, fig h i ≤ fig h 0
  last : 0 < fig h (h.length - 1)
/-- what a gap grows to -/
def sg (h : List Int) (g : Int) : List Int := List.replicate (fig h g.toNat).toNat 0 ++ (if g + 1 < h.length then [g + 1] else [])
def it (h : List Int) : Nat → List Int
  | 0 => [0]
  | n + 1 => (it h n).flatMap (sg h)
variable {h : List Int}
def okG (h : List Int) (g : Int) : Prop := 0 ≤ g ∧ g < h.length
theorem sg_mem (H : Hd h) {g x : Int} (hg : okG h g) (hx : x ∈ sg h g) : okG h x := by
  unfold sg at hx
  have := H.two
  obtain ⟨g0, g1⟩ := hg
  rcases List.mem_append.mp hx with hx | hx
  · have := List.eq_of_mem_replicate hx
    exact ⟨by omega, by omega⟩
  · split at hx
    · have : x = g + 1 := by simpa using hx
      exact ⟨by omega, by omega⟩
    · simp at hx
theorem it_ok (H : Hd h) : ∀ n, ∀ x ∈ it h n, okG h x
  | 0, x, hx => by
    have := H.two
    have : x = 0 := by simpa [it] using hx
    exact ⟨by omega, by omega⟩
  | n + 1, x, hx => by
    obtain ⟨g, hg, hx⟩ := List.mem_flatMap.mp hx
    exact sg_mem H (it_ok H n g hg) hx
theorem sg_pos (H : Hd h) {g : Int} (hg : okG h g) : 1 ≤ (sg h g).length := by
  unfold sg
  obtain ⟨g0, g1⟩ := hg
  rw [List.length_append, List.length_replicate]
  by_cases q : g + 1 < h.length
  · rw [if_pos q]
    simp
  · rw [if_neg q]
    have e : g.toNat = h.length - 1 := by omega
    have := H.last
    rw [e]
    simp
    omega
theorem sg_zero (H : Hd h) : ∃ r, sg h 0 = 0 :: r ∧ 1 ≤ r.length := by
  unfold sg
  have f := H.fst
  have t := H.two
  obtain ⟨n, e⟩ : ∃ n, (fig h (0 : Int).toNat).toNat = n + 1 := ⟨(fig h 0).toNat - 1, by show (fig h 0).toNat = _; omega⟩
  rw [e, List.replicate_succ, List.cons_append]
  refine ⟨_, rfl, ?_⟩
  by_cases q : (0 : Int) + 1 < h.length
  · rw [if_pos q]
    simp
  · have b := H.big (by omega)
    have e : (fig h 0).toNat = n + 1 := e
    rw [if_neg q]
    simp
    omega
theorem it_zero (H : Hd h) : ∀ n, ∃ r, it h n = 0 :: r
  | 0 => ⟨[], rfl⟩
  | n + 1 => by
    obtain ⟨r, e⟩ := it_zero H n
    obtain ⟨r2, e2, _⟩ := sg_zero H
    unfold it
    rw [e, List.flatMap_cons, e2]
    exact ⟨_, rfl⟩
theorem pre_flat {f : Int → List Int} {a b : List Int} (p : a <+: b) : a.flatMap f <+: b.flatMap f := by
  obtain ⟨r, rfl⟩ := p
  rw [List.flatMap_append]
  exact List.prefix_append _ _
theorem it_pre1 (H : Hd h) : ∀ n, it h n <+: it h (n + 1)
  | 0 => by
    obtain ⟨r, e, _⟩ := sg_zero H
    show [0] <+: ([0] : List Int).flatMap (sg h)
    rw [List.flatMap_cons, e]
    exact ⟨r ++ [], by simp⟩
  | n + 1 => pre_flat (it_pre1 H n)
theorem it_pre (H : Hd h) {n m : Nat} (l : n ≤ m) : it h n <+: it h m := by
  induction m with
  | zero =>
    have : n = 0 := by omega
    subst this
    exact List.prefix_refl _
  | succ m ih =>
    by_cases e : n = m + 1
    · subst e
      exact List.prefix_refl _
    · exact (ih (by omega)).trans (it_pre1 H m)
theorem flat_len {f : Int → List Int} : ∀ {l : List Int}, (∀ x ∈ l, 1 ≤ (f x).length) → l.length ≤ (l.flatMap f).length
  | [], _ => Nat.le_refl _
  | x :: l, hl => by
    have := flat_len (f := f) (l := l) fun y hy => hl y (List.mem_cons_of_mem _ hy)
    have := hl x List.mem_cons_self
    rw [List.flatMap_cons, List.length_append, List.length_cons]
    omega
theorem grow_len (H : Hd h) {w : List Int} (hw : ∀ x ∈ w, okG h x) (h0 : ∃ r, w = 0 :: r) : w.length + 1 ≤ (w.flatMap (sg h)).length := by
  obtain ⟨r, rfl⟩ := h0
  obtain ⟨r2, e2, l2⟩ := sg_zero H
  have := flat_len (f := sg h) (l := r) fun y hy => sg_pos H (hw y (List.mem_cons_of_mem _ hy))
  rw [List.flatMap_cons, List.length_append, e2, List.length_cons, List.length_cons]
  omega
theorem it_len (H : Hd h) : ∀ n, n + 1 ≤ (it h n).length
  | 0 => Nat.le_refl _
  | n + 1 => by
    have := it_len H n
    have := grow_len H (it_ok H n) (it_zero H n)
    show _ ≤ ((it h n).flatMap (sg h)).length
    omega
theorem take_flat {f : Int → List Int} : ∀ {l : List Int} {n : Nat}, (∀ x ∈ l, 1 ≤ (f x).length) → ((l.take n).flatMap f).take n = (l.flatMap f).take n
  | [], _, _ => by simp
  | x :: l, 0, _ => by simp
  | x :: l, n + 1, hl => by
    have hx := hl x List.mem_cons_self
    rw [List.take_succ_cons, List.flatMap_cons, List.flatMap_cons, List.take_append, List.take_append]
    congr 1
    obtain ⟨m, e⟩ : ∃ m, n + 1 - (f x).length = m := ⟨_, rfl⟩
    rw [e]
    have ml : m ≤ n := by omega
    have t := take_flat (f := f) (l := l) (n := n) fun y hy => hl y (List.mem_cons_of_mem _ hy)
    have := congrArg (List.take m) t
    rwa [List.take_take, List.take_take, Nat.min_eq_left ml] at this
/-- the word of n gaps -/
def W (h : List Int) (n : Nat) : List Int := (it h n).take n
theorem W_len (H : Hd h) (n : Nat) : (W h n).length = n := by
  have := it_len H n
  unfold W
  rw [List.length_take]
  omega
theorem take_pre {a b : List Int} {n : Nat} (p : a <+: b) (l : n ≤ a.length) : b.take n = a.take n := by
  obtain ⟨r, rfl⟩ := p
  rw [List.take_append_of_le_length l]
theorem take_it (H : Hd h) {n j : Nat} (l : n ≤ (it h j).length) : (it h j).take n = W h n := by
  have l2 := it_len H n
  unfold W
  by_cases q : j ≤ n
  · rw [take_pre (it_pre H q) l]
  · rw [take_pre (it_pre H (by omega : n ≤ j)) (by omega)]
theorem W_take (H : Hd h) {n m : Nat} (l : m ≤ n) : (W h n).take m = W h m := by
  have l2 := it_len H n
  rw [← take_it H (j := n) (by omega : m ≤ (it h n).length)]
  unfold W
  rw [List.take_take, Nat.min_eq_left l]
theorem take_step (H : Hd h) {n j : Nat} : (((it h j).take n).flatMap (sg h)).take n = (it h (j + 1)).take n :=
  take_flat fun x hx => sg_pos H (it_ok H j x hx)
theorem take_ok (H : Hd h) {n j : Nat} : ∀ x ∈ (it h j).take n, okG h x := fun x hx => it_ok H j x (List.mem_of_mem_take hx)
theorem W_ok (H : Hd h) {n : Nat} : ∀ x ∈ W h n, okG h x := fun x hx => it_ok H n x (List.mem_of_mem_take hx)
/-! #### the first gap otherwise -/
def ahead (w : List Int) : Nat := (w.takeWhile fun x => x == 0).length
theorem W_first (H : Hd h) (h2 : 2 ≤ h.length) {n : Nat} : (∀ x ∈ W h n, x = 0) ∨ ahead (W h n) = (fig h 0).toNat := by
  have f := H.fst
  obtain ⟨r, e⟩ : ∃ r, it h (n + 1) = List.replicate (fig h 0).toNat 0 ++ 1 :: r := by
    obtain ⟨r, e⟩ := it_pre H (by omega : 1 ≤ n + 1)
    refine ⟨r, ?_⟩
    rw [← e]
    show ([0] : List Int).flatMap (sg h) ++ r = _
    rw [List.flatMap_cons, List.flatMap_nil, List.append_nil]
    unfold sg
    rw [if_pos (by omega)]
    show List.replicate (fig h 0).toNat 0 ++ [0 + 1] ++ r = _
    rw [List.append_assoc]
    rfl
  have l2 := it_len H (n + 1)
  rw [← take_it H (j := n + 1) (by omega : n ≤ (it h (n + 1)).length), e]
  generalize (fig h 0).toNat = a
  by_cases q : n ≤ a
  · left
    rw [List.take_append_of_le_length (by simpa using q)]
    intro x hx
    exact List.eq_of_mem_replicate (List.mem_of_mem_take hx)
  · right
    rw [List.take_append, List.take_of_length_le (by simp; omega), List.length_replicate]
    obtain ⟨m, e⟩ : ∃ m, n - a = m + 1 := ⟨n - a - 1, by omega⟩
    rw [e, List.take_succ_cons]
    unfold ahead
    clear e
    induction a with
    | zero => simp
    | succ a ih =>
      rw [List.replicate_succ, List.cons_append, List.takeWhile_cons]
      simp only [beq_self_eq_true, if_true, List.length_cons]
      rw [ih (by omega)]
/-- one figure alone: noughts -/
theorem W_single (H : Hd h) (h1 : h.length = 1) {n : Nat} : ∀ x ∈ W h n, x = 0 := fun x hx => by
  obtain ⟨a, b⟩ := W_ok H x hx
  omega
end Lk72
set_option linter.all false
set_option maxRecDepth 100000
set_option maxHeartbeats 1000000
namespace Lk72
open PySem Ev
variable {k : Nat} {S : Store} {d a b : D} {h : List Int}
theorem get_new {S : Store} {o : SO} : (S ++ [o])[S.length]? = some o := by simp
theorem set_new {S : Store} {o o' : SO} : (S ++ [o]).set S.length o' = S ++ [o'] := by simp
theorem sz {n : Nat} (h : n ≤ 10000) : n ≤ sizeMax := Nat.le_trans h (by decide)
theorem sz' {n : Nat} (h : n ≤ 10000) : n < sizeMax := Nat.lt_of_le_of_lt h (by decide)
abbrev ruleD (h : List Int) : D := .tup ((List.range h.length).map fun g => ti (sg h (g : Nat)))
theorem c_rule (H : Hd h) : T (callV P (k + 2) f_raw_gap_rule [er h] S) fun v S' => v = ruleD h ∧ ∃ R, S' = S ++ R := by
  have h5 := H.five
  have zm : sizeMax = 16777216 := rfl
  have h2 := H.two
  refine (T_callV (fd := d_raw_gap_rule.fd) rfl rfl).mpr ?_
  show T (exSs _ b_raw_gap_rule _ _) _
  unfold b_raw_gap_rule
  rw [X_cons, X_set]
  simp [d_raw_gap_rule]
  rw [X_cons, X_par]
  simp
  refine X_seq (fun ρ S' => (∃ x y, ρ = [some (er h), some (ti h), some (.tup []), some (.int h.length), some (.ref S.length), x, y]) ∧ S' = S ++ [.lst ((List.range h.length).map fun g => ti (sg h (g : Nat)))]) ?_ ?_
  · rw [X_for]
    simp
    refine ⟨inRg_of (by omega) (by omega), ?_⟩
    show T (loopL _ _ _ _) _
    refine loop_at (fun j ρ S' => (∃ x y, ρ = [some (er h), some (ti h), some (.tup []), some (.int h.length), some (.ref S.length), x, y]) ∧ S' = S ++ [.lst ((List.range j).map fun g => ti (sg h (g : Nat)))]) ?_ ?_ ⟨⟨none, none, rfl⟩, rfl⟩
    · rintro j d ρ S' hd ⟨⟨x, y, rfl⟩, rfl⟩
      obtain ⟨rfl, jm⟩ := range_at hd
      simp
      rw [X_cons, X_set]
      simp
      have f0 := H.nn j
      have f9 := H.nine j
      by_cases q : (j : Int) + 1 = h.length
      · rw [X_cons, X_if]
        simp [q]
        rw [X_cons, X_set]
        simp
        rw [X_cons, X_ex]
        simp [get_new, T_of c_figure, rep_single, rep_ok f0 (by omega : fig h j ≤ 1000), isNon]
        refine ⟨by omega, by omega, ?_⟩
        rw [List.range_succ, List.map_append]
        simp [sg, q]
      · rw [X_cons, X_if]
        simp [q]
        rw [X_cons, X_ex]
        simp [get_new, T_of c_figure, rep_single, rep_ok f0 (by omega : fig h j ≤ 1000), isNon]
        refine ⟨by omega, by omega, ?_⟩
        rw [List.range_succ, List.map_append]
        have q2 : (j : Int) + 1 < h.length := by omega
        simp [sg, q2]
    · rintro ρ S' ⟨⟨x, y, rfl⟩, rfl⟩
      simp [range_len]
  · rintro ρ S' ⟨⟨x, y, rfl⟩, rfl⟩
    rw [X_cons, X_ret]
    simp [peek_ref get_new]
end Lk72
namespace Lk72
open PySem Ev
variable {k : Nat} {S : Store} {d a b : D} {h : List Int}
theorem rule_at {g : Int} (hg : okG h g) : L2.atI ((List.range h.length).map fun g => ti (sg h (g : Nat))) g = some (ti (sg h g)) := by
  obtain ⟨g0, g1⟩ := hg
  obtain ⟨n, rfl⟩ : ∃ n : Nat, g = n := ⟨g.toNat, by omega⟩
  rw [at_nat, List.getElem?_map, List.getElem?_range (by omega)]
  rfl
theorem sg_len (H : Hd h) (g : Int) : (sg h g).length ≤ 10 := by
  have := H.nine g.toNat
  unfold sg
  rw [List.length_append, List.length_replicate]
  split <;> simp <;> omega
theorem flat_le {f : Int → List Int} {b : Nat} : ∀ {l : List Int}, (∀ x ∈ l, (f x).length ≤ b) → (l.flatMap f).length ≤ b * l.length
  | [], _ => by simp
  | x :: l, hl => by
    have := flat_le (f := f) (l := l) fun y hy => hl y (List.mem_cons_of_mem _ hy)
    have := hl x List.mem_cons_self
    rw [List.flatMap_cons, List.length_append, List.length_cons, Nat.mul_succ]
    omega
theorem c_grown (H : Hd h) {w : List Int} (hw : ∀ x ∈ w, okG h x) (hl : w.length ≤ 1000) : T (callV P (k + 1) f_grown [ruleD h, ti w] S) fun v S' => v = ti (w.flatMap (sg h)) ∧ ∃ R, S' = S ++ R := by
  have zm : sizeMax = 16777216 := rfl
  refine (T_callV (fd := d_grown.fd) rfl rfl).mpr ?_
  show T (exSs _ b_grown _ _) _
  unfold b_grown
  rw [X_cons, X_set]
  simp [d_grown]
  refine X_seq (fun ρ S' => (∃ y, ρ = [some (ruleD h), some (ti w), some (.ref S.length), y]) ∧ S' = S ++ [.lst ((w.flatMap (sg h)).map .int)]) ?_ ?_
  · rw [X_for]
    simp
    show T (loopL _ _ _ _) _
    refine loop_at (fun j ρ S' => (∃ y, ρ = [some (ruleD h), some (ti w), some (.ref S.length), y]) ∧ S' = S ++ [.lst (((w.take j).flatMap (sg h)).map .int)]) ?_ ?_ ⟨⟨none, rfl⟩, by simp⟩
    · rintro j d ρ S' hd ⟨⟨y, rfl⟩, rfl⟩
      rw [List.getElem?_map] at hd
      cases e : w[j]? with
      | none => rw [e] at hd; cases hd
      | some g =>
        rw [e] at hd
        cases hd
        have hg := hw g (List.mem_of_getElem? e)
        simp
        rw [X_cons, X_ex]
        have l1 := flat_le (f := sg h) (l := w.take j) (b := 10) fun x _ => sg_len H x
        have l2 := sg_len H g
        have l3 : (w.take j).length ≤ 1000 := by rw [List.length_take]; omega
        simp [rule_at hg, -List.length_flatMap, -List.map_flatMap]
        refine ⟨by omega, ?_⟩
        rw [List.take_add_one, e]
        simp
    · rintro ρ S' ⟨⟨y, rfl⟩, rfl⟩
      simp [-List.map_flatMap]
  · rintro ρ S' ⟨⟨y, rfl⟩, rfl⟩
    rw [X_cons, X_ret]
    simp [peek_ref get_new, -List.map_flatMap]
end Lk72
set_option linter.all false
set_option maxRecDepth 100000
set_option maxHeartbeats 1000000
namespace Lk72
open PySem Ev
variable {k : Nat} {S : Store} {d a b : D} {h : List Int}
theorem take_len (H : Hd h) {n j : Nat} (q : n ≤ j) : ((it h j).take n).length = n := by
  have := it_len H j
  rw [List.length_take]
  omega
theorem w_word (H : Hd h) {n : Nat} (n0 : 1 ≤ n) (hn : n ≤ 400) : ∀ (m j : Nat) (S : Store), n ≤ m + j → T (whileM (evT (callV P (k + 1)) (.cmp .lt (.bi .len [(.var 2)]) (.var 1))) (exSs (callV P (k + 1)) [.set (.name 2) (.sl (.call f_grown [(.var 0), (.var 2)]) false .never true (.var 1))])
    [some (ruleD h), some (.int n), some (ti ((it h j).take n))] S) fun r S' => r = (.nx, [some (ruleD h), some (.int n), some (ti (W h n))]) ∧ ∃ R, S' = S ++ R := by
  intro m
  induction m with
  | zero =>
    intro j S q
    have l := take_len H (by omega : n ≤ j)
    have l2 : n ≤ (it h j).length := by rw [List.length_take] at l; omega
    rw [T_while]
    simp [l2, -List.map_take]
    rw [take_it H l2]
  | succ m ih =>
    intro j S q
    rw [T_while]
    by_cases l2 : n ≤ (it h j).length
    · simp [l2, -List.map_take]
      rw [take_it H l2]
    · simp [-List.map_take]
      rw [X_cons, X_set]
      simp [-List.map_take]
      refine .inr ⟨by omega, ?_⟩
      have tl : ((it h j).take n).length ≤ 1000 := by rw [List.length_take]; omega
      refine (c_grown (k := k) (S := S) H (take_ok H) tl).mono fun v S' ⟨e, R, eS⟩ => ?_
      subst e eS
      simp [cut_to, -List.map_take, -List.map_flatMap]
      rw [take_step H]
      refine (ih (j + 1) (S ++ R) (by omega)).mono fun r S' ⟨e, R', eS⟩ => ⟨e, R ++ R', by rw [eS, List.append_assoc]⟩
theorem c_word (H : Hd h) {n : Nat} (n0 : 1 ≤ n) (hn : n ≤ 400) : T (callV P (k + 2) f_raw_gap_word [ruleD h, .int n] S) fun v S' => v = ti (W h n) ∧ ∃ R, S' = S ++ R := by
  refine (T_callV (fd := d_raw_gap_word.fd) rfl rfl).mpr ?_
  show T (exSs _ b_raw_gap_word _ _) _
  unfold b_raw_gap_word
  rw [X_cons, X_set]
  simp [d_raw_gap_word]
  rw [X_cons, X_while]
  have w := w_word (k := k) H n0 hn n 0 S (by omega)
  have e : (it h 0).take n = [0] := by
    obtain ⟨m, rfl⟩ : ∃ m, n = m + 1 := ⟨n - 1, by omega⟩
    show List.take (m + 1) [0] = [0]
    simp
  rw [e] at w
  refine w.mono fun r S' ⟨e, R, eS⟩ => ?_
  subst e eS
  rw [X_cons, X_ret]
  simp [cut_to, -List.map_take]
  rw [List.take_of_length_le (by rw [W_len H]; omega)]
/-- the law's own -/
theorem w_later (H : Hd h) {n : Nat} (hn : n ≤ 400) {w : List Int} (hw : ∀ x ∈ w, okG h x) (hl : w.length ≤ 400) {x1 x2 : Option D} {call : Nat → List D → M D} :
    T (exS call (.forS (.name 5) .seq [(.var 2)]
     [.ifS (.cmp .lt (.bi .len [(.var 4)]) (.var 1))
       [.ex (.meth .extend (.var 4) [(.bin .add (.bin .mul (.lst [(.c (.int 0))]) (.idx (.var 0) (.var 5))) (.ifE (.cmp .lt (.bin .add (.var 5) (.c (.int 1))) (.bi .len [(.var 0)])) (.lst [(.bin .add (.var 5) (.c (.int 1)))]) (.lst [])))])]
       []]) [some (ti h), some (.int n), some (ti w), x1, some (.ref S.length), x2] (S ++ [.lst []])) fun r S' => (∃ y, r = (.nx, [some (ti h), some (.int n), some (ti w), x1, some (.ref S.length), y])) ∧ ∃ (L : List Int), S' = S ++ [.lst (L.map .int)] ∧ L.take n = (w.flatMap (sg h)).take n := by
  have zm : sizeMax = 16777216 := rfl
  have h5 := H.five
  rw [X_for]
  simp
  show T (loopL _ _ _ _) _
  refine loop_at (fun j ρ S' => ∃ (y : Option D) (L : List Int), ρ = [some (ti h), some (.int n), some (ti w), x1, some (.ref S.length), y] ∧ S' = S ++ [.lst (L.map .int)] ∧ L <+: (w.take j).flatMap (sg h) ∧ (L = (w.take j).flatMap (sg h) ∨ n ≤ L.length)) ?_ ?_ ⟨x2, [], rfl, rfl, by simp, .inl (by simp)⟩
  · rintro j d ρ S' hd ⟨y, L, rfl, rfl, p1, p2⟩
    rw [List.getElem?_map] at hd
    cases e : w[j]? with
    | none => rw [e] at hd; cases hd
    | some g =>
      rw [e] at hd
      cases hd
      have hg := hw g (List.mem_of_getElem? e)
      simp
      rw [X_cons, X_if]
      have fl : (w.take (j + 1)).flatMap (sg h) = (w.take j).flatMap (sg h) ++ sg h g := by
        rw [List.take_add_one, e]
        simp
      simp [peek_ref get_new]
      by_cases q : L.length < n
      · have eL : L = (w.take j).flatMap (sg h) := by
          rcases p2 with p2 | p2
          · exact p2
          · omega
        refine .inr ⟨q, ?_⟩
        rw [X_cons, X_ex]
        obtain ⟨g0, g1⟩ := hg
        obtain ⟨gn, rfl⟩ : ∃ gn : Nat, g = gn := ⟨g.toNat, by omega⟩
        have hf : h[gn]? = some (fig h gn) := by
          unfold fig
          rw [List.getD_eq_getElem?_getD, List.getElem?_eq_getElem (by omega)]
          rfl
        have f0 := H.nn gn
        have f9 := H.nine gn
        simp [get_new, at_nat, hf, rep_single, rep_ok f0 (by omega : fig h gn ≤ 1000)]
        by_cases q2 : (gn : Int) + 1 < h.length
        · refine .inr ⟨by omega, by omega, by omega, L ++ sg h gn, ?_, ?_⟩
          · unfold sg
            rw [if_pos q2]
            simp
          · rw [fl, eL]
            exact ⟨List.prefix_refl _, .inl rfl⟩
        · refine .inl ⟨by omega, by omega, by omega, L ++ sg h gn, ?_, ?_⟩
          · unfold sg
            rw [if_neg q2]
            simp
          · rw [fl, eL]
            exact ⟨List.prefix_refl _, .inl rfl⟩
      · refine .inl ⟨by omega, L, rfl, ?_, .inr (by omega)⟩
        rw [fl]
        exact p1.trans (List.prefix_append _ _)
  · rintro ρ S' ⟨y, L, rfl, rfl, p1, p2⟩
    rw [List.length_map, List.take_length] at p1 p2
    refine ⟨⟨y, rfl⟩, L, rfl, ?_⟩
    rcases p2 with p2 | p2
    · rw [p2]
    · rw [take_pre p1 p2]
theorem w_begin (H : Hd h) {n : Nat} (n0 : 1 ≤ n) (hn : n ≤ 400) {call : Nat → List D → M D} : ∀ (m j : Nat) (S : Store) (p : Int) (y z : Option D), n ≤ m + j → p < ((it h j).take n).length → T (whileM (evT call (.chain .lt .lt (.var 3) (.bi .len [(.var 2)]) (.var 1))) (exSs call [.par 3 4 (.bi .len [(.var 2)]) (.new []),
    .forS (.name 5) .seq [(.var 2)]
     [.ifS (.cmp .lt (.bi .len [(.var 4)]) (.var 1))
       [.ex (.meth .extend (.var 4) [(.bin .add (.bin .mul (.lst [(.c (.int 0))]) (.idx (.var 0) (.var 5))) (.ifE (.cmp .lt (.bin .add (.var 5) (.c (.int 1))) (.bi .len [(.var 0)])) (.lst [(.bin .add (.var 5) (.c (.int 1)))]) (.lst [])))])]
       []],
    .set (.name 2) (.bi .tuple [(.sl (.var 4) false .never true (.var 1))])])
    [some (ti h), some (.int n), some (ti ((it h j).take n)), some (.int p), y, z] S) fun r S' => (∃ p y z, r = (.nx, [some (ti h), some (.int n), some (ti (W h n)), p, y, z])) ∧ ∃ R, S' = S ++ R := by
  intro m
  induction m with
  | zero =>
    intro j S p y z q hp
    have l := take_len H (by omega : n ≤ j)
    have l2 : n ≤ (it h j).length := by rw [List.length_take] at l; omega
    rw [l] at hp
    rw [T_while]
    have e : min n (it h j).length = n := by omega
    simp [e, hp, -List.map_take]
    rw [take_it H l2]
  | succ m ih =>
    intro j S p y z q hp
    rw [T_while]
    rw [List.length_take] at hp
    by_cases l2 : n ≤ (it h j).length
    · have e : min n (it h j).length = n := by omega
      rw [e] at hp
      simp [e, hp, -List.map_take]
      rw [take_it H l2]
    · have e : min n (it h j).length = (it h j).length := by omega
      rw [e] at hp
      have l3 : (it h j).length < n := by omega
      simp [e, hp, l3, -List.map_take]
      rw [X_cons, X_par]
      simp [-List.map_take]
      refine .inr ?_
      rw [X_cons]
      refine (w_later (S := S) H hn (w := (it h j).take n) (take_ok H) (by rw [List.length_take]; omega)).mono ?_
      rintro r S' ⟨⟨y', rfl⟩, L, rfl, eL⟩
      dsimp only
      rw [X_cons, X_set]
      simp [peek_ref get_new, cut_to, -List.map_take]
      rw [eL, take_step H]
      refine (ih (j + 1) _ _ _ _ (by omega) ?_).mono ?_
      · have := grow_len H (it_ok H j) (it_zero H j)
        have : (it h j).length + 1 ≤ (it h (j + 1)).length := this
        rw [List.length_take, e]
        omega
      · rintro r S' ⟨e, R', eS⟩
        exact ⟨e, .lst (L.map .int) :: R', by rw [eS]; simp⟩
theorem c_begin (H : Hd h) {n : Nat} (n0 : 1 ≤ n) (hn : n ≤ 400) : T (callV P (k + 1) f__law_begin [ti h, .int n] S) fun v S' => v = ti (W h n) ∧ ∃ R, S' = S ++ R := by
  refine (T_callV (fd := d__law_begin.fd) rfl rfl).mpr ?_
  show T (exSs _ b__law_begin _ _) _
  unfold b__law_begin
  rw [X_cons, X_set]
  simp [d__law_begin]
  rw [X_cons, X_while]
  have e : (it h 0).take n = [0] := by
    obtain ⟨m, rfl⟩ : ∃ m, n = m + 1 := ⟨n - 1, by omega⟩
    show List.take (m + 1) [0] = [0]
    simp
  have w := w_begin (call := callV P k) H n0 hn n 0 S 0 none none (by omega) (by rw [e]; decide)
  rw [e] at w
  refine w.mono ?_
  rintro r S' ⟨⟨p, y, z, rfl⟩, R, rfl⟩
  dsimp only
  rw [X_cons, X_ret]
  simp [cut_to, -List.map_take]
  rw [List.take_of_length_le (by rw [W_len H]; omega)]
end Lk72
set_option linter.all false
set_option maxRecDepth 100000
set_option maxHeartbeats 1000000
namespace Lk72
open PySem Ev
variable {k : Nat} {S : Store} {d a b : D} {h : List Int}
/-! ### which heads are looked at -/
def hs (a : Nat) : Nat → List (List Int)
  | 0 => [[(a : Int)]]
  | n + 1 => (hs a n).flatMap fun h => (List.range (a + 1)).map fun (x : Nat) => h ++ [(x : Int)]
def lastPos (h : List Int) : Bool := match L2.atI h (-1) with
  | some x => decide (0 < x)
  | none => false
def heads (a n : Nat) : List (List Int) := (hs a n).filter lastPos
theorem hs_len : ∀ {a n : Nat}, (hs a n).length = (a + 1) ^ n
  | a, 0 => by simp [hs]
  | a, n + 1 => by
    unfold hs
    rw [List.length_flatMap]
    have : (List.map (fun h : List Int => (List.map (fun (x : Nat) => h ++ [(x : Int)]) (List.range (a + 1))).length) (hs a n)).sum = (hs a n).length * (a + 1) := by
      generalize hs a n = l
      induction l with
      | nil => simp
      | cons x l ih => simp at ih ⊢; rw [Nat.succ_mul]; omega
    rw [this, hs_len, Nat.pow_succ]
theorem hs_mem {a : Nat} : ∀ {n : Nat} {h : List Int}, h ∈ hs a n ↔ h.length = n + 1 ∧ h[0]? = some (a : Int) ∧ ∀ x ∈ h, 0 ≤ x ∧ x ≤ a
  | 0, h => by
    unfold hs
    constructor
    · intro e
      have e : h = [(a : Int)] := by simpa using e
      subst e
      exact ⟨rfl, rfl, fun x hx => by have : x = a := by simpa using hx
                                      omega⟩
    · rintro ⟨l, e, _⟩
      match h, l, e with
      | [x], _, e => simpa using e
  | n + 1, h => by
    unfold hs
    constructor
    · intro e
      obtain ⟨g, hg, e⟩ := List.mem_flatMap.mp e
      obtain ⟨x, hx, rfl⟩ := List.mem_map.mp e
      obtain ⟨l, e, q⟩ := hs_mem.mp hg
      have := List.mem_range.mp hx
      refine ⟨by simp [l], ?_, fun y hy => ?_⟩
      · rw [List.getElem?_append_left (by omega)]
        exact e
      · rcases List.mem_append.mp hy with hy | hy
        · exact q y hy
        · have : y = x := by simpa using hy
          omega
    · rintro ⟨l, e, q⟩
      have hn : h ≠ [] := by intro z; subst z; cases l
      have sp : h = h.dropLast ++ [h.getLast hn] := (List.dropLast_concat_getLast hn).symm
      have hl := q _ (List.getLast_mem hn)
      refine List.mem_flatMap.mpr ⟨h.dropLast, hs_mem.mpr ⟨by simp [l], ?_, fun x hx => q x (List.dropLast_subset _ hx)⟩, List.mem_map.mpr ⟨(h.getLast hn).toNat, List.mem_range.mpr (by omega), ?_⟩⟩
      · rw [List.getElem?_dropLast]
        rw [if_pos (by omega)]
        exact e
      · rw [show (((h.getLast hn).toNat : Nat) : Int) = h.getLast hn by omega]
        exact sp.symm
/-- ascending -/
theorem hs_asc {a : Nat} : ∀ n, (hs a n).Pairwise fun x y => ltL x y = true
  | 0 => List.pairwise_singleton _ _
  | n + 1 => by
    unfold hs
    rw [List.pairwise_flatMap]
    refine ⟨fun h hh => ?_, (hs_asc n).imp_of_mem ?_⟩
    · rw [List.pairwise_map]
      refine List.pairwise_lt_range.imp fun {x y} q => ltL_last (by omega)
    · intro h g hh hg q x hx y hy
      obtain ⟨_, _, rfl⟩ := List.mem_map.mp hx
      obtain ⟨_, _, rfl⟩ := List.mem_map.mp hy
      exact ltL_append _ _ (by rw [(hs_mem.mp hh).1, (hs_mem.mp hg).1]) q
theorem heads_asc {a n : Nat} : (heads a n).Pairwise fun x y => ltL x y = true := (hs_asc n).filter _
theorem last_fig {h : List Int} (hn : 0 < h.length) : L2.atI h (-1) = some (fig h (h.length - 1)) := by
  rw [at_last, List.getLast?_eq_getElem?]
  unfold fig
  rw [List.getD_eq_getElem?_getD, List.getElem?_eq_getElem (by omega)]
  rfl
theorem fig_mem {h : List Int} {i : Nat} (hi : i < h.length) : fig h i ∈ h := by
  unfold fig
  rw [List.getD_eq_getElem?_getD, List.getElem?_eq_getElem hi]
  exact List.getElem_mem hi
theorem fig_out {h : List Int} {i : Nat} (hi : h.length ≤ i) : fig h i = 0 := by
  unfold fig
  rw [List.getD_eq_getElem?_getD, List.getElem?_eq_none hi]
  rfl
theorem heads_ok {a n : Nat} (a1 : 1 ≤ a) (a9 : a ≤ 9) (n4 : n ≤ 4) (na : n = 0 → 2 ≤ a) (hh : h ∈ heads a n) : Hd h ∧ fig h 0 = a ∧ h.length = n + 1 := by
  obtain ⟨hm, hp⟩ := List.mem_filter.mp hh
  obtain ⟨l, e, q⟩ := hs_mem.mp hm
  have f0 : fig h 0 = a := by
    unfold fig
    rw [List.getD_eq_getElem?_getD, e]
    rfl
  have b : ∀ i, 0 ≤ fig h i ∧ fig h i ≤ a := fun i => by
    by_cases hi : i < h.length
    · exact q _ (fig_mem hi)
    · rw [fig_out (by omega)]
      omega
  refine ⟨⟨by omega, fun z => ?_, by omega, by omega, fun i => (b i).1, fun i => ?_, fun i => ?_, ?_⟩, f0, l⟩
  · have := na (by omega)
    omega
  · have := (b i).2
    omega
  · have := (b i).2
    omega
  · unfold lastPos at hp
    rw [last_fig (by omega)] at hp
    exact of_decide_eq_true hp
theorem heads_in (H : Hd h) : h ∈ heads (fig h 0).toNat (h.length - 1) := by
  have f := H.fst
  have t := H.two
  refine List.mem_filter.mpr ⟨hs_mem.mpr ⟨by omega, ?_, fun x hx => ?_⟩, ?_⟩
  · rw [show (((fig h 0).toNat : Nat) : Int) = fig h 0 by omega]
    unfold fig
    rw [List.getD_eq_getElem?_getD, List.getElem?_eq_getElem (by omega)]
    rfl
  · obtain ⟨i, hi⟩ := List.getElem?_of_mem hx
    have e : fig h i = x := by
      unfold fig
      rw [List.getD_eq_getElem?_getD, hi]
      rfl
    have := H.nn i
    have := H.le i
    omega
  · unfold lastPos
    rw [last_fig (by omega)]
    exact decide_eq_true H.last
/-! ### of a base -/
def isB (h : List Int) : Bool := (List.range h.length).all fun n => n == 0 || decide (tl h n < 0)
theorem isB_iff {h : List Int} : isB h = true ↔ ∀ n, 1 ≤ n → n < h.length → tl h n < 0 := by
  unfold isB
  rw [List.all_eq_true]
  constructor
  · intro q n n1 n2
    have := q n (List.mem_range.mpr n2)
    rw [Bool.or_eq_true] at this
    rcases this with z | z
    · have : n = 0 := by simpa using z
      omega
    · exact of_decide_eq_true z
  · intro q n hn
    have := List.mem_range.mp hn
    by_cases z : n = 0
    · simp [z]
    · rw [decide_eq_true (q n (by omega) this)]
      simp
theorem tl_end (H : Hd h) : tl h h.length < 0 := by
  have f := H.fst
  unfold tl
  show (if fig h (h.length + 0) = fig h 0 then _ else if fig h (h.length + 0) < fig h 0 then (-1 : Int) else 1) < 0
  rw [fig_out (h := h) (i := h.length + 0) (by omega), if_neg (by omega), if_pos (by omega)]
  decide
theorem lexc_shift {f g : Nat → Int} : ∀ {n i : Nat}, lexc f g (i + 1) n = lexc (fun j => f (j + 1)) (fun j => g (j + 1)) i n
  | 0, _ => rfl
  | n + 1, i => by
    show (if f (i + 1) = g (i + 1) then lexc f g (i + 1 + 1) n else _) = (if f (i + 1) = g (i + 1) then lexc _ _ (i + 1) n else _)
    rw [lexc_shift]
theorem ltL_lexc : ∀ {xs ys : List Int} {m : Nat}, xs.length = ys.length → (ltL xs ys = true ↔ lexc (fig xs) (fig ys) 0 (xs.length + m) < 0)
  | [], [], m, _ => by
    have : ∀ m i, lexc (fig []) (fig []) i m = 0 := by
      intro m
      induction m with
      | zero => exact fun i => rfl
      | succ m ih =>
        intro i
        show (if fig [] i = fig [] i then _ else _) = _
        rw [if_pos rfl, ih]
    rw [this]
    simp [ltL_nil]
  | [], _ :: _, _, h => by cases h
  | _ :: _, [], _, h => by cases h
  | x :: xs, y :: ys, m, hl => by
    have ih := ltL_lexc (xs := xs) (ys := ys) (m := m) (by simpa using hl)
    rw [List.length_cons, show xs.length + 1 + m = (xs.length + m) + 1 by omega]
    show _ ↔ (if x = y then lexc (fig (x :: xs)) (fig (y :: ys)) (0 + 1) (xs.length + m) else if x < y then (-1 : Int) else 1) < 0
    rw [ltL_cons]
    by_cases e : x = y
    · rw [if_pos e, if_pos e, lexc_shift]
      exact ih
    · rw [if_neg e, if_neg e]
      by_cases q : x < y
      · rw [if_pos q]
        simp [q]
      · rw [if_neg q]
        simp [q]
theorem tl_lt {h : List Int} {n : Nat} (hn : n ≤ h.length) : ltL (h.drop n ++ List.replicate n 0) h = decide (tl h n < 0) := by
  have l : (h.drop n ++ List.replicate n 0).length = h.length := by simp; omega
  have := ltL_lexc (m := 1) l
  rw [l] at this
  rw [Bool.eq_iff_iff, this, decide_eq_true_eq]
  unfold tl
  rw [lexc_ext (f' := fun i => fig h (n + i)) fun i => ?_]
  by_cases q : i < (h.drop n).length
  · rw [← fig_drop]
    unfold fig
    rw [List.getD_eq_getElem?_getD, List.getD_eq_getElem?_getD, List.getElem?_append_left q]
  · rw [fig_out (by simp at q; omega : h.length ≤ n + i)]
    unfold fig
    rw [List.getD_eq_getElem?_getD, List.getElem?_append_right (by omega)]
    cases e : (List.replicate n (0 : Int))[i - (h.drop n).length]? with
    | none => rfl
    | some x =>
      have := List.eq_of_mem_replicate (List.mem_of_getElem? e)
      rw [this]
      rfl
/-- the pair of figures alike has a base -/
theorem isB_two {x : Int} (hx : 1 ≤ x) : isB [x, x] = true := by
  rw [isB_iff]
  intro n n1 n2
  have : n = 1 := by simp at n2; omega
  subst this
  have := tl_lt (h := [x, x]) (n := 1) (by simp)
  have e : ltL (List.drop 1 [x, x] ++ List.replicate 1 0) [x, x] = true := by
    show ltL [x, 0] [x, x] = true
    rw [ltL_cons, if_pos rfl, ltL_cons, if_neg (by omega)]
    exact decide_eq_true (by omega)
  rw [this] at e
  exact of_decide_eq_true e
end Lk72
set_option linter.all false
set_option maxRecDepth 100000
set_option maxHeartbeats 1000000
namespace Lk72
open PySem Ev
variable {k : Nat} {S : Store} {d a b : D} {h : List Int}
def unI : D → List Int
  | .tup ds => ds.map fun d => match d with
    | .int i => i
    | _ => 0
  | _ => []
theorem unI_ti {xs : List Int} : unI (ti xs) = xs := by
  show (xs.map D.int).map _ = xs
  rw [List.map_map]
  induction xs with
  | nil => rfl
  | cons x xs ih => rw [List.map_cons, ih]; rfl
theorem pow_le {a n : Nat} (a9 : a ≤ 9) (n4 : n ≤ 4) : (a + 1) ^ n ≤ 10000 := by
  have h1 : (a + 1) ^ n ≤ 10 ^ n := Nat.pow_le_pow_left (by omega) n
  have h2 : 10 ^ n ≤ 10 ^ 4 := Nat.pow_le_pow_right (by decide) n4
  omega
theorem hs_nonempty {a n : Nat} {h : List Int} (hh : h ∈ hs a n) : h ≠ [] ∧ h.length ≤ n + 1 := by
  have := (hs_mem.mp hh).1
  refine ⟨fun z => ?_, by omega⟩
  subst z
  cases this
theorem hs_succ {a n : Nat} : hs a (n + 1) = (hs a n).flatMap fun h => (List.range (a + 1)).map fun (x : Nat) => h ++ [(x : Int)] := rfl
theorem pre_flat' {α β : Type} {f : α → List β} {a b : List α} (p : a <+: b) : a.flatMap f <+: b.flatMap f := by
  obtain ⟨r, rfl⟩ := p
  rw [List.flatMap_append]
  exact List.prefix_append _ _
/-- the last comprehension of both -/
theorem last_comp {call : Nat → List D → M D} {a n : Nat} (a9 : a ≤ 9) (n4 : n ≤ 4) {ρ : Ev.Env} {φ : D → Store → Prop} {i j : Nat} (hj : j < ρ.length) (hij : i ≠ j) {x : D} (hi : ρ[i]? = some (some x)) (hx : ∀ S', S' = S → srcOf .seq [x] = some (.items ((hs a n).map ti)))
    (hφ : φ (.lst ((heads a n).map ti)) S) : T (evE call (.comp [j] (.name j) .seq [(.var i)] [(.cmp .gt (.idx (.var j) (.neg (.c (.int 1)))) (.c (.int 0)))] (.var j)) ρ S) φ := by
  have zm : sizeMax = 16777216 := rfl
  refine T_compF (ds := (hs a n).map ti) (p := fun d => lastPos (unI d)) (g := id) ?_ ?_ ?_ ?_
  · simp [hi]
    exact hx S rfl
  · have := pow_le a9 n4
    rw [List.length_map, hs_len]
    omega
  · intro d hd
    obtain ⟨h, hh, rfl⟩ := List.mem_map.mp hd
    have hne := (hs_nonempty hh).1
    refine ⟨(wipeD ρ [j]).set j (some (ti h)), ?_, ?_, fun _ => ?_⟩
    · simp [wipeD, hj]
    · rw [unI_ti]
      unfold lastPos
      simp [wipeD, hj, last_some hne]
      omega
    · simp [wipeD, hj]
  · rw [List.filter_map, List.map_id]
    have : (fun d => lastPos (unI d)) ∘ ti = lastPos := by
      funext h
      show lastPos (unI (ti h)) = _
      rw [unI_ti]
    rw [this]
    exact hφ
theorem c_heads {a n : Nat} (a9 : a ≤ 9) (n4 : n ≤ 4) : callV P (k + 1) f_heads_from [.int a, .int ((n : Int) + 1)] S = some (.ok (.lst ((heads a n).map ti)) S) := by
  have zm : sizeMax = 16777216 := rfl
  refine T_eq ((T_callV (fd := d_heads_from.fd) rfl rfl).mpr ?_)
  show T (exSs _ b_heads_from _ _) _
  unfold b_heads_from
  rw [X_cons, X_set]
  simp [d_heads_from]
  refine X_seq (fun ρ S' => (∃ x y z, ρ = [some (.int a), some (.int ((n : Int) + 1)), some (.lst ((hs a n).map ti)), x, y, z]) ∧ S' = S) ?_ ?_
  · rw [X_for]
    simp
    refine ⟨inRg_of (by omega) (by omega), ?_⟩
    show T (loopL _ _ _ _) _
    refine loop_at (fun j ρ S' => (∃ x y z, ρ = [some (.int a), some (.int ((n : Int) + 1)), some (.lst ((hs a j).map ti)), x, y, z]) ∧ S' = S) ?_ ?_ ⟨⟨none, none, none, by simp [hs]⟩, rfl⟩
    · rintro j d ρ S' hd ⟨⟨x, y, z, rfl⟩, rfl⟩
      obtain ⟨rfl, jm⟩ := range_at hd
      simp
      rw [X_cons, X_set]
      have pw : (a + 1) ^ (j + 1) ≤ 10000 := pow_le a9 (by omega)
      refine T_comp2I (ds := (hs a j).map ti) (g := fun d => ((List.range (a + 1)).map fun (x : Nat) => ti (unI d ++ [(x : Int)]))) ?_ ?_ ?_ ?_
      · simp
      · have e : ((hs a j).map ti).flatMap (fun d => ((List.range (a + 1)).map fun (x : Nat) => ti (unI d ++ [(x : Int)]))) = (hs a (j + 1)).map ti := by
          rw [List.flatMap_map]
          rw [hs_succ, List.map_flatMap]
          congr 1
          funext h
          rw [unI_ti, List.map_map]
          rfl
        rw [e, List.length_map, hs_len]
        omega
      · intro d hd
        obtain ⟨h, hh, rfl⟩ := List.mem_map.mp hd
        have hl := (hs_nonempty hh).2
        refine ⟨[some (.int a), some (.int ((n : Int) + 1)), some (.lst ((hs a j).map ti)), some (.int j), some (ti h), none], by simp [wipeD], by simp, rangeD 0 (a + 1), fun d => match d with | .int x => ti (h ++ [x]) | _ => .non, ?_, ?_, ?_⟩
        · simp
          have q : inRg ((a : Int) + 1) = true := inRg_of (by omega) (by omega)
          show (if inRg ((a : Int) + 1) = true then some (Src.items (rangeD 0 ((a : Int) + 1).toNat)) else none) = _
          rw [if_pos q]
          rfl
        · rw [unI_ti]
          simp [rangeD]
        · intro d1 hd1
          obtain ⟨i, rfl, i0, i1⟩ := mem_range hd1
          refine ⟨[some (.int a), some (.int ((n : Int) + 1)), some (.lst ((hs a j).map ti)), some (.int j), some (ti h), some (.int i)], by simp [wipeD], by simp, ?_⟩
          simp
          rw [decide_eq_true (by omega : h.length + 1 ≤ sizeMax)]
          simp [liftD]
      · have e : ((hs a j).map ti).flatMap (fun d => ((List.range (a + 1)).map fun (x : Nat) => ti (unI d ++ [(x : Int)]))) = (hs a (j + 1)).map ti := by
          rw [List.flatMap_map]
          rw [hs_succ, List.map_flatMap]
          congr 1
          funext h
          rw [unI_ti, List.map_map]
          rfl
        rw [e]
        simp
    · rintro ρ S' ⟨⟨x, y, z, rfl⟩, rfl⟩
      simp [range_len]
  · rintro ρ S' ⟨⟨x, y, z, rfl⟩, rfl⟩
    rw [X_cons, X_ret]
    refine last_comp (a := a) (n := n) (x := .lst ((hs a n).map ti)) a9 n4 (by simp) (by decide) rfl (fun _ _ => rfl) ?_
    exact ⟨rfl, rfl⟩
end Lk72
set_option linter.all false
set_option maxRecDepth 100000
set_option maxHeartbeats 1000000
namespace Lk72
open PySem Ev
variable {k : Nat} {S : Store} {d a b : D} {h : List Int}
theorem c_lheads {a n : Nat} (a9 : a ≤ 9) (n4 : n ≤ 4) : T (callV P (k + 1) f__law_heads [.int ((n : Int) + 1), .int a] S) fun v S' => v = .lst ((heads a n).map ti) ∧ ∃ R, S' = S ++ R := by
  have zm : sizeMax = 16777216 := rfl
  refine (T_callV (fd := d__law_heads.fd) rfl rfl).mpr ?_
  show T (exSs _ b__law_heads _ _) _
  unfold b__law_heads
  rw [X_cons, X_set]
  simp [d__law_heads]
  refine X_seq (fun ρ S' => ∃ (q : Nat) (R : Store) (x y z w : Option D), ρ = [some (.int ((n : Int) + 1)), some (.int a), some (.ref q), x, y, z, w] ∧ S' = S ++ R ∧ S'[q]? = some (.lst ((hs a n).map ti))) ?_ ?_
  · rw [X_for]
    simp
    refine ⟨inRg_of (by omega) (by omega), ?_⟩
    show T (loopL _ _ _ _) _
    refine loop_at (fun j ρ S' => ∃ (q : Nat) (R : Store) (x y z w : Option D), ρ = [some (.int ((n : Int) + 1)), some (.int a), some (.ref q), x, y, z, w] ∧ S' = S ++ R ∧ S'[q]? = some (.lst ((hs a j).map ti))) ?_ ?_ ⟨_, [_], none, none, none, none, rfl, rfl, by simp [hs]⟩
    · rintro j d ρ S' hd ⟨q, R, x, y, z, w, rfl, rfl, eq⟩
      obtain ⟨rfl, jm⟩ := range_at hd
      generalize hS1 : S ++ R = S1 at eq ⊢
      simp
      have ql : q < S1.length := (List.getElem?_eq_some_iff.mp eq).1
      have pw : (a + 1) ^ (j + 1) ≤ 10000 := pow_le a9 (by omega)
      rw [X_cons, X_set]
      simp
      refine X_seq (fun ρ S' => ∃ (z w : Option D), ρ = [some (.int ((n : Int) + 1)), some (.int a), some (.ref q), some (.int j), some (.ref S1.length), z, w] ∧ S' = S1 ++ [.lst ((hs a (j + 1)).map ti)]) ?_ ?_
      · rw [X_for]
        simp
        refine ⟨.ref q, rfl, ?_⟩
        show T (loopR _ q 0 _ _) _
        refine loopR_at (ds := (hs a j).map ti) (fun i ρ S' => ∃ (z w : Option D), ρ = [some (.int ((n : Int) + 1)), some (.int a), some (.ref q), some (.int j), some (.ref S1.length), z, w] ∧ S' = S1 ++ [.lst ((((hs a j).take i).flatMap fun h => (List.range (a + 1)).map fun (x : Nat) => h ++ [(x : Int)]).map ti)]) ?_ ?_ ?_ _ 0 (Nat.le_refl _) (Nat.zero_le _) ⟨z, w, rfl, by simp⟩
        · rintro i ρ S' ⟨z, w, rfl, rfl⟩
          rw [List.getElem?_append_left ql]
          exact eq
        · rintro i d ρ S' hd ⟨z, w, rfl, rfl⟩
          rw [List.getElem?_map] at hd
          cases e : (hs a j)[i]? with
          | none => rw [e] at hd; cases hd
          | some h =>
            rw [e] at hd
            cases hd
            have hl := (hs_nonempty (List.mem_of_getElem? e)).2
            simp
            rw [X_cons, X_ex]
            have fl : ((hs a j).take (i + 1)).flatMap (fun h => (List.range (a + 1)).map fun (x : Nat) => h ++ [(x : Int)]) = ((hs a j).take i).flatMap (fun h => (List.range (a + 1)).map fun (x : Nat) => h ++ [(x : Int)]) ++ (List.range (a + 1)).map fun (x : Nat) => h ++ [(x : Int)] := by
              rw [List.take_add_one, e]
              simp
            have fle : (((hs a j).take (i + 1)).flatMap (fun h => (List.range (a + 1)).map fun (x : Nat) => h ++ [(x : Int)])).length ≤ 10000 := by
              refine Nat.le_trans ?_ pw
              rw [← hs_len (a := a) (n := j + 1), hs_succ]
              exact (pre_flat' (List.take_prefix _ _)).length_le
            rw [T_meth, T_var]
            refine ⟨.ref S1.length, rfl, ?_⟩
            rw [T_ready]
            refine ⟨_, get_new, ?_⟩
            rw [T_conss]
            refine T_compI (ds := rangeD 0 (a + 1)) (g := fun d => match d with | .int x => ti (h ++ [x]) | _ => .non) ?_ ?_ ?_ ?_
            · simp
              show srcOf .rng1 [.int ((a : Int) + 1)] = _
              have q : inRg ((a : Int) + 1) = true := inRg_of (by omega) (by omega)
              show (if inRg ((a : Int) + 1) = true then some (Src.items (rangeD 0 ((a : Int) + 1).toNat)) else none) = _
              rw [if_pos q]
              rfl
            · rw [range_len]
              omega
            · intro d1 hd1
              obtain ⟨x, rfl, x0, x1⟩ := mem_range hd1
              refine ⟨[some (.int ((n : Int) + 1)), some (.int a), some (.ref q), some (.int j), some (.ref S1.length), some (ti h), some (.int x)], by simp [wipeD], by simp, ?_⟩
              simp
              rw [decide_eq_true (by omega : h.length + 1 ≤ sizeMax)]
              simp [liftD]
            · rw [T_nils, T_extL]
              refine ⟨_, get_new, ?_, ?_⟩
              · rw [fl, List.length_append] at fle
                simp only [List.length_map, range_len] at fle ⊢
                simp only [List.length_range] at fle
                omega
              · rw [set_new]
                dsimp only
                refine ⟨_, _, rfl, ?_⟩
                rw [fl, List.map_append]
                congr 4
                simp [rangeD]
        · rintro ρ S' ⟨z, w, rfl, rfl⟩
          refine ⟨⟨z, w, rfl⟩, ?_⟩
          rw [List.length_map, List.take_length, hs_succ]
      · rintro ρ S' ⟨z, w, rfl, rfl⟩
        rw [X_cons, X_set]
        simp
        exact ⟨R ++ [.lst ((hs a (j + 1)).map ti)], by rw [← hS1]; simp⟩
    · rintro ρ S' ⟨q, R, x, y, z, w, rfl, rfl, eq⟩
      rw [range_len] at eq
      exact ⟨q, ⟨x, y, z, w, rfl⟩, ⟨R, rfl⟩, eq⟩
  · rintro ρ S' ⟨q, R, x, y, z, w, rfl, rfl, eq⟩
    rw [X_cons, X_ret]
    refine T_compFR (ds := (hs a n).map ti) (p := fun d => lastPos (unI d)) (g := id) eq ?_ ?_ ?_ ?_
    · simp
      rfl
    · have := pow_le a9 n4
      rw [List.length_map, hs_len]
      omega
    · intro d hd
      obtain ⟨h, hh, rfl⟩ := List.mem_map.mp hd
      have hne := (hs_nonempty hh).1
      refine ⟨[some (.int ((n : Int) + 1)), some (.int a), some (.ref q), x, y, some (ti h), w], by simp [wipeD], ?_, fun _ => ?_⟩
      · rw [unI_ti]
        unfold lastPos
        simp [last_some hne]
        omega
      · simp
    · refine ⟨?_, R, rfl⟩
      rw [List.filter_map, List.map_id]
      have : (fun d => lastPos (unI d)) ∘ ti = lastPos := by
        funext h
        show lastPos (unI (ti h)) = _
        rw [unI_ti]
      rw [this]
      rfl
end Lk72
set_option linter.all false
set_option maxRecDepth 100000
set_option maxHeartbeats 1000000
namespace Lk72
open PySem Ev
variable {k : Nat} {S : Store} {d a b : D} {h : List Int}
theorem all_bls {bs : List Bool} : allV (.lst (bs.map .bl)) = some (.bl (bs.all id)) := allBls
theorem c_lbase (h1 : 1 ≤ h.length) (h5 : h.length ≤ 5) (hn1 : h ≠ [1]) : callV P (k + 1) f__law_is_base [ti h] S = some (.ok (.bl (isB h)) S) := by
  have zm : sizeMax = 16777216 := rfl
  refine T_eq ((T_callV (fd := d__law_is_base.fd) rfl rfl).mpr ?_)
  show T (exSs _ b__law_is_base _ _) _
  unfold b__law_is_base
  rw [X_cons, X_set]
  simp [d__law_is_base, rep_single, rep_ok (by omega : (0 : Int) ≤ h.length) (by omega) (by decide : 1 ≤ 1000)]
  refine ⟨by omega, ?_⟩
  rw [X_cons, X_ret]
  have ne : eqD (ti h) (.tup [.int 1]) = some false := by
    have := eqD_ti (xs := h) (ys := [1])
    rw [decide_eq_false hn1] at this
    exact this
  simp [ne]
  have wt : cutL (h ++ List.replicate h.length 0) none (some (h.length : Int)) = h := by
    rw [cut_to, List.take_append_of_le_length (Nat.le_refl _), List.take_length]
  have wd : D.tup (List.map D.int h ++ List.replicate h.length (D.int 0)) = ti (h ++ List.replicate h.length 0) := by simp
  rw [wd]
  refine T_compI (ds := rangeD 1 (h.length - 1)) (g := fun d => match d with | .int x => .bl (decide (tl h x.toNat < 0)) | _ => .non) ?_ ?_ ?_ ?_
  · simp
    rw [src_rng2 (inRg_of (by decide) (by decide)) (inRg_of (by omega) (by omega)), show ((h.length : Int) - 1).toNat = h.length - 1 by omega]
  · rw [range_len]
    omega
  · intro d hd
    obtain ⟨x, rfl, x0, x1⟩ := mem_range hd
    obtain ⟨n, rfl⟩ : ∃ n : Nat, x = n := ⟨x.toNat, by omega⟩
    refine ⟨[some (ti h), some (ti (h ++ List.replicate h.length 0)), some (.int n)], by simp [wipeD], by simp, ?_⟩
    simp only [T_cmp, T_bin, T_sl, T_var, T_c, T_tup, T_conss, T_nils, T_bi, List.getElem?_cons_zero, List.getElem?_cons_succ, Option.some.injEq, exists_eq_left', if_true, if_false, Bool.false_eq_true, T_pure, part_t, part_f, peek_tup, sl_tup, T_len, len_tup, List.length_map, cut_ints]
    rw [wt, cut_from]
    have e1 : binV .mul (.tup [.int 0]) (.int (n : Int)) = some (.tup (List.replicate n (.int 0))) := by
      rw [bin_mulT, rep_ok (by omega) (by omega) (by decide), rep_single]
      rfl
    rw [e1]
    have e2 : binV .add (ti (h.drop n)) (.tup (List.replicate n (.int 0))) = some (ti (h.drop n ++ List.replicate n 0)) := by
      rw [bin_addT, decide_eq_true (by simp; omega)]
      simp [liftD]
    refine ⟨_, rfl, _, e2, decide (tl h n < 0), ?_, rfl, trivial⟩
    rw [cmp_ltT, ltD_ti, tl_lt (by omega)]
  · refine ⟨_, rfl, ?_⟩
    have : (rangeD 1 (h.length - 1)).map (fun d => match d with | .int x => .bl (decide (tl h x.toNat < 0)) | _ => .non) = ((List.range (h.length - 1)).map fun (n : Nat) => decide (tl h (n + 1) < 0)).map D.bl := by
      unfold rangeD
      rw [List.map_map, List.map_map]
      refine List.map_congr_left fun n _ => ?_
      show D.bl (decide (tl h (1 + (n : Int)).toNat < 0)) = _
      rw [show (1 + (n : Int)).toNat = n + 1 by omega]
      rfl
    rw [this, all_bls]
    refine ⟨_, rfl, ?_, rfl⟩
    congr 1
    rw [Bool.eq_iff_iff, isB_iff, List.all_map, List.all_eq_true]
    constructor
    · intro q n n1 n2
      have := q (n - 1) (List.mem_range.mpr (by omega))
      have := of_decide_eq_true this
      rwa [show n - 1 + 1 = n by omega] at this
    · intro q n hn
      have := List.mem_range.mp hn
      exact decide_eq_true (q (n + 1) (by omega) (by omega))
/-- a head that tells the word -/
def Pr (w : List Int) (h : List Int) : Bool := isB h && decide (W h w.length = w)
theorem c_begins (H : Hd h) {w : List Int} (w1 : 1 ≤ w.length) (wl : w.length ≤ 400) : T (callV P (k + 4) f_begins_so [ti h, ti w] S) fun v S' => v = .bl (Pr w h) ∧ ∃ R, S' = S ++ R := by
  have h5 := H.five
  have t := H.two
  refine (T_callV (fd := d_begins_so.fd) rfl rfl).mpr ?_
  show T (exSs _ b_begins_so _ _) _
  unfold b_begins_so
  rw [X_cons, X_set]
  simp [d_begins_so]
  rw [X_cons, X_ret]
  simp
  have hn1 : h ≠ [1] := fun z => by
    have := H.big (by rw [z]; rfl)
    rw [z] at this
    exact absurd this (by decide)
  refine (c_bad (k := k) (by omega) hn1).mono ?_
  rintro v S' ⟨rfl, ⟨rfl, q⟩ | ⟨n, rfl, n1, n2, q⟩⟩
  · simp [isNon]
    have hb : isB h = true := isB_iff.mpr fun n n1 n2 => q n n1 (by omega)
    refine (c_rule (k := k + 1) H).mono ?_
    rintro v S' ⟨rfl, R, rfl⟩
    refine (c_word (k := k + 1) H w1 wl).mono ?_
    rintro v S2 ⟨rfl, R2, rfl⟩
    have ex : ∃ R_1, S' ++ R ++ R2 = S' ++ R_1 := ⟨R ++ R2, by simp⟩
    by_cases z : W h w.length = w
    · exact .inr ⟨by rw [eqD_ti, decide_eq_true z], by unfold Pr; rw [hb, decide_eq_true z]; rfl, ex⟩
    · exact .inl ⟨by rw [eqD_ti, decide_eq_false z], by unfold Pr; rw [hb, decide_eq_false z]; rfl, ex⟩
  · simp [isNon]
    unfold Pr
    have hb : isB h = false := by
      rw [Bool.eq_false_iff]
      intro z
      by_cases e : n = h.length
      · have := tl_end H
        rw [← e] at this
        omega
      · have := isB_iff.mp z n n1 (by omega)
        omega
    rw [hb]
    rfl
/-- what is told -/
def dueS (w : List Int) (s : D) : Option D := match s with
  | .int s => (heads (ahead w) (s.toNat - 1)).findSome? fun h => if Pr w h then some (er h) else none
  | _ => none
def due (w : List Int) : D := if ahead w = w.length then er [2] else if 9 < ahead w then .non else (((rangeD 2 4).findSome? (dueS w)).getD .non)
end Lk72
set_option linter.all false
set_option maxRecDepth 100000
set_option maxHeartbeats 1000000
namespace Lk72
open PySem Ev
variable {k : Nat} {S : Store} {d a b : D} {h : List Int}
/-- words that are asked -/
structure Wo (w : List Int) : Prop where
  two : 2 ≤ w.length
  most : w.length ≤ 400
  small : ∀ x ∈ w, 0 ≤ x ∧ x ≤ 4
  z : fig w 0 = 0
theorem ahead_le (w : List Int) : ahead w ≤ w.length := by
  unfold ahead
  exact (List.takeWhile_sublist _).length_le
theorem ahead_zero {w : List Int} {i : Nat} (hi : i < ahead w) : w[i]? = some 0 := by
  unfold ahead at hi
  induction w generalizing i with
  | nil => simp at hi
  | cons x w ih =>
    rw [List.takeWhile_cons] at hi
    by_cases q : x = 0
    · subst q
      simp at hi
      cases i with
      | zero => rfl
      | succ i => simpa using ih (by omega)
    · simp [q] at hi
theorem ahead_one {w : List Int} (hi : ahead w < w.length) : ∃ x, w[ahead w]? = some x ∧ x ≠ 0 := by
  unfold ahead at hi ⊢
  induction w with
  | nil => simp at hi
  | cons x w ih =>
    rw [List.takeWhile_cons] at hi ⊢
    by_cases q : x = 0
    · subst q
      simp at hi ⊢
      simpa using ih hi
    · simp [q]
theorem ahead_pos {w : List Int} (W : Wo w) : 1 ≤ ahead w := by
  have t := W.two
  have z := W.z
  by_cases q : 1 ≤ ahead w
  · exact q
  · exfalso
    obtain ⟨x, e, nz⟩ := ahead_one (w := w) (by omega)
    rw [show ahead w = 0 by omega] at e
    unfold Lk72.fig at z
    rw [List.getD_eq_getElem?_getD, e] at z
    exact nz z
/-- the places of what is no nought -/
def others (w : List Int) : List D := ((w.zipIdx.filter fun p => p.1 != 0).map fun p => D.int (p.2 : Nat))
theorem others_nil {w : List Int} (h : ahead w = w.length) : others w = [] := by
  unfold others
  rw [List.map_eq_nil_iff, List.filter_eq_nil_iff]
  rintro ⟨x, i⟩ hp
  have := List.mem_zipIdx hp
  obtain ⟨_, hi, e⟩ := this
  have e2 := ahead_zero (w := w) (i := i) (by omega)
  simp at e hi
  rw [List.getElem?_eq_getElem (by omega)] at e2
  have := Option.some.inj e2
  simp [e, this]
theorem others_cons {w : List Int} (h : ahead w < w.length) : ∃ r, others w = .int (ahead w : Nat) :: r := by
  unfold others
  obtain ⟨x, e, nz⟩ := ahead_one h
  have sp : w = w.take (ahead w) ++ w.drop (ahead w) := (List.take_append_drop _ _).symm
  have dr : w.drop (ahead w) = x :: w.drop (ahead w + 1) := by
    rw [List.drop_eq_getElem_cons h]
    rw [List.getElem?_eq_getElem h] at e
    rw [Option.some.inj e]
  have zi : w.zipIdx = (w.take (ahead w)).zipIdx ++ ((x :: w.drop (ahead w + 1)).zipIdx (ahead w)) := by
    conv => lhs; rw [sp, List.zipIdx_append, dr]
    rw [List.length_take, Nat.min_eq_left (ahead_le w), Nat.zero_add]
  have f0 : ((w.take (ahead w)).zipIdx.filter fun p => p.1 != 0) = [] := by
    rw [List.filter_eq_nil_iff]
    rintro ⟨y, i⟩ hp
    obtain ⟨_, hi, e⟩ := List.mem_zipIdx hp
    simp at e hi
    have e2 := ahead_zero (w := w) (i := i) (by omega)
    rw [List.getElem?_eq_getElem (by omega)] at e2
    have := Option.some.inj e2
    simp [e, this]
  rw [zi, List.filter_append, f0, List.nil_append, List.zipIdx_cons, List.filter_cons_of_pos (by simpa using nz), List.map_cons]
  exact ⟨_, rfl⟩
theorem c_inner {a n : Nat} (a1 : 1 ≤ a) (a9 : a ≤ 9) (n4 : n ≤ 4) (na : n = 0 → 2 ≤ a) {h : List Int} (hh : h ∈ heads a n) {w : List Int} (W : Wo w) :
    T (callV P (k + 4) f_begins_so [ti h, ti w] S) fun v S' => v = .bl (Pr w h) ∧ ∃ R, S' = S ++ R :=
  c_begins (heads_ok a1 a9 n4 na hh).1 (by have := W.two; omega) W.most
theorem heads_one : heads 1 0 = [[1]] := rfl
/-- one figure alone tells no such word -/
theorem Pr_one {a : Nat} (a1 : 1 ≤ a) (a9 : a ≤ 9) {w : List Int} (W : Wo w) (hw : ahead w < w.length) {h : List Int} (hh : h ∈ heads a 0) (a2 : 2 ≤ a) : Pr w h = false := by
  obtain ⟨H, _, l⟩ := heads_ok a1 a9 (by decide) (fun _ => a2) hh
  unfold Pr
  rw [Bool.and_eq_false_iff]
  refine .inr (decide_eq_false fun e => ?_)
  obtain ⟨x, e2, nz⟩ := ahead_one hw
  have := W_single H l (n := w.length) x (by rw [e]; exact List.mem_of_getElem? e2)
  exact nz this
end Lk72
set_option linter.all false
set_option maxRecDepth 100000
set_option maxHeartbeats 1000000
namespace Lk72
open PySem Ev
variable {k : Nat} {S : Store} {d a b : D} {h : List Int}
/-! ### the program's search -/
theorem toPs_zero (w : List Int) : nr (.int 0) = true := rfl
theorem c_all {call : Nat → List D → M D} {w : List Int} : True := trivial
def dueH (w : List Int) (h : List Int) : Option D := if Pr w h then some (er h) else none
theorem dueS_eq {w : List Int} {s : Nat} : dueS w (.int ((s : Int) + 1)) = (heads (ahead w) s).findSome? (dueH w) := by
  show (heads (ahead w) (((s : Int) + 1).toNat - 1)).findSome? _ = _
  rw [show ((s : Int) + 1).toNat - 1 = s by omega]
  rfl
theorem find_map {w : List Int} {l : List (List Int)} : (l.map ti).findSome? (fun d => dueH w (unI d)) = l.findSome? (dueH w) := by
  induction l with
  | nil => rfl
  | cons h l ih => rw [List.map_cons, List.findSome?_cons, List.findSome?_cons, unI_ti, ih]
theorem eq_one : eqD (er [1]) (.tup [.tup [.int 1], .tup []]) = some true := by
  have := eqD_rw (h := [1]) (r := []) (h' := [1]) (r' := [])
  exact this
theorem bad_one : callV P (k + 3) f_bad_tail [.tup [ti [1], .tup []]] S = some (.ok (.int 0) S) := by
  show callV P (k + 3) f_bad_tail [.tup [.tup [.int 1], .tup []]] S = _
  refine T_eq ((T_callV (fd := d_bad_tail.fd) rfl rfl).mpr ?_)
  show T (exSs _ b_bad_tail _ _) _
  unfold b_bad_tail
  have e1 : eqD (.tup [.tup [.int 1], .tup []]) (.tup [.tup [.int 1], .tup []]) = some true := eq_one
  rw [X_cons, X_if]
  simp only [T_cmp, T_tup, T_conss, T_nils, T_var, T_c, cmp_eq, e1, d_bad_tail, List.map_cons, List.map_nil, List.cons_append, List.nil_append, List.getElem?_cons_zero, Option.some.injEq, exists_eq_left', tru_bl, if_true]
  rw [X_cons, X_ret, T_c]
  exact ⟨rfl, rfl⟩
/-- one size of the program's -/
theorem p_size {w : List Int} (W : Wo w) (hw : ahead w < w.length) (a9 : ahead w ≤ 9) {s : Nat} (s4 : s ≤ 4) {o x y z : Option D} {S0 : Store} (ho : others w = .int (ahead w) :: (others w).tail) {R : Store} :
    T (exS (callV P (k + 4)) (.forS (.name 5) .seq [(.call f_heads_from [(.idx (.var 3) (.c (.int 0))), (.var 4)])]
     [.ifS (.call f_begins_so [(.var 5), (.var 0)])
       [.ret (.tup [(.var 5), (.tup [])])]
       []]) [some (ti w), x, y, some (.lst (others w)), some (.int ((s : Int) + 1)), z] (S0 ++ R)) fun r S' => (∃ R', S' = S0 ++ R') ∧ (∃ z, r.2 = [some (ti w), x, y, some (.lst (others w)), some (.int ((s : Int) + 1)), z]) ∧ match dueS w (.int ((s : Int) + 1)) with
      | some v => r.1 = .rt v
      | none => r.1 = .nx := by
  have a1 := ahead_pos W
  rw [X_for]
  rw [ho]
  simp only [T_conss, T_call, T_idx, T_var, T_c, T_nils, List.getElem?_cons_zero, List.getElem?_cons_succ, Option.some.injEq, exists_eq_left', peek_lst, idx_lst, at_0]
  rw [T_of (c_heads (k := k + 3) a9 s4)]
  refine ⟨_, rfl, ?_⟩
  show T (loopL _ _ _ _) _
  refine loop_find (fun ρ S' => (∃ R', S' = S0 ++ R') ∧ ∃ z, ρ = [some (ti w), x, y, some (.lst (.int (ahead w) :: (others w).tail)), some (.int ((s : Int) + 1)), z]) (fun d => dueH w (unI d)) ?_ ?_ ⟨⟨R, rfl⟩, z, rfl⟩
  · rintro d hd ρ S' ⟨⟨R', rfl⟩, z, rfl⟩
    obtain ⟨h, hh, rfl⟩ := List.mem_map.mp hd
    simp only [asg_name]
    rw [if_pos (by simp)]
    dsimp only
    rw [X_cons, X_if]
    rw [unI_ti]
    by_cases h1 : ahead w = 1 ∧ s = 0
    · obtain ⟨e1, e2⟩ := h1
      have : h = [1] := by
        subst e2
        rw [e1, heads_one] at hh
        simpa using hh
      subst this
      simp only [T_call, T_conss, T_nils, T_var, List.set_cons_succ, List.set_cons_zero, List.getElem?_cons_zero, List.getElem?_cons_succ, Option.some.injEq, exists_eq_left']
      have cb : callV P (k + 4) f_begins_so [ti [1], ti w] (S0 ++ R') = some (.ok (.bl false) (S0 ++ R')) := by
        refine T_eq ((T_callV (fd := d_begins_so.fd) rfl rfl).mpr ?_)
        show T (exSs _ b_begins_so _ _) _
        unfold b_begins_so
        rw [X_cons, X_set]
        simp [d_begins_so]
        rw [X_cons, X_ret]
        simp
        rw [T_of (bad_one (k := k))]
        simp [isNon]
      rw [T_of cb]
      have pf : dueH w [1] = none := by
        unfold dueH
        rw [if_neg]
        unfold Pr
        intro z
        rw [Bool.and_eq_true] at z
        have e := of_decide_eq_true z.2
        have wl := W.two
        obtain ⟨x, e3, nz⟩ := ahead_one hw
        rw [e1, ← e] at e3
        have l2 : ∀ n, it [1] n = [0] := fun n => by
          induction n with
          | zero => rfl
          | succ n ih =>
            unfold it
            rw [ih]
            rfl
        unfold Lk72.W at e3
        rw [l2] at e3
        have : ([0] : List Int)[1]? = none := rfl
        rw [List.getElem?_take] at e3
        split at e3
        · rw [this] at e3
          cases e3
        · cases e3
      rw [pf]
      simp
    · have na : s = 0 → 2 ≤ ahead w := fun z => by omega
      simp only [T_call, T_conss, T_nils, T_var, List.set_cons_succ, List.set_cons_zero, List.getElem?_cons_zero, List.getElem?_cons_succ, Option.some.injEq, exists_eq_left']
      refine (c_inner (k := k) a1 a9 s4 na hh W).mono ?_
      rintro v S' ⟨rfl, R2, rfl⟩
      unfold dueH
      cases Pr w h
      · simp
      · simp
        rw [X_cons, X_ret]
        simp
  · rintro ρ S' ⟨⟨R', rfl⟩, z, rfl⟩
    rw [find_map, dueS_eq]
    cases (heads (ahead w) s).findSome? (dueH w) with
    | none => exact ⟨⟨R', rfl⟩, ⟨z, rfl⟩, rfl⟩
    | some v => exact ⟨⟨R', rfl⟩, ⟨z, rfl⟩, rfl⟩
/-- sizes 1 to 5 of the program's: size 1 tells none -/
theorem size_one {w : List Int} (W : Wo w) (hw : ahead w < w.length) (a9 : ahead w ≤ 9) : dueS w (.int 1) = none := by
  have a1 := ahead_pos W
  have e : dueS w (.int ((0 : Nat) + 1 : Int)) = _ := dueS_eq (w := w) (s := 0)
  have e : dueS w (.int 1) = (heads (ahead w) 0).findSome? (dueH w) := e
  rw [e, List.findSome?_eq_none_iff]
  intro h hh
  unfold dueH
  rw [if_neg]
  intro z
  by_cases a2 : 2 ≤ ahead w
  · rw [Pr_one a1 a9 W hw hh a2] at z
    cases z
  · have e1 : ahead w = 1 := by omega
    rw [e1, heads_one] at hh
    have : h = [1] := by simpa using hh
    subst this
    unfold Pr at z
    rw [Bool.and_eq_true] at z
    have e := of_decide_eq_true z.2
    have wl := W.two
    obtain ⟨x, e3, nz⟩ := ahead_one hw
    rw [e1, ← e] at e3
    have l2 : ∀ n, it [1] n = [0] := fun n => by
      induction n with
      | zero => rfl
      | succ n ih =>
        unfold it
        rw [ih]
        rfl
    unfold Lk72.W at e3
    rw [l2] at e3
    have : ([0] : List Int)[1]? = none := rfl
    rw [List.getElem?_take] at e3
    split at e3
    · rw [this] at e3
      cases e3
    · cases e3
theorem all_nn {w : List Int} (W : Wo w) : T (evE (callV P (k + 4)) (.bi .all [(.comp [1] (.name 1) .seq [(.var 0)] [] (.call f_is_within [(.var 1), (.c (.int 0)), (.c (.int 4))]))]) [some (ti w), none, none, none, none, none] S) fun v S' => v = .bl true ∧ S' = S := by
  rw [T_bi, T_conss]
  have wm := W.most
  refine T_compI (ds := w.map .int) (g := fun d => .bl true) ?_ ?_ ?_ ?_
  · simp
  · rw [List.length_map]
    exact Nat.le_trans wm (by decide)
  · intro d hd
    obtain ⟨x, hx, rfl⟩ := List.mem_map.mp hd
    obtain ⟨x0, x4⟩ := W.small x hx
    refine ⟨[some (ti w), some (.int x), none, none, none, none], by simp [wipeD], by simp, ?_⟩
    simp only [T_call, T_conss, T_nils, T_var, T_c, List.getElem?_cons_zero, List.getElem?_cons_succ, Option.some.injEq, exists_eq_left']
    rw [T_of (c_is_within (k := k + 2) rfl)]
    simp [inR, x0, x4]
  · rw [T_nils, T_all]
    refine ⟨_, rfl, ?_⟩
    have : (w.map D.int).map (fun _ => D.bl true) = (w.map fun _ => true).map .bl := by rw [List.map_map, List.map_map]; rfl
    rw [this, all_bls]
    refine ⟨_, rfl, ?_, rfl⟩
    congr 1
    rw [List.all_map, List.all_eq_true]
    exact fun _ _ => rfl
theorem c_one {w : List Int} (W : Wo w) {S0 : Store} : T (callV P (k + 5) f_one_of_gaps [ti w] S0) fun v S' => v = due w ∧ ∃ R, S' = S0 ++ R := by
  have wm := W.most
  have w2 := W.two
  have zm : sizeMax = 16777216 := rfl
  refine (T_callV (fd := d_one_of_gaps.fd) rfl rfl).mpr ?_
  show T (exSs _ b_one_of_gaps _ _) _
  unfold b_one_of_gaps
  rw [X_cons, X_if, T_or, T_not, T_call]
  simp only [T_conss, T_nils, T_var, T_c, d_one_of_gaps, List.map_cons, List.map_nil, List.cons_append, List.nil_append, List.getElem?_cons_zero, Option.some.injEq, exists_eq_left']
  rw [T_of (c_is_sized (k := k + 3) rfl)]
  have sz : sized 2 400 (ti w) = true := by simp [sized]; omega
  rw [sz]
  refine ⟨true, rfl, false, rfl, ?_⟩
  rw [if_neg (by decide), T_or, T_not]
  refine (all_nn (k := k) (S := S0) W).mono ?_
  rintro v S' ⟨rfl, rfl⟩
  refine ⟨true, rfl, false, rfl, ?_⟩
  rw [if_neg (by decide)]
  have z : L2.atI (w.map D.int) 0 = some (.int 0) := by
    have e := at_nat (xs := w.map D.int) (n := 0)
    rw [show ((0 : Nat) : Int) = 0 from rfl] at e
    have z := W.z
    unfold fig at z
    rw [List.getD_eq_getElem?_getD, List.getElem?_eq_getElem (by omega : 0 < w.length)] at z
    rw [e, List.getElem?_map, List.getElem?_eq_getElem (by omega : 0 < w.length)]
    have z : w[0] = 0 := z
    rw [z]
    rfl
  simp [z]
  rw [X_cons, X_set]
  refine T_compF (ds := (w.map D.int).zipIdx.map fun (x, k) => .tup [.int (k : Nat), x]) (p := fun d => match d with | .tup [_, .int x] => x != 0 | _ => false) (g := fun d => match d with | .tup [i, _] => i | d => d) ?_ ?_ ?_ ?_
  · simp
    rfl
  · rw [List.length_map, List.length_zipIdx, List.length_map]
    omega
  · intro d hd
    obtain ⟨⟨x, i⟩, hp, rfl⟩ := List.mem_map.mp hd
    obtain ⟨_, _, e⟩ := List.mem_zipIdx hp
    simp at e
    obtain ⟨y, rfl⟩ : ∃ y, x = D.int y := ⟨_, e⟩
    refine ⟨[some (ti w), some (.int y), some (.int (i : Nat)), none, none, none], by simp [wipeD], ?_, fun _ => ?_⟩
    · simp
      omega
    · simp
  · have eo : ((((w.map D.int).zipIdx.map fun (x, k) => D.tup [.int (k : Nat), x]).filter fun d => match d with | .tup [_, .int x] => x != 0 | _ => false).map fun d => match d with | .tup [i, _] => i | d => d) = others w := by
      unfold others
      rw [List.zipIdx_map, List.map_map, List.filter_map, List.map_map]
      rfl
    rw [eo]
    simp only [asg_name]
    rw [if_pos (by simp)]
    refine ⟨_, rfl, ?_⟩
    simp only [List.set_cons_succ, List.set_cons_zero]
    have al := ahead_le w
    have a1 := ahead_pos W
    rw [X_cons, X_if]
    by_cases q : ahead w = w.length
    · rw [others_nil q]
      simp
      rw [X_cons, X_ret]
      simp
      unfold due
      rw [if_pos q]
      exact rfl
    · obtain ⟨r, ho⟩ := others_cons (w := w) (by omega)
      have du : due w = if 9 < ahead w then .non else (((rangeD 2 4).findSome? (dueS w)).getD .non) := by
        unfold due
        rw [if_neg q]
      rw [ho]
      simp
      rw [X_cons, X_if]
      simp
      by_cases q9 : 9 < ahead w
      · refine .inr ⟨by omega, ?_⟩
        rw [X_cons, X_ret]
        simp
        rw [du, if_pos q9]
      · refine .inl ⟨by omega, ?_⟩
        have du : due w = ((rangeD 1 5).findSome? (dueS w)).getD .non := by
          rw [du, if_neg q9]
          have : rangeD 1 5 = .int 1 :: rangeD 2 4 := rfl
          rw [this, List.findSome?_cons, size_one W (by omega) (by omega)]
        rw [X_cons, X_for]
        simp
        refine ⟨⟨by decide, by decide⟩, ?_⟩
        show T (loopL _ _ _ _) _
        refine loop_find (fun ρ S2 => (∃ R', S2 = S' ++ R') ∧ ∃ u z, ρ = [some (ti w), none, none, some (.lst (others w)), u, z]) (dueS w) ?_ ?_ ⟨⟨[], by simp⟩, none, none, by rw [ho]⟩
        · rintro d hd ρ S2 ⟨⟨R', rfl⟩, u, z, rfl⟩
          obtain ⟨x, rfl, x0, x1⟩ := mem_range hd
          obtain ⟨s, rfl⟩ : ∃ s : Nat, x = (s : Int) + 1 := ⟨x.toNat - 1, by omega⟩
          rw [if_pos (by simp)]
          dsimp only
          simp only [List.set_cons_succ, List.set_cons_zero]
          rw [X_cons]
          refine (p_size (k := k) (o := none) (x := none) (y := none) (z := z) (S0 := S') (R := R') W (by omega) (by omega) (by omega : s ≤ 4) (by rw [ho]; rfl)).mono ?_
          rintro ⟨fl, ρ⟩ S2 ⟨⟨R2, rfl⟩, ⟨z2, e2⟩, q2⟩
          have e2 : ρ = _ := e2
          subst e2
          cases e3 : dueS w (.int ((s : Int) + 1)) with
          | none =>
            rw [e3] at q2
            have q2 : fl = .nx := q2
            subst q2
            dsimp only
            rw [X_nil]
            exact ⟨⟨⟨R2, rfl⟩, _, _, rfl⟩, rfl⟩
          | some v =>
            rw [e3] at q2
            have q2 : fl = .rt v := q2
            subst q2
            exact ⟨⟨⟨R2, rfl⟩, _, _, rfl⟩, rfl⟩
        · rintro ρ S2 ⟨⟨R', rfl⟩, u, z, rfl⟩
          rw [du]
          cases (rangeD 1 5).findSome? (dueS w) with
          | none =>
            dsimp only
            rw [X_cons, X_ret, T_c]
            exact ⟨rfl, R', rfl⟩
          | some v => exact ⟨rfl, R', rfl⟩
end Lk72
set_option linter.all false
set_option maxRecDepth 100000
set_option maxHeartbeats 1000000
namespace Lk72
open PySem Ev
variable {k : Nat} {S : Store} {d a b : D} {h : List Int}
/-! ### the law's search -/
theorem w_ahead {call : Nat → List D → M D} {w : List Int} {y z : Option D} : ∀ (m j : Nat), ahead w ≤ m + j → j ≤ ahead w → T (whileM (evT call (.andE (.cmp .lt (.var 1) (.bi .len [(.var 0)])) (.cmp .eq (.idx (.var 0) (.var 1)) (.c (.int 0))))) (exSs call [.set (.name 1) (.bin .add (.var 1) (.c (.int 1)))])
    [some (ti w), some (.int j), y, z] S) fun r S' => r = (.nx, [some (ti w), some (.int (ahead w)), y, z]) ∧ S' = S := by
  have al := ahead_le w
  have stop : ∀ j, ahead w = j → T (whileM (evT call (.andE (.cmp .lt (.var 1) (.bi .len [(.var 0)])) (.cmp .eq (.idx (.var 0) (.var 1)) (.c (.int 0))))) (exSs call [.set (.name 1) (.bin .add (.var 1) (.c (.int 1)))])
    [some (ti w), some (.int j), y, z] S) fun r S' => r = (.nx, [some (ti w), some (.int (ahead w)), y, z]) ∧ S' = S := by
    rintro j rfl
    rw [T_while]
    by_cases q : ahead w < w.length
    · obtain ⟨x, e, nz⟩ := ahead_one q
      have e' : w[ahead w] = x := by
        rw [List.getElem?_eq_getElem q] at e
        exact Option.some.inj e
      simp [q, at_nat]
      exact .inl (by rw [e']; exact nz)
    · simp [q]
  intro m
  induction m with
  | zero => exact fun j q l => stop j (by omega)
  | succ m ih =>
    intro j q l
    by_cases e : ahead w = j
    · exact stop j e
    · have jl : j < ahead w := by omega
      have e0 := ahead_zero jl
      have jl2 : j < w.length := by omega
      rw [T_while]
      have e' : w[j] = 0 := by
        rw [List.getElem?_eq_getElem jl2] at e0
        exact Option.some.inj e0
      simp [jl2, at_nat]
      rw [X_cons, X_set]
      simp
      exact .inr ⟨e', ih (j + 1) (by omega) (by omega)⟩
theorem l_size {w : List Int} (W : Wo w) (hw : ahead w < w.length) (a9 : ahead w ≤ 9) {s : Nat} (s1 : 1 ≤ s) (s4 : s ≤ 4) {z : Option D} {S0 R : Store} :
    T (exS (callV P (k + 4)) (.forS (.name 3) .seq [(.call f__law_heads [(.var 2), (.var 1)])]
     [.ifS (.andE (.call f__law_is_base [(.var 3)]) (.cmp .eq (.call f__law_begin [(.var 3), (.bi .len [(.var 0)])]) (.var 0)))
       [.ret (.tup [(.var 3), (.tup [])])]
       []]) [some (ti w), some (.int (ahead w)), some (.int ((s : Int) + 1)), z] (S0 ++ R)) fun r S' => (∃ R', S' = S0 ++ R') ∧ (∃ z, r.2 = [some (ti w), some (.int (ahead w)), some (.int ((s : Int) + 1)), z]) ∧ match dueS w (.int ((s : Int) + 1)) with
      | some v => r.1 = .rt v
      | none => r.1 = .nx := by
  have a1 := ahead_pos W
  have wm := W.most
  have w2 := W.two
  rw [X_for]
  simp only [T_conss, T_call, T_var, T_nils, List.getElem?_cons_zero, List.getElem?_cons_succ, Option.some.injEq, exists_eq_left']
  refine (c_lheads (k := k + 3) a9 s4).mono ?_
  rintro v S' ⟨rfl, R1, rfl⟩
  refine ⟨_, rfl, ?_⟩
  show T (loopL _ _ _ _) _
  refine loop_find (fun ρ S' => (∃ R', S' = S0 ++ R') ∧ ∃ z, ρ = [some (ti w), some (.int (ahead w)), some (.int ((s : Int) + 1)), z]) (fun d => dueH w (unI d)) ?_ ?_ ⟨⟨R ++ R1, by simp⟩, z, rfl⟩
  · rintro d hd ρ S' ⟨⟨R', rfl⟩, z, rfl⟩
    obtain ⟨h, hh, rfl⟩ := List.mem_map.mp hd
    obtain ⟨H, f0, l⟩ := heads_ok a1 a9 s4 (fun z => by omega) hh
    have h5 := H.five
    simp only [asg_name]
    rw [if_pos (by simp)]
    dsimp only
    rw [X_cons, X_if, unI_ti]
    simp only [List.set_cons_succ, List.set_cons_zero, T_and, T_call, T_conss, T_nils, T_var, T_cmp, T_bi, T_len, List.getElem?_cons_zero, List.getElem?_cons_succ, Option.some.injEq, exists_eq_left', peek_tup, len_tup, List.length_map]
    rw [T_of (c_lbase (k := k + 3) (by omega) h5 (fun z => by rw [z] at l; simp at l; omega))]
    unfold dueH Pr
    cases hb : isB h
    · simp
    · simp
      refine (c_begin (k := k + 3) H (by omega) wm).mono ?_
      rintro v S' ⟨rfl, R2, rfl⟩
      have ex : ∃ R_1, S0 ++ R' ++ R2 = S0 ++ R_1 := ⟨R' ++ R2, by simp⟩
      by_cases z : Lk72.W h w.length = w
      · refine .inr ⟨by rw [eqD_ti, decide_eq_true z], ?_⟩
        rw [X_cons, X_ret]
        simp [z]
      · refine .inl ⟨by rw [eqD_ti, decide_eq_false z], ex, ?_⟩
        simp [z]
  · rintro ρ S' ⟨⟨R', rfl⟩, z, rfl⟩
    rw [find_map, dueS_eq]
    cases (heads (ahead w) s).findSome? (dueH w) with
    | none => exact ⟨⟨R', rfl⟩, ⟨z, rfl⟩, rfl⟩
    | some v => exact ⟨⟨R', rfl⟩, ⟨z, rfl⟩, rfl⟩
theorem c_due {w : List Int} (W : Wo w) {S0 : Store} : T (callV P (k + 5) f__law_due [ti w] S0) fun v S' => v = due w ∧ ∃ R, S' = S0 ++ R := by
  have al := ahead_le w
  refine (T_callV (fd := d__law_due.fd) rfl rfl).mpr ?_
  show T (exSs _ b__law_due _ _) _
  unfold b__law_due
  rw [X_cons, X_set]
  simp [d__law_due]
  rw [X_cons, X_while]
  refine (w_ahead (w := w) (ahead w) 0 (by omega) (by omega)).mono ?_
  rintro r S' ⟨rfl, rfl⟩
  dsimp only
  rw [X_cons, X_if]
  simp
  by_cases q : ahead w = w.length
  · refine .inr ⟨by omega, ?_⟩
    rw [X_cons, X_ret]
    simp
    unfold due
    rw [if_pos q]
    rfl
  · refine .inl ⟨by omega, ?_⟩
    rw [X_cons, X_if]
    simp
    have du : due w = if 9 < ahead w then .non else (((rangeD 2 4).findSome? (dueS w)).getD .non) := by
      unfold due
      rw [if_neg q]
    by_cases q9 : 9 < ahead w
    · refine .inr ⟨by omega, ?_⟩
      rw [X_cons, X_ret]
      simp
      rw [du, if_pos q9]
    · refine .inl ⟨by omega, ?_⟩
      rw [if_neg q9] at du
      rw [X_cons, X_for]
      simp
      refine ⟨⟨by decide, by decide⟩, ?_⟩
      show T (loopL _ _ _ _) _
      refine loop_find (fun ρ S2 => (∃ R', S2 = S' ++ R') ∧ ∃ u z, ρ = [some (ti w), some (.int (ahead w)), u, z]) (dueS w) ?_ ?_ ⟨⟨[], by simp⟩, none, none, rfl⟩
      · rintro d hd ρ S2 ⟨⟨R', rfl⟩, u, z, rfl⟩
        obtain ⟨x, rfl, x0, x1⟩ := mem_range hd
        obtain ⟨s, rfl⟩ : ∃ s : Nat, x = (s : Int) + 1 := ⟨x.toNat - 1, by omega⟩
        rw [if_pos (by simp)]
        dsimp only
        simp only [List.set_cons_succ, List.set_cons_zero]
        rw [X_cons]
        refine (l_size (k := k) (z := z) (S0 := S') (R := R') W (by omega) (by omega) (by omega) (by omega : s ≤ 4)).mono ?_
        rintro ⟨fl, ρ⟩ S2 ⟨⟨R2, rfl⟩, ⟨z2, e2⟩, q2⟩
        have e2 : ρ = _ := e2
        subst e2
        cases e3 : dueS w (.int ((s : Int) + 1)) with
        | none =>
          rw [e3] at q2
          have q2 : fl = .nx := q2
          subst q2
          dsimp only
          rw [X_nil]
          exact ⟨⟨⟨R2, rfl⟩, _, _, rfl⟩, rfl⟩
        | some v =>
          rw [e3] at q2
          have q2 : fl = .rt v := q2
          subst q2
          exact ⟨⟨⟨R2, rfl⟩, _, _, rfl⟩, rfl⟩
      · rintro ρ S2 ⟨⟨R', rfl⟩, u, z, rfl⟩
        rw [du]
        cases (rangeD 2 4).findSome? (dueS w) with
        | none =>
          dsimp only
          rw [X_cons, X_ret, T_c]
          exact ⟨rfl, R', rfl⟩
        | some v => exact ⟨rfl, R', rfl⟩
end Lk72
set_option linter.all false
set_option maxRecDepth 100000
set_option maxHeartbeats 1000000
namespace Lk72
open PySem Ev
variable {k : Nat} {S : Store} {d a b : D} {h : List Int}
theorem c_is {ds : List D} {x : Str} (hr : reprV (.lst ds) = some (.str x)) : callV P (k + 1) f__law_is [.lst ds, .lst ds] S = some (.ok (.bl true) S) := by
  refine T_eq ((T_callV (fd := d__law_is.fd) rfl rfl).mpr ?_)
  show T (exSs _ b__law_is _ _) _
  unfold b__law_is
  rw [X_cons, X_ret]
  simp [d__law_is, hr, eqD_str]
/-- what is told, is short -/
inductive Tell : D → Prop where
  | non : Tell .non
  | er {h : List Int} (hl : h.length ≤ 5) (hx : ∀ x ∈ h, 0 ≤ x ∧ x ≤ 9) : Tell (er h)
theorem heads_tell {a n : Nat} (a9 : a ≤ 9) (n4 : n ≤ 4) {h : List Int} (hh : h ∈ heads a n) : Tell (er h) := by
  obtain ⟨hm, hp⟩ := List.mem_filter.mp hh
  obtain ⟨l, e, q⟩ := hs_mem.mp hm
  exact .er (by omega) fun x hx => by have := q x hx; omega
theorem find_some {w : List Int} {l : List (List Int)} {v : D} (h : l.findSome? (dueH w) = some v) : ∃ g ∈ l, Pr w g = true ∧ v = er g := by
  obtain ⟨g, hg, e⟩ := List.exists_of_findSome?_eq_some h
  unfold dueH at e
  split at e
  · rename_i q
    cases e
    exact ⟨g, hg, q, rfl⟩
  · cases e
theorem due_tell (w : List Int) : Tell (due w) := by
  unfold due
  split
  · exact .er (by decide) (by decide)
  · split
    · exact .non
    · rename_i q
      cases e : (rangeD 2 4).findSome? (dueS w) with
      | none => exact .non
      | some v =>
        obtain ⟨d, hd, e2⟩ := List.exists_of_findSome?_eq_some e
        obtain ⟨x, rfl, x0, x1⟩ := mem_range hd
        obtain ⟨s, rfl⟩ : ∃ s : Nat, x = (s : Int) + 1 := ⟨x.toNat - 1, by omega⟩
        rw [dueS_eq] at e2
        obtain ⟨g, hg, _, rfl⟩ := find_some e2
        exact heads_tell (by omega) (by omega) hg
theorem Tell.pl {d : D} (t : Tell d) : plD d = true ∧ ndD d ≤ 8 ∧ dpD d ≤ 3 := by
  cases t with
  | non => exact ⟨rfl, by decide, by decide⟩
  | er hl hx =>
    refine ⟨?_, ?_, ?_⟩
    · simp
      refine pl_ints fun x hx' => ?_
      have := hx x hx'
      have : x.natAbs < 10 := by omega
      exact Nat.lt_trans this (by decide)
    · simp
      omega
    · simp
theorem repr_two {a b : D} (ta : Tell a) (tb : Tell b) : ∃ x, reprV (.lst [a, b]) = some (.str x) := by
  obtain ⟨a1, a2, a3⟩ := ta.pl
  obtain ⟨b1, b2, b3⟩ := tb.pl
  refine repr_pl ?_ ?_ ?_
  · simp [a1, b1]
  · simp
    omega
  · simp
    omega
/-! ### the drawn head -/
theorem w_cut {call : Nat → List D → M D} {y z : Option D} : ∀ (n : Nat) {h : List Int}, h.length ≤ n → 1 ≤ h.length → 1 ≤ fig h 0 → T (whileM (evT call (.cmp .eq (.idx (.var 1) (.neg (.c (.int 1)))) (.c (.int 0)))) (exSs call [.set (.name 1) (.sl (.var 1) false .never true (.neg (.c (.int 1))))])
    [y, some (ti h), z] S) fun r S' => S' = S ∧ ∃ n, 1 ≤ n ∧ n ≤ h.length ∧ r = (.nx, [y, some (ti (h.take n)), z]) ∧ fig h (n - 1) ≠ 0 := by
  intro n
  induction n with
  | zero =>
    intro h l1 l2
    omega
  | succ n ih =>
    intro h l1 l2 f0
    have h0 : h ≠ [] := by intro z; subst z; cases l2
    rw [T_while]
    simp [last_some h0]
    have gl : h.getLast h0 = fig h (h.length - 1) := by
      have := last_fig (h := h) (by omega)
      rw [last_some h0] at this
      exact Option.some.inj this
    rw [gl]
    by_cases q : fig h (h.length - 1) = 0
    · refine .inr ⟨q, ?_⟩
      rw [X_cons, X_set]
      simp [cut_front]
      have e2 : D.tup ((List.map D.int h).dropLast) = ti h.dropLast := by simp
      rw [e2]
      have l3 : 2 ≤ h.length := by
        by_cases z : h.length = 1
        · rw [z] at q
          have : fig h 0 = 0 := q
          omega
        · omega
      have ft : ∀ i, i < h.length - 1 → fig h.dropLast i = fig h i := fun i hi => by
        unfold fig
        rw [List.getD_eq_getElem?_getD, List.getD_eq_getElem?_getD, List.getElem?_dropLast, if_pos hi]
      refine (ih (h := h.dropLast) (by simp; omega) (by simp; omega) (by rw [ft 0 (by omega)]; exact f0)).mono ?_
      rintro r S' ⟨rfl, n, n1, n2, rfl, n3⟩
      have n2 : n ≤ h.length - 1 := by simpa using n2
      refine ⟨rfl, n, n1, by omega, ?_, ?_⟩
      · rw [List.dropLast_eq_take, List.take_take, Nat.min_eq_left n2]
      · rw [ft _ (by omega)] at n3
        exact n3
    · refine .inl ⟨q, h.length, l2, Nat.le_refl _, ?_, q⟩
      exact (List.take_of_length_le (by rw [List.length_map]; exact Nat.le_refl _)).symm
theorem c_lbase1 : callV P (k + 1) f__law_is_base [ti [1]] S = some (.ok (.bl false) S) := by
  refine T_eq ((T_callV (fd := d__law_is_base.fd) rfl rfl).mpr ?_)
  show T (exSs _ b__law_is_base _ _) _
  unfold b__law_is_base
  rw [X_cons, X_set]
  simp [d__law_is_base, rep_single, rep_ok (by decide : (0 : Int) ≤ 1) (by decide) (by decide : 1 ≤ 1000)]
  refine ⟨by decide, ?_⟩
  rw [X_cons, X_ret]
  have ne : eqD (ti [1]) (.tup [.int 1]) = some true := eqD_ti (xs := [1]) (ys := [1])
  simp [ne]
end Lk72
set_option linter.all false
set_option maxRecDepth 100000
set_option maxHeartbeats 1000000
namespace Lk72
open PySem Ev
variable {k : Nat} {S : Store} {d a b : D} {h : List Int}
/-- what was drawn -/
def Good (h : List Int) : Prop := Hd h ∧ isB h = true
theorem good_two {x : Int} (x1 : 1 ≤ x) (x3 : x ≤ 9) : Good [x, x] := by
  refine ⟨⟨by simp, by simp, by simp, x1, ?_, ?_, ?_, ?_⟩, isB_two x1⟩
  · intro i
    match i with
    | 0 => show 0 ≤ x; omega
    | 1 => show 0 ≤ x; omega
    | i + 2 => exact Int.le_refl 0
  · intro i
    match i with
    | 0 => exact x3
    | 1 => exact x3
    | i + 2 => show (0 : Int) ≤ 9; decide
  · intro i
    match i with
    | 0 => exact Int.le_refl x
    | 1 => exact Int.le_refl x
    | i + 2 => show 0 ≤ x; omega
  · show 0 < x
    omega
theorem fig_take {h : List Int} {n i : Nat} : fig (h.take n) i = if i < n then fig h i else 0 := by
  unfold fig
  rw [List.getD_eq_getElem?_getD, List.getD_eq_getElem?_getD, List.getElem?_take]
  split <;> rfl
theorem c_drawn (hS : HOk S) : T (callV P (k + 3) f__law_drawn [.ref 0] S) fun v S' => HOk S' ∧ ∃ h, v = ti h ∧ Good h := by
  have zm : sizeMax = 16777216 := rfl
  refine (T_callV (fd := d__law_drawn.fd) rfl rfl).mpr ?_
  show T (exSs _ b__law_drawn _ _) _
  unfold b__law_drawn
  rw [X_cons, X_set]
  simp only [T_tup, T_conss, T_nils, T_bin, T_c, T_call, T_var, d__law_drawn, List.map_cons, List.map_nil, List.cons_append, List.nil_append, List.getElem?_cons_zero, Option.some.injEq, exists_eq_left']
  refine (c_draw (k := k + 1) (w := 3) (by decide) (by decide) hS).mono ?_
  rintro v S1 ⟨⟨x, rfl, x0, x3⟩, h1⟩
  simp
  refine X_seq (fun ρ S' => HOk S' ∧ ∃ (h : List Int) (y : Option D), ρ = [some (.ref 0), some (ti h), y] ∧ 1 ≤ h.length ∧ h.length ≤ 5 ∧ fig h 0 = 1 + x ∧ ∀ i, 0 ≤ fig h i ∧ fig h i ≤ 1 + x) ?_ ?_
  · rw [X_for]
    simp only [T_conss, T_nils, T_call, T_c, T_var, List.getElem?_cons_zero, Option.some.injEq, exists_eq_left']
    refine (c_draw (k := k + 1) (w := 5) (by decide) (by decide) h1).mono ?_
    rintro v S2 ⟨⟨m, rfl, m0, m5⟩, h2⟩
    simp only [ex_rng1]
    refine ⟨inRg_of (by omega) (by omega), ?_⟩
    show T (loopL _ _ _ _) _
    refine loop_at (fun j ρ S' => HOk S' ∧ ∃ (h : List Int) (y : Option D), ρ = [some (.ref 0), some (ti h), y] ∧ 1 ≤ h.length ∧ h.length = j + 1 ∧ fig h 0 = 1 + x ∧ ∀ i, 0 ≤ fig h i ∧ fig h i ≤ 1 + x) ?_ ?_ ⟨h2, [1 + x], none, rfl, by simp, rfl, rfl, ?_⟩
    · rintro j d ρ S' hd ⟨hS', h, y, rfl, l1, l2, f0, fi⟩
      obtain ⟨rfl, jm⟩ := range_at hd
      simp
      rw [X_cons, X_set]
      have e0 : L2.atI h 0 = some (fig h 0) := by
        have := at_nat (xs := h) (n := 0)
        rw [show ((0 : Nat) : Int) = 0 from rfl] at this
        rw [this]
        unfold fig
        rw [List.getD_eq_getElem?_getD, List.getElem?_eq_getElem (by omega)]
        rfl
      simp [e0]
      rw [f0]
      refine (c_draw (k := k + 1) (w := 1 + x + 1) (by omega) (by omega) hS').mono ?_
      rintro v S3 ⟨⟨z, rfl, z0, z1⟩, h3⟩
      refine ⟨by omega, h3, h ++ [z], by simp, by simp, by simp; omega, ?_, ?_⟩
      · unfold fig
        rw [List.getD_eq_getElem?_getD, List.getElem?_append_left (by omega), ← List.getD_eq_getElem?_getD]
        exact f0
      · intro i
        by_cases q : i < h.length
        · have := fi i
          unfold fig at this ⊢
          rw [List.getD_eq_getElem?_getD, List.getElem?_append_left q, ← List.getD_eq_getElem?_getD]
          exact this
        · unfold fig
          rw [List.getD_eq_getElem?_getD, List.getElem?_append_right (by omega)]
          cases e : ([z] : List Int)[i - h.length]? with
          | none => show (0 : Int) ≤ 0 ∧ (0 : Int) ≤ 1 + x; omega
          | some u =>
            have := List.mem_of_getElem? e
            have : u = z := by simpa using this
            show 0 ≤ u ∧ u ≤ 1 + x
            omega
    · rintro ρ S' ⟨hS', h, y, rfl, l1, l2, f0, fi⟩
      rw [range_len] at l2
      exact ⟨hS', h, y, rfl, l1, by omega, f0, fi⟩
    · intro i
      match i with
      | 0 => show 0 ≤ 1 + x ∧ 1 + x ≤ 1 + x; omega
      | i + 1 => show (0 : Int) ≤ 0 ∧ (0 : Int) ≤ 1 + x; omega
  · rintro ρ S' ⟨hS', h, y, rfl, l1, l5, f0, fi⟩
    rw [X_cons, X_while]
    refine (w_cut (S := S') h.length (Nat.le_refl _) l1 (by omega)).mono ?_
    rintro r S3 ⟨rfl, n, n1, n2, rfl, nz⟩
    dsimp only
    rw [X_cons, X_ret]
    have tl : (h.take n).length = n := by rw [List.length_take]; omega
    have ft : ∀ i, fig (h.take n) i = if i < n then fig h i else 0 := fun i => fig_take
    have e0 : L2.atI (h.take n) 0 = some (1 + x) := by
      have := at_nat (xs := h.take n) (n := 0)
      rw [show ((0 : Nat) : Int) = 0 from rfl] at this
      rw [this, List.getElem?_eq_getElem (by omega)]
      have z := ft 0
      rw [if_pos (by omega), f0] at z
      unfold fig at z
      rw [List.getD_eq_getElem?_getD, List.getElem?_eq_getElem (by omega)] at z
      rw [← z]
      rfl
    simp only [T_ifE, T_call, T_conss, T_nils, T_var, T_tup, T_idx, T_c, List.getElem?_cons_zero, List.getElem?_cons_succ, Option.some.injEq, exists_eq_left', peek_tup, idx_tup, at_ints, e0, Option.map_some]
    by_cases h1 : h.take n = [1]
    · rw [h1, T_of (c_lbase1 (k := k + 1))]
      refine ⟨false, rfl, ?_⟩
      rw [if_neg (by decide)]
      exact ⟨hS', [1 + x, 1 + x], rfl, good_two (by omega) (by omega)⟩
    · rw [T_of (c_lbase (k := k + 1) (by omega) (by omega) h1)]
      refine ⟨_, rfl, ?_⟩
      cases hb : isB (h.take n) with
      | false =>
        rw [if_neg (by decide)]
        exact ⟨hS', [1 + x, 1 + x], rfl, good_two (by omega) (by omega)⟩
      | true =>
        rw [if_pos rfl]
        refine ⟨hS', h.take n, rfl, ⟨by omega, fun z => ?_, by omega, ?_, fun i => ?_, fun i => ?_, fun i => ?_, ?_⟩, hb⟩
        · rw [ft 0, if_pos (by omega), f0]
          by_cases q : x = 0
          · exfalso
            apply h1
            have e1 : n = 1 := by omega
            subst e1
            match h, l1, f0 with
            | u :: t, _, f0 =>
              have f0 : u = 1 + x := f0
              rw [f0, q]
              rfl
          · omega
        · rw [ft 0, if_pos (by omega), f0]
          omega
        · rw [ft i]
          have := fi i
          split <;> omega
        · rw [ft i]
          have := fi i
          split <;> omega
        · rw [ft i, ft 0, if_pos (by omega : 0 < n)]
          have := fi i
          split <;> omega
        · rw [tl, ft, if_pos (by omega)]
          have := fi (n - 1)
          omega
end Lk72
set_option linter.all false
set_option maxRecDepth 100000
set_option maxHeartbeats 2000000
namespace Lk72
open PySem Ev
variable {k : Nat} {S : Store} {d a b : D} {h : List Int}
/-! ### words of a drawn head -/
theorem W_zero (H : Hd h) {n : Nat} (n0 : 1 ≤ n) : fig (W h n) 0 = 0 := by
  obtain ⟨r, e⟩ := it_zero H n
  unfold W fig
  rw [List.getD_eq_getElem?_getD, List.getElem?_take, if_pos (by omega), e]
  rfl
theorem W_wo (H : Hd h) {n : Nat} (n2 : 2 ≤ n) (n4 : n ≤ 400) : Wo (W h n) := by
  have l := W_len H n
  have h5 := H.five
  refine ⟨by omega, by omega, fun x hx => ?_, W_zero H (by omega)⟩
  obtain ⟨a, b⟩ := W_ok H x hx
  omega
theorem bent_wo {w : List Int} (W : Wo w) {at_ : Nat} (a1 : 1 ≤ at_) (a2 : at_ < w.length) {y : Int} (y0 : 0 ≤ y) (y5 : y < 5) : Wo (w.take at_ ++ [y] ++ w.drop (at_ + 1)) := by
  have w2 := W.two
  have wm := W.most
  refine ⟨?_, ?_, fun x hx => ?_, ?_⟩
  · simp
    omega
  · simp
    omega
  · rcases List.mem_append.mp hx with hx | hx
    · rcases List.mem_append.mp hx with hx | hx
      · exact W.small x (List.mem_of_mem_take hx)
      · have : x = y := by simpa using hx
        omega
    · exact W.small x (List.mem_of_mem_drop hx)
  · have z := W.z
    unfold fig at z ⊢
    rw [List.getD_eq_getElem?_getD, List.append_assoc, List.getElem?_append_left (by rw [List.length_take]; omega), List.getElem?_take, if_pos (by omega)]
    rw [List.getD_eq_getElem?_getD] at z
    exact z
/-- the order of what is told -/
def keyLe (x y : List Int) : Prop := x.length < y.length ∨ (x.length = y.length ∧ (x = y ∨ ltL x y = true))
theorem find_first {w : List Int} : ∀ {l : List (List Int)} {g : List Int}, l.Pairwise (fun x y => ltL x y = true) → g ∈ l → Pr w g = true → ∃ f ∈ l, l.findSome? (dueH w) = some (er f) ∧ Pr w f = true ∧ (f = g ∨ ltL f g = true)
  | [], g, _, hg, _ => by cases hg
  | x :: l, g, hp, hg, hP => by
    rw [List.pairwise_cons] at hp
    rw [List.findSome?_cons]
    by_cases q : Pr w x = true
    · refine ⟨x, List.mem_cons_self, by unfold dueH; rw [if_pos q], q, ?_⟩
      rcases List.mem_cons.mp hg with e | hg
      · exact .inl e.symm
      · exact .inr (hp.1 g hg)
    · have hg' : g ∈ l := by
        rcases List.mem_cons.mp hg with e | hg
        · subst e
          exact absurd hP q
        · exact hg
      obtain ⟨f, hf, e, p, o⟩ := find_first hp.2 hg' hP
      refine ⟨f, List.mem_cons_of_mem _ hf, ?_, p, o⟩
      have : dueH w x = none := by
        unfold dueH
        rw [if_neg q]
      rw [this]
      exact e
/-- a word that a head tells has one told, no later -/
theorem due_some {w : List Int} (W : Wo w) (hw : ahead w < w.length) (a9 : ahead w ≤ 9) (H : Hd h) (h2 : 2 ≤ h.length) (f0 : fig h 0 = ahead w) (hP : Pr w h = true) : ∃ f, due w = er f ∧ f ∈ heads (ahead w) (f.length - 1) ∧ 2 ≤ f.length ∧ f.length ≤ 5 ∧ Pr w f = true ∧ keyLe f h := by
  have h5 := H.five
  have a1 := ahead_pos W
  have du : due w = ((rangeD 2 4).findSome? (dueS w)).getD .non := by
    unfold due
    rw [if_neg (by omega), if_neg (by omega)]
  have hin : h ∈ heads (ahead w) (h.length - 1) := by
    have := heads_in H
    rw [f0] at this
    exact this
  -- by sizes
  have main : ∀ (m s : Nat), s + m = 5 → 1 ≤ s → s ≤ h.length - 1 → ∃ f, (rangeD ((s : Int) + 1) m).findSome? (dueS w) = some (er f) ∧ f ∈ heads (ahead w) (f.length - 1) ∧ 2 ≤ f.length ∧ f.length ≤ 5 ∧ Pr w f = true ∧ keyLe f h := by
    intro m
    induction m with
    | zero =>
      intro s e s1 sl
      omega
    | succ m ih =>
      intro s e s1 sl
      have rc : rangeD ((s : Int) + 1) (m + 1) = .int ((s : Int) + 1) :: rangeD (((s + 1 : Nat) : Int) + 1) m := by
        unfold rangeD
        rw [List.range_succ_eq_map, List.map_cons, List.map_map]
        congr 1
        · simp
          intro a _
          omega
      rw [rc, List.findSome?_cons, dueS_eq]
      cases e2 : (heads (ahead w) s).findSome? (dueH w) with
      | some v =>
        dsimp only
        obtain ⟨g, hg, p, rfl⟩ := find_some e2
        obtain ⟨G, g0, gl⟩ := heads_ok a1 a9 (by omega : s ≤ 4) (fun z => by omega) hg
        refine ⟨g, rfl, by rw [gl]; exact hg, by omega, by omega, p, ?_⟩
        by_cases q : g.length < h.length
        · exact .inl q
        · have el : g.length = h.length := by omega
          have es : h.length - 1 = s := by omega
          rw [es] at hin
          obtain ⟨f, hf, e3, pf, o⟩ := find_first heads_asc hin hP
          rw [e2] at e3
          have : g = f := by
            have e3 : er g = er f := Option.some.inj e3
            have : unI (ti g) = unI (ti f) := by
              injection e3 with e3
              injection e3 with e3 _
              rw [e3]
            rwa [unI_ti, unI_ti] at this
          subst this
          exact .inr ⟨el, o⟩
      | none =>
        dsimp only
        by_cases q : s = h.length - 1
        · exfalso
          rw [← q] at hin
          obtain ⟨f, hf, e3, pf, o⟩ := find_first heads_asc hin hP
          rw [e2] at e3
          cases e3
        · exact ih (s + 1) (by omega) (by omega) (by omega)
  obtain ⟨f, e, r⟩ := main 4 1 rfl (by decide) (by omega)
  refine ⟨f, ?_, r⟩
  rw [du]
  have : rangeD (((1 : Nat) : Int) + 1) 4 = rangeD 2 4 := rfl
  rw [this] at e
  rw [e]
  rfl
theorem due_zero {w : List Int} (hw : ahead w = w.length) : due w = er [2] := by
  unfold due
  rw [if_pos hw]
theorem ahead_all {w : List Int} : ahead w = w.length ↔ ∀ x ∈ w, x = 0 := by
  constructor
  · intro e x hx
    obtain ⟨i, hi⟩ := List.getElem?_of_mem hx
    have := (List.getElem?_eq_some_iff.mp hi).1
    have z := ahead_zero (w := w) (i := i) (by omega)
    rw [hi] at z
    exact Option.some.inj z
  · intro h
    have := ahead_le w
    by_cases q : ahead w < w.length
    · obtain ⟨x, e, nz⟩ := ahead_one q
      exact absurd (h x (List.mem_of_getElem? e)) nz
    · omega
/-- what is told of a longer beginning is no lesser row -/
theorem cut_law (G : Good h) {n m : Nat} (m2 : 2 ≤ m) (mn : m ≤ n) (n4 : n ≤ 400) : ∃ f g, due (W h m) = er f ∧ due (W h n) = er g ∧ keyLe f g ∧ f.length ≤ 5 ∧ g.length ≤ 5 := by
  obtain ⟨H, hb⟩ := G
  have ln := W_len H n
  have lm := W_len H m
  by_cases zn : ahead (W h n) = (W h n).length
  · refine ⟨[2], [2], ?_, due_zero zn, .inr ⟨rfl, .inl rfl⟩, by decide, by decide⟩
    apply due_zero
    rw [ahead_all] at zn ⊢
    intro x hx
    rw [← W_take H mn] at hx
    exact zn x (List.mem_of_mem_take hx)
  · have l2 : 2 ≤ h.length := by
      by_cases q : h.length = 1
      · exact absurd (ahead_all.mpr (W_single H q)) zn
      · have := H.two
        omega
    have al := ahead_le (W h n)
    have f0 := H.fst
    have f9 := H.nine 0
    have an : ahead (W h n) = (fig h 0).toNat := by
      rcases W_first H l2 (n := n) with z | z
      · exact absurd (ahead_all.mpr z) zn
      · exact z
    have Pn : Pr (W h n) h = true := by
      unfold Pr
      rw [hb, ln, decide_eq_true rfl]
      rfl
    obtain ⟨g, eg, gi, g2, g5, gP, gk⟩ := due_some (W_wo H (by omega) n4) (by omega) (by omega) H l2 (by omega) Pn
    by_cases zm : ahead (W h m) = (W h m).length
    · exact ⟨[2], g, due_zero zm, eg, .inl (by simp; omega), by decide, g5⟩
    · have am : ahead (W h m) = (fig h 0).toNat := by
        rcases W_first H l2 (n := m) with z | z
        · exact absurd (ahead_all.mpr z) zm
        · exact z
      have alm := ahead_le (W h m)
      obtain ⟨GH, gf, gl⟩ := heads_ok (a := ahead (W h n)) (n := g.length - 1) (by omega) (by omega) (by omega) (fun z => by omega) gi
      have Pm : Pr (W h m) g = true := by
        unfold Pr at gP ⊢
        rw [Bool.and_eq_true] at gP
        have e := of_decide_eq_true gP.2
        rw [ln] at e
        rw [gP.1, lm, decide_eq_true]
        · rfl
        · rw [← W_take GH mn, e, W_take H mn]
      obtain ⟨f, ef, fi, f2, f5, fP, fk⟩ := due_some (W_wo H m2 (by omega)) (by omega) (by omega) GH (by omega) (by omega) Pm
      exact ⟨f, g, ef, eg, fk, f5, g5⟩
/-- the comparison of the law -/
theorem key_cmp {f g : List Int} (kl : keyLe f g) : ltD (.tup [.int g.length, ti g]) (.tup [.int f.length, ti f]) = some false := by
  rw [ltD_pair]
  rcases kl with q | ⟨q, o⟩
  · rw [if_neg (by omega)]
    rw [decide_eq_false (by omega)]
  · rw [if_pos (by omega)]
    rcases o with rfl | o
    · rw [ltL_irrefl]
    · rw [ltL_asymm o]
end Lk72
set_option linter.all false
set_option maxRecDepth 100000
set_option maxHeartbeats 4000000
namespace Lk72
open PySem Ev
variable {k : Nat} {S : Store} {d a b : D} {h : List Int}
theorem due1 : due [0, 1, 0, 0, 1] = er [1, 1] := by kernel_rfl
theorem due2 : due [0, 0] = er [2] := by kernel_rfl
theorem due3 : due [0, 2] = .non := by kernel_rfl
theorem one1 {S0 : Store} : T (callV P (k + 5) f_one_of_gaps [.tup [.int 0, .int 1, .int 0, .int 0, .int 1]] S0) fun v S' => v = er [1, 1] ∧ ∃ R, S' = S0 ++ R := by
  have := c_one (k := k) (S0 := S0) (w := [0, 1, 0, 0, 1]) ⟨by decide, by decide, by decide, rfl⟩
  rw [due1] at this
  exact this
theorem one2 {S0 : Store} : T (callV P (k + 5) f_one_of_gaps [.tup [.int 0, .int 0]] S0) fun v S' => v = er [2] ∧ ∃ R, S' = S0 ++ R := by
  have := c_one (k := k) (S0 := S0) (w := [0, 0]) ⟨by decide, by decide, by decide, rfl⟩
  rw [due2] at this
  exact this
theorem one3 {S0 : Store} : T (callV P (k + 5) f_one_of_gaps [.tup [.int 0, .int 2]] S0) fun v S' => v = .non ∧ ∃ R, S' = S0 ++ R := by
  have := c_one (k := k) (S0 := S0) (w := [0, 2]) ⟨by decide, by decide, by decide, rfl⟩
  rw [due3] at this
  exact this
theorem repr3 : ∃ x, reprV (.lst [er [1, 1], er [2], .non]) = some (.str x) := repr_pl (by decide) (by decide) (by decide)
/-- one lap -/
theorem lap {ns : List Int} {x2 x3 x4 x5 x6 x7 x8 x9 x10 : Option D} (hS : HOk S) : T (exSs (callV P 19) [.set (.name 4) (.call f__law_drawn [(.var 1)]),
    .set (.name 5) (.call f__law_begin [(.var 4), (.call f__law_some [(.var 1), (.lst [(.c (.int 3)), (.c (.int 8)), (.c (.int 20)), (.c (.int 60))])])]),
    .ifS (.cmp .gt (.bi .len [(.var 5)]) (.c (.int 1)))
     [.set (.name 6) (.bin .add (.c (.int 1)) (.call f__law_draw [(.var 1), (.bin .sub (.bi .len [(.var 5)]) (.c (.int 1)))])),
      .set (.name 7) (.bin .add (.bin .add (.sl (.var 5) false .never true (.var 6)) (.tup [(.call f__law_draw [(.var 1), (.c (.int 5))])])) (.sl (.var 5) true (.bin .add (.var 6) (.c (.int 1))) false .never)),
      .ifS (.notE (.call f__law_is [(.lst [(.call f_one_of_gaps [(.var 5)]), (.call f_one_of_gaps [(.var 7)])]), (.lst [(.call f__law_due [(.var 5)]), (.call f__law_due [(.var 7)])])]))
       [.ret (.c (.bl false))]
       [],
      .set (.name 8) (.sl (.var 5) false .never true (.bin .add (.c (.int 2)) (.call f__law_draw [(.var 1), (.bin .sub (.bi .len [(.var 5)]) (.c (.int 1)))]))),
      .par 9 10 (.call f_one_of_gaps [(.var 8)]) (.call f_one_of_gaps [(.var 5)]),
      .ifS (.orE (.cmp .isN (.var 9) (.c .non)) (.orE (.cmp .isN (.var 10) (.c .non)) (.cmp .gt (.tup [(.bi .len [(.idx (.var 9) (.c (.int 0)))]), (.idx (.var 9) (.c (.int 0)))]) (.tup [(.bi .len [(.idx (.var 10) (.c (.int 0)))]), (.idx (.var 10) (.c (.int 0)))]))))
       [.ret (.c (.bl false))]
       []]
     []] [some (.fro (ns.map .int)), some (.ref 0), x2, x3, x4, x5, x6, x7, x8, x9, x10] S) fun r S' => r.1 = .nx ∧ HOk S' ∧ ∃ x2 x3 x4 x5 x6 x7 x8 x9 x10, r.2 = [some (.fro (ns.map .int)), some (.ref 0), x2, x3, x4, x5, x6, x7, x8, x9, x10] := by
  have zm : sizeMax = 16777216 := rfl
  rw [X_cons, X_set]
  simp only [T_call, T_conss, T_nils, T_var, List.getElem?_cons_zero, List.getElem?_cons_succ, Option.some.injEq, exists_eq_left']
  refine (c_drawn (k := 16) hS).mono ?_
  rintro v S1 ⟨h1, h, rfl, G⟩
  have H := G.1
  have h5 := H.five
  simp only [asg_name]
  rw [if_pos (by simp)]
  refine ⟨_, rfl, ?_⟩
  try dsimp only
  simp only [List.set_cons_succ, List.set_cons_zero]
  rw [X_cons, X_set]
  simp only [T_call, T_conss, T_nils, T_var, T_lst, T_c, List.getElem?_cons_zero, List.getElem?_cons_succ, Option.some.injEq, exists_eq_left']
  refine (c_some (k := 17) (by simp) (by decide) h1).mono ?_
  rintro v S2 ⟨hv, h2⟩
  obtain ⟨n, rfl, n3, n60⟩ : ∃ n : Nat, v = .int n ∧ 3 ≤ n ∧ n ≤ 60 := by
    simp only [List.mem_cons, List.not_mem_nil, or_false] at hv
    rcases hv with rfl | rfl | rfl | rfl
    · exact ⟨3, rfl, by decide, by decide⟩
    · exact ⟨8, rfl, by decide, by decide⟩
    · exact ⟨20, rfl, by decide, by decide⟩
    · exact ⟨60, rfl, by decide, by decide⟩
  refine (c_begin (k := 18) H (by omega) (by omega)).mono ?_
  rintro v S3 ⟨rfl, R3, rfl⟩
  have h3 : HOk (S2 ++ R3) := h2.app
  have ln := W_len H n
  have Wn := W_wo H (n := n) (by omega) (by omega)
  have cl := fun (m : Nat) (m2 : 2 ≤ m) (mn : m ≤ n) => cut_law G m2 mn (by omega)
  have wt := fun (m : Nat) (mn : m ≤ n) => W_take H mn
  have wo := fun (m : Nat) (m2 : 2 ≤ m) (mn : m ≤ n) => W_wo H m2 (by omega : m ≤ 400)
  simp only [asg_name]
  rw [if_pos (by simp)]
  refine ⟨_, rfl, ?_⟩
  try dsimp only
  simp only [List.set_cons_succ, List.set_cons_zero]
  generalize hw : W h n = w at *
  generalize S2 ++ R3 = S4 at *
  rw [X_cons, X_if]
  simp only [T_cmp, T_bi, T_conss, T_nils, T_var, T_c, T_len, List.getElem?_cons_zero, List.getElem?_cons_succ, Option.some.injEq, exists_eq_left', peek_tup, len_tup, List.length_map, cmp_gt, tru_bl, ln]
  rw [decide_eq_true (by omega), if_pos rfl]
  rw [X_cons, X_set]
  simp only [T_bin, T_call, T_bi, T_conss, T_nils, T_var, T_c, T_len, List.getElem?_cons_zero, List.getElem?_cons_succ, Option.some.injEq, exists_eq_left', peek_tup, len_tup, List.length_map, ln, bin_sub]
  refine (c_draw (k := 18) (w := (n : Int) - 1) (by omega) (by omega) h3).mono ?_
  rintro v S5 ⟨⟨x, rfl, x0, x1⟩, h5'⟩
  obtain ⟨at_, e, a1, a2⟩ : ∃ at_ : Nat, 1 + x = (at_ : Int) ∧ 1 ≤ at_ ∧ at_ < n := ⟨(1 + x).toNat, by omega, by omega, by omega⟩
  simp only [bin_add, Option.some.injEq, exists_eq_left', e, asg_name]
  rw [if_pos (by simp)]
  refine ⟨_, rfl, ?_⟩
  try dsimp only
  simp only [List.set_cons_succ, List.set_cons_zero]
  rw [X_cons, X_set]
  simp only [T_bin, T_sl, T_call, T_tup, T_conss, T_nils, T_var, T_c, List.getElem?_cons_zero, List.getElem?_cons_succ, Option.some.injEq, exists_eq_left', if_true, if_false, Bool.false_eq_true, T_pure, part_t, part_f, peek_tup, sl_tup, cut_ints, cut_to, bin_add]
  refine (c_draw (k := 18) (w := 5) (by decide) (by decide) h5').mono ?_
  rintro v S6 ⟨⟨y, rfl, y0, y5⟩, h6⟩
  have Wb := bent_wo Wn a1 (by omega) y0 y5
  have e7 : binV .add (.tup ((w.take at_).map .int)) (.tup [.int y]) = some (ti (w.take at_ ++ [y])) := by
    rw [bin_addT, decide_eq_true (by simp; omega)]
    simp [liftD]
  have e8 : binV .add (ti (w.take at_ ++ [y])) (ti (w.drop (at_ + 1))) = some (ti (w.take at_ ++ [y] ++ w.drop (at_ + 1))) := by
    rw [bin_addT, decide_eq_true (by simp; omega)]
    simp [liftD]
  have e9 : cutL w (some ((at_ : Int) + 1)) none = w.drop (at_ + 1) := cut_from (n := at_ + 1)
  refine ⟨_, e7, ?_⟩
  rw [e9]
  refine ⟨_, e8, ?_⟩
  simp only [asg_name]
  rw [if_pos (by simp)]
  refine ⟨_, rfl, ?_⟩
  try dsimp only
  simp only [List.set_cons_succ, List.set_cons_zero]
  generalize w.take at_ ++ [y] ++ w.drop (at_ + 1) = bw at *
  rw [X_cons, X_if]
  simp only [T_not, T_call, T_lst, T_conss, T_nils, T_var, List.getElem?_cons_zero, List.getElem?_cons_succ, Option.some.injEq, exists_eq_left']
  refine (c_one (k := 14) Wn).mono ?_
  rintro v S7 ⟨rfl, R7, rfl⟩
  refine (c_one (k := 14) Wb).mono ?_
  rintro v S8 ⟨rfl, R8, rfl⟩
  refine (c_due (k := 14) Wn).mono ?_
  rintro v S9 ⟨rfl, R9, rfl⟩
  refine (c_due (k := 14) Wb).mono ?_
  rintro v S10 ⟨rfl, R10, rfl⟩
  obtain ⟨rx, er_⟩ := repr_two (due_tell w) (due_tell bw)
  rw [T_of (c_is (k := 18) er_)]
  have h10 : HOk (S6 ++ R7 ++ R8 ++ R9 ++ R10) := h6.app.app.app.app
  generalize S6 ++ R7 ++ R8 ++ R9 ++ R10 = S11 at *
  refine ⟨true, rfl, false, rfl, ?_⟩
  rw [if_neg (by decide), X_nil]
  try dsimp only
  rw [X_cons, X_set]
  simp only [T_bin, T_sl, T_call, T_bi, T_conss, T_nils, T_var, T_c, T_len, List.getElem?_cons_zero, List.getElem?_cons_succ, Option.some.injEq, exists_eq_left', if_true, if_false, Bool.false_eq_true, T_pure, part_t, part_f, peek_tup, sl_tup, len_tup, List.length_map, cut_ints, bin_sub, ln]
  refine (c_draw (k := 18) (w := (n : Int) - 1) (by omega) (by omega) h10).mono ?_
  rintro v S12 ⟨⟨u, rfl, u0, u1⟩, h12⟩
  obtain ⟨m, em, m2, mn⟩ : ∃ m : Nat, 2 + u = (m : Int) ∧ 2 ≤ m ∧ m ≤ n := ⟨(2 + u).toNat, by omega, by omega, by omega⟩
  simp only [bin_add, Option.some.injEq, exists_eq_left', em, part_t, cut_to, asg_name]
  rw [if_pos (by simp)]
  refine ⟨_, rfl, ?_⟩
  try dsimp only
  simp only [List.set_cons_succ, List.set_cons_zero]
  rw [wt m mn]
  obtain ⟨f, g, ef, eg, kl, f5, g5⟩ := cl m m2 mn
  rw [X_cons, X_par]
  simp only [T_call, T_conss, T_nils, T_var, List.getElem?_cons_zero, List.getElem?_cons_succ, Option.some.injEq, exists_eq_left']
  refine (c_one (k := 14) (wo m m2 mn)).mono ?_
  rintro v S13 ⟨rfl, R13, rfl⟩
  refine (c_one (k := 14) Wn).mono ?_
  rintro v S14 ⟨rfl, R14, rfl⟩
  rw [ef, eg]
  have h14 : HOk (S12 ++ R13 ++ R14) := h12.app.app
  generalize S12 ++ R13 ++ R14 = S15 at *
  simp only [List.set_cons_succ, List.set_cons_zero]
  rw [X_cons, X_if]
  simp only [T_or, T_cmp, T_tup, T_bi, T_idx, T_conss, T_nils, T_var, T_c, T_len, List.getElem?_cons_zero, List.getElem?_cons_succ, Option.some.injEq, exists_eq_left', peek_tup, idx_tup, at_0, len_tup, List.length_map, cmp_isN, isNon, tru_bl, if_false, Bool.false_eq_true, cmp_gtT]
  rw [key_cmp kl]
  refine ⟨false, rfl, ?_⟩
  rw [if_neg (by decide), X_nil]
  dsimp only
  rw [X_nil]
  dsimp only
  rw [X_nil]
  exact ⟨rfl, h14, _, _, _, _, _, _, _, _, _, rfl⟩
theorem c_law {ns : List Int} : T (callV P 20 f_law [.fro (ns.map .int)] []) fun v S' => v = .bl true := by
  refine (T_callV (fd := d_law.fd) rfl rfl).mpr ?_
  show T (exSs _ b_law _ _) _
  unfold b_law
  rw [X_cons, X_set]
  simp only [T_call, T_conss, T_nils, T_var, d_law, List.map_cons, List.map_nil, List.cons_append, List.nil_append, List.getElem?_cons_zero, Option.some.injEq, exists_eq_left']
  refine (c_hand (k := 18)).mono ?_
  rintro v S1 ⟨rfl, h1⟩
  refine ⟨[some (.fro (ns.map .int)), some (.ref 0), none, none, none, none, none, none, none, none, none], rfl, ?_⟩
  try dsimp only
  rw [X_cons, X_set]
  simp only [T_lst, T_tup, T_call, T_conss, T_nils, T_c]
  refine (one1 (k := 14)).mono ?_
  rintro v S2 ⟨rfl, R2, rfl⟩
  refine (one2 (k := 14)).mono ?_
  rintro v S3 ⟨rfl, R3, rfl⟩
  refine (one3 (k := 14)).mono ?_
  rintro v S4 ⟨rfl, R4, rfl⟩
  have h4 : HOk (S1 ++ R2 ++ R3 ++ R4) := h1.app.app.app
  generalize S1 ++ R2 ++ R3 ++ R4 = S5 at *
  refine ⟨[some (.fro (ns.map .int)), some (.ref 0), some (.lst [er [1, 1], er [2], .non]), none, none, none, none, none, none, none, none], rfl, ?_⟩
  try dsimp only
  rw [X_cons, X_if]
  simp only [T_not, T_call, T_lst, T_tup, T_conss, T_nils, T_var, T_c, List.getElem?_cons_zero, List.getElem?_cons_succ, Option.some.injEq, exists_eq_left']
  obtain ⟨rx, e3⟩ := repr3
  have ci : callV P 19 f__law_is [.lst [er [1, 1], er [2], .non], .lst [.tup [.tup [.int 1, .int 1], .tup []], .tup [.tup [.int 2], .tup []], .non]] S5 = some (.ok (.bl true) S5) := c_is (k := 18) e3
  rw [T_of ci]
  refine ⟨true, rfl, false, rfl, ?_⟩
  rw [if_neg (by decide), X_nil]
  try dsimp only
  refine X_seq (fun ρ S' => True) ?_ ?_
  · rw [X_for]
    simp only [T_conss, T_nils, T_c, ex_rng1]
    refine ⟨by decide, ?_⟩
    show T (loopL _ _ _ _) _
    refine loop_keep (fun ρ S' => HOk S' ∧ ∃ x2 x3 x4 x5 x6 x7 x8 x9 x10, ρ = [some (.fro (ns.map .int)), some (.ref 0), x2, x3, x4, x5, x6, x7, x8, x9, x10]) ?_ ?_ ⟨h4, _, _, _, _, _, _, _, _, _, rfl⟩
    · rintro d hd ρ S' ⟨hS, x2, x3, x4, x5, x6, x7, x8, x9, x10, rfl⟩
      simp only [asg_name]
      rw [if_pos (by simp)]
      dsimp only
      simp only [List.set_cons_succ, List.set_cons_zero]
      refine (lap hS).mono ?_
      rintro ⟨fl, ρ⟩ S2 ⟨e1, hS2, x2, x3, x4, x5, x6, x7, x8, x9, x10, e2⟩
      have e1 : fl = .nx := e1
      have e2 : ρ = _ := e2
      subst e1 e2
      exact ⟨hS2, _, _, _, _, _, _, _, _, _, rfl⟩
    · intro ρ S' _
      trivial
  · intro ρ S' _
    rw [X_cons, X_ret, T_c]
theorem pure_law (ns : List Int) (_ : ns.length ≤ 63) : ∃ S', callV (progOf ds) 20 f_law [.fro (ns.map .int)] [] = some (.ok (.bl true) S') := by
  obtain ⟨v, S', e, rfl⟩ := c_law (ns := ns)
  exact ⟨S', e⟩
end Lk72
set_option linter.all false
set_option maxRecDepth 100000
set_option maxHeartbeats 0
open PySem PySem.W PySem.Calls PyProof.Rows
theorem PySem.Challenge.cw_rootfigures_k72_whole_rows_told_by_gaps_holds : PySem.Challenge.rw_rootfigures_k72_whole_rows_told_by_gaps.Holds := by
  w_on; o_law
  refine HandSHeadRun.head_any (r := OpenLaw.row PySem.Challenge.rw_rootfigures_k72_whole_rows_told_by_gaps) (q := view (OpenLaw.row PySem.Challenge.rw_rootfigures_k72_whole_rows_told_by_gaps).prog [35]) (H := Lk72.hk) (ob := Lk72.ob) (M := 4000) (loose := Lk72.lo) (d := HandSHeadRun.topDef (OpenLaw.row PySem.Challenge.rw_rootfigures_k72_whole_rows_told_by_gaps).prog 35) (kwd := []) Lk72.ob_eq
    (by kernel_rfl) (fun s => by kernel_rfl) Lk72.run (by kernel_rfl) (by kernel_rfl) (by kernel_rfl) (by rfl) (by first | assumption | decide +kernel) (by decide +kernel) ⟨rfl, rfl, rfl, rfl, rfl, by decide +kernel⟩ ?hw ?hc
  case hw => w_witness2
  case hc =>
    refine Ev.walk_ev (l := PySem.Challenge.rw_rootfigures_k72_whole_rows_told_by_gaps) (n := 63) (k := 20) (x := "script") (cl := Ev.callV (Ev.progOf Lk72.ds) 20 Lk72.f_law) rfl (by decide) (by kernel_rfl) ⟨rfl, by decide, by decide⟩ ?F fun ns hn => Lk72.pure_law ns hn
    intro w mg fa h Y G hmg0
    obtain ⟨K, KX, c⟩ := Y
    have hmg : mg ("law" : PySem.Str) = some (.ref fa) := by
      have e : (HandSHeadRun.topDef (OpenLaw.row PySem.Challenge.rw_rootfigures_k72_whole_rows_told_by_gaps).prog 35).name = ("law" : PySem.Str) := by kernel_rfl
      rw [← e]
      exact hmg0
    have T := Lk72.tab KX G c
    obtain ⟨fd, F⟩ := c.def_ 24 (d := Lk72.toD Lk72.d_law) rfl
    have g := He.glo_ok KX G (c.fact 24 (f := .glo "law") rfl)
    have e := hmg.symm.trans g
    cases e
    have b := L2.FunD.bindsA (ps := ["script"]) F fun _ _ _ _ _ _ us hl => match us, hl with | [_], _ => rfl
    exact ⟨K, fd, KX, fun s v => b s [v] rfl, fun base _ _ => Ev.defs_ok T Lk72.oks 20 Lk72.f_law Lk72.d_law rfl _ _ F⟩
