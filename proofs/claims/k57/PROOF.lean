import PyProof.Rows.All
import Wide.All
import OpenK.AllK
import Wide.FinOn
import HandS.ForMost
import HandS.Flow
import HandS.TupAny
import HandS.Deep
import HandS.TupLe
import HandS.IsInst
import HandS.RaiseMore
import HandS.Zip
import HandS.Defaults
import HandS.HeadEnd
import HandS.Words
import HandS.Comp
import HandS.Iter
import HandS.Strs
import HandS.More
import HandS.Dict
import HandS.Style
import KE.KDictPairs
import KE.KStateDown
import HandS.Head0
import HandS.Head1
import HandS.Head2
import HandS.HeadHook3
import PyProof.ReprReads
import PySem.Challenge.RW_ruleplans_k57_marks_and_ways
set_option Elab.async false
set_option linter.all false
set_option maxRecDepth 100000
/-! Ev, part A: data, cells, a small syntax, its meaning. -/
namespace Ev
open PySem

/-- data without cells -/
inductive D where
  | non | bl (b : Bool) | int (i : Int) | str (x : Str)
  | tup (xs : List D) | lst (xs : List D) | dct (m : List (D × D))
  deriving Inhabited

/-- a value: data, or a cell -/
inductive Val where
  | d (x : D) | loc (n : Nat) | exn (c : Nat) (xs : List D) | scr (ns : List Int)
  deriving Inhabited

inductive Cell where
  | lst (xs : List Val) | dct (m : List (D × Val)) | ins (c : Nat) (fs : List (Str × Val)) | dead
  deriving Inhabited

abbrev Store := List Cell
abbrev Env := List (Option Val)

inductive R (α : Type) where
  | ok (a : α) (s : Store) | exc (c : Nat) (xs : List D) (s : Store) | bad

def M (α : Type) := Store → R α
namespace M
def pure (a : α) : M α := fun s => .ok a s
def bind (m : M α) (f : α → M β) : M β := fun s => match m s with
  | .ok a s' => f a s'
  | .exc c xs s' => .exc c xs s'
  | .bad => .bad
def bad : M α := fun _ => .bad
def raise (c : Nat) (xs : List D) : M α := fun s => .exc c xs s
def of : Option α → M α
  | some a => pure a
  | none => bad
def chk (b : Bool) : M Unit := if b then pure () else bad
end M
instance : Monad M where
  pure := M.pure
  bind := M.bind

/-! ### data -/
mutual
def D.depth : D → Nat
  | .tup xs => D.depths xs + 1
  | .lst xs => D.depths xs + 1
  | .dct m => D.depthm m + 1
  | _ => 0
def D.depths : List D → Nat
  | [] => 0
  | x :: xs => max x.depth (D.depths xs)
def D.depthm : List (D × D) → Nat
  | [] => 0
  | (k, v) :: m => max (max k.depth v.depth) (D.depthm m)
end

mutual
/-- data that == and repr may go through: no dict within -/
def D.flat : D → Bool
  | .tup xs => D.flats xs
  | .lst xs => D.flats xs
  | .dct _ => false
  | .str x => PyData.strOk x
  | _ => true
def D.flats : List D → Bool
  | [] => true
  | x :: xs => x.flat && D.flats xs
end

mutual
/-- Python's == on such data -/
def deq : D → D → Bool
  | .non, .non => true
  | .bl a, .bl b => a == b
  | .bl a, .int j => (if a then 1 else 0) == j
  | .int i, .bl b => i == (if b then 1 else 0)
  | .int i, .int j => i == j
  | .str x, .str y => x == y
  | .tup xs, .tup ys => deqs xs ys
  | .lst xs, .lst ys => deqs xs ys
  | _, _ => false
def deqs : List D → List D → Bool
  | [], [] => true
  | x :: xs, y :: ys => deq x y && deqs xs ys
  | _, _ => false
end

mutual
def D.py : D → PyData
  | .non => .none
  | .bl b => .bool b
  | .int i => .int i
  | .str x => .str x
  | .tup xs => .tuple (D.pys xs)
  | .lst xs => .list (D.pys xs)
  | .dct _ => .none
def D.pys : List D → List PyData
  | [] => []
  | x :: xs => x.py :: D.pys xs
end

/-- how deep == and repr go -/
def mostDepth : Nat := 1000
def D.fit (d : D) : Bool := d.flat && decide (d.depth ≤ mostDepth)

/-! ### lists by Python's places -/
def cut (xs : List α) (lo hi : Option Int) : List α :=
  (xs.drop (HT.sIx xs.length 0 lo)).take (HT.sIx xs.length xs.length hi - HT.sIx xs.length 0 lo)

/-! ### the syntax -/
inductive Bn where | add | sub | mul | fdiv | mod | pow
  deriving DecidableEq
inductive Cm where | eq | ne | lt | le | gt | ge | isin | notin | is_ | isnot
  deriving DecidableEq
inductive Ty where | str | int | bool | tuple | list | dict | cls (c : Nat)
  deriving DecidableEq
inductive Bi where
  | len | sum | all | any | inst (t : Ty) | int | str | repr | abs | dict (c : Bool) | tuple | list (c : Bool) | lenSet | sortSet | sort | min1 | max1 | min2 | max2
  | range1 | range2 | range3 | zip | enum
  deriving DecidableEq
inductive Mt where
  | append | extend | insert | pop0 | pop1 | get1 | get2 | count | join | partition | split | setdefault | update | popk
  deriving DecidableEq
/-- how a def is called: on data alone; with cells handed in; .. and a new cell handed back; on the whole store -/
inductive Md where | pure | sub | fresh | shared
  deriving DecidableEq

inductive Tg where
  | nm (i : Nat) | tp (ts : List Tg)

inductive E where
  | var (i : Nat) | non | bl (b : Bool) | int (i : Int) | str (x : Str)
  | glb (x : Str) (d : D)
  | tup (es : List E) | lst (c : Bool) (es : List E) | dsp (c : Bool) (ks vs : List E)
  | bin (o : Bn) (a b : E) | neg (a : E) | nt (a : E) | and (a b : E) | or (a b : E)
  | cmp (o : Cm) (a b : E) | chn (o p : Cm) (a b c : E) | ife (c a b : E)
  | cal (m : Md) (g : Nat) (es : List E)
  | bi (f : Bi) (es : List E)
  | mth (m : Mt) (o : E) (es : List E)
  | ix (a i : E) | sl (a lo hi : E) | rev (a : E) | hole
  | lc (c : Bool) (own : List Nat) (t : Tg) (it : E) (cs : List E) (e : E)
  | frz (a : E)
  | att (o : E) (f : Str)
  | met (c g : Nat) (o : E) (es : List E)
  | new (c g : Nat) (es : List E)

inductive S where
  | asg (t : Tg) (e : E) | put (o i e : E) | putf (o : E) (f : Str) (e : E)
  | exp (e : E) | ife (c : E) (a b : List S) | for_ (t : Tg) (it : E) (b : List S) | whl (c : E) (b : List S)
  | ret (e : E) | retn | brk | cnt | pas
  | rse (c g : Nat) (es : List E)
  | try_ (b : List S) (hs : List (List Nat × Option Nat × List S))

inductive Fl where | nx | rt (v : Val) | bk | ct

/-! ### the meaning: parts -/
def alloc (c : Cell) : M Val := fun s => .ok (.loc s.length) (s ++ [c])
def cellAt (n : Nat) : M Cell := fun s => match s[n]? with
  | some c => .ok c s
  | none => .bad
def setCell (n : Nat) (c : Cell) : M Unit := fun s => if n < s.length then .ok () (s.set n c) else .bad

def Val.data : Val → M D
  | .d x => M.pure x
  | _ => M.bad
def datas : List Val → M (List D)
  | [] => M.pure []
  | v :: vs => do let x ← v.data; let xs ← datas vs; M.pure (x :: xs)
def mkList (c : Bool) (vs : List Val) : M Val :=
  if c then alloc (.lst vs) else do let xs ← datas vs; M.pure (.d (.lst xs))

/-- the values of a list, a tuple -/
def seqV (v : Val) : M (List Val) := match v with
  | .d (.tup xs) => M.pure (xs.map .d)
  | .d (.lst xs) => M.pure (xs.map .d)
  | .loc n => do match ← cellAt n with
    | .lst vs => M.pure vs
    | _ => M.bad
  | .scr ns => M.pure (ns.map fun i => .d (.int i))
  | _ => M.bad
def listV (v : Val) : M (List Val) := match v with
  | .d (.lst xs) => M.pure (xs.map .d)
  | .loc n => do match ← cellAt n with
    | .lst vs => M.pure vs
    | _ => M.bad
  | _ => M.bad
/-- data off a value: a list's cell is looked at -/
def dataV (v : Val) : M D := match v with
  | .d x => M.pure x
  | .loc n => do match ← cellAt n with
    | .lst vs => do let xs ← datas vs; M.pure (.lst xs)
    | _ => M.bad
  | _ => M.bad

def lineLen : Nat := 16777216
def intV (v : Val) : M Int := match v with
  | .d (.int i) => M.pure i
  | _ => M.bad
def boolV (v : Val) : M Bool := match v with
  | .d (.bl b) => M.pure b
  | _ => M.bad
def strV (v : Val) : M Str := match v with
  | .d (.str x) => M.pure x
  | _ => M.bad

def truthy (v : Val) : M Bool := match v with
  | .d .non => M.pure false
  | .d (.bl b) => M.pure b
  | .d (.int i) => M.pure (i != 0)
  | .d (.tup xs) => M.pure (!xs.isEmpty)
  | .d (.lst xs) => M.pure (!xs.isEmpty)
  | .loc n => do match ← cellAt n with
    | .lst vs => M.pure (!vs.isEmpty)
    | _ => M.bad
  | .scr ns => M.pure (!ns.isEmpty)
  | _ => M.bad

def mulOk (i j : Int) : Bool := decide (i.natAbs < 2 ^ 64) || decide (j.natAbs < 2 ^ 64)
def binI (o : Bn) (i j : Int) : M Val := match o with
  | .add => M.pure (.d (.int (i + j)))
  | .sub => M.pure (.d (.int (i - j)))
  | .mul => if mulOk i j then M.pure (.d (.int (i * j))) else M.bad
  | .fdiv => if j ≠ 0 ∧ j.natAbs < 1073741824 then M.pure (.d (.int (i.fdiv j))) else M.bad
  | .mod => if j ≠ 0 then M.pure (.d (.int (i.fmod j))) else M.bad
  | .pow => if 0 ≤ j ∧ j ≤ 1000000 ∧ i.natAbs < 2 ^ 64 then M.pure (.d (.int (i ^ j.toNat))) else M.bad
def binV (o : Bn) (x y : Val) : M Val := match x, y with
  | .d (.int i), .d (.int j) => binI o i j
  | .d (.str a), .d (.str b) => match o with
    | .add => if a.length + b.length ≤ lineLen then M.pure (.d (.str (a ++ b))) else M.bad
    | _ => M.bad
  | .d (.tup a), .d (.tup b) => match o with
    | .add => if a.length + b.length ≤ lineLen then M.pure (.d (.tup (a ++ b))) else M.bad
    | _ => M.bad
  | x, y => match o with
    | .add => do
      let a ← listV x
      let b ← listV y
      if a.length + b.length ≤ lineLen then mkList false (a ++ b) else M.bad
    | _ => M.bad

def eqV (x y : Val) : M Bool := do
  let a ← dataV x
  let b ← dataV y
  if a.fit ∧ b.fit then M.pure (deq a b) else M.bad
inductive Is where | no | tr | fa | tru
  deriving DecidableEq
/-- x in the items -/
def memD (a : D) : List D → Bool
  | [] => false
  | b :: r => deq b a || memD a r
/-- is None, is True, is False -/
def isOf (x : Val) : M Is := match x with
  | .loc n => do match ← cellAt n with
    | .dead => M.bad
    | _ => M.pure .tru
  | .exn _ _ => M.bad
  | .scr _ => M.pure .tru
  | .d .non => M.pure .no
  | .d (.bl b) => M.pure (if b then .tr else .fa)
  | .d _ => M.pure .tru
def isWith (b : Is) (y : Val) : M Bool := match y with
  | .d .non => M.pure (b == .no)
  | .d (.bl c) => M.pure (b == if c then .tr else .fa)
  | _ => M.bad
def isV (x y : Val) : M Bool := isOf x >>= fun b => isWith b y
/-- in -/
def inSeq (x y : Val) : M Bool := do
  let a ← dataV x
  let vs ← seqV y
  let bs ← datas vs
  if a.fit ∧ bs.all D.fit then M.pure (memD a bs) else M.bad
def inV (x y : Val) : M Bool := match y with
  | .d (.str t) => do let a ← strV x; if a.length = 1 then M.pure (t.cps.toList.contains (a.cps.getD 0 0)) else M.bad
  | .d (.dct _) => M.bad
  | y => inSeq x y
def cmpV (o : Cm) (x y : Val) : M Bool := match o with
  | .eq => eqV x y
  | .ne => do let b ← eqV x y; M.pure (!b)
  | .lt => do let i ← intV x; let j ← intV y; M.pure (decide (i < j))
  | .le => do let i ← intV x; let j ← intV y; M.pure (decide (i ≤ j))
  | .gt => do let i ← intV x; let j ← intV y; M.pure (decide (j < i))
  | .ge => do let i ← intV x; let j ← intV y; M.pure (decide (j ≤ i))
  | .isin => inV x y
  | .notin => do let b ← inV x y; M.pure (!b)
  | .is_ => isV x y
  | .isnot => do let b ← isV x y; M.pure (!b)

/-- x[i] -/
def ixV (x i : Val) : M Val := do
  let k ← intV i
  match x with
  | .d (.str z) => if z.length ≤ lineLen then (match L2.atI z.cps.toList k with | some c => M.pure (.d (.str ⟨#[c]⟩)) | none => M.bad) else M.bad
  | x => do
    let vs ← seqV x
    M.of (L2.atI vs k)
/-- x[lo:hi] -/
def slV (x : Val) (lo hi : Option Int) : M Val := match x with
  | .d (.str z) => if z.length ≤ lineLen then M.pure (.d (.str (L2.cutS z lo hi))) else M.bad
  | .d (.tup xs) => M.pure (.d (.tup (cut xs lo hi)))
  | x => do
    let vs ← seqV x
    mkList false (cut vs lo hi)
/-- what is walked of a value -/
def iterV (v : Val) : M (List Val) := match v with
  | .d (.str x) => if x.length ≤ lineLen then M.pure (x.cps.toList.map fun c => .d (.str ⟨#[c]⟩)) else M.bad
  | .d (.dct m) => M.pure (m.map fun p => .d p.1)
  | v => seqV v

def isTy (t : Ty) (v : Val) : M Bool := fun s => match v with
  | .d x => .ok (match t, x with
    | .str, .str _ => true
    | .int, .int _ => true
    | .int, .bl _ => true
    | .bool, .bl _ => true
    | .tuple, .tup _ => true
    | .list, .lst _ => true
    | .dict, .dct _ => true
    | _, _ => false) s
  | .loc n => match s[n]? with
    | some (.lst _) => .ok (match t with | .list => true | _ => false) s
    | some (.dct _) => .ok (match t with | .dict => true | _ => false) s
    | _ => .bad
  | .exn _ _ => .bad
  | .scr _ => .bad

/-! dicts by == of keys -/
def dget (m : List (D × α)) (k : D) : Option α := match m with
  | [] => none
  | (q, v) :: r => if deq q k then some v else dget r k
def dput (m : List (D × α)) (k : D) (v : α) : List (D × α) := match m with
  | [] => [(k, v)]
  | (q, u) :: r => if deq q k then (q, v) :: r else (q, u) :: dput r k v
def ddel (m : List (D × α)) (k : D) : List (D × α) := match m with
  | [] => []
  | (q, u) :: r => if deq q k then r else (q, u) :: ddel r k
def dmerge (m : List (D × α)) (r : List (D × α)) : List (D × α) := r.foldl (fun m p => dput m p.1 p.2) m
/-- keys that a dict may have here -/
def D.keyOk : D → Bool
  | .int _ => true
  | .str _ => true
  | _ => false

def pairsOf : List Val → M (List (D × D))
  | [] => M.pure []
  | .d (.tup [k, v]) :: r => do let m ← pairsOf r; M.pure ((k, v) :: m)
  | _ => M.bad

def sumI : List Val → M Int
  | [] => M.pure 0
  | .d (.int i) :: r => do let n ← sumI r; M.pure (i + n)
  | _ => M.bad
def allB : List Val → M Bool
  | [] => M.pure true
  | .d (.bl b) :: r => do let n ← allB r; M.pure (b && n)
  | _ => M.bad
def anyB : List Val → M Bool
  | [] => M.pure false
  | .d (.bl b) :: r => do let n ← anyB r; M.pure (b || n)
  | _ => M.bad
/-- each once, by == -/
def once : List D → List D
  | [] => []
  | x :: r => let q := once r; if memD x q then q else x :: q

mutual
/-- no less than repr's signs -/
def D.wt : D → Nat
  | .non => 4
  | .bl _ => 5
  | .int _ => 1921
  | .str x => 10 * x.length + 2
  | .tup xs => D.wts xs + 3
  | .lst xs => D.wts xs + 2
  | .dct _ => 0
def D.wts : List D → Nat
  | [] => 0
  | x :: xs => x.wt + 2 + D.wts xs
end
mutual
/-- whole numbers that repr shows -/
def D.small : D → Bool
  | .int i => decide (i.natAbs.log2 < 1920)
  | .tup xs => D.smalls xs
  | .lst xs => D.smalls xs
  | _ => true
def D.smalls : List D → Bool
  | [] => true
  | x :: xs => x.small && D.smalls xs
end
def reprOk (d : D) : Bool := d.fit && d.small && decide (d.wt ≤ lineLen)

/-! ### built-in functions on values -/
def lenV (x : Val) : M Val := match x with
  | .d (.str z) => if z.length ≤ lineLen then M.pure (.d (.int z.length)) else M.bad
  | x => do let vs ← seqV x; M.pure (.d (.int vs.length))
def lenSetV (x : Val) : M Val := do
  let vs ← seqV x
  let ds ← datas vs
  if ds.all D.fit then M.pure (.d (.int (once ds).length)) else M.bad
def b2n (b : Bool) : Int := if b then 1 else 0
def biV : Bi → List Val → M Val
  | .len, [x] => lenV x
  | .sum, [x] => do let vs ← listV x; let n ← sumI vs; M.pure (.d (.int n))
  | .all, [x] => do let vs ← listV x; let b ← allB vs; M.pure (.d (.bl b))
  | .any, [x] => do let vs ← listV x; let b ← anyB vs; M.pure (.d (.bl b))
  | .int, [.d (.bl b)] => M.pure (.d (.int (b2n b)))
  | .int, [.d (.int i)] => M.pure (.d (.int i))
  | .str, [.d (.int i)] => if i.natAbs.log2 < 1920 then M.pure (.d (.str (toString i))) else M.bad
  | .repr, [x] => do let d ← dataV x; if reprOk d then M.pure (.d (.str d.py.shown)) else M.bad
  | .abs, [x] => do let i ← intV x; M.pure (.d (.int (if i < 0 then -i else i)))
  | .tuple, [x] => match x with
    | .d (.tup xs) => M.pure (.d (.tup xs))
    | x => do let vs ← listV x; let xs ← datas vs; M.pure (.d (.tup xs))
  | .list c, [x] => do let vs ← seqV x; mkList c vs
  | .min2, [x, y] => do let i ← intV x; let j ← intV y; M.pure (.d (.int (if j < i then j else i)))
  | .max2, [x, y] => do let i ← intV x; let j ← intV y; M.pure (.d (.int (if j > i then j else i)))
  | _, _ => M.bad

/-! ### targets -/
mutual
def tgV : Tg → Val → Env → Option Env
  | .nm i, v, ρ => if i < ρ.length then some (ρ.set i (some v)) else none
  | .tp ts, v, ρ => match v with
    | .d (.tup xs) => if xs.length = Tg.many ts then tgVs ts (xs.map .d) ρ else none
    | .exn c xs => if c = 0 ∧ xs.length = Tg.many ts then tgVs ts (xs.map .d) ρ else none
    | _ => none
def tgVs : List Tg → List Val → Env → Option Env
  | [], [], ρ => some ρ
  | t :: ts, v :: vs, ρ => match tgV t v ρ with
    | some ρ' => tgVs ts vs ρ'
    | none => none
  | _, _, _ => none
def Tg.many : List Tg → Nat
  | [] => 0
  | _ :: ts => Tg.many ts + 1
end

/-! ### statements -/
inductive RS where
  | ok (f : Fl) (ρ : Env) (s : Store) | exc (c : Nat) (xs : List D) (ρ : Env) (s : Store) | bad
abbrev Ms := Env → Store → RS
def ex (m : M α) (ρ : Env) (f : α → Store → RS) : Store → RS := fun s => match m s with
  | .ok a s' => f a s'
  | .exc c xs s' => .exc c xs ρ s'
  | .bad => .bad
def sSeq (m n : Ms) : Ms := fun ρ s => match m ρ s with
  | .ok .nx ρ' s' => n ρ' s'
  | r => r
def sNx : Ms := fun ρ s => .ok .nx ρ s
def sExp (m : Env → M Val) : Ms := fun ρ => ex (m ρ) ρ fun _ s => .ok .nx ρ s
def sRet (m : Env → M Val) : Ms := fun ρ => ex (m ρ) ρ fun v s => .ok (.rt v) ρ s
def sRetN : Ms := fun ρ s => .ok (.rt (.d .non)) ρ s
def sBrk : Ms := fun ρ s => .ok .bk ρ s
def sCnt : Ms := fun ρ s => .ok .ct ρ s
def sIf (k : Env → M Bool) (a b : Ms) : Ms := fun ρ => ex (k ρ) ρ fun t s => if t then a ρ s else b ρ s
def sAsg (t : Tg) (m : Env → M Val) : Ms := fun ρ => ex (m ρ) ρ fun v s => match tgV t v ρ with
  | some ρ' => .ok .nx ρ' s
  | none => .bad
def sLoop (t : Tg) (b : Ms) : List Val → Ms
  | [] => fun ρ s => .ok .nx ρ s
  | v :: vs => fun ρ s => match tgV t v ρ with
    | none => .bad
    | some ρ1 => match b ρ1 s with
      | .ok .nx ρ2 s2 => sLoop t b vs ρ2 s2
      | .ok .ct ρ2 s2 => sLoop t b vs ρ2 s2
      | .ok .bk ρ2 s2 => .ok .nx ρ2 s2
      | r => r
def sFor (t : Tg) (it : Env → M (List Val)) (b : Ms) : Ms := fun ρ => ex (it ρ) ρ fun vs s => sLoop t b vs ρ s
def sWhile (k : Env → M Bool) (b : Ms) : Nat → Ms
  | 0 => fun _ _ => .bad
  | n + 1 => fun ρ => ex (k ρ) ρ fun t s => if t then (match b ρ s with
      | .ok .nx ρ2 s2 => sWhile k b n ρ2 s2
      | .ok .ct ρ2 s2 => sWhile k b n ρ2 s2
      | .ok .bk ρ2 s2 => .ok .nx ρ2 s2
      | r => r) else .ok .nx ρ s
/-- o[i] = v of a list's cell -/
def putV (o i v : Val) : M Unit := match o with
  | .loc n => do match ← cellAt n with
    | .lst vs => do
      let k ← intV i
      match L2.ixN vs.length k with
      | some j => setCell n (.lst (vs.set j v))
      | none => M.bad
    | _ => M.bad
  | _ => M.bad
def sPut (o i m : Env → M Val) : Ms := fun ρ => ex (m ρ >>= fun v => o ρ >>= fun x => i ρ >>= fun k => putV x k v) ρ fun _ s => .ok .nx ρ s
end Ev
set_option maxRecDepth 100000
set_option maxHeartbeats 4000000
/-! Ev, part A2: tuples that bear no dict: where they are made, the thing itself is kept in sight. -/
namespace Ev
open PySem PySem.Spec PyProof.Rows L2

/-- a tuple's thing without a dict -/
def tob (its : List Value) : Obj := { cls := .type "tuple", data := .seq its.toArray }
def SqP (K : PySem.W.Frag) (H : Hp) (a : Addr) (xs : List V) : Prop :=
  (∃ o, H a = some (.frz o (.tup xs)) ∧ o.dict = none) ∨ ∃ (o : Obj) (its : Array Value) (n : Nat), K.lookup a = some o ∧ o.cls = .type "tuple" ∧ o.dict = none ∧ o.data = .seq its n ∧ its.size ≤ sizeLine ∧ Vals xs its.toList
theorem SqP.to {K : PySem.W.Frag} {H : Hp} {a : Addr} {xs : List V} (h : SqP K H a xs) : SqT K H a xs := by
  rcases h with ⟨o, h, _⟩ | ⟨o, its, n, h1, h2, _, h3, h4, h5⟩
  · exact .inl (.inr ⟨o, h⟩)
  · exact .inr ⟨o, its, n, h1, h2, h3, h4, h5⟩
/-- a new tuple stands at p -/
def NewT (p : Addr) (xs : List V) (H : Hp) (Q : VK) : Prop := ∀ o : Obj, o.dict = none → Q (.ref p) (upd H p (.frz o (.tup xs)))
section
variable {X : Cx} {pins : List (Addr × Obj)} {σ : L2.St} {H : Hp} {s : Shared}
theorem laidT {its : List Value} {xs : List V} {tk : Nat} {Q : VK} (I : Inv X pins σ H s) (r : Vals xs its) (hz : xs.length ≤ sizeLine) (q : ∀ p, H p = none → NewT p xs H Q) :
    EP X pins σ Q (.ref s.heap.objs.size) { s with heap := s.heap.push { cls := .type "tuple", data := .seq its.toArray }, toks := tk } := by
  have got : (s.heap.push { cls := .type "tuple", data := .seq its.toArray }).get? s.heap.objs.size = some { cls := .type "tuple", data := .seq its.toArray } := Heap.get?_push_size _ rfl
  refine ⟨.ref s.heap.objs.size, _, I.laid (t' := tk) (o := .frz { cls := .type "tuple", data := .seq its.toArray } (.tup xs)) (fun b u e => Heap.get?_push_of_some _ e) (Nat.le_refl _) ?_, rfl, q _ (I.hok.fresh (Nat.le_refl _)) _ rfl⟩
  exact ⟨got, hz, its, r, ⟨_, got, rfl, _, rfl⟩⟩

def tTupP (t : TA) : TE := fun σ H Q => t σ H fun xs H1 => xs.length ≤ sizeLine ∧ ∀ p, H1 p = none → NewT p xs H1 Q
theorem pe_tupP {es : List Expr} {k : Nat} {pos : Pos} {t : TA} (h : PA X es t) : PE X (.Tuple es k pos) (tTupP t) := by
  constructor
  intro pins s σ H Q I hq
  apply wpAny_Tuple_spliced
  apply thn (h.run pos pins s σ H _ I hq)
  rintro us s1 ⟨xs, H1, I1, r, z, q⟩
  exact ⟨by rw [← r.length]; exact z, laidT (tk := s1.toks) I1 r z q⟩
theorem call_tupleP : CallR X (.type "tuple") (fun xs H Q => ∃ p ys, xs = [.ref p] ∧ ((SqL X.K H p ys ∧ ∀ l, H l = none → NewT l ys H Q) ∨ (SqT X.K H p ys ∧ Q (.ref p) H))) := by
  rintro pins s σ H xs us Q I r ⟨p, ys, rfl, h⟩
  obtain ⟨u, rfl, rx⟩ := vals1 r
  cases rx
  rcases h with ⟨hq, q⟩ | ⟨hq, q⟩
  · obtain ⟨its, r', pl, hz⟩ := I.list hq
    have hlen := r'.length
    apply call_tuple_list pl.isList ?_ (by simp only [List.size_toArray] <;> omega)
    intro h' kp
    exact laidT (s := { s with heap := h' }) (tk := s.toks) (I.kept (t' := s.toks) kp) r' hz q
  · obtain ⟨its, r', pl, hz⟩ := I.tuple hq
    exact call_tuple_same pl ⟨.ref p, H, I, rfl, q⟩
def rCatP (K : PySem.W.Frag) : R2 := fun x y H Q => ∃ a b xs ys, x = .ref a ∧ y = .ref b ∧ SqT K H a xs ∧ SqT K H b ys ∧ xs.length + ys.length ≤ sizeLine ∧
  (xs = [] → Q (.ref b) H) ∧ (xs ≠ [] → ys = [] → Q (.ref a) H) ∧ (xs ≠ [] → ys ≠ [] → ∀ p, H p = none → NewT p (xs ++ ys) H Q)
theorem op_catP : OpR X (binaryOp .Add) (rCatP X.K) := by
  rintro pins s σ H x y v u Q I rx ry ⟨a, b, xs, ys, rfl, rfl, ha, hb, hz, q0, q1, q2⟩
  by_cases hx : xs = []
  · exact op_catA pins s σ H _ _ v u Q I rx ry ⟨a, b, xs, ys, rfl, rfl, ha, hb, hz, q0, fun z => absurd hx z, fun z => absurd hx z⟩
  · cases rx
    cases ry
    obtain ⟨its, r1, p1, _⟩ := I.tuple ha
    obtain ⟨its2, r2, p2, _⟩ := I.tuple hb
    apply HT.cat_tup p1 p2 (fun z => hx (r1.nil_iff.mp z)) (fun z => ⟨.ref a, H, I, rfl, q1 hx (r2.nil_iff.mp z)⟩) ?_ (by rw [← r1.length, ← r2.length]; exact hz)
    intro z
    exact laidT (tk := s.toks) I (r1.append r2) (by rw [List.length_append]; exact hz) (q2 hx fun w => z (r2.nil_iff.mpr w))
def rSlP (K : PySem.W.Frag) : V → Option Int → Option Int → Hp → VK → Prop := fun x lo hi H Q => ∃ a xs, x = .ref a ∧ SqT K H a xs ∧
  (HT.sIx xs.length 0 lo = 0 ∧ HT.sIx xs.length xs.length hi = xs.length → Q (.ref a) H) ∧ (¬ (HT.sIx xs.length 0 lo = 0 ∧ HT.sIx xs.length xs.length hi = xs.length) → ∀ p, H p = none → NewT p (cutV xs lo hi) H Q)
theorem sl_tupP : SlR X (rSlP X.K) := by
  rintro pins s σ H x v vl vu lo hi sl Q I rx hs pl pu ⟨a, xs, rfl, hx, q1, q2⟩
  by_cases hw : HT.sIx xs.length 0 lo = 0 ∧ HT.sIx xs.length xs.length hi = xs.length
  · exact sl_tupA pins s σ H _ v vl vu lo hi sl Q I rx hs pl pu ⟨a, xs, rfl, hx, q1, fun z => absurd hw z⟩
  · cases rx
    obtain ⟨its, r, ht, hz⟩ := I.tuple hx
    have hlen : its.toArray.size = xs.length := by rw [List.size_toArray]; exact r.length.symm
    refine ⟨"tuple", _, PyProof.Rows.slot_tuple_getitem.lookup, ht.typeIs, ?_⟩
    apply HT.getItem_tuple_cut ht hs pl pu (by rw [hlen]; exact hw) ?_ (by rw [hlen]; exact hz)
    rw [hlen]
    exact laidT (tk := s.toks) I ((r.drop (HT.sIx xs.length 0 lo)).take (HT.sIx xs.length xs.length hi - HT.sIx xs.length 0 lo)) (Nat.le_trans (cutV_length xs lo hi) hz) (q2 hw)
end
end Ev
set_option maxRecDepth 100000
set_option maxHeartbeats 4000000
/-! Ev, part B: how data lies in the abstract heap; steps; the shape of a sound reading. -/
namespace Ev
open PySem PySem.Spec PyProof.Rows L2

abbrev Fi := List (Option Addr)
abbrev Own := Addr → Prop

section
variable (K : PySem.W.Frag) (O : Own) (H : Hp)
/-- a key of such a dict -/
def keyOf : D → Option Key
  | .int i => some (.inl i)
  | .str x => some (.inr x)
  | _ => none
mutual
def RepD (v : V) : D → Prop
  | .non => v = .non
  | .bl b => v = .bl b
  | .int i => v = .int i
  | .str x => v = .str x
  | .tup xs => ∃ a vs, v = .ref a ∧ SqP K H a vs ∧ RepDs vs xs
  | .lst xs => ∃ a vs, v = .ref a ∧ ¬ O a ∧ H a = some (.lst vs) ∧ RepDs vs xs
  | .dct m => ∃ a kvs, v = .ref a ∧ ¬ O a ∧ H a = some (.dK kvs) ∧ RepMs kvs m
def RepDs (vs : List V) : List D → Prop
  | [] => vs = []
  | x :: xs => ∃ v r, vs = v :: r ∧ RepD v x ∧ RepDs r xs
def RepMs (kvs : List (Key × V)) : List (D × D) → Prop
  | [] => kvs = []
  | (k, x) :: m => ∃ q v r, kvs = (q, v) :: r ∧ keyOf k = some q ∧ RepD v x ∧ RepMs r m
end
end

structure Grow (K : PySem.W.Frag) (O O' : Own) (H H' : Hp) : Prop where
  tup : ∀ a xs, SqP K H a xs → SqP K H' a xs
  wt : ∀ a xs, SqT K H a xs → SqT K H' a xs
  lst : ∀ a xs, ¬ O a → H a = some (.lst xs) → ¬ O' a ∧ H' a = some (.lst xs)
  dct : ∀ a xs, ¬ O a → H a = some (.dK xs) → ¬ O' a ∧ H' a = some (.dK xs)

section
variable {K : PySem.W.Frag} {O O' : Own} {H H' : Hp}
mutual
theorem RepD.grow (g : Grow K O O' H H') : ∀ {x : D} {v : V}, RepD K O H v x → RepD K O' H' v x
  | .non, v, h => h
  | .bl b, v, h => h
  | .int i, v, h => h
  | .str x, v, h => h
  | .tup xs, v, h => by
    simp only [RepD] at h ⊢
    obtain ⟨a, vs, e, s, r⟩ := h
    exact ⟨a, vs, e, g.tup _ _ s, RepDs.grow g r⟩
  | .lst xs, v, h => by
    simp only [RepD] at h ⊢
    obtain ⟨a, vs, e, n, s, r⟩ := h
    obtain ⟨n', s'⟩ := g.lst _ _ n s
    exact ⟨a, vs, e, n', s', RepDs.grow g r⟩
  | .dct m, v, h => by
    simp only [RepD] at h ⊢
    obtain ⟨a, vs, e, n, s, r⟩ := h
    obtain ⟨n', s'⟩ := g.dct _ _ n s
    exact ⟨a, vs, e, n', s', RepMs.grow g r⟩
theorem RepDs.grow (g : Grow K O O' H H') : ∀ {xs : List D} {vs : List V}, RepDs K O H vs xs → RepDs K O' H' vs xs
  | [], vs, h => h
  | x :: xs, vs, h => by
    simp only [RepDs] at h ⊢
    obtain ⟨v, r, e, h1, h2⟩ := h
    exact ⟨v, r, e, RepD.grow g h1, RepDs.grow g h2⟩
theorem RepMs.grow (g : Grow K O O' H H') : ∀ {m : List (D × D)} {vs : List (Key × V)}, RepMs K O H vs m → RepMs K O' H' vs m
  | [], vs, h => h
  | (k, x) :: m, vs, h => by
    simp only [RepMs] at h ⊢
    obtain ⟨q, v, r, e, h0, h1, h2⟩ := h
    exact ⟨q, v, r, e, h0, RepD.grow g h1, RepMs.grow g h2⟩
end
theorem RepDs.length : ∀ {xs : List D} {vs : List V}, RepDs K O H vs xs → vs.length = xs.length
  | [], vs, h => by rw [show vs = [] from h]; rfl
  | x :: xs, vs, h => by
    obtain ⟨v, r, e, _, h2⟩ := h
    rw [e, List.length_cons, List.length_cons, RepDs.length h2]
end

/-- what is owned: from outside, or by a cell -/
def own (Oc : Own) (φ : Fi) : Own := fun a => Oc a ∨ some a ∈ φ

/-- the script: a list that is never written -/
def SqL' (K : PySem.W.Frag) (H : Hp) (a : Addr) (xs : List V) : Prop :=
  (∃ o, H a = some (.frz o (.lst xs))) ∨ ∃ (o : Obj) (its : Array Value) (n : Nat), K.lookup a = some o ∧ o.cls = .type "list" ∧ o.dict = none ∧ o.data = .seq its n ∧ its.size ≤ sizeLine ∧ Vals xs its.toList
theorem SqL'.of {K : PySem.W.Frag} {H : Hp} {a : Addr} {xs : List V} (h : SqL' K H a xs) : SqL K H a xs := h.imp .inr id
section
variable (K : PySem.W.Frag) (Oc : Own)
def RepV (φ : Fi) (H : Hp) (v : V) : Val → Prop
  | .d x => RepD K (own Oc φ) H v x
  | .loc n => n < φ.length ∧ ∀ a, φ[n]? = some (some a) → v = .ref a
  | .exn c xs => c = 0 → ∃ a vs, v = .ref a ∧ SqT K H a vs ∧ RepDs K (own Oc φ) H vs xs
  | .scr ns => ∃ a, v = .ref a ∧ SqL' K H a (ns.map V.int)
def RepVs (φ : Fi) (H : Hp) : List V → List Val → Prop
  | vs, [] => vs = []
  | vs, x :: xs => ∃ v r, vs = v :: r ∧ RepV K Oc φ H v x ∧ RepVs φ H r xs
def RepKs (φ : Fi) (H : Hp) : List (Key × V) → List (D × Val) → Prop
  | vs, [] => vs = []
  | vs, (k, x) :: xs => ∃ q v r, vs = (q, v) :: r ∧ keyOf k = some q ∧ RepV K Oc φ H v x ∧ RepKs φ H r xs
def CellAt (φ : Fi) (H : Hp) (a : Addr) : Cell → Prop
  | .lst xs => ∃ vs, H a = some (.lst vs) ∧ RepVs K Oc φ H vs xs
  | .dct m => ∃ kvs, H a = some (.dK kvs) ∧ RepKs K Oc φ H kvs m
  | .ins _ _ => False
  | .dead => False
structure SR (φ : Fi) (H : Hp) (st : Store) : Prop where
  len : φ.length = st.length
  nd : ∀ (n m : Nat) a, φ[n]? = some (some a) → φ[m]? = some (some a) → n = m
  oc : ∀ a, Oc a → H a ≠ none ∧ some a ∉ φ ∧ (∀ xs, H a ≠ some (.tup xs)) ∧ ∀ o u, H a ≠ some (.frz o u)
  live : ∀ (n : Nat) a, φ[n]? = some (some a) → ∃ c, st[n]? = some c ∧ CellAt K Oc φ H a c
  dead : ∀ n : Nat, φ[n]? = some none → st[n]? = some .dead
end

/-- from one stand to a later one -/
structure Stp (φ φ' : Fi) (H H' : Hp) : Prop where
  len : φ.length ≤ φ'.length
  old : ∀ (n : Nat) x, φ[n]? = some x → φ'[n]? = some x ∨ φ'[n]? = some none
  new : ∀ (n : Nat) a, φ.length ≤ n → φ'[n]? = some (some a) → H a = none
  keep : ∀ a o, H a = some o → some a ∉ φ → H' a = some o
  tup : ∀ a xs, H a = some (.tup xs) → H' a = some (.tup xs)
  frz : ∀ a o u, H a = some (.frz o u) → H' a = some (.frz o u)
  there : ∀ a, H a ≠ none → H' a ≠ none

section
variable {φ φ' φ1 φ2 : Fi} {H H' H1 H2 : Hp}
theorem Stp.refl (φ : Fi) (H : Hp) : Stp φ φ H H where
  len := Nat.le_refl _
  old := fun n x e => .inl e
  new := fun n a hn e => by
    have := (List.getElem?_eq_some_iff.mp e).1
    omega
  keep := fun a o e _ => e
  tup := fun a xs e => e
  frz := fun a o u e => e
  there := fun a e => e

theorem Stp.notIn (s : Stp φ φ' H H') {a : Addr} (ha : H a ≠ none) (hn : some a ∉ φ) : some a ∉ φ' := fun hm => by
  obtain ⟨n, e⟩ := List.mem_iff_getElem?.mp hm
  by_cases hl : n < φ.length
  · obtain ⟨x, hx⟩ : ∃ x, φ[n]? = some x := ⟨φ[n], by simp [hl]⟩
    rcases s.old n x hx with q | q
    · rw [q] at e
      cases e
      exact hn (List.mem_iff_getElem?.mpr ⟨n, hx⟩)
    · rw [q] at e; cases e
  · exact ha (s.new n a (Nat.le_of_not_lt hl) e)

theorem Stp.trans (a : Stp φ φ1 H H1) (b : Stp φ1 φ2 H1 H2) : Stp φ φ2 H H2 where
  len := Nat.le_trans a.len b.len
  old := fun n x e => by
    rcases a.old n x e with q | q
    · exact b.old n x q
    · rcases b.old n none q with z | z <;> exact .inr z
  new := fun n x hn e => by
    by_cases hl : n < φ1.length
    · obtain ⟨y, hy⟩ : ∃ y, φ1[n]? = some y := ⟨φ1[n], by simp [hl]⟩
      rcases b.old n y hy with q | q
      · rw [q] at e
        cases e
        exact a.new n x hn hy
      · rw [q] at e; cases e
    · have z := b.new n x (Nat.le_of_not_lt hl) e
      cases q : H x with
      | none => rfl
      | some o => exact absurd z (a.there x (by rw [q]; simp))
  keep := fun x o e n => b.keep x o (a.keep x o e n) (a.notIn (by rw [e]; simp) n)
  tup := fun x xs e => b.tup x xs (a.tup x xs e)
  frz := fun x o u e => b.frz x o u (a.frz x o u e)
  there := fun x e => b.there x (a.there x e)

/-- a new thing is laid -/
theorem Stp.lay {p : Addr} {o : HO} (hp : H p = none) : Stp φ φ H (upd H p o) where
  len := Nat.le_refl _
  old := fun n x e => .inl e
  new := fun n a hn e => by
    have := (List.getElem?_eq_some_iff.mp e).1
    omega
  keep := fun a u e _ => by rw [upd_ne (ne_of_none e hp)]; exact e
  tup := fun a xs e => by rw [upd_ne (ne_of_none e hp)]; exact e
  frz := fun a x u e => by rw [upd_ne (ne_of_none e hp)]; exact e
  there := fun a e => by
    by_cases h : a = p
    · subst h; rw [upd_same]; simp
    · rw [upd_ne h]; exact e
end

section
variable {K : PySem.W.Frag} {Oc : Own} {φ φ' : Fi} {H H' : Hp} {st st' : Store}
theorem Stp.rd (s : Stp φ φ' H H') {a : Addr} {u : HO} (n : some a ∉ φ) (h : Rd H a u) : Rd H' a u := by
  rcases h with h | ⟨o, h⟩
  · exact .inl (s.keep a u h n)
  · exact .inr ⟨o, s.frz a o u h⟩
theorem Rd.there {H : Hp} {a : Addr} {u : HO} (h : Rd H a u) : H a ≠ none := by
  rcases h with h | ⟨o, h⟩ <;> rw [h] <;> simp
theorem Stp.grow (s : Stp φ φ' H H') : Grow K (own Oc φ) (own Oc φ') H H' where
  tup := fun a xs h => by
    rcases h with ⟨o, h, hd⟩ | h
    · exact .inl ⟨o, s.frz a o _ h, hd⟩
    · exact .inr h
  wt := fun a xs h => by
    rcases h with (h | ⟨o, h⟩) | h
    · exact .inl (.inl (s.tup a xs h))
    · exact .inl (.inr ⟨o, s.frz a o _ h⟩)
    · exact .inr h
  lst := fun a xs n h => by
    have n1 : ¬ Oc a := fun z => n (.inl z)
    have n2 : some a ∉ φ := fun z => n (.inr z)
    exact ⟨fun z => z.elim n1 (s.notIn (by rw [h]; simp) n2), s.keep a _ h n2⟩
  dct := fun a xs n h => by
    have n1 : ¬ Oc a := fun z => n (.inl z)
    have n2 : some a ∉ φ := fun z => n (.inr z)
    exact ⟨fun z => z.elim n1 (s.notIn (by rw [h]; simp) n2), s.keep a _ h n2⟩

theorem RepV.step (s : Stp φ φ' H H') {x : Val} {v : V} (h : RepV K Oc φ H v x) : RepV K Oc φ' H' v x := by
  cases x with
  | d x => exact RepD.grow s.grow h
  | loc n =>
    refine ⟨Nat.lt_of_lt_of_le h.1 s.len, fun a e => ?_⟩
    obtain ⟨y, hy⟩ : ∃ y, φ[n]? = some y := ⟨φ[n]'h.1, by simp [h.1]⟩
    rcases s.old n y hy with q | q
    · rw [q] at e; cases e; exact h.2 a hy
    · rw [q] at e; cases e
  | exn c xs =>
    intro hc
    obtain ⟨a, vs, e, q, z⟩ := h hc
    exact ⟨a, vs, e, (s.grow (K := K) (Oc := Oc)).wt _ _ q, RepDs.grow s.grow z⟩
  | scr ns =>
    obtain ⟨a, e, q⟩ := h
    refine ⟨a, e, ?_⟩
    rcases q with ⟨o, q⟩ | q
    · exact .inl ⟨o, s.frz a o _ q⟩
    · exact .inr q
theorem RepVs.step (s : Stp φ φ' H H') : ∀ {xs : List Val} {vs : List V}, RepVs K Oc φ H vs xs → RepVs K Oc φ' H' vs xs
  | [], _, h => h
  | x :: xs, vs, h => by
    obtain ⟨v, r, e, h1, h2⟩ := h
    exact ⟨v, r, e, h1.step s, RepVs.step s h2⟩
theorem RepKs.step (s : Stp φ φ' H H') : ∀ {xs : List (D × Val)} {vs : List (Key × V)}, RepKs K Oc φ H vs xs → RepKs K Oc φ' H' vs xs
  | [], _, h => h
  | (k, x) :: xs, vs, h => by
    obtain ⟨q, v, r, e, h0, h1, h2⟩ := h
    exact ⟨q, v, r, e, h0, h1.step s, RepKs.step s h2⟩
theorem RepVs.length : ∀ {xs : List Val} {vs : List V}, RepVs K Oc φ H vs xs → vs.length = xs.length
  | [], vs, h => by rw [show vs = [] from h]; rfl
  | x :: xs, vs, h => by
    obtain ⟨v, r, e, _, h2⟩ := h
    rw [e, List.length_cons, List.length_cons, RepVs.length h2]
theorem RepVs.of_D : ∀ {xs : List D} {vs : List V}, RepDs K (own Oc φ) H vs xs → RepVs K Oc φ H vs (xs.map .d)
  | [], vs, h => h
  | x :: xs, vs, h => by
    obtain ⟨v, r, e, h1, h2⟩ := h
    exact ⟨v, r, e, h1, RepVs.of_D h2⟩
theorem RepVs.to_D : ∀ {xs : List D} {vs : List V}, RepVs K Oc φ H vs (xs.map .d) → RepDs K (own Oc φ) H vs xs
  | [], vs, h => h
  | x :: xs, vs, h => by
    obtain ⟨v, r, e, h1, h2⟩ := h
    exact ⟨v, r, e, h1, RepVs.to_D h2⟩
theorem RepVs.get : ∀ {xs : List Val} {vs : List V} {i : Nat} {x : Val}, RepVs K Oc φ H vs xs → xs[i]? = some x → ∃ v, vs[i]? = some v ∧ RepV K Oc φ H v x
  | [], _, _, _, _, e => by simp at e
  | y :: xs, vs, 0, x, h, e => by
    obtain ⟨v, r, q, h1, h2⟩ := h
    simp at e; subst e; subst q
    exact ⟨v, rfl, h1⟩
  | y :: xs, vs, i + 1, x, h, e => by
    obtain ⟨v, r, q, h1, h2⟩ := h
    subst q
    obtain ⟨u, hu, ru⟩ := RepVs.get (i := i) h2 (by simpa using e)
    exact ⟨u, by simpa using hu, ru⟩
theorem RepVs.append : ∀ {xs ys : List Val} {vs us : List V}, RepVs K Oc φ H vs xs → RepVs K Oc φ H us ys → RepVs K Oc φ H (vs ++ us) (xs ++ ys)
  | [], _, vs, _, h, k => by rw [show vs = [] from h]; exact k
  | x :: xs, ys, vs, us, h, k => by
    obtain ⟨v, r, e, h1, h2⟩ := h
    subst e
    exact ⟨v, r ++ us, rfl, h1, RepVs.append h2 k⟩

/-- what is laid anew leaves the store as it is -/
theorem CellAt.step (s : Stp φ φ' H H') {a : Addr} {c : Cell} (k : ∀ o, H a = some o → H' a = some o) (h : CellAt K Oc φ H a c) : CellAt K Oc φ' H' a c := by
  cases c with
  | lst xs =>
    obtain ⟨vs, e, r⟩ := h
    exact ⟨vs, k _ e, r.step s⟩
  | dct m =>
    obtain ⟨vs, e, r⟩ := h
    exact ⟨vs, k _ e, r.step s⟩
  | ins => exact h
  | dead => exact h
theorem SR.lay {p : Addr} {o : HO} (h : SR K Oc φ H st) (hp : H p = none) : SR K Oc φ (upd H p o) st where
  len := h.len
  nd := h.nd
  oc := fun a ha => by
    have ne : a ≠ p := fun z => (h.oc a ha).1 (by rw [z]; exact hp)
    rw [upd_ne ne]
    exact h.oc a ha
  live := fun n a e => by
    obtain ⟨c, h1, h2⟩ := h.live n a e
    exact ⟨c, h1, h2.step (Stp.lay hp) fun u e => by rw [upd_ne (ne_of_none e hp)]; exact e⟩
  dead := h.dead
/-- a new cell at p -/
theorem Stp.alloc {p : Addr} {o : HO} (hp : H p = none) : Stp φ (φ ++ [some p]) H (upd H p o) where
  len := by simp
  old := fun n x e => .inl (by rw [List.getElem?_append_left (List.getElem?_eq_some_iff.mp e).1]; exact e)
  new := fun n a hn e => by
    rw [List.getElem?_append_right hn] at e
    have e' := List.mem_of_getElem? e
    simp at e'
    rw [e']; exact hp
  keep := fun a u e _ => by rw [upd_ne (ne_of_none e hp)]; exact e
  tup := fun a xs e => by rw [upd_ne (ne_of_none e hp)]; exact e
  frz := fun a x u e => by rw [upd_ne (ne_of_none e hp)]; exact e
  there := fun a e => by
    by_cases h : a = p
    · subst h; rw [upd_same]; simp
    · rw [upd_ne h]; exact e
theorem SR.there (h : SR K Oc φ H st) {n : Nat} {a : Addr} (e : φ[n]? = some (some a)) : (∃ vs, H a = some (.lst vs)) ∨ ∃ kvs, H a = some (.dK kvs) := by
  obtain ⟨c, _, h2⟩ := h.live n a e
  cases c with
  | lst xs => obtain ⟨vs, e, _⟩ := h2; exact .inl ⟨vs, e⟩
  | dct m => obtain ⟨vs, e, _⟩ := h2; exact .inr ⟨vs, e⟩
  | ins => exact h2.elim
  | dead => exact h2.elim
theorem SR.alloc {p : Addr} {o : HO} {c : Cell} (h : SR K Oc φ H st) (hp : H p = none) (ho : (∀ xs, o ≠ .tup xs) ∧ ∀ x u, o ≠ .frz x u) (hc : CellAt K Oc (φ ++ [some p]) (upd H p o) p c) : SR K Oc (φ ++ [some p]) (upd H p o) (st ++ [c]) where
  len := by simp [h.len]
  nd := fun n m a e1 e2 => by
    by_cases h1 : n < φ.length
    · rw [List.getElem?_append_left h1] at e1
      by_cases h2 : m < φ.length
      · rw [List.getElem?_append_left h2] at e2
        exact h.nd n m a e1 e2
      · rw [List.getElem?_append_right (Nat.le_of_not_lt h2)] at e2
        have e2' := List.mem_of_getElem? e2
        simp at e2'
        rcases h.there e1 with ⟨_, q⟩ | ⟨_, q⟩ <;> (rw [e2', hp] at q; cases q)
    · rw [List.getElem?_append_right (Nat.le_of_not_lt h1)] at e1
      have e1' := List.mem_of_getElem? e1
      simp at e1'
      by_cases h2 : m < φ.length
      · rw [List.getElem?_append_left h2] at e2
        rcases h.there e2 with ⟨_, q⟩ | ⟨_, q⟩ <;> (rw [e1', hp] at q; cases q)
      · rw [List.getElem?_append_right (Nat.le_of_not_lt h2)] at e2
        have l1 := (List.getElem?_eq_some_iff.mp e1).1
        have l2 := (List.getElem?_eq_some_iff.mp e2).1
        simp at l1 l2
        omega
  oc := fun a ha => by
    obtain ⟨h1, h2, h3, h4⟩ := h.oc a ha
    have ne : a ≠ p := fun z => h1 (by rw [z]; exact hp)
    refine ⟨by rw [upd_ne ne]; exact h1, fun hm => ?_, by rw [upd_ne ne]; exact h3, by rw [upd_ne ne]; exact h4⟩
    rcases List.mem_append.mp hm with z | z
    · exact h2 z
    · simp at z; exact ne z
  live := fun n a e => by
    by_cases h1 : n < φ.length
    · rw [List.getElem?_append_left h1] at e
      obtain ⟨c', q1, q2⟩ := h.live n a e
      exact ⟨c', by rw [List.getElem?_append_left (by rw [← h.len]; exact h1)]; exact q1, q2.step (Stp.alloc hp) fun u e => by rw [upd_ne (ne_of_none e hp)]; exact e⟩
    · rw [List.getElem?_append_right (Nat.le_of_not_lt h1)] at e
      have e' := List.mem_of_getElem? e
      have l1 := (List.getElem?_eq_some_iff.mp e).1
      simp at e' l1
      have hn : n = st.length := by have := h.len; omega
      refine ⟨c, by rw [hn]; simp, by rw [e']; exact hc⟩
  dead := fun n e => by
    by_cases h1 : n < φ.length
    · rw [List.getElem?_append_left h1] at e
      rw [List.getElem?_append_left (by rw [← h.len]; exact h1)]
      exact h.dead n e
    · rw [List.getElem?_append_right (Nat.le_of_not_lt h1)] at e
      have e' := List.mem_of_getElem? e
      simp at e'
/-- a cell is written -/
theorem Stp.write {n : Nat} {a : Addr} {o : HO} (h : SR K Oc φ H st) (e : φ[n]? = some (some a)) : Stp φ φ H (upd H a o) where
  len := Nat.le_refl _
  old := fun n x e => .inl e
  new := fun n a hn e => by
    have := (List.getElem?_eq_some_iff.mp e).1
    omega
  keep := fun b u eb hb => by
    have ne : b ≠ a := fun z => hb (by rw [z]; exact List.mem_of_getElem? e)
    rw [upd_ne ne]; exact eb
  tup := fun b xs eb => by
    have ne : b ≠ a := fun z => by
      rcases h.there e with ⟨_, q⟩ | ⟨_, q⟩ <;> (rw [z, q] at eb; cases eb)
    rw [upd_ne ne]; exact eb
  frz := fun b x u eb => by
    have ne : b ≠ a := fun z => by
      rcases h.there e with ⟨_, q⟩ | ⟨_, q⟩ <;> (rw [z, q] at eb; cases eb)
    rw [upd_ne ne]; exact eb
  there := fun b eb => by
    by_cases z : b = a
    · subst z; rw [upd_same]; simp
    · rw [upd_ne z]; exact eb
theorem SR.write {n : Nat} {a : Addr} {o : HO} {c : Cell} (h : SR K Oc φ H st) (e : φ[n]? = some (some a)) (hc : CellAt K Oc φ (upd H a o) a c) : SR K Oc φ (upd H a o) (st.set n c) where
  len := by simp [h.len]
  nd := h.nd
  oc := fun b hb => by
    obtain ⟨h1, h2, h3, h4⟩ := h.oc b hb
    have ne : b ≠ a := fun z => h2 (by rw [z]; exact List.mem_of_getElem? e)
    rw [upd_ne ne]
    exact ⟨h1, h2, h3, h4⟩
  live := fun m b eb => by
    have hn : n < st.length := by rw [← h.len]; exact (List.getElem?_eq_some_iff.mp e).1
    by_cases hm : m = n
    · subst hm
      rw [e] at eb; cases eb
      exact ⟨c, by rw [List.getElem?_set_self hn], hc⟩
    · obtain ⟨c', q1, q2⟩ := h.live m b eb
      have ne : b ≠ a := fun z => hm (h.nd m n a (by rw [← z]; exact eb) e)
      exact ⟨c', by rw [List.getElem?_set_ne (Ne.symm hm)]; exact q1, q2.step (Stp.write h e) fun u q => by rw [upd_ne ne]; exact q⟩
  dead := fun m eb => by
    have hm : m ≠ n := fun z => by rw [z, e] at eb; cases eb
    rw [List.getElem?_set_ne (Ne.symm hm)]
    exact h.dead m eb
end
end Ev
set_option maxRecDepth 100000
set_option maxHeartbeats 4000000
/-! Ev, part C: readings by meanings; names, constants, tuples, operators, tests. -/
namespace Ev
open PySem PySem.Spec PyProof.Rows L2
abbrev Sl := L2.St

/-- what a reading leans on: the written part, the classes of exceptions (where they stand, their fields), what is wanted of an exception -/
structure Cn where
  K : PySem.W.Frag
  cad : Nat → Addr
  cfs : Nat → List Str
  W : Value → Option Addr → Sl → Hp → Prop

def ExR (C : Cn) (O : Own) (H : Hp) (c : Nat) (xs : List D) (cls : Value) (d : Option Addr) : Prop :=
  cls = .ref (C.cad c) ∧ ((C.cfs c = [] ∧ xs = []) ∨ ∃ dd vs, d = some dd ∧ H dd = some (.xd ((C.cfs c).zip vs)) ∧ vs.length = (C.cfs c).length ∧ RepDs C.K O H vs xs)

/-- behind a meaning's answer -/
def Aft {α β : Type} (C : Cn) (Oc : Own) (rp : Fi → Hp → β → α → Prop) (r : R α) (φ : Fi) (H : Hp) (σ : Sl) (Q : β → Hp → Prop) : Prop := match r with
  | .ok a s' => ∀ φ' H' b, Stp φ φ' H H' → SR C.K Oc φ' H' s' → rp φ' H' b a → Q b H'
  | .exc c xs s' => ∀ φ' H' cls d, Stp φ φ' H H' → SR C.K Oc φ' H' s' → ExR C (own Oc φ') H' c xs cls d → C.W cls d σ H'
  | .bad => False

structure ER (K : PySem.W.Frag) (Oc : Own) (φ : Fi) (H : Hp) (ρ : Env) (σ : Sl) : Prop where
  len : ρ.length = σ.length
  at_ : ∀ (i : Nat) x, ρ[i]? = some (some x) → ∃ v, σ[i]? = some (some v) ∧ RepV K Oc φ H v x
theorem ER.step {K : PySem.W.Frag} {Oc : Own} {φ φ' : Fi} {H H' : Hp} {ρ : Env} {σ : Sl} (e : ER K Oc φ H ρ σ) (s : Stp φ φ' H H') : ER K Oc φ' H' ρ σ :=
  ⟨e.len, fun i x h => let ⟨v, h1, h2⟩ := e.at_ i x h; ⟨v, h1, h2.step s⟩⟩

/-- a stand: the cells and the names -/
structure Pt (C : Cn) (Oc : Own) (φ : Fi) (H : Hp) (st : Store) (ρ : Env) (σ : Sl) : Prop where
  sr : SR C.K Oc φ H st
  er : ER C.K Oc φ H ρ σ

abbrev rV (C : Cn) (Oc : Own) : Fi → Hp → V → Val → Prop := fun φ H v x => RepV C.K Oc φ H v x
abbrev rVs (C : Cn) (Oc : Own) : Fi → Hp → List V → List Val → Prop := fun φ H v x => RepVs C.K Oc φ H v x
abbrev rB : Fi → Hp → Bool → Bool → Prop := fun _ _ v x => v = x

/-- the reading by a meaning -/
def tM {α β : Type} (rp : Own → Fi → Hp → β → α → Prop) (C : Cn) (m : Env → M α) : Sl → Hp → (β → Hp → Prop) → Prop := fun σ H Q =>
  ∃ Oc φ st ρ, Pt C Oc φ H st ρ σ ∧ Aft C Oc (rp Oc) (m ρ st) φ H σ Q
def tE (C : Cn) (m : Env → M Val) : TE := tM (rV C) C m
def tT (C : Cn) (m : Env → M Bool) : TT := tM (fun _ => rB) C m
def tA (C : Cn) (m : Env → M (List Val)) : TA := tM (rVs C) C m

section
variable {C : Cn} {Oc : Own} {φ φ' : Fi} {H H' : Hp} {st : Store} {ρ : Env} {σ : Sl} {α β γ δ : Type}
theorem Pt.step (p : Pt C Oc φ H st ρ σ) {st' : Store} (s : Stp φ φ' H H') (r : SR C.K Oc φ' H' st') : Pt C Oc φ' H' st' ρ σ := ⟨r, p.er.step s⟩

theorem Aft.ok {rp : Fi → Hp → β → α → Prop} {a : α} {b : β} {Q : β → Hp → Prop} (h : Aft C Oc rp (.ok a st) φ H σ Q) (s : SR C.K Oc φ H st) (r : rp φ H b a) : Q b H := h φ H b (Stp.refl φ H) s r
theorem Aft.back {rp : Fi → Hp → β → α → Prop} {r : R α} {Q : β → Hp → Prop} (s : Stp φ φ' H H') (h : Aft C Oc rp r φ H σ Q) : Aft C Oc rp r φ' H' σ Q := by
  cases r with
  | ok a s' => exact fun φ2 H2 b t => h φ2 H2 b (s.trans t)
  | exc c xs s' => exact fun φ2 H2 cls d t => h φ2 H2 cls d (s.trans t)
  | bad => exact h
/-- the answer and what goes on -/
theorem Aft.bind {rp : Fi → Hp → β → α → Prop} {rq : Fi → Hp → δ → γ → Prop} {m : M α} {f : α → M γ} {Q : δ → Hp → Prop} (h : Aft C Oc rq ((m >>= f) st) φ H σ Q) :
    Aft C Oc rp (m st) φ H σ fun b H1 => ∃ φ1 s1 a, Stp φ φ1 H H1 ∧ SR C.K Oc φ1 H1 s1 ∧ rp φ1 H1 b a ∧ Aft C Oc rq (f a s1) φ1 H1 σ Q := by
  have h1 : Aft C Oc rq (M.bind m f st) φ H σ Q := h
  unfold M.bind at h1
  cases e : m st with
  | ok a s' =>
    rw [e] at h1
    exact fun φ1 H1 b s r q => ⟨φ1, s', a, s, r, q, h1.back s⟩
  | exc c xs s' =>
    rw [e] at h1
    exact h1
  | bad =>
    rw [e] at h1
    exact h1
theorem Aft.mono {rp : Fi → Hp → β → α → Prop} {r : R α} {Q Q' : β → Hp → Prop} (h : Aft C Oc rp r φ H σ Q) (i : ∀ b H', Q b H' → Q' b H') : Aft C Oc rp r φ H σ Q' := by
  cases r with
  | ok a s' => exact fun φ' H' b s r q => i _ _ (h φ' H' b s r q)
  | exc c xs s' => exact h
  | bad => exact h

theorem tM.one {rp : Own → Fi → Hp → β → α → Prop} {rq : Own → Fi → Hp → δ → γ → Prop} {m : Env → M α} {f : Env → α → M γ} {Q : δ → Hp → Prop} (h : tM rq C (fun ρ => m ρ >>= f ρ) σ H Q) :
    tM rp C m σ H fun b H1 => ∃ Oc φ st ρ a, Pt C Oc φ H1 st ρ σ ∧ rp Oc φ H1 b a ∧ Aft C Oc (rq Oc) (f ρ a st) φ H1 σ Q := by
  obtain ⟨Oc, φ, st, ρ, p, h⟩ := h
  exact ⟨Oc, φ, st, ρ, p, (h.bind (rp := rp Oc)).mono fun b H1 ⟨φ1, s1, a, s, r, q, k⟩ => ⟨Oc, φ1, s1, ρ, a, p.step s r, q, k⟩⟩
theorem tM.two {rp : Own → Fi → Hp → V → Val → Prop} {rq : Own → Fi → Hp → δ → γ → Prop} {m n : Env → M Val} {f : Env → Val → Val → M γ} {Q : δ → Hp → Prop}
    (h : tM rq C (fun ρ => m ρ >>= fun x => n ρ >>= fun y => f ρ x y) σ H Q) :
    tE C m σ H fun v H1 => tE C n σ H1 fun u H2 => ∃ Oc φ st ρ x y, Pt C Oc φ H2 st ρ σ ∧ RepV C.K Oc φ H2 v x ∧ RepV C.K Oc φ H2 u y ∧ Aft C Oc (rq Oc) (f ρ x y st) φ H2 σ Q := by
  obtain ⟨Oc, φ, st, ρ, p, h⟩ := h
  refine ⟨Oc, φ, st, ρ, p, (h.bind (rp := rV C Oc)).mono fun v H1 ⟨φ1, s1, x, s, r, q, k⟩ => ?_⟩
  refine ⟨Oc, φ1, s1, ρ, p.step s r, (k.bind (rp := rV C Oc)).mono fun u H2 ⟨φ2, s2, y, t, r2, q2, k2⟩ => ?_⟩
  exact ⟨Oc, φ2, s2, ρ, x, y, (p.step s r).step t r2, RepV.step t q, q2, k2⟩
end

section
variable {X : Cx} {C : Cn} {e a b : Expr} {pos : Pos}
theorem imp_e {t t' : TE} (h : PE X e t) (i : ∀ σ H Q, t' σ H Q → t σ H Q) : PE X e t' := ⟨fun pins s σ H Q I q => h.run pins s σ H Q I (i σ H Q q)⟩
theorem imp_t {t t' : TT} (h : PT X e t) (i : ∀ σ H Q, t' σ H Q → t σ H Q) : PT X e t' := ⟨fun pins s σ H Q I q => h.run pins s σ H Q I (i σ H Q q)⟩
theorem imp_w {t t' : TT} (h : PW X e t) (i : ∀ σ H Q, t' σ H Q → t σ H Q) : PW X e t' := ⟨fun w pins s σ H Q I q => h.run w pins s σ H Q I (i σ H Q q)⟩
theorem imp_a {es : List Expr} {t t' : TA} (h : PA X es t) (i : ∀ σ H Q, t' σ H Q → t σ H Q) : PA X es t' := ⟨fun p pins s σ H Q I q => h.run p pins s σ H Q I (i σ H Q q)⟩
theorem imp_s {s : Stmt} {t t' : TS} (h : PS X s t) (i : ∀ D σ H, t' D σ H → t D σ H) : PS X s t' := ⟨fun pins s σ H D I q => h.run pins s σ H D I (i D σ H q)⟩
theorem imp_ss {s : List Stmt} {t t' : TS} (h : PSs X s t) (i : ∀ D σ H, t' D σ H → t D σ H) : PSs X s t' := ⟨fun pins s σ H D I q => h.run pins s σ H D I (i D σ H q)⟩

/-! ### names, constants -/
def mVar (i : Nat) : Env → M Val := fun ρ => match ρ[i]? with
  | some (some x) => M.pure x
  | _ => M.bad
theorem s_var {i : Nat} {x : Str} (hN : X.N[i]? = some x) (hv : Vis X.env.scope x) (hd : (x == ("__debug__" : Str)) = false) (hcd : (x == ("__classdict__" : Str)) = false) : PE X (.Name x pos) (tE C (mVar i)) :=
  imp_e (pe_var hN hv hd hcd) fun σ H Q ⟨Oc, φ, st, ρ, p, h⟩ => by
    unfold mVar at h
    cases e : ρ[i]? with
    | none => rw [e] at h; exact h.elim
    | some o =>
      cases o with
      | none => rw [e] at h; exact h.elim
      | some y =>
        rw [e] at h
        obtain ⟨v, h1, h2⟩ := p.er.at_ i y e
        exact ⟨v, h1, Aft.ok h p.sr h2⟩
/-- a reading that gives a written value -/
theorem s_c {d : D} {v : V} (h : PE X e (tC v)) (r : ∀ O H, RepD C.K O H v d) : PE X e (tE C fun _ => M.pure (.d d)) :=
  imp_e h fun σ H Q ⟨Oc, φ, st, ρ, p, q⟩ => Aft.ok q p.sr (show RepV C.K Oc φ H v (.d d) from r _ _)
theorem s_int {i : Int} {j : Nat} : PE X (.Constant (.int i) j pos) (tE C fun _ => M.pure (.d (.int i))) := s_c pe_int fun _ _ => rfl
theorem s_bl {i : Bool} {j : Nat} : PE X (.Constant (.bool i) j pos) (tE C fun _ => M.pure (.d (.bl i))) := s_c pe_bl fun _ _ => rfl
theorem s_non {j : Nat} : PE X (.Constant .none j pos) (tE C fun _ => M.pure (.d .non)) := s_c pe_non fun _ _ => rfl
theorem s_str {i : Str} {j : Nat} : PE X (.Constant (.str i) j pos) (tE C fun _ => M.pure (.d (.str i))) := s_c pe_str fun _ _ => rfl

/-! ### argument lists -/
def mNil : Env → M (List Val) := fun _ => M.pure []
def mCons (m : Env → M Val) (n : Env → M (List Val)) : Env → M (List Val) := fun ρ => m ρ >>= fun x => n ρ >>= fun xs => M.pure (x :: xs)
theorem s_nil : PA X [] (tA C mNil) := imp_a pa_nil fun σ H Q ⟨Oc, φ, st, ρ, p, h⟩ => Aft.ok h p.sr (show RepVs C.K Oc φ H [] [] from rfl)
theorem s_cons {es : List Expr} {m : Env → M Val} {n : Env → M (List Val)} (ha : PE X e (tE C m)) (hr : PA X es (tA C n)) (hs : starEach (e :: es) X.env = (false, eval e X.env) :: starEach es X.env) : PA X (e :: es) (tA C (mCons m n)) :=
  imp_a (pa_cons ha hr hs) fun σ H Q ⟨Oc, φ, st, ρ, p, h⟩ => by
    refine ⟨Oc, φ, st, ρ, p, (h.bind (rp := rV C Oc)).mono fun v H1 ⟨φ1, s1, x, s, r, q, k⟩ => ?_⟩
    refine ⟨Oc, φ1, s1, ρ, p.step s r, (k.bind (rp := rVs C Oc)).mono fun u H2 ⟨φ2, s2, y, t, r2, q2, k2⟩ => ?_⟩
    exact Aft.ok k2 r2 (show RepVs C.K Oc φ2 H2 (v :: u) (x :: y) from ⟨v, u, rfl, RepV.step t q, q2⟩)
end

/-! ### data off values -/
theorem datas_cases (st : Store) : ∀ xs : List Val, datas xs st = .bad ∨ ∃ ds, datas xs st = .ok ds st ∧ xs = ds.map .d
  | [] => .inr ⟨[], rfl, rfl⟩
  | .d x :: xs => by
    rcases datas_cases st xs with h | ⟨ds, h, e⟩
    · left
      show M.bind (datas xs) _ st = _
      unfold M.bind
      rw [h]
    · right
      refine ⟨x :: ds, ?_, by rw [e]; rfl⟩
      show M.bind (datas xs) _ st = _
      unfold M.bind
      rw [h]; rfl
  | .loc n :: xs => .inl rfl
  | .exn c ys :: xs => .inl rfl
  | .scr c :: xs => .inl rfl

/-! ### tuples, lists -/
section
variable {X : Cx} {C : Cn} {es : List Expr} {pos : Pos} {m : Env → M (List Val)}
def mTup (m : Env → M (List Val)) : Env → M Val := fun ρ => m ρ >>= fun vs => datas vs >>= fun xs => if xs.length ≤ lineLen then M.pure (.d (.tup xs)) else M.bad
theorem line_eq : lineLen = sizeLine := by rw [sizeLine_eq]; rfl
/-- a new tuple of data -/
theorem new_tup {Oc : Own} {φ : Fi} {H : Hp} {st : Store} {σ : Sl} {vs : List V} {xs : List D} {p : Addr} {Q : VK} (h : Aft C Oc (rV C Oc) (.ok (.d (.tup xs)) st) φ H σ Q) (s : SR C.K Oc φ H st) (r : RepDs C.K (own Oc φ) H vs xs) (hp : H p = none) :
    NewT p vs H Q := fun ob hob =>
  h φ _ _ (Stp.lay hp) (s.lay hp) ⟨p, vs, rfl, .inl ⟨ob, upd_same, hob⟩, RepDs.grow (Stp.lay (φ := φ) hp).grow r⟩
theorem new_lst {Oc : Own} {φ : Fi} {H : Hp} {st : Store} {σ : Sl} {vs : List V} {xs : List D} {p : Addr} {Q : VK} (h : Aft C Oc (rV C Oc) (.ok (.d (.lst xs)) st) φ H σ Q) (s : SR C.K Oc φ H st) (r : RepDs C.K (own Oc φ) H vs xs) (hp : H p = none) :
    Q (.ref p) (upd H p (.lst vs)) :=
  h φ _ _ (Stp.lay hp) (s.lay hp) ⟨p, vs, rfl, fun z => z.elim (fun z => (s.oc p z).1 hp) (fun z => by
    obtain ⟨n, e⟩ := List.mem_iff_getElem?.mp z
    rcases s.there e with ⟨_, q⟩ | ⟨_, q⟩ <;> (rw [hp] at q; cases q)), upd_same, RepDs.grow (Stp.lay (φ := φ) hp).grow r⟩
theorem new_cell {Oc : Own} {φ : Fi} {H : Hp} {st : Store} {σ : Sl} {vs : List V} {xs : List Val} {p : Addr} {Q : VK} (h : Aft C Oc (rV C Oc) (.ok (.loc st.length) (st ++ [.lst xs])) φ H σ Q) (s : SR C.K Oc φ H st) (r : RepVs C.K Oc φ H vs xs) (hp : H p = none) :
    Q (.ref p) (upd H p (.lst vs)) :=
  h _ _ _ (Stp.alloc hp) (s.alloc hp ⟨fun _ z => (by cases z), fun _ _ z => (by cases z)⟩ ⟨vs, upd_same, r.step (Stp.alloc hp)⟩) ⟨by rw [List.length_append, ← s.len]; simp, fun a e => by
    rw [← s.len] at e
    simp at e
    rw [e]⟩
theorem new_list {Oc : Own} {φ : Fi} {H : Hp} {st : Store} {σ : Sl} {vs : List V} {xs : List Val} {p : Addr} {Q : VK} {c : Bool} (h : Aft C Oc (rV C Oc) (mkList c xs st) φ H σ Q) (s : SR C.K Oc φ H st) (r : RepVs C.K Oc φ H vs xs) (hp : H p = none) :
    Q (.ref p) (upd H p (.lst vs)) := by
  cases c with
  | true => exact new_cell h s r hp
  | false =>
    have h' : Aft C Oc (rV C Oc) (M.bind (datas xs) (fun xs => M.pure (.d (.lst xs))) st) φ H σ Q := h
    unfold M.bind at h'
    rcases datas_cases st xs with e | ⟨ds, e, q⟩
    · rw [e] at h'; exact h'.elim
    · rw [e] at h'
      subst q
      exact new_lst h' s r.to_D hp
theorem s_tup {k : Nat} (h : PA X es (tA C m)) : PE X (.Tuple es k pos) (tE C (mTup m)) :=
  imp_e (pe_tupP h) fun σ H Q t => by
    obtain ⟨Oc, φ, st, ρ, p, t⟩ := t
    refine ⟨Oc, φ, st, ρ, p, (t.bind (rp := rVs C Oc)).mono fun vs H1 ⟨φ1, s1, xs, s, r, q, k⟩ => ?_⟩
    have k' : Aft C Oc (rV C Oc) (M.bind (datas xs) (fun xs => if xs.length ≤ lineLen then M.pure (.d (.tup xs)) else M.bad) s1) φ1 H1 σ Q := k
    unfold M.bind at k'
    rcases datas_cases s1 xs with e | ⟨ds, e, z⟩
    · rw [e] at k'; exact k'.elim
    · rw [e] at k'
      subst z
      have q' : RepDs C.K (own Oc φ1) H1 vs ds := RepVs.to_D q
      by_cases hz : ds.length ≤ lineLen
      · have k2 : Aft C Oc (rV C Oc) (.ok (.d (.tup ds)) s1) φ1 H1 σ Q := by
          have k3 := k'
          simp only [if_pos hz] at k3
          exact k3
        exact ⟨by rw [q'.length, ← line_eq]; exact hz, fun p hp => new_tup k2 r q' hp⟩
      · simp only [if_neg hz] at k'
        exact k'.elim
def mLst (c : Bool) (m : Env → M (List Val)) : Env → M Val := fun ρ => m ρ >>= fun vs => if vs.length ≤ lineLen then mkList c vs else M.bad
theorem s_lst {c : Bool} (h : PA X es (tA C m)) : PE X (.List es pos) (tE C (mLst c m)) :=
  imp_e (pe_lst h) fun σ H Q t => by
    obtain ⟨Oc, φ, st, ρ, p, t⟩ := t
    refine ⟨Oc, φ, st, ρ, p, (t.bind (rp := rVs C Oc)).mono fun vs H1 ⟨φ1, s1, xs, s, r, q, k⟩ => ?_⟩
    by_cases hz : xs.length ≤ lineLen
    · simp only [if_pos hz] at k
      exact ⟨by rw [RepVs.length q, ← line_eq]; exact hz, fun p hp => new_list k r q hp⟩
    · simp only [if_neg hz] at k
      exact k.elim
end
end Ev
set_option maxRecDepth 100000
set_option maxHeartbeats 4000000
/-! Ev, part D: operators, comparisons, tests. -/
namespace Ev
open PySem PySem.Spec PyProof.Rows L2

/-! ### what is read off a value -/
section
variable {C : Cn} {Oc : Own} {φ : Fi} {H : Hp} {st : Store} {σ : Sl} {v : V} {x : Val} {β γ : Type} {rq : Fi → Hp → β → γ → Prop} {Q : β → Hp → Prop}
theorem SR.cell {K : PySem.W.Frag} (s : SR K Oc φ H st) {n : Nat} {c : Cell} (hn : n < φ.length) (e : st[n]? = some c) (nd : c ≠ .dead) : ∃ a, φ[n]? = some (some a) ∧ CellAt K Oc φ H a c := by
  obtain ⟨y, hy⟩ : ∃ y, φ[n]? = some y := ⟨φ[n]'hn, by simp [hn]⟩
  cases y with
  | none =>
    have := s.dead n hy
    rw [e] at this
    cases this
    exact absurd rfl nd
  | some a =>
    obtain ⟨c', h1, h2⟩ := s.live n a hy
    rw [e] at h1
    cases h1
    exact ⟨a, hy, h2⟩
theorem listV_ok {f : List Val → M γ} (s : SR C.K Oc φ H st) (r : RepV C.K Oc φ H v x) (h : Aft C Oc rq ((listV x >>= f) st) φ H σ Q) :
    ∃ a vs xs, v = .ref a ∧ H a = some (.lst vs) ∧ RepVs C.K Oc φ H vs xs ∧ Aft C Oc rq (f xs st) φ H σ Q := by
  cases x with
  | d x =>
    cases x with
    | lst xs =>
      obtain ⟨a, vs, e, _, q, z⟩ := (show RepD C.K (own Oc φ) H v (.lst xs) from r)
      exact ⟨a, vs, _, e, q, RepVs.of_D z, h⟩
    | _ => exact h.elim
  | loc n =>
    obtain ⟨hn, ha⟩ := r
    have h' : Aft C Oc rq (M.bind (M.bind (cellAt n) fun c => match c with
      | .lst vs => M.pure vs
      | _ => M.bad) f st) φ H σ Q := h
    unfold M.bind cellAt at h'
    cases e : st[n]? with
    | none => rw [e] at h'; exact h'.elim
    | some c =>
      rw [e] at h'
      cases c with
      | lst xs =>
        obtain ⟨a, q1, vs, q2, q3⟩ := s.cell hn e (fun z => by cases z)
        exact ⟨a, vs, xs, ha a q1, q2, q3, h'⟩
      | _ => exact h'.elim
  | exn c xs => exact h.elim
  | scr ns => exact h.elim
/-- a list or a tuple -/
def SeqAt (K : PySem.W.Frag) (H : Hp) (a : Addr) (vs : List V) : Prop := SqL K H a vs ∨ SqT K H a vs
theorem ints_rep {K : PySem.W.Frag} : ∀ ns : List Int, RepVs K Oc φ H (ns.map V.int) (ns.map fun i => .d (.int i))
  | [] => rfl
  | n :: ns => ⟨_, _, rfl, rfl, ints_rep ns⟩
theorem seqV_ok {f : List Val → M γ} (s : SR C.K Oc φ H st) (r : RepV C.K Oc φ H v x) (h : Aft C Oc rq ((seqV x >>= f) st) φ H σ Q) :
    ∃ a vs xs, v = .ref a ∧ SeqAt C.K H a vs ∧ RepVs C.K Oc φ H vs xs ∧ Aft C Oc rq (f xs st) φ H σ Q := by
  cases x with
  | d x =>
    cases x with
    | lst xs =>
      obtain ⟨a, vs, e, _, q, z⟩ := (show RepD C.K (own Oc φ) H v (.lst xs) from r)
      exact ⟨a, vs, _, e, .inl (SqL.of q), RepVs.of_D z, h⟩
    | tup xs =>
      obtain ⟨a, vs, e, q, z⟩ := (show RepD C.K (own Oc φ) H v (.tup xs) from r)
      exact ⟨a, vs, _, e, .inr q.to, RepVs.of_D z, h⟩
    | _ => exact h.elim
  | loc n =>
    obtain ⟨a, vs, xs, e, q, z, k⟩ := listV_ok (x := .loc n) s r h
    exact ⟨a, vs, xs, e, .inl (SqL.of q), z, k⟩
  | exn c xs => exact h.elim
  | scr ns =>
    obtain ⟨a, e, q⟩ := r
    exact ⟨a, _, _, e, .inl q.of, ints_rep ns, h⟩
theorem intV_ok {f : Int → M γ} (r : RepV C.K Oc φ H v x) (h : Aft C Oc rq ((intV x >>= f) st) φ H σ Q) : ∃ i, v = .int i ∧ Aft C Oc rq (f i st) φ H σ Q := by
  cases x with
  | d x =>
    cases x with
    | int i => exact ⟨i, r, h⟩
    | _ => exact h.elim
  | _ => exact h.elim
theorem strV_ok {f : Str → M γ} (r : RepV C.K Oc φ H v x) (h : Aft C Oc rq ((strV x >>= f) st) φ H σ Q) : ∃ i, v = .str i ∧ Aft C Oc rq (f i st) φ H σ Q := by
  cases x with
  | d x =>
    cases x with
    | str i => exact ⟨i, r, h⟩
    | _ => exact h.elim
  | _ => exact h.elim
theorem boolV_ok {f : Bool → M γ} (r : RepV C.K Oc φ H v x) (h : Aft C Oc rq ((boolV x >>= f) st) φ H σ Q) : ∃ i, v = .bl i ∧ Aft C Oc rq (f i st) φ H σ Q := by
  cases x with
  | d x =>
    cases x with
    | bl i => exact ⟨i, r, h⟩
    | _ => exact h.elim
  | _ => exact h.elim
theorem datas_go {xs : List Val} {f : List D → M γ} (h : Aft C Oc rq ((datas xs >>= f) st) φ H σ Q) : ∃ ds, xs = ds.map .d ∧ Aft C Oc rq (f ds st) φ H σ Q := by
  have h' : Aft C Oc rq (M.bind (datas xs) f st) φ H σ Q := h
  unfold M.bind at h'
  rcases datas_cases st xs with e | ⟨ds, e, z⟩
  · rw [e] at h'; exact h'.elim
  · rw [e] at h'; exact ⟨ds, z, h'⟩
/- data that == goes through -/
mutual
theorem dp_of {K : PySem.W.Frag} {O : Own} : ∀ {d : D} {v : V}, d.flat = true → RepD K O H v d → Dp K H v d.py
  | .non, v, _, h => by cases (show v = .non from h); exact .non
  | .bl b, v, _, h => by cases (show v = .bl b from h); exact .bl b
  | .int b, v, _, h => by cases (show v = .int b from h); exact .int b
  | .str b, v, _, h => by cases (show v = .str b from h); exact .str b
  | .tup xs, v, f, h => by
    simp only [RepD] at h
    simp only [D.flat] at f
    simp only [D.py]
    obtain ⟨a, vs, e, q, r⟩ := h
    subst e
    exact .tup q.to (dps_of f r)
  | .lst xs, v, f, h => by
    simp only [RepD] at h
    simp only [D.flat] at f
    simp only [D.py]
    obtain ⟨a, vs, e, _, q, r⟩ := h
    subst e
    exact .lst (SqL.of q) (dps_of f r)
  | .dct m, v, f, h => by
    simp only [D.flat] at f
    cases f
theorem dps_of {K : PySem.W.Frag} {O : Own} : ∀ {ds : List D} {vs : List V}, D.flats ds = true → RepDs K O H vs ds → DpAll K H vs (D.pys ds)
  | [], vs, _, h => by cases (show vs = [] from h); exact .nil
  | d :: ds, vs, f, h => by
    simp only [RepDs] at h
    simp only [D.flats, Bool.and_eq_true] at f
    obtain ⟨v, r, e, h1, h2⟩ := h
    subst e
    exact .cons (dp_of f.1 h1) (dps_of f.2 h2)
end
theorem dataV_ok {f : D → M γ} (s : SR C.K Oc φ H st) (r : RepV C.K Oc φ H v x) (h : Aft C Oc rq ((dataV x >>= f) st) φ H σ Q) :
    ∃ d, (d.flat = true → Dp C.K H v d.py) ∧ Aft C Oc rq (f d st) φ H σ Q := by
  cases x with
  | d x => exact ⟨x, fun fl => dp_of fl r, h⟩
  | loc n =>
    obtain ⟨hn, ha⟩ := r
    have h' : Aft C Oc rq (M.bind (M.bind (cellAt n) fun c => match c with
      | .lst vs => do let xs ← datas vs; M.pure (.lst xs)
      | _ => M.bad) f st) φ H σ Q := h
    unfold M.bind cellAt at h'
    cases e : st[n]? with
    | none => rw [e] at h'; exact h'.elim
    | some c =>
      rw [e] at h'
      cases c with
      | lst xs =>
        obtain ⟨a, q1, vs, q2, q3⟩ := s.cell hn e (fun z => by cases z)
        have h2 : Aft C Oc rq (M.bind (M.bind (datas xs) fun xs => M.pure (.lst xs)) f st) φ H σ Q := h'
        unfold M.bind at h2
        rcases datas_cases st xs with e | ⟨ds, e, z⟩
        · rw [e] at h2; exact h2.elim
        · rw [e] at h2
          subst z
          refine ⟨.lst ds, fun fl => ?_, h2⟩
          simp only [D.flat] at fl
          simp only [D.py]
          rw [ha a q1]
          exact .lst (SqL.of q2) (dps_of fl (RepVs.to_D q3))
      | _ => exact h'.elim
  | exn c xs => exact h.elim
  | scr ns => exact h.elim
end

/-! ### == as PyData has it -/
mutual
theorem deq_py : ∀ {d e : D}, d.flat = true → e.flat = true → deq d e = PyData.eqv d.py e.py
  | .non, e, _, fe => by cases e <;> first | rfl | (simp only [D.flat] at fe; cases fe)
  | .bl b, e, _, fe => by cases e <;> first | rfl | (simp only [D.flat] at fe; cases fe)
  | .int b, e, _, fe => by cases e <;> first | rfl | (simp only [D.flat] at fe; cases fe)
  | .str b, e, _, fe => by cases e <;> first | rfl | (simp only [D.flat] at fe; cases fe)
  | .tup xs, e, f, fe => by
    cases e with
    | tup ys =>
      simp only [D.flat] at f fe
      simp only [deq, D.py, PyData.eqv]
      exact deqs_py f fe
    | dct => simp only [D.flat] at fe; cases fe
    | _ => rfl
  | .lst xs, e, f, fe => by
    cases e with
    | lst ys =>
      simp only [D.flat] at f fe
      simp only [deq, D.py, PyData.eqv]
      exact deqs_py f fe
    | dct => simp only [D.flat] at fe; cases fe
    | _ => rfl
  | .dct m, e, f, _ => by
    simp only [D.flat] at f
    cases f
theorem deqs_py : ∀ {d e : List D}, D.flats d = true → D.flats e = true → deqs d e = PyData.eqvAll (D.pys d) (D.pys e)
  | [], e, _, fe => by cases e <;> rfl
  | x :: xs, e, f, fe => by
    cases e with
    | nil => rfl
    | cons y ys =>
      simp only [D.flats, Bool.and_eq_true] at f fe
      simp only [deqs, D.pys, PyData.eqvAll]
      rw [deq_py f.1 fe.1, deqs_py f.2 fe.2]
end
mutual
theorem canLay_of : ∀ {d : D}, d.flat = true → d.py.canLay0 = true
  | .non, _ => by simp only [D.py, PyData.canLay0]
  | .bl b, _ => by simp only [D.py, PyData.canLay0]
  | .int b, _ => by simp only [D.py, PyData.canLay0]
  | .str b, h => by simpa only [D.py, PyData.canLay0, D.flat] using h
  | .tup xs, h => by
    simp only [D.flat] at h
    simp only [D.py, PyData.canLay0]
    exact canLays_of h
  | .lst xs, h => by
    simp only [D.flat] at h
    simp only [D.py, PyData.canLay0]
    exact canLays_of h
  | .dct m, h => by
    simp only [D.flat] at h
    cases h
theorem canLays_of : ∀ {d : List D}, D.flats d = true → PyData.canLayAll0 (D.pys d) = true
  | [], _ => by simp only [D.pys, PyData.canLayAll0]
  | x :: xs, h => by
    simp only [D.flats, Bool.and_eq_true] at h
    simp only [D.pys, PyData.canLayAll0, canLay_of h.1, canLays_of h.2, Bool.and_self]
end
mutual
theorem depth_py : ∀ {d : D}, d.flat = true → d.py.depth = d.depth
  | .non, _ => by simp only [D.py, PyData.depth, D.depth]
  | .bl b, _ => by simp only [D.py, PyData.depth, D.depth]
  | .int b, _ => by simp only [D.py, PyData.depth, D.depth]
  | .str b, _ => by simp only [D.py, PyData.depth, D.depth]
  | .tup xs, h => by
    simp only [D.flat] at h
    simp only [D.py, PyData.depth, D.depth, depths_py h]
  | .lst xs, h => by
    simp only [D.flat] at h
    simp only [D.py, PyData.depth, D.depth, depths_py h]
  | .dct m, h => by
    simp only [D.flat] at h
    cases h
theorem depths_py : ∀ {d : List D}, D.flats d = true → PyData.depthAll (D.pys d) = D.depths d
  | [], _ => by simp only [D.pys, PyData.depthAll, D.depths]
  | x :: xs, h => by
    simp only [D.flats, Bool.and_eq_true] at h
    simp only [D.pys, PyData.depthAll, D.depths, depth_py h.1, depths_py h.2]
end
end Ev
set_option maxRecDepth 100000
set_option maxHeartbeats 4000000
/-! Ev, part E: operators, comparisons, tests: the rules. -/
namespace Ev
open PySem PySem.Spec PyProof.Rows L2

section
variable {X : Cx}
/-! ### == and in over data, as deep as there is room -/
def rEqX (K : PySem.W.Frag) (ne : Bool) : R2 := fun x y H Q => ∃ d e, Dp K H x d ∧ Dp K H y e ∧ d.canLay0 = true ∧ e.canLay0 = true ∧ min d.depth e.depth ≤ mostDepth ∧ Q (.bl (ne != PyData.eqv d e)) H
theorem op_eqX (hu : X.A.units + 1100 < cLine) : OpR X (compareOp .Eq) (rEqX X.K false) := by
  intro pins s σ H x y v u Q I rx ry ⟨d, e, hd, he, sd, se, hm, q⟩
  obtain ⟨as, r1⟩ := Dp.reads I d x v hd rx
  obtain ⟨bs, r2⟩ := Dp.reads I e y u he ry
  have hm' : min d.depth e.depth ≤ 1000 := hm
  refine SeqAt.compareEq_reads r1 r2 sd se (by omega) ⟨.bl _, H, I, rfl, ?_⟩
  simpa using q
theorem op_neX (hu : X.A.units + 1100 < cLine) : OpR X (compareOp .NotEq) (rEqX X.K true) := by
  intro pins s σ H x y v u Q I rx ry ⟨d, e, hd, he, sd, se, hm, q⟩
  obtain ⟨as, r1⟩ := Dp.reads I d x v hd rx
  obtain ⟨bs, r2⟩ := Dp.reads I e y u he ry
  have hm' : min d.depth e.depth ≤ 1000 := hm
  refine SeqAt.compareNe_reads r1 r2 sd se (by omega) ⟨.bl _, H, I, rfl, ?_⟩
  have z : (true != PyData.eqv d e) = !PyData.eqv d e := by cases PyData.eqv d e <;> rfl
  rw [← z]
  exact q
def rInX (K : PySem.W.Frag) (ne : Bool) : R2 := fun x y H Q => ∃ d ds, Dp K H x d ∧ (Dp K H y (.list ds) ∨ Dp K H y (.tuple ds)) ∧ d.canLay0 = true ∧ PyData.canLayAll0 ds = true ∧ d.depth ≤ mostDepth ∧ Q (.bl (ne != ds.any fun z => PyData.eqv z d)) H
theorem op_inX (hu : X.A.units + 1100 < cLine) : OpR X (compareOp .In) (rInX X.K false) := by
  intro pins s σ H x y v u Q I rx ry ⟨d, ds, hd, he, sd, se, hm, q⟩
  obtain ⟨as, r1⟩ := Dp.reads I d x v hd rx
  have hm' : d.depth ≤ 1000 := hm
  have q' : Q (.bl (ds.any fun z => PyData.eqv z d)) H := by simpa using q
  rcases he with he | he
  · obtain ⟨bs, r2⟩ := Dp.reads I (.list ds) y u he ry
    exact SeqAt.in_list_reads r2 r1 se sd (by omega) ⟨.bl _, H, I, rfl, q'⟩
  · obtain ⟨bs, r2⟩ := Dp.reads I (.tuple ds) y u he ry
    exact SeqAt.in_tuple_reads r2 r1 se sd (by omega) ⟨.bl _, H, I, rfl, q'⟩
theorem op_notinX (hu : X.A.units + 1100 < cLine) : OpR X (compareOp .NotIn) (rInX X.K true) := by
  intro pins s σ H x y v u Q I rx ry ⟨d, ds, hd, he, sd, se, hm, q⟩
  obtain ⟨as, r1⟩ := Dp.reads I d x v hd rx
  have hm' : d.depth ≤ 1000 := hm
  have z : (true != ds.any fun z => PyData.eqv z d) = !ds.any fun z => PyData.eqv z d := by cases (ds.any fun z => PyData.eqv z d) <;> rfl
  rw [z] at q
  rcases he with he | he
  · obtain ⟨bs, r2⟩ := Dp.reads I (.list ds) y u he ry
    exact SeqAt.notIn_list_reads r2 r1 se sd (by omega) ⟨.bl _, H, I, rfl, q⟩
  · obtain ⟨bs, r2⟩ := Dp.reads I (.tuple ds) y u he ry
    exact SeqAt.notIn_tuple_reads r2 r1 se sd (by omega) ⟨.bl _, H, I, rfl, q⟩
end

section
variable {X : Cx} {C : Cn} {a b c : Expr} {pos : Pos} {m n l : Env → M Val}

/-! ### arithmetic -/
def mBin (o : Bn) (m n : Env → M Val) : Env → M Val := fun ρ => m ρ >>= fun x => n ρ >>= fun y => binV o x y
def Bn.op : Bn → Operator
  | .add => .Add
  | .sub => .Sub
  | .mul => .Mult
  | .fdiv => .FloorDiv
  | .mod => .Mod
  | .pow => .Pow
abbrev rAddA (K : PySem.W.Frag) : R2 := fun x y H Q => rI0 (fun i j => .int (i + j)) x y H Q ∨ ((∃ i j, x = .str i ∧ y = .str j ∧ i.length + j.length ≤ sizeLine ∧ Q (.str (i ++ j)) H) ∨ (rCatP K x y H Q ∨ rCat x y H Q))
theorem op_addA : OpR X (binaryOp .Add) (rAddA X.K) := OpR.or op_add (OpR.or op_add_str (OpR.or op_catP op_cat))

section
variable {Oc : Own} {φ : Fi} {H : Hp} {st : Store} {σ : Sl} {v u : V} {x y : Val} {Q : VK}
theorem add_ok (s : SR C.K Oc φ H st) (r : RepV C.K Oc φ H v x) (r' : RepV C.K Oc φ H u y) (h : Aft C Oc (rV C Oc) (binV .add x y st) φ H σ Q) : rAddA C.K v u H Q := by
  have lists : Aft C Oc (rV C Oc) ((listV x >>= fun a => listV y >>= fun b => if a.length + b.length ≤ lineLen then mkList false (a ++ b) else M.bad) st) φ H σ Q → rAddA C.K v u H Q := fun h => by
    obtain ⟨p, vs, xs, e1, q1, z1, h⟩ := listV_ok s r h
    obtain ⟨p', vs', xs', e2, q2, z2, h⟩ := listV_ok s r' h
    by_cases hz : xs.length + xs'.length ≤ lineLen
    · rw [if_pos hz] at h
      refine .inr (.inr (.inr ⟨p, p', vs, vs', e1, e2, q1, q2, by rw [z1.length, z2.length, ← line_eq]; exact hz, fun a ha => new_list h s (z1.append z2) ha⟩))
    · rw [if_neg hz] at h
      exact h.elim
  cases x with
  | d x =>
    cases y with
    | d y =>
      cases x with
      | int i =>
        cases y with
        | int j => exact .inl ⟨i, j, r, r', Aft.ok h s (show RepV C.K Oc φ H (.int (i + j)) (.d (.int (i + j))) from rfl)⟩
        | _ => exact lists h
      | str i =>
        cases y with
        | str j =>
          have h' : Aft C Oc (rV C Oc) ((if i.length + j.length ≤ lineLen then M.pure (.d (.str (i ++ j))) else M.bad : M Val) st) φ H σ Q := h
          by_cases hz : i.length + j.length ≤ lineLen
          · rw [if_pos hz] at h'
            exact .inr (.inl ⟨i, j, r, r', by rw [← line_eq]; exact hz, Aft.ok h' s (show RepV C.K Oc φ H (.str (i ++ j)) (.d (.str (i ++ j))) from rfl)⟩)
          · rw [if_neg hz] at h'
            exact h'.elim
        | _ => exact lists h
      | tup xs =>
        cases y with
        | tup ys =>
          have h' : Aft C Oc (rV C Oc) ((if xs.length + ys.length ≤ lineLen then M.pure (.d (.tup (xs ++ ys))) else M.bad : M Val) st) φ H σ Q := h
          obtain ⟨p, vs, e1, q1, z1⟩ := (show RepD C.K (own Oc φ) H v (.tup xs) from r)
          obtain ⟨p', vs', e2, q2, z2⟩ := (show RepD C.K (own Oc φ) H u (.tup ys) from r')
          by_cases hz : xs.length + ys.length ≤ lineLen
          · rw [if_pos hz] at h'
            refine .inr (.inr (.inl ⟨p, p', vs, vs', e1, e2, q1.to, q2.to, by rw [z1.length, z2.length, ← line_eq]; exact hz, fun e => ?_, fun _ e => ?_, fun _ _ a ha => ?_⟩))
            · have ex : xs = [] := by
                have := z1.length
                rw [e] at this
                exact List.length_eq_zero_iff.mp this.symm
              subst ex
              exact Aft.ok h' s (show RepV C.K Oc φ H (.ref p') (.d (.tup ([] ++ ys))) from ⟨p', vs', rfl, q2, z2⟩)
            · have ey : ys = [] := by
                have := z2.length
                rw [e] at this
                exact List.length_eq_zero_iff.mp this.symm
              subst ey
              rw [List.append_nil] at h'
              exact Aft.ok h' s (show RepV C.K Oc φ H (.ref p) (.d (.tup xs)) from ⟨p, vs, rfl, q1, z1⟩)
            · refine new_tup h' s ?_ ha
              have := (RepVs.of_D z1).append (RepVs.of_D z2)
              rw [← List.map_append] at this
              exact this.to_D
          · rw [if_neg hz] at h'
            exact h'.elim
        | _ => exact lists h
      | _ => cases y <;> exact lists h
    | _ => cases x <;> exact lists h
  | _ => exact lists h
theorem int2 {o : Bn} (ho : o ≠ .add) (ho2 : o ≠ .mul) (r : RepV C.K Oc φ H v x) (r' : RepV C.K Oc φ H u y) (h : Aft C Oc (rV C Oc) (binV o x y st) φ H σ Q) : ∃ i j, v = .int i ∧ u = .int j ∧ Aft C Oc (rV C Oc) (binI o i j st) φ H σ Q := by
  cases x with
  | d x =>
    cases y with
    | d y =>
      cases x with
      | int i =>
        cases y with
        | int j => exact ⟨i, j, r, r', h⟩
        | _ => cases o <;> first | exact absurd rfl ho | exact absurd rfl ho2 | exact h.elim
      | _ => cases y <;> (cases o <;> first | exact absurd rfl ho | exact absurd rfl ho2 | exact h.elim)
    | _ => cases x <;> (cases o <;> first | exact absurd rfl ho | exact absurd rfl ho2 | exact h.elim)
  | _ => cases o <;> first | exact absurd rfl ho | exact absurd rfl ho2 | exact h.elim
/-- a product of two whole numbers (a tuple's repetition is no meaning here yet) -/
theorem mul2 (r : RepV C.K Oc φ H v x) (r' : RepV C.K Oc φ H u y) (h : Aft C Oc (rV C Oc) (binV .mul x y st) φ H σ Q) : (∃ i j, v = .int i ∧ u = .int j ∧ Aft C Oc (rV C Oc) (binI .mul i j st) φ H σ Q) := by
  cases x with
  | d x =>
    cases y with
    | d y =>
      cases x with
      | int i =>
        cases y with
        | int j => exact ⟨i, j, r, r', h⟩
        | _ => exact h.elim
      | _ => cases y <;> exact h.elim
    | _ => cases x <;> exact h.elim
  | _ => exact h.elim
end
theorem s_bin (hK : C.K = X.K) {o : Bn} (ha : PE X a (tE C m)) (hb : PE X b (tE C n)) : PE X (.BinOp a o.op b pos) (tE C (mBin o m n)) := by
  have red : ∀ {r : R2}, OpR X (binaryOp o.op) r → (∀ Oc φ H st σ v u x y Q, SR C.K Oc φ H st → RepV C.K Oc φ H v x → RepV C.K Oc φ H u y → Aft C Oc (rV C Oc) (binV o x y st) φ H σ Q → r v u H Q) → PE X (.BinOp a o.op b pos) (tE C (mBin o m n)) := fun {r} ho k =>
    imp_e (pe_op ho ha hb) fun σ H Q t => by
      obtain ⟨Oc, φ, st, ρ, p, t⟩ := tM.two (rp := rV C) t
      refine ⟨Oc, φ, st, ρ, p, t.mono fun v H1 t => ?_⟩
      obtain ⟨Oc, φ, st, ρ, p, t⟩ := t
      exact ⟨Oc, φ, st, ρ, p, t.mono fun u H2 ⟨Oc, φ, st, ρ, x, y, p, r, r', h⟩ => k Oc φ H2 st σ v u x y Q p.sr r r' h⟩
  cases o with
  | add =>
      refine red op_addA ?_
      intro Oc φ H st σ v u x y Q s r r' h
      rw [← hK]; exact add_ok s r r' h
  | sub =>
      refine red op_sub ?_
      intro Oc φ H st σ v u x y Q s r r' h
      obtain ⟨i, j, e1, e2, h⟩ := int2 (fun z => by cases z) (fun z => by cases z) r r' h
      exact ⟨i, j, e1, e2, Aft.ok h s (show RepV C.K Oc φ H (.int (i - j)) (.d (.int (i - j))) from rfl)⟩
  | mul =>
      refine red op_mul ?_
      intro Oc φ H st σ v u x y Q s r r' h
      obtain ⟨i, j, e1, e2, h⟩ := mul2 r r' h
      have h' : Aft C Oc (rV C Oc) ((if mulOk i j then M.pure (.d (.int (i * j))) else M.bad : M Val) st) φ H σ Q := h
      by_cases hz : mulOk i j = true
      · rw [if_pos hz] at h'
        refine ⟨i, j, e1, e2, ?_, Aft.ok h' s (show RepV C.K Oc φ H (.int (i * j)) (.d (.int (i * j))) from rfl)⟩
        unfold mulOk at hz
        simp only [Bool.or_eq_true, decide_eq_true_eq] at hz
        rcases hz with z | z
        · exact .inl (by omega)
        · exact .inr (by omega)
      · rw [if_neg hz] at h'
        exact h'.elim
  | fdiv =>
      refine red op_fdivN ?_
      intro Oc φ H st σ v u x y Q s r r' h
      obtain ⟨i, j, e1, e2, h⟩ := int2 (fun z => by cases z) (fun z => by cases z) r r' h
      have h' : Aft C Oc (rV C Oc) ((if j ≠ 0 ∧ j.natAbs < 1073741824 then M.pure (.d (.int (i.fdiv j))) else M.bad : M Val) st) φ H σ Q := h
      by_cases hz : j ≠ 0 ∧ j.natAbs < 1073741824
      · rw [if_pos hz] at h'
        exact ⟨i, j, e1, e2, hz, Aft.ok h' s (show RepV C.K Oc φ H (.int (i.fdiv j)) (.d (.int (i.fdiv j))) from rfl)⟩
      · rw [if_neg hz] at h'
        exact h'.elim
  | mod =>
      refine red op_modN ?_
      intro Oc φ H st σ v u x y Q s r r' h
      obtain ⟨i, j, e1, e2, h⟩ := int2 (fun z => by cases z) (fun z => by cases z) r r' h
      have h' : Aft C Oc (rV C Oc) ((if j ≠ 0 then M.pure (.d (.int (i.fmod j))) else M.bad : M Val) st) φ H σ Q := h
      by_cases hz : j ≠ 0
      · rw [if_pos hz] at h'
        exact ⟨i, j, e1, e2, hz, Aft.ok h' s (show RepV C.K Oc φ H (.int (i.fmod j)) (.d (.int (i.fmod j))) from rfl)⟩
      · rw [if_neg hz] at h'
        exact h'.elim
  | pow =>
      refine red op_pow ?_
      intro Oc φ H st σ v u x y Q s r r' h
      obtain ⟨i, j, e1, e2, h⟩ := int2 (fun z => by cases z) (fun z => by cases z) r r' h
      have h' : Aft C Oc (rV C Oc) ((if 0 ≤ j ∧ j ≤ 1000000 ∧ i.natAbs < 2 ^ 64 then M.pure (.d (.int (i ^ j.toNat))) else M.bad : M Val) st) φ H σ Q := h
      by_cases hz : 0 ≤ j ∧ j ≤ 1000000 ∧ i.natAbs < 2 ^ 64
      · rw [if_pos hz] at h'
        exact ⟨i, j, e1, e2, hz, Aft.ok h' s (show RepV C.K Oc φ H (.int (i ^ j.toNat)) (.d (.int (i ^ j.toNat))) from rfl)⟩
      · rw [if_neg hz] at h'
        exact h'.elim
def mNeg (m : Env → M Val) : Env → M Val := fun ρ => m ρ >>= fun x => intV x >>= fun i => M.pure (.d (.int (-i)))
theorem s_neg (ha : PE X a (tE C m)) : PE X (.UnaryOp .USub a pos) (tE C (mNeg m)) :=
  imp_e (pe_un un_neg ha) fun σ H Q t => by
    obtain ⟨Oc, φ, st, ρ, p, t⟩ := tM.one (rp := rV C) t
    refine ⟨Oc, φ, st, ρ, p, t.mono fun v H1 ⟨Oc, φ, st, ρ, x, p, r, h⟩ => ?_⟩
    obtain ⟨i, e, h⟩ := intV_ok r h
    exact ⟨i, e, Aft.ok h p.sr (show RepV C.K Oc φ H1 (.int (-i)) (.d (.int (-i))) from rfl)⟩
end
end Ev
set_option maxRecDepth 100000
set_option maxHeartbeats 4000000
/-! Ev, part F: comparisons, truth, and, or, not, if. -/
namespace Ev
open PySem PySem.Spec PyProof.Rows L2

theorem anyPy : ∀ {a : D} {bs : List D}, a.flat = true → D.flats bs = true → ((D.pys bs).any fun z => PyData.eqv z a.py) = memD a bs
  | a, [], _, _ => rfl
  | a, b :: bs, ha, hb => by
    simp only [D.flats, Bool.and_eq_true] at hb
    simp only [D.pys, List.any_cons, memD]
    rw [anyPy ha hb.2, deq_py hb.1 ha]
theorem flats_all : ∀ {bs : List D}, bs.all D.fit = true → D.flats bs = true
  | [], _ => by simp only [D.flats]
  | b :: bs, h => by
    simp only [List.all_cons, Bool.and_eq_true] at h
    simp only [D.flats]
    rw [flats_all h.2]
    have := h.1
    unfold D.fit at this
    simp only [Bool.and_eq_true] at this
    rw [this.1]; rfl
theorem fit_flat {d : D} (h : d.fit = true) : d.flat = true := by
  unfold D.fit at h
  simp only [Bool.and_eq_true] at h
  exact h.1
theorem fit_depth {d : D} (h : d.fit = true) : d.py.depth ≤ mostDepth := by
  rw [depth_py (fit_flat h)]
  unfold D.fit at h
  simp only [Bool.and_eq_true, decide_eq_true_eq] at h
  exact h.2

section
variable {X : Cx} {C : Cn} {a b c : Expr} {pos : Pos} {m n l : Env → M Val}
def Cm.op : Cm → CmpOp
  | .eq => .Eq
  | .ne => .NotEq
  | .lt => .Lt
  | .le => .LtE
  | .gt => .Gt
  | .ge => .GtE
  | .isin => .In
  | .notin => .NotIn
  | .is_ => .Is
  | .isnot => .IsNot

theorem M.assoc {α β γ : Type} (m : M α) (f : α → M β) (g : β → M γ) : (m >>= f) >>= g = m >>= fun a => f a >>= g := by
  funext s
  show M.bind (M.bind m f) g s = M.bind m (fun a => M.bind (f a) g) s
  unfold M.bind
  cases m s <;> rfl
section
variable {Oc : Own} {φ : Fi} {H : Hp} {st : Store} {σ : Sl} {v u : V} {x y : Val} {β : Type} {rq : Fi → Hp → β → Bool → Prop}
theorem eq_ok {Q : VK} {g : Bool → M Val} (s : SR C.K Oc φ H st) (r : RepV C.K Oc φ H v x) (r' : RepV C.K Oc φ H u y) (h : Aft C Oc (rV C Oc) ((eqV x y >>= g) st) φ H σ Q) :
    ∃ d e, Dp C.K H v d ∧ Dp C.K H u e ∧ d.canLay0 = true ∧ e.canLay0 = true ∧ min d.depth e.depth ≤ mostDepth ∧ Aft C Oc (rV C Oc) (g (PyData.eqv d e) st) φ H σ Q := by
  unfold eqV at h
  rw [M.assoc] at h
  obtain ⟨d, hd, h'⟩ := dataV_ok s r h
  rw [M.assoc] at h'
  obtain ⟨e, he, h'⟩ := dataV_ok s r' h'
  by_cases hz : d.fit ∧ e.fit
  · rw [if_pos hz] at h'
    refine ⟨d.py, e.py, hd (fit_flat hz.1), he (fit_flat hz.2), canLay_of (fit_flat hz.1), canLay_of (fit_flat hz.2), Nat.le_trans (Nat.min_le_left _ _) (fit_depth hz.1), ?_⟩
    rw [← deq_py (fit_flat hz.1) (fit_flat hz.2)]
    exact h'
  · rw [if_neg hz] at h'
    exact h'.elim
end

def mCmp (o : Cm) (m n : Env → M Val) : Env → M Val := fun ρ => m ρ >>= fun x => n ρ >>= fun y => cmpV o x y >>= fun b => M.pure (.d (.bl b))
theorem aft_bl {Oc : Own} {φ : Fi} {H : Hp} {st : Store} {σ : Sl} {Q : VK} {b : Bool} (h : Aft C Oc (rV C Oc) ((M.pure (.d (.bl b)) : M Val) st) φ H σ Q) (s : SR C.K Oc φ H st) : Q (.bl b) H := Aft.ok h s (show RepV C.K Oc φ H (.bl b) (.d (.bl b)) from rfl)
/-- in: data in a list or tuple of data; one sign in a text -/
abbrev rInAll (K : PySem.W.Frag) (ne : Bool) : R2 := fun x y H Q => rInX K ne x y H Q ∨ ∃ (c : Nat) (z : Str), x = .str ⟨#[c]⟩ ∧ y = .str z ∧ Q (.bl (ne != decide (c ∈ z.cps.toList))) H
theorem op_inAll (hu : X.A.units + 1100 < cLine) : OpR X (compareOp .In) (rInAll X.K false) := OpR.or (op_inX hu) (fun pins s σ H x y v u Q I rx ry ⟨c, z, e1, e2, q⟩ => op_in_sign pins s σ H x y v u Q I rx ry ⟨c, z, e1, e2, by simpa using q⟩)
theorem op_notinAll (hu : X.A.units + 1100 < cLine) : OpR X (compareOp .NotIn) (rInAll X.K true) := OpR.or (op_notinX hu) (fun pins s σ H x y v u Q I rx ry ⟨c, z, e1, e2, q⟩ => op_notIn_sign pins s σ H x y v u Q I rx ry ⟨c, z, e1, e2, by
  have e : (true != decide (c ∈ z.cps.toList)) = !decide (c ∈ z.cps.toList) := by cases decide (c ∈ z.cps.toList) <;> rfl
  rw [← e]; exact q⟩)
def isK : V → Is
  | .non => .no
  | .bl b => if b then .tr else .fa
  | _ => .tru
def plainV : V → Bool
  | .non => true
  | .bl _ => true
  | .int _ => true
  | .str _ => true
  | .ref _ => true
  | _ => false
def rIsAll (ne : Bool) : R2 := fun x y H Q => plainV x = true ∧ ∃ k, ((y = .non ∧ k = .no) ∨ ∃ c, y = .bl c ∧ k = if c then Is.tr else .fa) ∧ Q (.bl (ne != (isK x == k))) H
theorem op_isAll : OpR X (compareOp .Is) (rIsAll false) := by
  intro pins s σ H x y v u Q I rx ry ⟨hp, k, hk, q⟩
  rcases hk with ⟨e, ek⟩ | ⟨c, e, ek⟩
  · subst e ek
    refine op_isN pins s σ H x .non v u Q I rx ry ⟨rfl, ?_⟩
    cases x <;> first | exact q | (rename_i b; cases b <;> exact q) | cases hp
  · subst e ek
    cases (show u = Value.bool c from ry)
    cases x with
    | bl b =>
      refine op_is_bl pins s σ H (.bl b) (.bl c) v _ Q I rx rfl ⟨b, c, rfl, rfl, ?_⟩
      cases b <;> cases c <;> exact q
    | non =>
      cases (show v = Value.none from rx)
      refine wpAny_is_other rfl (fun z => by cases z) ⟨.bl false, H, I, rfl, ?_⟩
      cases c <;> exact q
    | int i =>
      obtain ⟨t, rfl⟩ := (show ∃ t, v = Value.int i t from rx)
      refine wpAny_is_other rfl (fun z => by cases z) ⟨.bl false, H, I, rfl, ?_⟩
      cases c <;> exact q
    | str i =>
      obtain ⟨t, rfl⟩ := (show ∃ t, v = Value.str i t from rx)
      refine wpAny_is_other rfl (fun z => by cases z) ⟨.bl false, H, I, rfl, ?_⟩
      cases c <;> exact q
    | ref a =>
      cases (show v = Value.ref a from rx)
      refine wpAny_is_other rfl (fun z => by cases z) ⟨.bl false, H, I, rfl, ?_⟩
      cases c <;> exact q
    | byt => cases hp
    | flt => cases hp
    | ty => cases hp
theorem op_isnotAll : OpR X (compareOp .IsNot) (rIsAll true) := by
  intro pins s σ H x y v u Q I rx ry ⟨hp, k, hk, q⟩
  rcases hk with ⟨e, ek⟩ | ⟨c, e, ek⟩
  · subst e ek
    refine op_notN pins s σ H x .non v u Q I rx ry ⟨rfl, ?_⟩
    cases x <;> first | exact q | (rename_i b; cases b <;> exact q) | cases hp
  · subst e ek
    cases (show u = Value.bool c from ry)
    cases x with
    | bl b =>
      refine op_isnot_bl pins s σ H (.bl b) (.bl c) v _ Q I rx rfl ⟨b, c, rfl, rfl, ?_⟩
      cases b <;> cases c <;> exact q
    | non =>
      cases (show v = Value.none from rx)
      refine wpAny_isNot_other rfl (fun z => by cases z) ⟨.bl true, H, I, rfl, ?_⟩
      cases c <;> exact q
    | int i =>
      obtain ⟨t, rfl⟩ := (show ∃ t, v = Value.int i t from rx)
      refine wpAny_isNot_other rfl (fun z => by cases z) ⟨.bl true, H, I, rfl, ?_⟩
      cases c <;> exact q
    | str i =>
      obtain ⟨t, rfl⟩ := (show ∃ t, v = Value.str i t from rx)
      refine wpAny_isNot_other rfl (fun z => by cases z) ⟨.bl true, H, I, rfl, ?_⟩
      cases c <;> exact q
    | ref a =>
      cases (show v = Value.ref a from rx)
      refine wpAny_isNot_other rfl (fun z => by cases z) ⟨.bl true, H, I, rfl, ?_⟩
      cases c <;> exact q
    | byt => cases hp
    | flt => cases hp
    | ty => cases hp
def rCm (K : PySem.W.Frag) : Cm → R2
  | .eq => rEqX K false
  | .ne => rEqX K true
  | .lt => rI0 fun i j => .bl (decide (i < j))
  | .le => rI0 fun i j => .bl (decide (i ≤ j))
  | .gt => rI0 fun i j => .bl (decide (j < i))
  | .ge => rI0 fun i j => .bl (decide (j ≤ i))
  | .isin => rInAll K false
  | .notin => rInAll K true
  | .is_ => rIsAll false
  | .isnot => rIsAll true
theorem op_cm (hu : X.A.units + 1100 < cLine) (o : Cm) : OpR X (compareOp o.op) (rCm X.K o) := by
  cases o with
  | eq => exact op_eqX hu
  | ne => exact op_neX hu
  | lt => exact op_lt
  | le => exact op_le
  | gt => exact op_gt
  | ge => exact op_ge
  | isin => exact op_inAll hu
  | notin => exact op_notinAll hu
  | is_ => exact op_isAll
  | isnot => exact op_isnotAll
section
variable {Oc : Own} {φ : Fi} {H : Hp} {st : Store} {σ : Sl} {v u : V} {x y : Val} {Q : VK}
theorem isOf_ok {g : Is → M Val} (s : SR C.K Oc φ H st) (r : RepV C.K Oc φ H v x) (h : Aft C Oc (rV C Oc) ((isOf x >>= g) st) φ H σ Q) : plainV v = true ∧ Aft C Oc (rV C Oc) (g (isK v) st) φ H σ Q := by
  cases x with
  | d x =>
    cases x with
    | non => cases (show v = .non from r); exact ⟨rfl, h⟩
    | bl b => cases (show v = .bl b from r); exact ⟨rfl, h⟩
    | int b => cases (show v = .int b from r); exact ⟨rfl, h⟩
    | str b => cases (show v = .str b from r); exact ⟨rfl, h⟩
    | tup xs => obtain ⟨a, vs, e, _⟩ := (show RepD C.K (own Oc φ) H v (.tup xs) from r); subst e; exact ⟨rfl, h⟩
    | lst xs => obtain ⟨a, vs, e, _⟩ := (show RepD C.K (own Oc φ) H v (.lst xs) from r); subst e; exact ⟨rfl, h⟩
    | dct xs => obtain ⟨a, vs, e, _⟩ := (show RepD C.K (own Oc φ) H v (.dct xs) from r); subst e; exact ⟨rfl, h⟩
  | loc n =>
    obtain ⟨hn, ha⟩ := r
    have h' := h
    unfold isOf at h'
    rw [M.assoc] at h'
    change Aft C Oc (rV C Oc) (M.bind (cellAt n) _ st) φ H σ Q at h'
    unfold M.bind cellAt at h'
    cases e : st[n]? with
    | none => rw [e] at h'; exact h'.elim
    | some c =>
      rw [e] at h'
      cases c with
      | dead => exact h'.elim
      | _ =>
        obtain ⟨a, q1, _⟩ := s.cell hn e (fun z => by cases z)
        rw [ha a q1]
        exact ⟨rfl, h'⟩
  | exn c xs => exact h.elim
  | scr ns => obtain ⟨a, e, _⟩ := r; subst e; exact ⟨rfl, h⟩
theorem is_ok {g : Bool → M Val} (s : SR C.K Oc φ H st) (r : RepV C.K Oc φ H v x) (r' : RepV C.K Oc φ H u y) (h : Aft C Oc (rV C Oc) ((isV x y >>= g) st) φ H σ Q) :
    plainV v = true ∧ ∃ k, ((u = .non ∧ k = .no) ∨ ∃ c, u = .bl c ∧ k = if c then Is.tr else .fa) ∧ Aft C Oc (rV C Oc) (g (isK v == k) st) φ H σ Q := by
  unfold isV at h
  rw [M.assoc] at h
  obtain ⟨hp, k⟩ := isOf_ok s r h
  refine ⟨hp, ?_⟩
  cases y with
  | d y =>
    cases y with
    | non => cases (show u = .non from r'); exact ⟨.no, .inl ⟨rfl, rfl⟩, k⟩
    | bl c => cases (show u = .bl c from r'); exact ⟨_, .inr ⟨c, rfl, rfl⟩, k⟩
    | _ => exact k.elim
  | _ => exact k.elim
theorem in_ok {ne : Bool} (s : SR C.K Oc φ H st) (r : RepV C.K Oc φ H v x) (r' : RepV C.K Oc φ H u y)
    (h : Aft C Oc (rV C Oc) ((inV x y >>= fun b => M.pure (.d (.bl (ne != b)))) st) φ H σ Q) : rInAll C.K ne v u H Q := by
  have seqs : Aft C Oc (rV C Oc) ((inSeq x y >>= fun b => M.pure (.d (.bl (ne != b)))) st) φ H σ Q → rInAll C.K ne v u H Q := fun h => by
    unfold inSeq at h
    rw [M.assoc] at h
    obtain ⟨d, hd, h⟩ := dataV_ok s r h
    rw [M.assoc] at h
    obtain ⟨p, vs, xs, e1, q1, z1, h⟩ := seqV_ok s r' h
    rw [M.assoc] at h
    obtain ⟨bs, eb, h5⟩ := datas_go h
    clear h
    subst eb
    by_cases hz : d.fit ∧ bs.all D.fit
    · rw [if_pos hz] at h5
      have fb := flats_all hz.2
      refine .inl ⟨d.py, D.pys bs, hd (fit_flat hz.1), ?_, canLay_of (fit_flat hz.1), canLays_of fb, fit_depth hz.1, ?_⟩
      · rw [e1]
        rcases q1 with q | q
        · exact .inl (.lst q (dps_of fb z1.to_D))
        · exact .inr (.tup q (dps_of fb z1.to_D))
      · rw [anyPy (fit_flat hz.1) fb]
        exact aft_bl h5 s
    · rw [if_neg hz] at h5
      exact h5.elim
  cases y with
  | d y =>
    cases y with
    | dct m => exact h.elim
    | str t =>
      unfold inV at h
      rw [M.assoc] at h
      obtain ⟨i, e, h⟩ := strV_ok r h
      by_cases hz : i.length = 1
      · rw [if_pos hz] at h
        have ei : i = ⟨#[i.cps.getD 0 0]⟩ := by
          obtain ⟨⟨l⟩⟩ := i
          cases l with
          | nil => cases hz
          | cons c r =>
            cases r with
            | nil => rfl
            | cons c' r' => exact absurd hz (by simp [Str.length])
        refine .inr ⟨i.cps.getD 0 0, t, by rw [e]; exact congrArg V.str ei, r', ?_⟩
        have := aft_bl h s
        rw [List.contains_eq_mem] at this
        exact this
      · rw [if_neg hz] at h
        exact h.elim
    | _ => exact seqs h
  | _ => exact seqs h
/-- all comparisons -/
theorem cm_ok {o : Cm} (s : SR C.K Oc φ H st) (r : RepV C.K Oc φ H v x) (r' : RepV C.K Oc φ H u y) (h : Aft C Oc (rV C Oc) ((cmpV o x y >>= fun b => M.pure (.d (.bl b))) st) φ H σ Q) : rCm C.K o v u H Q := by
  cases o with
  | eq =>
    obtain ⟨d, e, h1, h2, h3, h4, h5, h⟩ := eq_ok s r r' h
    exact ⟨d, e, h1, h2, h3, h4, h5, by simpa using aft_bl h s⟩
  | ne =>
    have h' : Aft C Oc (rV C Oc) (((eqV x y >>= fun b => M.pure (!b)) >>= fun b => M.pure (.d (.bl b))) st) φ H σ Q := h
    rw [M.assoc] at h'
    obtain ⟨d, e, h1, h2, h3, h4, h5, h⟩ := eq_ok s r r' h'
    refine ⟨d, e, h1, h2, h3, h4, h5, ?_⟩
    have := aft_bl h s
    have z : (true != PyData.eqv d e) = !PyData.eqv d e := by cases PyData.eqv d e <;> rfl
    rw [z]; exact this
  | isin =>
    have h' : Aft C Oc (rV C Oc) ((inV x y >>= fun b => M.pure (.d (.bl b))) st) φ H σ Q := h
    have z : (fun b => (M.pure (.d (.bl b)) : M Val)) = fun b => M.pure (.d (.bl (false != b))) := by
      funext b; cases b <;> rfl
    rw [z] at h'
    exact in_ok (ne := false) s r r' h'
  | notin =>
    have h' : Aft C Oc (rV C Oc) (((inV x y >>= fun b => M.pure (!b)) >>= fun b => M.pure (.d (.bl b))) st) φ H σ Q := h
    rw [M.assoc] at h'
    have z : (fun b => (M.pure (!b) : M Bool) >>= fun b => (M.pure (.d (.bl b)) : M Val)) = fun b => M.pure (.d (.bl (true != b))) := by
      funext b; cases b <;> rfl
    rw [z] at h'
    exact in_ok (ne := true) s r r' h'
  | is_ =>
    obtain ⟨hp, k, hk, h⟩ := is_ok s r r' h
    exact ⟨hp, k, hk, by simpa using aft_bl h s⟩
  | isnot =>
    have h' : Aft C Oc (rV C Oc) (((isV x y >>= fun b => M.pure (!b)) >>= fun b => M.pure (.d (.bl b))) st) φ H σ Q := h
    rw [M.assoc] at h'
    obtain ⟨hp, k, hk, h⟩ := is_ok s r r' h'
    refine ⟨hp, k, hk, ?_⟩
    have := aft_bl h s
    have z : (true != (isK v == k)) = !(isK v == k) := by cases (isK v == k) <;> rfl
    rw [z]; exact this
  | lt =>
    have h' : Aft C Oc (rV C Oc) (((intV x >>= fun i => intV y >>= fun j => M.pure (decide (i < j))) >>= fun b => M.pure (.d (.bl b))) st) φ H σ Q := h
    rw [M.assoc] at h'
    obtain ⟨i, e, h'⟩ := intV_ok r h'
    rw [M.assoc] at h'
    obtain ⟨j, e', h'⟩ := intV_ok r' h'
    exact ⟨i, j, e, e', aft_bl h' s⟩
  | le =>
    have h' : Aft C Oc (rV C Oc) (((intV x >>= fun i => intV y >>= fun j => M.pure (decide (i ≤ j))) >>= fun b => M.pure (.d (.bl b))) st) φ H σ Q := h
    rw [M.assoc] at h'
    obtain ⟨i, e, h'⟩ := intV_ok r h'
    rw [M.assoc] at h'
    obtain ⟨j, e', h'⟩ := intV_ok r' h'
    exact ⟨i, j, e, e', aft_bl h' s⟩
  | gt =>
    have h' : Aft C Oc (rV C Oc) (((intV x >>= fun i => intV y >>= fun j => M.pure (decide (j < i))) >>= fun b => M.pure (.d (.bl b))) st) φ H σ Q := h
    rw [M.assoc] at h'
    obtain ⟨i, e, h'⟩ := intV_ok r h'
    rw [M.assoc] at h'
    obtain ⟨j, e', h'⟩ := intV_ok r' h'
    exact ⟨i, j, e, e', aft_bl h' s⟩
  | ge =>
    have h' : Aft C Oc (rV C Oc) (((intV x >>= fun i => intV y >>= fun j => M.pure (decide (j ≤ i))) >>= fun b => M.pure (.d (.bl b))) st) φ H σ Q := h
    rw [M.assoc] at h'
    obtain ⟨i, e, h'⟩ := intV_ok r h'
    rw [M.assoc] at h'
    obtain ⟨j, e', h'⟩ := intV_ok r' h'
    exact ⟨i, j, e, e', aft_bl h' s⟩
end
theorem s_cmp (hK : C.K = X.K) (hu : X.A.units + 1100 < cLine) {o : Cm} (ha : PE X a (tE C m)) (hb : PE X b (tE C n)) (hm : behindInMarks o.op b = false) : PE X (.Compare a [o.op] [b] pos) (tE C (mCmp o m n)) :=
  imp_e (pe_cmpR (op_cm hu o) ha hb hm) fun σ H Q t => by
    obtain ⟨Oc, φ, st, ρ, p, t⟩ := tM.two (rp := rV C) t
    refine ⟨Oc, φ, st, ρ, p, t.mono fun v H1 t => ?_⟩
    obtain ⟨Oc, φ, st, ρ, p, t⟩ := t
    exact ⟨Oc, φ, st, ρ, p, t.mono fun u H2 ⟨Oc, φ, st, ρ, x, y, p, r, r', h⟩ => by rw [← hK]; exact cm_ok p.sr r r' h⟩
/-! ### as a test -/
def kCmp (o : Cm) (m n : Env → M Val) : Env → M Bool := fun ρ => m ρ >>= fun x => n ρ >>= fun y => cmpV o x y
theorem aft_tb {Oc : Own} {φ : Fi} {H : Hp} {st : Store} {σ : Sl} {Q : Bool → Hp → Prop} {m : M Bool} (h : Aft C Oc rB (m st) φ H σ Q) : Aft C Oc (rV C Oc) ((m >>= fun b => M.pure (.d (.bl b))) st) φ H σ fun v H' => ∃ k, v = .bl k ∧ Q k H' := by
  show Aft C Oc (rV C Oc) (M.bind m (fun b => M.pure (.d (.bl b))) st) φ H σ _
  unfold M.bind
  cases e : m st with
  | ok b s' =>
    rw [e] at h
    intro φ' H' v s r q
    exact ⟨b, q, h φ' H' b s r rfl⟩
  | exc c xs s' =>
    rw [e] at h
    exact h
  | bad =>
    rw [e] at h
    exact h
theorem k_cmp (hK : C.K = X.K) (hu : X.A.units + 1100 < cLine) {o : Cm} (ha : PE X a (tE C m)) (hb : PE X b (tE C n)) (hm : behindInMarks o.op b = false) : PT X (.Compare a [o.op] [b] pos) (tT C (kCmp o m n)) :=
  imp_t (pt_cmpR (op_cm hu o) ha hb hm) fun σ H Q t => by
    obtain ⟨Oc, φ, st, ρ, p, t⟩ := tM.two (rp := rV C) t
    refine ⟨Oc, φ, st, ρ, p, t.mono fun v H1 t => ?_⟩
    obtain ⟨Oc, φ, st, ρ, p, t⟩ := t
    exact ⟨Oc, φ, st, ρ, p, t.mono fun u H2 ⟨Oc, φ, st, ρ, x, y, p, r, r', h⟩ => by rw [← hK]; exact cm_ok p.sr r r' (aft_tb h)⟩
end
end Ev
set_option maxRecDepth 100000
set_option maxHeartbeats 4000000
/-! Ev, part G: truth, and, or, not, if, chains, places, slices. -/
namespace Ev
open PySem PySem.Spec PyProof.Rows L2

section
variable {X : Cx} {C : Cn} {a b c : Expr} {pos : Pos} {m n l : Env → M Val} {k q : Env → M Bool} {rest : List Expr}
section
variable {Oc : Own} {φ : Fi} {H : Hp} {st : Store} {σ : Sl} {v u : V} {x y : Val} {β γ : Type} {rq : Fi → Hp → β → γ → Prop} {Q : β → Hp → Prop}
theorem isEmpty_len {α β : Type} {xs : List α} {ys : List β} (h : xs.length = ys.length) : (!xs.isEmpty) = !ys.isEmpty := by
  cases xs <;> cases ys <;> first | rfl | cases h
theorem truthy_ok {f : Bool → M γ} (s : SR C.K Oc φ H st) (r : RepV C.K Oc φ H v x) (h : Aft C Oc rq ((truthy x >>= f) st) φ H σ Q) : ∃ t, TruV C.K v H t ∧ Aft C Oc rq (f t st) φ H σ Q := by
  cases x with
  | d x =>
    cases x with
    | non => cases (show v = .non from r); exact ⟨_, rfl, h⟩
    | bl b => cases (show v = .bl b from r); exact ⟨_, rfl, h⟩
    | int b => cases (show v = .int b from r); exact ⟨_, rfl, h⟩
    | str b => exact h.elim
    | tup xs =>
      obtain ⟨a, vs, e, q, z⟩ := (show RepD C.K (own Oc φ) H v (.tup xs) from r)
      subst e
      exact ⟨_, .inr (.inl ⟨vs, q.to, (isEmpty_len z.length).symm⟩), h⟩
    | lst xs =>
      obtain ⟨a, vs, e, _, q, z⟩ := (show RepD C.K (own Oc φ) H v (.lst xs) from r)
      subst e
      exact ⟨_, .inl ⟨vs, SqL.of q, (isEmpty_len z.length).symm⟩, h⟩
    | dct xs => exact h.elim
  | loc n =>
    obtain ⟨hn, ha⟩ := r
    have h' := h
    unfold truthy at h'
    rw [M.assoc] at h'
    change Aft C Oc rq (M.bind (cellAt n) _ st) φ H σ Q at h'
    unfold M.bind cellAt at h'
    cases e : st[n]? with
    | none => rw [e] at h'; exact h'.elim
    | some c =>
      rw [e] at h'
      cases c with
      | lst xs =>
        obtain ⟨a, q1, vs, q2, q3⟩ := s.cell hn e (fun z => by cases z)
        rw [ha a q1]
        exact ⟨_, .inl ⟨vs, SqL.of q2, (isEmpty_len (RepVs.length q3)).symm⟩, h'⟩
      | _ => exact h'.elim
  | exn c xs => exact h.elim
  | scr ns =>
    obtain ⟨a, e, q⟩ := r
    subst e
    exact ⟨_, .inl ⟨_, q.of, (isEmpty_len (by simp)).symm⟩, h⟩
end
/-! ### as tests -/
def kTr (m : Env → M Val) : Env → M Bool := fun ρ => m ρ >>= fun x => truthy x >>= fun b => M.pure b
theorem aft_b {Oc : Own} {φ : Fi} {H : Hp} {st : Store} {σ : Sl} {Q : Bool → Hp → Prop} {b : Bool} (h : Aft C Oc rB ((M.pure b : M Bool) st) φ H σ Q) (s : SR C.K Oc φ H st) : Q b H := Aft.ok h s rfl
theorem k_tr (hK : C.K = X.K) (ha : PE X a (tE C m)) (he : ∀ whole, isTrue a X.env whole = (do let v ← whole; standAt a.pos; holding [v] (PySem.truthy v))) : PT X a (tT C (kTr m)) :=
  imp_t (pt_truth ha he) fun σ H Q t => by
    obtain ⟨Oc, φ, st, ρ, p, t⟩ := tM.one (rp := rV C) t
    refine ⟨Oc, φ, st, ρ, p, t.mono fun v H1 ⟨Oc, φ, st, ρ, x, p, r, h⟩ => ?_⟩
    obtain ⟨t, ht, h⟩ := truthy_ok p.sr r h
    rw [← hK]
    exact ⟨t, ht, aft_b h p.sr⟩
def kNt (k : Env → M Bool) : Env → M Bool := fun ρ => k ρ >>= fun b => M.pure (!b)
theorem tK {f : Bool → Env → M Bool} {σ : Sl} {H : Hp} {Q : Bool → Hp → Prop} (t : tT C (fun ρ => k ρ >>= fun b => f b ρ) σ H Q) : tT C k σ H fun b H1 => tT C (f b) σ H1 Q := by
  obtain ⟨Oc, φ, st, ρ, p, t⟩ := tM.one (rp := fun _ => rB) t
  exact ⟨Oc, φ, st, ρ, p, t.mono fun b H1 ⟨Oc, φ, st, ρ, x, p, r, h⟩ => by
    cases (show b = x from r)
    exact ⟨Oc, φ, st, ρ, p, h⟩⟩
theorem tB_pure {b : Bool} {σ : Sl} {H : Hp} {Q : Bool → Hp → Prop} (t : tT C (fun _ => M.pure b) σ H Q) : Q b H := by
  obtain ⟨Oc, φ, st, ρ, p, t⟩ := t
  exact aft_b t p.sr
theorem k_nt (ha : PT X a (tT C k)) : PT X (.UnaryOp .Not a pos) (tT C (kNt k)) :=
  imp_t (pt_not ha) fun σ H Q t => by
    obtain ⟨Oc, φ, st, ρ, p, t⟩ := tK (f := fun b _ => M.pure (!b)) t
    exact ⟨Oc, φ, st, ρ, p, t.mono fun b H1 t => tB_pure t⟩
def kAnd (k q : Env → M Bool) : Env → M Bool := fun ρ => k ρ >>= fun b => if b then q ρ else M.pure false
def kOr (k q : Env → M Bool) : Env → M Bool := fun ρ => k ρ >>= fun b => if b then M.pure true else q ρ
theorem w_one {op : BoolOp} (ha : PT X a (tT C k)) : PW X (.BoolOp op [a] pos) (tT C k) := by
  cases op with
  | And => exact pw_and1 ha
  | Or => exact pw_or1 ha
theorem w_and (ha : PT X a (tT C k)) (hb : PW X (.BoolOp .And (b :: rest) pos) (tT C q)) : PW X (.BoolOp .And (a :: b :: rest) pos) (tT C (kAnd k q)) :=
  imp_w (pw_and ha hb) fun σ H Q t => by
    obtain ⟨Oc, φ, st, ρ, p, t⟩ := tK (f := fun b ρ => if b then q ρ else M.pure false) t
    refine ⟨Oc, φ, st, ρ, p, t.mono fun b H1 t => ?_⟩
    cases b with
    | true => rw [if_pos rfl]; exact t
    | false => rw [if_neg Bool.false_ne_true]; exact tB_pure t
theorem w_or (ha : PT X a (tT C k)) (hb : PW X (.BoolOp .Or (b :: rest) pos) (tT C q)) : PW X (.BoolOp .Or (a :: b :: rest) pos) (tT C (kOr k q)) :=
  imp_w (pw_or ha hb) fun σ H Q t => by
    obtain ⟨Oc, φ, st, ρ, p, t⟩ := tK (f := fun b ρ => if b then M.pure true else q ρ) t
    refine ⟨Oc, φ, st, ρ, p, t.mono fun b H1 t => ?_⟩
    cases b with
    | true => rw [if_pos rfl]; exact tB_pure t
    | false => rw [if_neg Bool.false_ne_true]; exact t

/-! ### as values -/
def mNt (m : Env → M Val) : Env → M Val := fun ρ => m ρ >>= fun x => truthy x >>= fun b => M.pure (.d (.bl (!b)))
theorem s_nt (hK : C.K = X.K) (ha : PE X a (tE C m)) : PE X (.UnaryOp .Not a pos) (tE C (mNt m)) :=
  imp_e (pe_notT ha) fun σ H Q t => by
    obtain ⟨Oc, φ, st, ρ, p, t⟩ := tM.one (rp := rV C) t
    refine ⟨Oc, φ, st, ρ, p, t.mono fun v H1 ⟨Oc, φ, st, ρ, x, p, r, h⟩ => ?_⟩
    obtain ⟨t, ht, h⟩ := truthy_ok p.sr r h
    rw [← hK]
    exact ⟨t, ht, aft_bl h p.sr⟩
def mAnd (m n : Env → M Val) : Env → M Val := fun ρ => m ρ >>= fun x => truthy x >>= fun b => if b then n ρ else M.pure x
def mOr (m n : Env → M Val) : Env → M Val := fun ρ => m ρ >>= fun x => truthy x >>= fun b => if b then M.pure x else n ρ
theorem s_and (hK : C.K = X.K) (ha : PE X a (tE C m)) (hb : PE X (.BoolOp .And (b :: rest) pos) (tE C n)) : PE X (.BoolOp .And (a :: b :: rest) pos) (tE C (mAnd m n)) :=
  imp_e (pe_andT ha hb) fun σ H Q t => by
    obtain ⟨Oc, φ, st, ρ, p, t⟩ := tM.one (rp := rV C) t
    refine ⟨Oc, φ, st, ρ, p, t.mono fun v H1 ⟨Oc, φ, st, ρ, x, p, r, h⟩ => ?_⟩
    obtain ⟨t, ht, h⟩ := truthy_ok p.sr r h
    rw [← hK]
    refine ⟨t, ht, ?_⟩
    cases t with
    | true => rw [if_pos rfl] at h ⊢; exact ⟨Oc, φ, st, ρ, p, h⟩
    | false => rw [if_neg Bool.false_ne_true] at h ⊢; exact Aft.ok h p.sr r
theorem s_or (hK : C.K = X.K) (ha : PE X a (tE C m)) (hb : PE X (.BoolOp .Or (b :: rest) pos) (tE C n)) : PE X (.BoolOp .Or (a :: b :: rest) pos) (tE C (mOr m n)) :=
  imp_e (pe_orT ha hb) fun σ H Q t => by
    obtain ⟨Oc, φ, st, ρ, p, t⟩ := tM.one (rp := rV C) t
    refine ⟨Oc, φ, st, ρ, p, t.mono fun v H1 ⟨Oc, φ, st, ρ, x, p, r, h⟩ => ?_⟩
    obtain ⟨t, ht, h⟩ := truthy_ok p.sr r h
    rw [← hK]
    refine ⟨t, ht, ?_⟩
    cases t with
    | true => rw [if_pos rfl] at h ⊢; exact Aft.ok h p.sr r
    | false => rw [if_neg Bool.false_ne_true] at h ⊢; exact ⟨Oc, φ, st, ρ, p, h⟩
def mIf (k : Env → M Bool) (m n : Env → M Val) : Env → M Val := fun ρ => k ρ >>= fun b => if b then m ρ else n ρ
theorem s_if (hc : PT X c (tT C k)) (ha : PE X a (tE C m)) (hb : PE X b (tE C n)) : PE X (.IfExp c a b pos) (tE C (mIf k m n)) :=
  imp_e (pe_ifExp hc ha hb) fun σ H Q t => by
    obtain ⟨Oc, φ, st, ρ, p, t⟩ := tM.one (rp := fun _ => rB) t
    refine ⟨Oc, φ, st, ρ, p, t.mono fun b H1 ⟨Oc, φ, st, ρ, x, p, r, h⟩ => ?_⟩
    cases (show b = x from r)
    cases b with
    | true => rw [if_pos rfl] at h ⊢; exact ⟨Oc, φ, st, ρ, p, h⟩
    | false => rw [if_neg Bool.false_ne_true] at h ⊢; exact ⟨Oc, φ, st, ρ, p, h⟩
/-! a < b < c -/
def mChn (o o' : Cm) (m n l : Env → M Val) : Env → M Val := fun ρ => m ρ >>= fun x => n ρ >>= fun y => cmpV o x y >>= fun b => if b then l ρ >>= fun z => cmpV o' y z >>= fun b => M.pure (.d (.bl b)) else M.pure (.d (.bl false))
def kChn (o o' : Cm) (m n l : Env → M Val) : Env → M Bool := fun ρ => m ρ >>= fun x => n ρ >>= fun y => cmpV o x y >>= fun b => if b then l ρ >>= fun z => cmpV o' y z else M.pure false
theorem lastMarks_no {o o' : CmpOp} (h1 : behindInMarks o' c = false) : lastMarks [o, o'] [b, c] = false := h1
section
variable {Oc : Own} {φ : Fi} {H : Hp} {st : Store} {σ : Sl} {v u : V} {x y : Val} {β : Type} {rq : Fi → Hp → β → Val → Prop}
/-- a comparison, and what goes on -/
theorem cm_then {o : Cm} {f : Bool → M Val} {Q : VK} (s : SR C.K Oc φ H st) (r : RepV C.K Oc φ H v x) (r' : RepV C.K Oc φ H u y) (h : Aft C Oc (rV C Oc) ((cmpV o x y >>= f) st) φ H σ Q) :
    rCm C.K o v u H fun z H1 => ∃ b, z = .bl b ∧ ∃ φ1 st1, Stp φ φ1 H H1 ∧ SR C.K Oc φ1 H1 st1 ∧ Aft C Oc (rV C Oc) (f b st1) φ1 H1 σ Q := by
  refine cm_ok (st := st) (σ := σ) (Oc := Oc) (φ := φ) (x := x) (y := y) s r r' ?_
  refine aft_tb ?_
  exact (h.bind (rp := rB)).mono fun b H1 ⟨φ1, s1, a, st, sr, e, k⟩ => by
    cases (show b = a from e)
    exact ⟨φ1, s1, st, sr, k⟩
end
theorem rCm_mono {K : PySem.W.Frag} {o : Cm} {v u : V} {H : Hp} {Q Q' : VK} (h : rCm K o v u H Q) (i : ∀ v H, Q v H → Q' v H) : rCm K o v u H Q' := by
  cases o with
  | eq => obtain ⟨d, e, h1, h2, h3, h4, h5, h6⟩ := h; exact ⟨d, e, h1, h2, h3, h4, h5, i _ _ h6⟩
  | ne => obtain ⟨d, e, h1, h2, h3, h4, h5, h6⟩ := h; exact ⟨d, e, h1, h2, h3, h4, h5, i _ _ h6⟩
  | lt => obtain ⟨d, e, h1, h2, h6⟩ := h; exact ⟨d, e, h1, h2, i _ _ h6⟩
  | le => obtain ⟨d, e, h1, h2, h6⟩ := h; exact ⟨d, e, h1, h2, i _ _ h6⟩
  | gt => obtain ⟨d, e, h1, h2, h6⟩ := h; exact ⟨d, e, h1, h2, i _ _ h6⟩
  | ge => obtain ⟨d, e, h1, h2, h6⟩ := h; exact ⟨d, e, h1, h2, i _ _ h6⟩
  | isin =>
    rcases h with ⟨d, e, h1, h2, h3, h4, h5, h6⟩ | ⟨c, z, h1, h2, h6⟩
    · exact .inl ⟨d, e, h1, h2, h3, h4, h5, i _ _ h6⟩
    · exact .inr ⟨c, z, h1, h2, i _ _ h6⟩
  | notin =>
    rcases h with ⟨d, e, h1, h2, h3, h4, h5, h6⟩ | ⟨c, z, h1, h2, h6⟩
    · exact .inl ⟨d, e, h1, h2, h3, h4, h5, i _ _ h6⟩
    · exact .inr ⟨c, z, h1, h2, i _ _ h6⟩
  | is_ => obtain ⟨h1, k, h2, h6⟩ := h; exact ⟨h1, k, h2, i _ _ h6⟩
  | isnot => obtain ⟨h1, k, h2, h6⟩ := h; exact ⟨h1, k, h2, i _ _ h6⟩
theorem chn_red {o o' : Cm} {σ : Sl} {H : Hp} {Q : VK} (t : tE C (mChn o o' m n l) σ H Q) : tChain (rCm C.K o) (rCm C.K o') (tE C m) (tE C n) (tE C l) σ H Q := by
  obtain ⟨Oc, φ, st, ρ, p, t⟩ := tM.two (rp := rV C) t
  refine ⟨Oc, φ, st, ρ, p, t.mono fun v H1 t => ?_⟩
  obtain ⟨Oc, φ, st, ρ, p, t⟩ := t
  refine ⟨Oc, φ, st, ρ, p, t.mono fun u H2 ⟨Oc, φ, st, ρ, x, y, p, r, r', h⟩ => ?_⟩
  refine rCm_mono (cm_then p.sr r r' h) fun w H3 ⟨b, e, φ1, st1, stp, sr, k⟩ => ⟨b, e, ?_⟩
  have p1 := p.step stp sr
  cases b with
  | true =>
    rw [if_pos rfl] at k ⊢
    refine ⟨Oc, φ1, st1, ρ, p1, (k.bind (rp := rV C Oc)).mono fun w2 H4 ⟨φ2, s2, z2, stp2, sr2, r2, k2⟩ => ?_⟩
    exact cm_ok sr2 (RepV.step stp2 (RepV.step stp r')) r2 k2
  | false =>
    rw [if_neg Bool.false_ne_true] at k ⊢
    exact aft_bl k sr
theorem s_chn (hK : C.K = X.K) (hu : X.A.units + 1100 < cLine) {o o' : Cm} (ha : PE X a (tE C m)) (hb : PE X b (tE C n)) (hc : PE X c (tE C l)) (hm : behindInMarks o'.op c = false) :
    PE X (.Compare a [o.op, o'.op] [b, c] pos) (tE C (mChn o o' m n l)) :=
  imp_e (pe_chain (op_cm hu o) (op_cm hu o') ha hb hc (lastMarks_no hm)) fun σ H Q t => by
    rw [← hK]
    exact chn_red t
theorem chn_eq {o o' : Cm} {ρ : Env} : mChn o o' m n l ρ = (kChn o o' m n l ρ >>= fun b => M.pure (.d (.bl b))) := by
  unfold mChn kChn
  rw [M.assoc]
  congr 1
  funext x
  rw [M.assoc]
  congr 1
  funext y
  rw [M.assoc]
  congr 1
  funext b
  cases b with
  | true => rw [if_pos rfl, if_pos rfl, M.assoc]
  | false => rfl
theorem k_chn (hK : C.K = X.K) (hu : X.A.units + 1100 < cLine) {o o' : Cm} (ha : PE X a (tE C m)) (hb : PE X b (tE C n)) (hc : PE X c (tE C l)) (hm : behindInMarks o'.op c = false) :
    PT X (.Compare a [o.op, o'.op] [b, c] pos) (tT C (kChn o o' m n l)) :=
  imp_t (pt_chain (op_cm hu o) (op_cm hu o') ha hb hc (lastMarks_no hm)) fun σ H Q t => by
    rw [← hK]
    refine chn_red ?_
    obtain ⟨Oc, φ, st, ρ, p, t⟩ := t
    exact ⟨Oc, φ, st, ρ, p, by rw [chn_eq]; exact aft_tb t⟩

/-! ### x[i], x[lo:hi] -/
def mIx (m n : Env → M Val) : Env → M Val := fun ρ => m ρ >>= fun x => n ρ >>= fun i => ixV x i
theorem atI_rep {Oc : Own} {φ : Fi} {H : Hp} {K : PySem.W.Frag} {vs : List V} {xs : List Val} {i : Int} {x : Val} (r : RepVs K Oc φ H vs xs) (e : atI xs i = some x) : ∃ v, atI vs i = some v ∧ RepV K Oc φ H v x := by
  unfold atI at e ⊢
  rw [r.length]
  cases q : ixN xs.length i with
  | none => rw [q] at e; cases e
  | some j =>
    rw [q] at e
    exact r.get (i := j) e
theorem s_ix (hK : C.K = X.K) (ha : PE X a (tE C m)) (hb : PE X b (tE C n)) (hs : PlainIx b) : PE X (.Subscript a b pos) (tE C (mIx m n)) :=
  imp_e (pe_ix ix_seq ha hb hs) fun σ H Q t => by
    obtain ⟨Oc, φ, st, ρ, p, t⟩ := tM.two (rp := rV C) t
    refine ⟨Oc, φ, st, ρ, p, t.mono fun v H1 t => ?_⟩
    obtain ⟨Oc, φ, st, ρ, p, t⟩ := t
    refine ⟨Oc, φ, st, ρ, p, t.mono fun u H2 ⟨Oc, φ, st, ρ, x, y, p, r, r', h⟩ => ?_⟩
    rw [← hK]
    unfold ixV at h
    obtain ⟨k, e, h⟩ := intV_ok r' h
    have seqs : Aft C Oc (rV C Oc) ((seqV x >>= fun vs => M.of (atI vs k)) st) φ H2 σ Q → rIx C.K v u H2 Q := fun h => by
      obtain ⟨a, vs, xs, e1, q1, z1, h⟩ := seqV_ok p.sr r h
      cases q : atI xs k with
      | none => rw [q] at h; exact h.elim
      | some z =>
        rw [q] at h
        obtain ⟨w, h1, h2⟩ := atI_rep z1 q
        have f := Aft.ok (b := w) h p.sr h2
        rcases q1 with q1 | q1
        · exact .inl ⟨a, vs, k, w, e1, e, q1, h1, f⟩
        · exact .inr (.inl ⟨a, vs, k, w, e1, e, q1, h1, f⟩)
    cases x with
    | d x =>
      cases x with
      | str z =>
        have h' : Aft C Oc (rV C Oc) ((if z.length ≤ lineLen then (match atI z.cps.toList k with | some c => M.pure (.d (.str ⟨#[c]⟩)) | none => M.bad) else M.bad : M Val) st) φ H2 σ Q := h
        by_cases hz : z.length ≤ lineLen
        · rw [if_pos hz] at h'
          cases q : atI z.cps.toList k with
          | none => rw [q] at h'; exact h'.elim
          | some c =>
            rw [q] at h'
            exact .inr (.inr ⟨z, k, c, r, e, by rw [← line_eq]; exact hz, q, Aft.ok h' p.sr (show RepV C.K Oc φ H2 (.str ⟨#[c]⟩) (.d (.str ⟨#[c]⟩)) from rfl)⟩)
        · rw [if_neg hz] at h'
          exact h'.elim
      | _ => exact seqs h
    | _ => exact seqs h

/-- a part of a slice -/
def mPt (o : Option (Env → M Val)) : Env → M (Option Int) := match o with
  | none => fun _ => M.pure none
  | some m => fun ρ => m ρ >>= fun x => intV x >>= fun i => M.pure (some i)
def tO (C : Cn) (m : Env → M (Option Int)) : TO := tM (fun _ _ _ v x => v = x) C m
theorem o_none : PO X none (tO C (mPt none)) := ⟨fun pins s σ H Q I h => po_none.run pins s σ H Q I (by
  obtain ⟨Oc, φ, st, ρ, p, t⟩ := h
  exact Aft.ok t p.sr rfl)⟩
theorem o_some (ha : PE X a (tE C m)) : PO X (some a) (tO C (mPt (some m))) := ⟨fun pins s σ H Q I h => (po_some ha).run pins s σ H Q I (by
  obtain ⟨Oc, φ, st, ρ, p, t⟩ := tM.one (rp := rV C) h
  refine ⟨Oc, φ, st, ρ, p, t.mono fun v H1 ⟨Oc, φ, st, ρ, x, p, r, h⟩ => ?_⟩
  obtain ⟨i, e, h⟩ := intV_ok r h
  exact ⟨i, e, Aft.ok h p.sr rfl⟩)⟩
def mSl (m : Env → M Val) (lo hi : Option (Env → M Val)) : Env → M Val := fun ρ => m ρ >>= fun x => mPt lo ρ >>= fun i => mPt hi ρ >>= fun j => slV x i j
abbrev rSlAll (K : PySem.W.Frag) : V → Option Int → Option Int → Hp → VK → Prop := fun x lo hi H Q => rSlL K x lo hi H Q ∨ (rSlP K x lo hi H Q ∨ rSlS x lo hi H Q)
theorem cut_rep {Oc : Own} {φ : Fi} {H : Hp} {K : PySem.W.Frag} {vs : List V} {xs : List Val} (r : RepVs K Oc φ H vs xs) (lo hi : Option Int) : RepVs K Oc φ H (cutV vs lo hi) (cut xs lo hi) := by
  have tk : ∀ (n : Nat) {vs : List V} {xs : List Val}, RepVs K Oc φ H vs xs → RepVs K Oc φ H (vs.take n) (xs.take n) := fun n => by
    induction n with
    | zero => intro vs xs _; rw [List.take_zero, List.take_zero]; rfl
    | succ n ih =>
      intro vs xs r
      cases xs with
      | nil => cases (show vs = [] from r); rfl
      | cons x xs =>
        obtain ⟨v, w, e, h1, h2⟩ := r
        subst e
        exact ⟨v, w.take n, rfl, h1, ih h2⟩
  have dr : ∀ (n : Nat) {vs : List V} {xs : List Val}, RepVs K Oc φ H vs xs → RepVs K Oc φ H (vs.drop n) (xs.drop n) := fun n => by
    induction n with
    | zero => intro vs xs r; exact r
    | succ n ih =>
      intro vs xs r
      cases xs with
      | nil => cases (show vs = [] from r); rfl
      | cons x xs =>
        obtain ⟨v, w, e, h1, h2⟩ := r
        subst e
        exact ih h2
  unfold cutV cut
  rw [r.length]
  exact tk _ (dr _ r)
theorem cut_map {α β : Type} (f : α → β) (xs : List α) (lo hi : Option Int) : cut (xs.map f) lo hi = (cut xs lo hi).map f := by
  unfold cut
  rw [List.length_map, List.map_take, List.map_drop]
theorem s_sl (hK : C.K = X.K) {lo hi : Option Expr} {ml mh : Option (Env → M Val)} {p2 : Pos} (ha : PE X a (tE C m)) (hl : PO X lo (tO C (mPt ml))) (hh : PO X hi (tO C (mPt mh))) : PE X (.Subscript a (.Slice lo hi none p2) pos) (tE C (mSl m ml mh)) :=
  imp_e (pe_slice (SlR.or sl_list (SlR.or sl_tupP sl_str)) ha hl hh) fun σ H Q t => by
    obtain ⟨Oc, φ, st, ρ, p, t⟩ := t
    refine ⟨Oc, φ, st, ρ, p, (t.bind (rp := rV C Oc)).mono fun v H1 ⟨φ1, s1, x, stp1, sr1, r1, t⟩ => ?_⟩
    refine ⟨Oc, φ1, s1, ρ, p.step stp1 sr1, (t.bind (rp := fun _ _ v x => v = x)).mono fun i H2 ⟨φ2, s2, i', stp2, sr2, r2, t⟩ => ?_⟩
    cases (show i = i' from r2)
    refine ⟨Oc, φ2, s2, ρ, (p.step stp1 sr1).step stp2 sr2, (t.bind (rp := fun _ _ v x => v = x)).mono fun j H3 ⟨φ3, s3, j', stp3, sr3, r3, h⟩ => ?_⟩
    cases (show j = j' from r3)
    have r := RepV.step stp3 (RepV.step stp2 r1)
    have seqs : Aft C Oc (rV C Oc) ((listV x >>= fun vs => mkList false (cut vs i j)) s3) φ3 H3 σ Q → rSlAll X.K v i j H3 Q := fun h => by
      obtain ⟨a, vs, xs, e1, q1, z1, h⟩ := listV_ok sr3 r h
      exact .inl ⟨a, vs, e1, SqL.of q1, fun p hp => new_list h sr3 (cut_rep z1 i j) hp⟩
    cases x with
    | d x =>
      cases x with
      | str z =>
        have h' : Aft C Oc (rV C Oc) ((if z.length ≤ lineLen then M.pure (.d (.str (cutS z i j))) else M.bad : M Val) s3) φ3 H3 σ Q := h
        by_cases hz : z.length ≤ lineLen
        · rw [if_pos hz] at h'
          exact .inr (.inr ⟨z, r, by rw [← line_eq]; exact hz, Aft.ok h' sr3 (show RepV C.K Oc φ3 H3 (.str (cutS z i j)) (.d (.str (cutS z i j))) from rfl)⟩)
        · rw [if_neg hz] at h'
          exact h'.elim
      | tup xs =>
        obtain ⟨a, vs, e1, q1, z1⟩ := (show RepD C.K (own Oc φ3) H3 v (.tup xs) from r)
        have cr : RepDs C.K (own Oc φ3) H3 (cutV vs i j) (cut xs i j) := by
          have := cut_rep (RepVs.of_D z1) i j
          rw [cut_map] at this
          exact this.to_D
        refine .inr (.inl ⟨a, vs, e1, by rw [← hK]; exact q1.to, fun w => ?_, fun _ p hp => new_tup h sr3 cr hp⟩)
        have ec : cut xs i j = xs := by
          unfold cut
          rw [← z1.length, w.1, w.2]
          rw [List.drop_zero, z1.length, Nat.sub_zero, List.take_length]
        have h' : Aft C Oc (rV C Oc) ((M.pure (.d (.tup (cut xs i j))) : M Val) s3) φ3 H3 σ Q := h
        rw [ec] at h'
        exact Aft.ok h' sr3 (show RepV C.K Oc φ3 H3 (.ref a) (.d (.tup xs)) from ⟨a, vs, rfl, q1, z1⟩)
      | lst xs => exact seqs h
      | _ => exact h.elim
    | loc n => exact seqs h
    | scr ns =>
      obtain ⟨a, e, q⟩ := r
      refine .inl ⟨a, _, e, by rw [← hK]; exact q.of, fun p hp => ?_⟩
      have h2 : Aft C Oc (rV C Oc) (mkList false (cut (ns.map fun k => .d (.int k)) i j) s3) φ3 H3 σ Q := h
      exact new_list h2 sr3 (cut_rep (ints_rep ns) i j) hp
    | exn => exact h.elim
end
end Ev
set_option maxRecDepth 100000
set_option maxHeartbeats 4000000
/-! Ev, part H: built-in functions. -/
namespace Ev
open PySem PySem.Spec PyProof.Rows L2

theorem sign_small {x : Str} (h : PyData.strOk x = true) : ∀ c ∈ x.cps.toList, c < 16 ^ 8 := fun c hc => by
  unfold PyData.strOk at h
  rw [Array.all_eq_true_iff_forall_mem] at h
  have := h c (by simpa using hc)
  simp only [decide_eq_true_eq] at this
  omega
theorem textFrom_le : ∀ (ts : List Str) (k : Nat) (acc : Str), (textFrom k acc ts).length ≤ acc.length + (ts.map fun t => t.length + 2).sum
  | [], _, _ => Nat.le_refl _
  | t :: r, k, acc => by
    have h := textFrom_le r (k + 1) (acc ++ (if k > 0 then ", " else "" : String) ++ t)
    have e : (acc ++ (if k > 0 then ", " else "" : String) ++ t).length ≤ acc.length + 2 + t.length := by
      rw [Str.length_append, Str.length_append]
      have : (Str.ofString (if k > 0 then ", " else "" : String)).length ≤ 2 := by
        split
        · rw [PySem.ofString_length]; decide
        · rw [PySem.ofString_length]; decide
      omega
    show (textFrom (k + 1) _ r).length ≤ _
    simp only [List.map_cons, List.sum_cons]
    omega
mutual
theorem shown_wt : ∀ {d : D}, d.flat = true → d.small = true → d.py.shown.length ≤ d.wt
  | .non, _, _ => by
    show (Str.ofString "None").length ≤ 4
    rw [PySem.ofString_length]; decide
  | .bl b, _, _ => by
    cases b
    · show (Str.ofString "False").length ≤ 5
      rw [PySem.ofString_length]; decide
    · show (Str.ofString "True").length ≤ 5
      rw [PySem.ofString_length]; decide
  | .int i, _, s => by
    simp only [D.small, decide_eq_true_eq] at s
    show (Str.ofString (toString i)).length ≤ 1921
    exact int_text_len_1921 s
  | .str x, f, _ => by
    simp only [D.flat] at f
    exact StrLaws.reprText_len x (sign_small f)
  | .tup xs, f, s => by
    simp only [D.flat] at f
    simp only [D.small] at s
    have h := shownAll_wt f s
    show (tupleText (PyData.shownAll (D.pys xs))).length ≤ D.wts xs + 3
    generalize PyData.shownAll (D.pys xs) = ts at h
    unfold tupleText
    rw [Str.length_append, Str.length_append]
    have h2 := StrLaws.join_length_le ", " ts
    have h3 : (ts.map fun t => t.length + 2).sum = (ts.map (·.length)).sum + ts.length * 2 := by
      clear h h2
      induction ts with
      | nil => rfl
      | cons t r ih => simp only [List.map_cons, List.sum_cons, ih, List.length_cons]; omega
    have h4 : (Str.ofString ", ").length = 2 := by rw [PySem.ofString_length]; decide
    have h5 : (Str.ofString "(").length = 1 := by rw [PySem.ofString_length]; decide
    have h6 : (Str.ofString (if ts.length == 1 then ",)" else ")" : String)).length ≤ 2 := by
      split
      · rw [PySem.ofString_length]; decide
      · rw [PySem.ofString_length]; decide
    rw [h4] at h2
    omega
  | .lst xs, f, s => by
    simp only [D.flat] at f
    simp only [D.small] at s
    have h := shownAll_wt f s
    show (listText (PyData.shownAll (D.pys xs))).length ≤ D.wts xs + 2
    unfold listText
    rw [Str.length_append]
    have h2 := textFrom_le (PyData.shownAll (D.pys xs)) 0 "["
    have h5 : (Str.ofString "[").length = 1 := by rw [PySem.ofString_length]; decide
    have h6 : (Str.ofString "]").length = 1 := by rw [PySem.ofString_length]; decide
    omega
  | .dct m, f, _ => by
    simp only [D.flat] at f
    cases f
theorem shownAll_wt : ∀ {d : List D}, D.flats d = true → D.smalls d = true → ((PyData.shownAll (D.pys d)).map fun t => t.length + 2).sum ≤ D.wts d
  | [], _, _ => Nat.le_refl _
  | x :: xs, f, s => by
    simp only [D.flats, Bool.and_eq_true] at f
    simp only [D.smalls, Bool.and_eq_true] at s
    have h1 := shown_wt f.1 s.1
    have h2 := shownAll_wt f.2 s.2
    simp only [D.pys, PyData.shownAll, List.map_cons, List.sum_cons, D.wts]
    omega
end
mutual
theorem small_py : ∀ {d : D}, d.flat = true → d.small = true → d.py.showable = true
  | .non, _, _ => by simp only [D.py, PyData.showable]
  | .bl b, _, _ => by simp only [D.py, PyData.showable]
  | .int b, _, h => by simpa only [D.py, PyData.showable, D.small] using h
  | .str b, _, _ => by simp only [D.py, PyData.showable]
  | .tup xs, f, s => by
    simp only [D.flat] at f
    simp only [D.small] at s
    simp only [D.py, PyData.showable]
    exact smalls_py f s
  | .lst xs, f, s => by
    simp only [D.flat] at f
    simp only [D.small] at s
    simp only [D.py, PyData.showable]
    exact smalls_py f s
  | .dct m, f, _ => by
    simp only [D.flat] at f
    cases f
theorem smalls_py : ∀ {d : List D}, D.flats d = true → D.smalls d = true → PyData.showableAll (D.pys d) = true
  | [], _, _ => by simp only [D.pys, PyData.showableAll]
  | x :: xs, f, s => by
    simp only [D.flats, Bool.and_eq_true] at f
    simp only [D.smalls, Bool.and_eq_true] at s
    simp only [D.pys, PyData.showableAll, small_py f.1 s.1, smalls_py f.2 s.2, Bool.and_self]
end
mutual
theorem noDict_py : ∀ {d : D}, d.flat = true → d.py.hasDict = false
  | .non, _ => by simp only [D.py, PyData.hasDict]
  | .bl b, _ => by simp only [D.py, PyData.hasDict]
  | .int b, _ => by simp only [D.py, PyData.hasDict]
  | .str b, _ => by simp only [D.py, PyData.hasDict]
  | .tup xs, f => by
    simp only [D.flat] at f
    simp only [D.py, PyData.hasDict]
    exact noDicts_py f
  | .lst xs, f => by
    simp only [D.flat] at f
    simp only [D.py, PyData.hasDict]
    exact noDicts_py f
  | .dct m, f => by
    simp only [D.flat] at f
    cases f
theorem noDicts_py : ∀ {d : List D}, D.flats d = true → PyData.hasDictAll (D.pys d) = false
  | [], _ => by simp only [D.pys, PyData.hasDictAll]
  | x :: xs, f => by
    simp only [D.flats, Bool.and_eq_true] at f
    simp only [D.pys, PyData.hasDictAll, noDict_py f.1, noDicts_py f.2, Bool.or_self]
end
section
variable {X : Cx}
/-- repr(d) -/
def rRep (K : PySem.W.Frag) : List V → Hp → VK → Prop := fun xs H Q => ∃ x d, xs = [x] ∧ Dp K H x d ∧ d.showable = true ∧ d.hasDict = false ∧ d.depth ≤ mostDepth ∧ d.shown.length ≤ sizeLine ∧ Q (.str d.shown) H
theorem call_repr (hg : X.A.guards = some []) (hu : X.A.units + 1100 < cLine) : CallR X (.builtin "repr") (rRep X.K) := by
  intro pins s σ H xs us Q I r h
  obtain ⟨x, d, rfl, hd, hs, hn, hm, hz, q⟩ := h
  obtain ⟨u, rfl, ru⟩ := vals1 r
  obtain ⟨as, rd⟩ := Dp.reads I d x u hd ru
  have hm' : d.depth ≤ 1000 := hm
  cases hd with
  | non =>
    cases (show u = Value.none from ru)
    exact PySem.P.repr_of_none ⟨.str _, H, I.tok _, ⟨_, rfl⟩, q⟩
  | bl b =>
    cases (show u = Value.bool b from ru)
    cases b
    · exact PySem.P.repr_of_bool ⟨.str (Str.ofString "False"), H, I.tok _, ⟨_, rfl⟩, q⟩
    · exact PySem.P.repr_of_bool ⟨.str (Str.ofString "True"), H, I.tok _, ⟨_, rfl⟩, q⟩
  | int i =>
    obtain ⟨t, e⟩ := (show ∃ t, u = Value.int i t from ru)
    subst e
    simp only [PyData.showable, decide_eq_true_eq] at hs
    exact PySem.P.repr_of_int hs ⟨.str _, H, I.tok _, ⟨_, rfl⟩, q⟩
  | str i =>
    obtain ⟨t, e⟩ := (show ∃ t, u = Value.str i t from ru)
    subst e
    exact PySem.P.repr_of_str ⟨.str _, H, I.tok _, ⟨_, rfl⟩, q⟩ hz
  | lst h1 h2 =>
    cases (show u = Value.ref _ from ru)
    exact repr_of_reads' rd hs (fun z => by rw [hn] at z; cases z) hg (by omega) (fun b o e => e) (fun h' u tk hk => ⟨.str _, H, I.kept (t' := tk) hk, ⟨_, rfl⟩, q⟩) hz
  | tup h1 h2 =>
    cases (show u = Value.ref _ from ru)
    exact repr_of_reads' rd hs (fun z => by rw [hn] at z; cases z) hg (by omega) (fun b o e => e) (fun h' u tk hk => ⟨.str _, H, I.kept (t' := tk) hk, ⟨_, rfl⟩, q⟩) hz
end

/-! ### the sides of a call -/
def noStar : Expr → Bool
  | .Starred _ _ => false
  | _ => true
theorem star_one {e : Expr} (h : noStar e = true) (es : List Expr) (env : PySem.Env) : starEach (e :: es) env = (false, eval e env) :: starEach es env := by
  cases e <;> first | rfl | cases h
theorem star_all : ∀ {es : List Expr} (env : PySem.Env), es.all noStar = true → (starEach es env).any (·.1) = false
  | [], _, _ => rfl
  | e :: es, env, h => by
    simp only [List.all_cons, Bool.and_eq_true] at h
    rw [star_one h.1]
    exact star_all env h.2
theorem back_all {es : List Expr} (pos : Pos) (env : PySem.Env) (h : es.all noStar = true) : (backTo pos (starEach es env)).any (·.1) = false := by
  unfold backTo
  rw [List.any_map]
  exact star_all env h

section
variable {X : Cx} {C : Cn} {e : Expr} {es : List Expr} {pos p : Pos} {m : Env → M (List Val)} {x : Str} {id T : String} {r : List V → Hp → VK → Prop} {f : List Val → M Val}
/-- what a rule by values asks of a meaning -/
def Fits (C : Cn) (r : List V → Hp → VK → Prop) (f : List Val → M Val) : Prop := ∀ (Oc : Own) (φ : Fi) (H : Hp) (st : Store) (σ : Sl) (vs : List V) (xs : List Val) (Q : VK),
  SR C.K Oc φ H st → RepVs C.K Oc φ H vs xs → Aft C Oc (rV C Oc) (f xs st) φ H σ Q → r vs H Q
theorem call_red (k : Fits C r f) {σ : Sl} {H : Hp} {Q : VK} (t : tE C (fun ρ => m ρ >>= f) σ H Q) : tCB r (tA C m) σ H Q := by
  obtain ⟨Oc, φ, st, ρ, p, t⟩ := tM.one (rp := rVs C) t
  exact ⟨Oc, φ, st, ρ, p, t.mono fun vs H1 ⟨Oc, φ, st, ρ, xs, p, r, h⟩ => k Oc φ H1 st σ vs xs Q p.sr r h⟩
theorem s_callB (hc : CallR X (.builtin id) r) (k : Fits C r f) (hg : Gl X x) (hm : X.mg x = none) (hv : bootBuiltins x = some (.builtin id)) (ha : PA X (e :: es) (tA C m)) (hn : x ≠ "__name__") (hdb : (x == ("__debug__" : Str)) = false) (hs : (e :: es).all noStar = true) :
    PE X (.Call (.Name x p) (e :: es) [] pos) (tE C fun ρ => m ρ >>= f) := by
  simp only [List.all_cons, Bool.and_eq_true] at hs
  exact imp_e (pe_callB hc hg hm hv ha hn hdb (star_one hs.1 es X.env) (back_all pos X.env hs.2)) fun σ H Q t => call_red k t
theorem s_callTy (hc : CallR X (.type T) r) (k : Fits C r f) (hg : Gl X x) (hm : X.mg x = none) (hv : bootBuiltins x = some (.type T)) (ha : PA X (e :: es) (tA C m)) (hn : x ≠ "__name__") (hdb : (x == ("__debug__" : Str)) = false) (hs : (e :: es).all noStar = true) :
    PE X (.Call (.Name x p) (e :: es) [] pos) (tE C fun ρ => m ρ >>= f) := by
  simp only [List.all_cons, Bool.and_eq_true] at hs
  exact imp_e (pe_callTy hc hg hm hv ha hn hdb (star_one hs.1 es X.env) (back_all pos X.env hs.2)) fun σ H Q t => call_red k t
/-- the one argument -/
theorem fits1 {g : Val → M Val} (hr : ∀ xs, (∀ x, xs ≠ [x]) → f xs = M.bad) (he : ∀ x, f [x] = g x)
    (k : ∀ (Oc : Own) (φ : Fi) (H : Hp) (st : Store) (σ : Sl) (v : V) (x : Val) (Q : VK), SR C.K Oc φ H st → RepV C.K Oc φ H v x → Aft C Oc (rV C Oc) (g x st) φ H σ Q → r [v] H Q) : Fits C r f := by
  intro Oc φ H st σ vs xs Q s rv h
  cases xs with
  | nil =>
    rw [hr [] (fun x z => by cases z)] at h
    exact h.elim
  | cons x xs =>
    cases xs with
    | nil =>
      obtain ⟨v, w, e, h1, h2⟩ := rv
      cases (show w = [] from h2)
      subst e
      rw [he] at h
      exact k Oc φ H st σ v x Q s h1 h
    | cons y ys =>
      rw [hr _ (fun x z => by cases z)] at h
      exact h.elim
theorem fits2 {g : Val → Val → M Val} (hr : ∀ xs, (∀ x y, xs ≠ [x, y]) → f xs = M.bad) (he : ∀ x y, f [x, y] = g x y)
    (k : ∀ (Oc : Own) (φ : Fi) (H : Hp) (st : Store) (σ : Sl) (v u : V) (x y : Val) (Q : VK), SR C.K Oc φ H st → RepV C.K Oc φ H v x → RepV C.K Oc φ H u y → Aft C Oc (rV C Oc) (g x y st) φ H σ Q → r [v, u] H Q) : Fits C r f := by
  intro Oc φ H st σ vs xs Q s rv h
  cases xs with
  | nil =>
    rw [hr [] (fun x y z => by cases z)] at h
    exact h.elim
  | cons x xs =>
    cases xs with
    | nil =>
      rw [hr _ (fun x y z => by cases z)] at h
      exact h.elim
    | cons y ys =>
      cases ys with
      | nil =>
        obtain ⟨v, w, e, h1, u, w2, e2, h2, h3⟩ := rv
        cases (show w2 = [] from h3)
        subst e2
        subst e
        rw [he] at h
        exact k Oc φ H st σ v u x y Q s h1 h2 h
      | cons z zs =>
        rw [hr _ (fun x y z => by cases z)] at h
        exact h.elim
end

section
variable {C : Cn}
theorem f_len : Fits C (fun xs H Q => ∃ x n, xs = [x] ∧ LenV C.K x H n ∧ Q (.int n) H) (biV .len) :=
  fits1 (g := lenV) (fun xs hx => by
    cases xs with
    | nil => rfl
    | cons x xs => cases xs with
      | nil => exact absurd rfl (hx x)
      | cons => rfl) (fun x => rfl) fun Oc φ H st σ v x Q s r h => by
    have seqs : Aft C Oc (rV C Oc) ((seqV x >>= fun vs => M.pure (.d (.int vs.length))) st) φ H σ Q → ∃ x n, [v] = [x] ∧ LenV C.K x H n ∧ Q (.int n) H := fun h => by
      obtain ⟨a, vs, xs, e, q, z, h⟩ := seqV_ok s r h
      refine ⟨v, vs.length, rfl, ?_, ?_⟩
      · rw [e]
        rcases q with q | q
        · exact .inl ⟨vs, q, rfl⟩
        · exact .inr ⟨vs, q, rfl⟩
      · rw [z.length]
        exact Aft.ok h s (show RepV C.K Oc φ H (.int xs.length) (.d (.int xs.length)) from rfl)
    cases x with
    | d x =>
      cases x with
      | str z =>
        have h' : Aft C Oc (rV C Oc) ((if z.length ≤ lineLen then M.pure (.d (.int z.length)) else M.bad : M Val) st) φ H σ Q := h
        by_cases hz : z.length ≤ lineLen
        · rw [if_pos hz] at h'
          refine ⟨v, z.length, rfl, ?_, Aft.ok h' s (show RepV C.K Oc φ H (.int z.length) (.d (.int z.length)) from rfl)⟩
          rw [show v = .str z from r]
          exact ⟨by rw [← line_eq]; exact hz, rfl⟩
        · rw [if_neg hz] at h'
          exact h'.elim
      | _ => exact seqs h
    | _ => exact seqs h
theorem sumI_ok {Oc : Own} {φ : Fi} {H : Hp} {st : Store} {σ : Sl} {β γ : Type} {rq : Fi → Hp → β → γ → Prop} {Q : β → Hp → Prop} : ∀ {xs : List Val} {vs : List V} {f : Int → M γ}, RepVs C.K Oc φ H vs xs → Aft C Oc rq ((sumI xs >>= f) st) φ H σ Q → ∃ ns : List Int, vs = ns.map V.int ∧ Aft C Oc rq (f ns.sum st) φ H σ Q
  | [], vs, f, r, h => ⟨[], r, h⟩
  | .d (.int i) :: xs, vs, f, r, h => by
    obtain ⟨v, w, e, h1, h2⟩ := r
    have h' : Aft C Oc rq (((sumI xs >>= fun n => M.pure (i + n)) >>= f) st) φ H σ Q := h
    rw [M.assoc] at h'
    obtain ⟨ns, e2, h3⟩ := sumI_ok h2 h'
    refine ⟨i :: ns, ?_, by rw [List.sum_cons]; exact h3⟩
    rw [e, e2, show v = .int i from h1]; rfl
  | .d .non :: xs, vs, f, r, h => h.elim
  | .d (.bl _) :: xs, vs, f, r, h => h.elim
  | .d (.str _) :: xs, vs, f, r, h => h.elim
  | .d (.tup _) :: xs, vs, f, r, h => h.elim
  | .d (.lst _) :: xs, vs, f, r, h => h.elim
  | .d (.dct _) :: xs, vs, f, r, h => h.elim
  | .loc _ :: xs, vs, f, r, h => h.elim
  | .exn _ _ :: xs, vs, f, r, h => h.elim
  | .scr _ :: xs, vs, f, r, h => h.elim
theorem f_sum : Fits C (rSum C.K) (biV .sum) :=
  fits1 (g := fun x => listV x >>= fun vs => sumI vs >>= fun n => M.pure (.d (.int n))) (fun xs hx => by
    cases xs with
    | nil => rfl
    | cons x xs => cases xs with
      | nil => exact absurd rfl (hx x)
      | cons => rfl) (fun x => rfl) fun Oc φ H st σ v x Q s r h => by
    obtain ⟨a, vs, xs, e, q, z, h⟩ := listV_ok s r h
    obtain ⟨ns, e2, h⟩ := sumI_ok z h
    subst e2
    exact ⟨a, ns, by rw [e], SqL.of q, Aft.ok h s (show RepV C.K Oc φ H (.int ns.sum) (.d (.int ns.sum)) from rfl)⟩
theorem allB_ok {Oc : Own} {φ : Fi} {H : Hp} {st : Store} {σ : Sl} {β γ : Type} {rq : Fi → Hp → β → γ → Prop} {Q : β → Hp → Prop} : ∀ {xs : List Val} {vs : List V} {f : Bool → M γ}, RepVs C.K Oc φ H vs xs → Aft C Oc rq ((allB xs >>= f) st) φ H σ Q → ∃ ns : List Bool, vs = ns.map V.bl ∧ Aft C Oc rq (f (ns.all id) st) φ H σ Q
  | [], vs, f, r, h => ⟨[], r, h⟩
  | .d (.bl i) :: xs, vs, f, r, h => by
    obtain ⟨v, w, e, h1, h2⟩ := r
    have h' : Aft C Oc rq (((allB xs >>= fun n => M.pure (i && n)) >>= f) st) φ H σ Q := h
    rw [M.assoc] at h'
    obtain ⟨ns, e2, h3⟩ := allB_ok h2 h'
    refine ⟨i :: ns, ?_, by rw [List.all_cons]; exact h3⟩
    rw [e, e2, show v = .bl i from h1]; rfl
  | .d .non :: xs, vs, f, r, h => h.elim
  | .d (.int _) :: xs, vs, f, r, h => h.elim
  | .d (.str _) :: xs, vs, f, r, h => h.elim
  | .d (.tup _) :: xs, vs, f, r, h => h.elim
  | .d (.lst _) :: xs, vs, f, r, h => h.elim
  | .d (.dct _) :: xs, vs, f, r, h => h.elim
  | .loc _ :: xs, vs, f, r, h => h.elim
  | .exn _ _ :: xs, vs, f, r, h => h.elim
  | .scr _ :: xs, vs, f, r, h => h.elim
theorem f_all : Fits C (rAll C.K) (biV .all) :=
  fits1 (g := fun x => listV x >>= fun vs => allB vs >>= fun n => M.pure (.d (.bl n))) (fun xs hx => by
    cases xs with
    | nil => rfl
    | cons x xs => cases xs with
      | nil => exact absurd rfl (hx x)
      | cons => rfl) (fun x => rfl) fun Oc φ H st σ v x Q s r h => by
    obtain ⟨a, vs, xs, e, q, z, h⟩ := listV_ok s r h
    obtain ⟨ns, e2, h⟩ := allB_ok z h
    subst e2
    exact ⟨a, ns, by rw [e], SqL.of q, aft_bl h s⟩
theorem anyB_ok {Oc : Own} {φ : Fi} {H : Hp} {st : Store} {σ : Sl} {β γ : Type} {rq : Fi → Hp → β → γ → Prop} {Q : β → Hp → Prop} : ∀ {xs : List Val} {vs : List V} {f : Bool → M γ}, RepVs C.K Oc φ H vs xs → Aft C Oc rq ((anyB xs >>= f) st) φ H σ Q → ∃ ns : List Bool, vs = ns.map V.bl ∧ Aft C Oc rq (f (ns.any id) st) φ H σ Q
  | [], vs, f, r, h => ⟨[], r, h⟩
  | .d (.bl i) :: xs, vs, f, r, h => by
    obtain ⟨v, w, e, h1, h2⟩ := r
    have h' : Aft C Oc rq (((anyB xs >>= fun n => M.pure (i || n)) >>= f) st) φ H σ Q := h
    rw [M.assoc] at h'
    obtain ⟨ns, e2, h3⟩ := anyB_ok h2 h'
    refine ⟨i :: ns, ?_, by rw [List.any_cons]; exact h3⟩
    rw [e, e2, show v = .bl i from h1]; rfl
  | .d .non :: xs, vs, f, r, h => h.elim
  | .d (.int _) :: xs, vs, f, r, h => h.elim
  | .d (.str _) :: xs, vs, f, r, h => h.elim
  | .d (.tup _) :: xs, vs, f, r, h => h.elim
  | .d (.lst _) :: xs, vs, f, r, h => h.elim
  | .d (.dct _) :: xs, vs, f, r, h => h.elim
  | .loc _ :: xs, vs, f, r, h => h.elim
  | .exn _ _ :: xs, vs, f, r, h => h.elim
  | .scr _ :: xs, vs, f, r, h => h.elim
theorem f_any : Fits C (rAny C.K) (biV .any) :=
  fits1 (g := fun x => listV x >>= fun vs => anyB vs >>= fun n => M.pure (.d (.bl n))) (fun xs hx => by
    cases xs with
    | nil => rfl
    | cons x xs => cases xs with
      | nil => exact absurd rfl (hx x)
      | cons => rfl) (fun x => rfl) fun Oc φ H st σ v x Q s r h => by
    obtain ⟨a, vs, xs, e, q, z, h⟩ := listV_ok s r h
    obtain ⟨ns, e2, h⟩ := anyB_ok z h
    subst e2
    exact ⟨a, ns, by rw [e], SqL.of q, aft_bl h s⟩
theorem f_int : Fits C (fun xs H Q => (∃ i, xs = [.int i] ∧ Q (.int i) H) ∨ ∃ k, xs = [.bl k] ∧ Q (.int (if k then 1 else 0)) H) (biV .int) := by
  intro Oc φ H st σ vs xs Q s rv h
  cases xs with
  | nil => exact h.elim
  | cons x xs =>
    cases xs with
    | nil =>
      obtain ⟨v, w, e, h1, h2⟩ := rv
      cases (show w = [] from h2)
      subst e
      cases x with
      | d x =>
        cases x with
        | int i => exact .inl ⟨i, by rw [show v = .int i from h1], Aft.ok h s (show RepV C.K Oc φ H (.int i) (.d (.int i)) from rfl)⟩
        | bl i => exact .inr ⟨i, by rw [show v = .bl i from h1], Aft.ok h s (show RepV C.K Oc φ H (.int (if i then 1 else 0)) (.d (.int (b2n i))) from rfl)⟩
        | _ => exact h.elim
      | _ => exact h.elim
    | cons y ys =>
      cases x with
      | d x => cases x <;> exact h.elim
      | _ => exact h.elim
theorem f_str : Fits C (fun xs H Q => ∃ i, xs = [.int i] ∧ i.natAbs.log2 < 1920 ∧ Q (.str (toString i)) H) (biV .str) := by
  intro Oc φ H st σ vs xs Q s rv h
  cases xs with
  | nil => exact h.elim
  | cons x xs =>
    cases xs with
    | nil =>
      obtain ⟨v, w, e, h1, h2⟩ := rv
      cases (show w = [] from h2)
      subst e
      cases x with
      | d x =>
        cases x with
        | int i =>
          have h' : Aft C Oc (rV C Oc) ((if i.natAbs.log2 < 1920 then M.pure (.d (.str (toString i))) else M.bad : M Val) st) φ H σ Q := h
          by_cases hz : i.natAbs.log2 < 1920
          · rw [if_pos hz] at h'
            exact ⟨i, by rw [show v = .int i from h1], hz, Aft.ok h' s (show RepV C.K Oc φ H (.str (toString i)) (.d (.str (toString i))) from rfl)⟩
          · rw [if_neg hz] at h'
            exact h'.elim
        | _ => exact h.elim
      | _ => exact h.elim
    | cons y ys =>
      cases x with
      | d x => cases x <;> exact h.elim
      | _ => exact h.elim
theorem f_repr : Fits C (rRep C.K) (biV .repr) :=
  fits1 (g := fun x => dataV x >>= fun d => if reprOk d then M.pure (.d (.str d.py.shown)) else M.bad) (fun xs hx => by
    cases xs with
    | nil => rfl
    | cons x xs => cases xs with
      | nil => exact absurd rfl (hx x)
      | cons => rfl) (fun x => rfl) fun Oc φ H st σ v x Q s r h => by
    obtain ⟨d, hd, h⟩ := dataV_ok s r h
    by_cases hz : reprOk d = true
    · rw [if_pos hz] at h
      unfold reprOk at hz
      simp only [Bool.and_eq_true, decide_eq_true_eq] at hz
      obtain ⟨⟨hf, hs⟩, hw⟩ := hz
      have fl := fit_flat hf
      exact ⟨v, d.py, rfl, hd fl, small_py fl hs, noDict_py fl, fit_depth hf, by
        have := shown_wt fl hs
        rw [← line_eq]
        omega, Aft.ok h s (show RepV C.K Oc φ H (.str d.py.shown) (.d (.str d.py.shown)) from rfl)⟩
    · rw [if_neg hz] at h
      exact h.elim
theorem f_abs : Fits C (fun xs H Q => ∃ i, xs = [.int i] ∧ Q (.int (if i < 0 then -i else i)) H) (biV .abs) :=
  fits1 (g := fun x => intV x >>= fun i => M.pure (.d (.int (if i < 0 then -i else i)))) (fun xs hx => by
    cases xs with
    | nil => rfl
    | cons x xs => cases xs with
      | nil => exact absurd rfl (hx x)
      | cons => rfl) (fun x => rfl) fun Oc φ H st σ v x Q s r h => by
    obtain ⟨i, e, h⟩ := intV_ok r h
    exact ⟨i, by rw [e], Aft.ok h s (show RepV C.K Oc φ H (.int (if i < 0 then -i else i)) (.d (.int (if i < 0 then -i else i))) from rfl)⟩
def tupV (x : Val) : M Val := match x with
    | .d (.tup xs) => M.pure (.d (.tup xs))
    | x => do let vs ← listV x; let xs ← datas vs; M.pure (.d (.tup xs))
theorem f_tuple : Fits C (fun xs H Q => ∃ p ys, xs = [.ref p] ∧ ((SqL C.K H p ys ∧ ∀ l, H l = none → NewT l ys H Q) ∨ (SqT C.K H p ys ∧ Q (.ref p) H))) (biV .tuple) :=
  fits1 (g := tupV) (fun xs hx => by
    cases xs with
    | nil => rfl
    | cons x xs => cases xs with
      | nil => exact absurd rfl (hx x)
      | cons => rfl) (fun x => rfl) fun Oc φ H st σ v x Q s r h => by
    have seqs : Aft C Oc (rV C Oc) ((listV x >>= fun vs => datas vs >>= fun xs => M.pure (.d (.tup xs))) st) φ H σ Q → ∃ p ys, [v] = [.ref p] ∧ ((SqL C.K H p ys ∧ ∀ l, H l = none → NewT l ys H Q) ∨ (SqT C.K H p ys ∧ Q (.ref p) H)) := fun h => by
      obtain ⟨a, vs, xs, e, q, z, h1⟩ := listV_ok s r h
      obtain ⟨ds, e2, h2⟩ := datas_go h1
      clear h h1
      subst e2
      exact ⟨a, vs, by rw [e], .inl ⟨SqL.of q, fun l hl => new_tup h2 s z.to_D hl⟩⟩
    cases x with
    | d x =>
      cases x with
      | tup xs =>
        obtain ⟨a, vs, e, q, z⟩ := (show RepD C.K (own Oc φ) H v (.tup xs) from r)
        exact ⟨a, vs, by rw [e], .inr ⟨q.to, Aft.ok h s (show RepV C.K Oc φ H (.ref a) (.d (.tup xs)) from ⟨a, vs, rfl, q, z⟩)⟩⟩
      | _ => exact seqs h
    | _ => exact seqs h
theorem f_list {c : Bool} : Fits C (fun xs H Q => ∃ p ys, xs = [.ref p] ∧ (SqL C.K H p ys ∨ SqT C.K H p ys) ∧ ∀ l, H l = none → Q (.ref l) (upd H l (.lst ys))) (biV (.list c)) :=
  fits1 (g := fun x => seqV x >>= fun vs => mkList c vs) (fun xs hx => by
    cases xs with
    | nil => rfl
    | cons x xs => cases xs with
      | nil => exact absurd rfl (hx x)
      | cons => rfl) (fun x => rfl) fun Oc φ H st σ v x Q s r h => by
    obtain ⟨a, vs, xs, e, q, z, h⟩ := seqV_ok s r h
    exact ⟨a, vs, by rw [e], q, fun l hl => new_list h s z hl⟩
theorem f_min2 : Fits C (fun xs H Q => ∃ i j, xs = [.int i, .int j] ∧ Q (.int (if j < i then j else i)) H) (biV .min2) :=
  fits2 (g := fun x y => intV x >>= fun i => intV y >>= fun j => M.pure (.d (.int (if j < i then j else i)))) (fun xs hx => by
    cases xs with
    | nil => rfl
    | cons x xs => cases xs with
      | nil => rfl
      | cons y ys => cases ys with
        | nil => exact absurd rfl (hx x y)
        | cons => rfl) (fun x y => rfl) fun Oc φ H st σ v u x y Q s r r' h => by
    obtain ⟨i, e, h⟩ := intV_ok r h
    obtain ⟨j, e', h⟩ := intV_ok r' h
    exact ⟨i, j, by rw [e, e'], Aft.ok h s (show RepV C.K Oc φ H (.int (if j < i then j else i)) (.d (.int (if j < i then j else i))) from rfl)⟩
theorem f_max2 : Fits C (fun xs H Q => ∃ i j, xs = [.int i, .int j] ∧ Q (.int (if j > i then j else i)) H) (biV .max2) :=
  fits2 (g := fun x y => intV x >>= fun i => intV y >>= fun j => M.pure (.d (.int (if j > i then j else i)))) (fun xs hx => by
    cases xs with
    | nil => rfl
    | cons x xs => cases xs with
      | nil => rfl
      | cons y ys => cases ys with
        | nil => exact absurd rfl (hx x y)
        | cons => rfl) (fun x y => rfl) fun Oc φ H st σ v u x y Q s r r' h => by
    obtain ⟨i, e, h⟩ := intV_ok r h
    obtain ⟨j, e', h⟩ := intV_ok r' h
    exact ⟨i, j, by rw [e, e'], Aft.ok h s (show RepV C.K Oc φ H (.int (if j > i then j else i)) (.d (.int (if j > i then j else i))) from rfl)⟩
end
end Ev
set_option maxRecDepth 100000
set_option maxHeartbeats 4000000
/-! Ev, part I: isinstance; methods of lists; dicts. -/
namespace Ev
open PySem PySem.Spec PyProof.Rows L2

/-! ### isinstance -/
def Ty.nm : Ty → String
  | .str => "str"
  | .int => "int"
  | .bool => "bool"
  | .tuple => "tuple"
  | .list => "list"
  | .dict => "dict"
  | .cls _ => "object"
def dTy : D → String
  | .non => "NoneType"
  | .bl _ => "bool"
  | .int _ => "int"
  | .str _ => "str"
  | .tup _ => "tuple"
  | .lst _ => "list"
  | .dct _ => "dict"
def tyIs (t : Ty) (n : String) : Bool := match t, n with
  | .str, "str" => true
  | .int, "int" => true
  | .int, "bool" => true
  | .bool, "bool" => true
  | .tuple, "tuple" => true
  | .list, "list" => true
  | .dict, "dict" => true
  | _, _ => false
theorem kit_tab {K : PySem.W.Frag} (t : Ty) (ht : ∀ c, t ≠ .cls c) (n : String) (hn : n ∈ ["NoneType", "bool", "int", "str", "tuple", "list", "dict"]) : PySem.W.kitOne K (.type n) (.type t.nm) = some (tyIs t n) := by
  refine kit_ty ?_
  have key : ∀ t ∈ [Ty.str, .int, .bool, .tuple, .list, .dict], ∀ n ∈ ["NoneType", "bool", "int", "str", "tuple", "list", "dict"], kitB n t.nm = some (tyIs t n) := by decide +kernel
  refine key t ?_ n hn
  cases t <;> first | exact absurd rfl (ht _) | simp
section
variable {X : Cx} {C : Cn} {e : Expr} {p pos : Pos} {m : Env → M Val}
theorem tyx_of {Oc : Own} {φ : Fi} {H : Hp} {v : V} {d : D} (r : RepD C.K (own Oc φ) H v d) : TyX C.K H v (.type (dTy d)) := by
  cases d with
  | non => cases (show v = .non from r); exact .base .non
  | bl b => cases (show v = .bl b from r); exact .base (.bl b)
  | int b => cases (show v = .int b from r); exact .base (.int b)
  | str b => cases (show v = .str b from r); exact .base (.str b)
  | tup xs =>
    obtain ⟨a, vs, e, q, _⟩ := (show RepD C.K (own Oc φ) H v (.tup xs) from r)
    subst e
    rcases q with ⟨o, q, _⟩ | ⟨o, its, n, h1, h2, _⟩
    · exact .fTuple q
    · exact .kTuple h1 h2
  | lst xs =>
    obtain ⟨a, vs, e, _, q, _⟩ := (show RepD C.K (own Oc φ) H v (.lst xs) from r)
    subst e
    exact .base (.lst q)
  | dct xs =>
    obtain ⟨a, vs, e, _, q, _⟩ := (show RepD C.K (own Oc φ) H v (.dct xs) from r)
    subst e
    exact .base (.dK q)
def mInst (t : Ty) (m : Env → M Val) : Env → M Val := fun ρ => m ρ >>= fun x => isTy t x >>= fun b => M.pure (.d (.bl b))
theorem s_inst (hK : C.K = X.K) {t : Ty} (ht : ∀ c, t ≠ .cls c) {x : Str} {p2 : Pos} (hx : x = Str.ofString t.nm) (hg : Gl X "isinstance") (hm : X.mg "isinstance" = none) (hg2 : Gl X x) (hm2 : X.mg x = none) (ha : PE X e (tE C m)) (hs : noStar e = true) :
    PE X (.Call (.Name "isinstance" p) [e, .Name x p2] [] pos) (tE C (mInst t m)) := by
  have hv : bootBuiltins (Str.ofString t.nm) = some (.type t.nm) := by
    cases t <;> first | decide +kernel | exact absurd rfl (ht _)
  have hT : PE X (.Name x p2) (tC (.ty t.nm)) := by
    subst hx
    refine pe_bltn hg2 hm2 hv rfl ?_ ?_
    · cases t <;> first | decide +kernel | exact absurd rfl (ht _)
    · cases t <;> first | decide +kernel | exact absurd rfl (ht _)
  refine imp_e (pe_callB call_isi hg hm (by decide +kernel) (pa_cons ha (pa_cons hT pa_nil (star_one rfl [] X.env)) (star_one hs _ X.env)) (by decide +kernel) (by decide +kernel) (star_one hs _ X.env) (back_all pos X.env rfl)) fun σ H Q t' => ?_
  obtain ⟨Oc, φ, st, ρ, p, t'⟩ := tM.one (rp := rV C) t'
  refine ⟨Oc, φ, st, ρ, p, t'.mono fun v H1 ⟨Oc, φ, st, ρ, x, p, r, h⟩ => ?_⟩
  show ∃ (x c : V) (t' u : Value) (b : Bool), [v, V.ty t.nm] = [x, c] ∧ ClsV c u ∧ TyX X.K H1 x t' ∧ PySem.W.kitOne X.K t' u = some b ∧ Q (.bl b) H1
  have fin : ∀ (n : String), n ∈ ["NoneType", "bool", "int", "str", "tuple", "list", "dict"] → TyX C.K H1 v (.type n) → Q (.bl (tyIs t n)) H1 → ∃ (x c : V) (t' u : Value) (b : Bool), [v, V.ty t.nm] = [x, c] ∧ ClsV c u ∧ TyX X.K H1 x t' ∧ PySem.W.kitOne X.K t' u = some b ∧ Q (.bl b) H1 :=
    fun n hn ty q => ⟨v, .ty t.nm, .type n, .type t.nm, tyIs t n, rfl, .ty _, by rw [← hK]; exact ty, kit_tab t ht n hn, q⟩
  cases x with
  | d x =>
    have e : isTy t (.d x) = M.pure (tyIs t (dTy x)) := by
      funext s
      cases t <;> first | exact absurd rfl (ht _) | (cases x <;> rfl)
    rw [e] at h
    exact fin (dTy x) (by cases x <;> simp [dTy]) (tyx_of r) (aft_bl h p.sr)
  | loc n =>
    obtain ⟨hn, ha⟩ := r
    have h' : Aft C Oc (rV C Oc) (M.bind (isTy t (.loc n)) (fun b => M.pure (.d (.bl b))) st) φ H1 σ Q := h
    unfold M.bind isTy at h'
    cases e : st[n]? with
    | none =>
      simp only [e] at h'
      exact h'.elim
    | some c =>
      simp only [e] at h'
      cases c with
      | lst xs =>
        obtain ⟨a, q1, vs, q2, q3⟩ := p.sr.cell hn e (fun z => by cases z)
        refine fin "list" (by simp) (by rw [ha a q1]; exact .base (.lst q2)) ?_
        refine aft_bl (st := st) (Oc := Oc) (φ := φ) (σ := σ) ?_ p.sr
        cases t <;> first | exact absurd rfl (ht _) | exact h'
      | dct xs =>
        obtain ⟨a, q1, vs, q2, q3⟩ := p.sr.cell hn e (fun z => by cases z)
        refine fin "dict" (by simp) (by rw [ha a q1]; exact .base (.dK q2)) ?_
        refine aft_bl (st := st) (Oc := Oc) (φ := φ) (σ := σ) ?_ p.sr
        cases t <;> first | exact absurd rfl (ht _) | exact h'
      | ins => exact h'.elim
      | dead => exact h'.elim
  | exn c xs => exact h.elim
  | scr ns => exact h.elim
end
end Ev
set_option maxRecDepth 100000
set_option maxHeartbeats 4000000
/-! Ev, part J: statements. -/
namespace Ev
open PySem PySem.Spec PyProof.Rows L2

/-- behind a statement's answer -/
def AftS (C : Cn) (Oc : Own) (r : RS) (φ : Fi) (H : Hp) (D : Ends) : Prop := match r with
  | .ok f ρ s' => ∀ φ' H' σ', Stp φ φ' H H' → Pt C Oc φ' H' s' ρ σ' → (match f with
    | .nx => D.nx σ' H'
    | .rt v => ∀ u, RepV C.K Oc φ' H' u v → D.rt u H'
    | .bk => D.bk σ' H'
    | .ct => D.ct σ' H')
  | .exc c xs ρ s' => ∀ φ' H' σ' cls d, Stp φ φ' H H' → Pt C Oc φ' H' s' ρ σ' → ExR C (own Oc φ') H' c xs cls d → C.W cls d σ' H'
  | .bad => False
def tS (C : Cn) (m : Ms) : TS := fun D σ H => ∃ Oc φ st ρ, Pt C Oc φ H st ρ σ ∧ AftS C Oc (m ρ st) φ H D

section
variable {C : Cn} {Oc : Own} {φ φ' : Fi} {H H' : Hp} {st : Store} {ρ : Env} {σ : Sl} {D D' : Ends} {α β : Type}
theorem AftS.back {r : RS} (s : Stp φ φ' H H') (h : AftS C Oc r φ H D) : AftS C Oc r φ' H' D := by
  cases r with
  | ok f ρ s' => exact fun φ2 H2 σ2 t => h φ2 H2 σ2 (s.trans t)
  | exc c xs ρ s' => exact fun φ2 H2 σ2 cls d t => h φ2 H2 σ2 cls d (s.trans t)
  | bad => exact h
/-- an expression ahead -/
theorem ex_ok {rp : Fi → Hp → β → α → Prop} {m : M α} {f : α → Store → RS} (p : Pt C Oc φ H st ρ σ) (h : AftS C Oc (ex m ρ f st) φ H D) :
    Aft C Oc rp (m st) φ H σ fun b H1 => ∃ φ1 s1 a, Stp φ φ1 H H1 ∧ Pt C Oc φ1 H1 s1 ρ σ ∧ rp φ1 H1 b a ∧ AftS C Oc (f a s1) φ1 H1 D := by
  unfold ex at h
  cases e : m st with
  | ok a s' =>
    rw [e] at h
    exact fun φ1 H1 b s r q => ⟨φ1, s', a, s, p.step s r, q, h.back s⟩
  | exc c xs s' =>
    rw [e] at h
    exact fun φ1 H1 cls d s r x => h φ1 H1 σ cls d s (p.step s r) x
  | bad =>
    rw [e] at h
    exact h
theorem AftS.nx {ρ' : Env} (h : AftS C Oc (.ok .nx ρ' st) φ H D) {σ' : Sl} (p : Pt C Oc φ H st ρ' σ') : D.nx σ' H := h φ H σ' (Stp.refl φ H) p
end

section
variable {X : Cx} {C : Cn} {e a b o i : Expr} {pos : Pos} {m n l : Env → M Val} {k : Env → M Bool} {x y : Ms} {s1 : Stmt} {ss st1 st2 : List Stmt}
theorem ss_nil : PSs X [] (tS C sNx) := imp_ss pss_nil fun D σ H ⟨Oc, φ, st, ρ, p, h⟩ => AftS.nx h p
theorem ss_cons (h1 : PS X s1 (tS C x)) (h2 : PSs X ss (tS C y)) : PSs X (s1 :: ss) (tS C (sSeq x y)) :=
  imp_ss (pss_cons h1 h2) fun D σ H ⟨Oc, φ, st, ρ, p, h⟩ => by
    refine ⟨Oc, φ, st, ρ, p, ?_⟩
    unfold sSeq at h
    cases q : x ρ st with
    | ok f ρ' s' =>
      rw [q] at h
      cases f with
      | nx => exact fun φ' H' σ' s p' => ⟨Oc, φ', s', ρ', p', AftS.back s h⟩
      | rt v => exact h
      | bk => exact h
      | ct => exact h
    | exc c xs ρ' s' =>
      rw [q] at h
      exact h
    | bad =>
      rw [q] at h
      exact h
theorem ss_pass : PS X (.Pass pos) (tS C sNx) := imp_s ps_pass fun D σ H ⟨Oc, φ, st, ρ, p, h⟩ => AftS.nx h p
theorem ss_brk : PS X (.Break pos) (tS C sBrk) := imp_s ps_break fun D σ H ⟨Oc, φ, st, ρ, p, h⟩ => h φ H σ (Stp.refl φ H) p
theorem ss_cnt : PS X (.Continue pos) (tS C sCnt) := imp_s ps_continue fun D σ H ⟨Oc, φ, st, ρ, p, h⟩ => h φ H σ (Stp.refl φ H) p
theorem ss_retn : PS X (.Return none pos) (tS C sRetN) := imp_s ps_retN fun D σ H ⟨Oc, φ, st, ρ, p, h⟩ => h φ H σ (Stp.refl φ H) p _ (show RepV C.K Oc φ H .non (.d .non) from rfl)
theorem ss_ret (ha : PE X e (tE C m)) : PS X (.Return (some e) pos) (tS C (sRet m)) :=
  imp_s (ps_ret ha) fun D σ H ⟨Oc, φ, st, ρ, p, h⟩ => ⟨Oc, φ, st, ρ, p, (ex_ok (rp := rV C Oc) p h).mono fun v H1 ⟨φ1, s1, x, s, p1, r, h⟩ => h φ1 H1 σ (Stp.refl φ1 H1) p1 v r⟩
theorem ss_exp (ha : PE X e (tE C m)) (hs : swapsWith e none pos.line X.env = pure false) : PS X (.Expr e pos) (tS C (sExp m)) :=
  imp_s (ps_expr ha hs) fun D σ H ⟨Oc, φ, st, ρ, p, h⟩ => ⟨Oc, φ, st, ρ, p, (ex_ok (rp := rV C Oc) p h).mono fun v H1 ⟨φ1, s1, x, s, p1, r, h⟩ => h φ1 H1 σ (Stp.refl φ1 H1) p1⟩
theorem ss_if (hc : PT X e (tT C k)) (ha : PSs X st1 (tS C x)) (hb : PSs X st2 (tS C y)) : PS X (.If e st1 st2 pos) (tS C (sIf k x y)) :=
  imp_s (ps_if hc ha hb) fun D σ H ⟨Oc, φ, st, ρ, p, h⟩ => ⟨Oc, φ, st, ρ, p, (ex_ok (rp := rB) p h).mono fun v H1 ⟨φ1, s1, z, s, p1, r, h⟩ => by
    cases (show v = z from r)
    cases v with
    | true => rw [if_pos rfl] at h ⊢; exact ⟨Oc, φ1, s1, ρ, p1, h⟩
    | false => rw [if_neg Bool.false_ne_true] at h ⊢; exact ⟨Oc, φ1, s1, ρ, p1, h⟩⟩

/-! ### targets -/
mutual
def Tg.ix : Tg → List Nat
  | .nm i => [i]
  | .tp ts => Tg.ixs ts
def Tg.ixs : List Tg → List Nat
  | [] => []
  | t :: ts => t.ix ++ Tg.ixs ts
end
/-- the same but at these places -/
structure Agr (is : List Nat) (σ σ' : Sl) : Prop where
  len : σ'.length = σ.length
  at_ : ∀ j, j ∉ is → σ'[j]? = σ[j]?
/-- a target's reading: at whatever data stands for the value -/
def gM (C : Cn) (t : Tg) : TG := fun v σ H Q => ∃ Oc φ st ρ x ρ', Pt C Oc φ H st ρ σ ∧ RepV C.K Oc φ H v x ∧ tgV t x ρ = some ρ' ∧ ∀ σ', Pt C Oc φ H st ρ' σ' → Agr t.ix σ σ' → Q σ' H
def gMs (C : Cn) (ts : List Tg) : TGs := fun vs σ H Q => ∃ Oc φ st ρ xs ρ', Pt C Oc φ H st ρ σ ∧ RepVs C.K Oc φ H vs xs ∧ tgVs ts xs ρ = some ρ' ∧ ∀ σ', Pt C Oc φ H st ρ' σ' → Agr (Tg.ixs ts) σ σ' → Q σ' H
theorem imp_g {tg : Expr} {g g' : TG} (h : PG X tg g) (i : ∀ v σ H Q, g' v σ H Q → g v σ H Q) : PG X tg g' := ⟨fun pins s σ H v u Q I r q => h.run pins s σ H v u Q I r (i v σ H Q q)⟩
theorem imp_gs {tg : List Expr} {g g' : TGs} (h : PGs X tg g) (i : ∀ v σ H Q, g' v σ H Q → g v σ H Q) : PGs X tg g' := ⟨fun pins s σ H v u Q I r q => h.run pins s σ H v u Q I r (i v σ H Q q)⟩
theorem ER.put {K : PySem.W.Frag} {Oc : Own} {φ : Fi} {H : Hp} {ρ : Env} {σ : Sl} {v : V} {x : Val} (r : ER K Oc φ H ρ σ) (h : RepV K Oc φ H v x) (i : Nat) : ER K Oc φ H (ρ.set i (some x)) (σ.set i (some v)) where
  len := by simp [r.len]
  at_ := fun j y e => by
    by_cases hj : j = i
    · subst hj
      by_cases hl : j < ρ.length
      · rw [List.getElem?_set_self hl] at e
        cases e
        exact ⟨v, by rw [List.getElem?_set_self (by rw [← r.len]; exact hl)], h⟩
      · rw [List.getElem?_eq_none (by simpa using hl)] at e
        cases e
    · rw [List.getElem?_set_ne (Ne.symm hj)] at e
      obtain ⟨w, h1, h2⟩ := r.at_ j y e
      exact ⟨w, by rw [List.getElem?_set_ne (Ne.symm hj)]; exact h1, h2⟩
theorem g_nm {i : Nat} {x : Str} (hN : X.N.Nodup) (hi : X.N[i]? = some x) (hx : Loc X.env.scope x) (hf : X.fn x = true ∨ X.env.scope.names.lookup x = some .local) : PG X (.Name x pos) (gM C (.nm i)) :=
  imp_g (pg_name hN hi hx hf) fun v σ H Q ⟨Oc, φ, st, ρ, y, ρ', p, r, e, q⟩ => by
    unfold tgV at e
    by_cases hl : i < ρ.length
    · rw [if_pos hl] at e
      cases e
      refine q _ ⟨p.sr, p.er.put r i⟩ ⟨by simp, fun j hj => ?_⟩
      simp only [Tg.ix, List.mem_singleton] at hj
      rw [List.getElem?_set_ne (Ne.symm hj)]
    · rw [if_neg hl] at e
      cases e
theorem gs_nil : PGs X [] (gMs C []) :=
  imp_gs pgs_nil fun v σ H Q ⟨Oc, φ, st, ρ, y, ρ', p, r, e, q⟩ => by
    cases y with
    | nil =>
      cases e
      exact ⟨r, q σ p ⟨rfl, fun _ _ => rfl⟩⟩
    | cons y ys => simp only [tgVs] at e; cases e
theorem gs_cons {es : List Expr} {t : Tg} {ts : List Tg} (h1 : PG X e (gM C t)) (h2 : PGs X es (gMs C ts)) (hs : (assignEach (e :: es) X.env).map (·.2) = assign e X.env :: (assignEach es X.env).map (·.2)) : PGs X (e :: es) (gMs C (t :: ts)) :=
  imp_gs (pgs_cons h1 h2 hs) fun v σ H Q ⟨Oc, φ, st, ρ, y, ρ', p, r, e, q⟩ => by
    cases y with
    | nil => simp only [tgVs] at e; cases e
    | cons y ys =>
      obtain ⟨w, r', e1, h1, h2⟩ := r
      refine ⟨w, r', e1, ?_⟩
      simp only [tgVs] at e
      cases q1 : tgV t y ρ with
      | none => rw [q1] at e; cases e
      | some ρ1 =>
        rw [q1] at e
        refine ⟨Oc, φ, st, ρ, y, ρ1, p, h1, q1, fun σ' p' g1 => ⟨Oc, φ, st, ρ1, ys, ρ', p', h2, e, fun σ2 p2 g2 => q σ2 p2 ⟨g2.len.trans g1.len, fun j hj => ?_⟩⟩⟩
        simp only [Tg.ixs, List.mem_append, not_or] at hj
        rw [g2.at_ j hj.2, g1.at_ j hj.1]
theorem many_len : ∀ ts : List Tg, Tg.many ts = ts.length
  | [] => by simp only [Tg.many, List.length_nil]
  | _ :: ts => by simp only [Tg.many, List.length_cons, many_len ts]
theorem g_tp {es : List Expr} {k : Nat} {ts : List Tg} (hK : C.K = X.K) (hc : X.calm = true) (h : PGs X es (gMs C ts)) (hn : (assignEach es X.env).length = Tg.many ts) (hst : (assignEach es X.env).findIdx? (·.1) = none) : PG X (.Tuple es k pos) (gM C (.tp ts)) :=
  imp_g (pg_tup hc h hn hst) fun v σ H Q ⟨Oc, φ, st, ρ, y, ρ', p, r, e, q⟩ => by
    simp only [tgV] at e
    cases y with
    | d y =>
      cases y with
      | tup xs =>
        simp only at e
        by_cases hl : xs.length = Tg.many ts
        · rw [if_pos hl] at e
          obtain ⟨a, vs, e1, q1, z1⟩ := (show RepD C.K (own Oc φ) H v (.tup xs) from r)
          exact ⟨a, vs, e1, by rw [← hK]; exact q1.to, by rw [z1.length]; exact hl, Oc, φ, st, ρ, _, ρ', p, RepVs.of_D z1, e, fun σ' p' g => q σ' p' (by simpa only [Tg.ix] using g)⟩
        · rw [if_neg hl] at e
          cases e
      | _ => cases e
    | exn c xs =>
      simp only at e
      by_cases hl : c = 0 ∧ xs.length = Tg.many ts
      · rw [if_pos hl] at e
        obtain ⟨a, vs, e1, q1, z1⟩ := r hl.1
        exact ⟨a, vs, e1, by rw [← hK]; exact q1, by rw [z1.length]; exact hl.2, Oc, φ, st, ρ, _, ρ', p, RepVs.of_D z1, e, fun σ' p' g => q σ' p' (by simpa only [Tg.ix] using g)⟩
      · rw [if_neg hl] at e
        cases e
    | _ => cases e
theorem ss_asg {tg : Expr} {t : Tg} (ha : PE X e (tE C m)) (hg : PG X tg (gM C t)) (hs : swapsWithSole [tg] e pos.line X.env = pure false) (hw : swappedStores [tg] e X.env = pure none) (h1 : (assignEach [tg] X.env).map (·.2) = [assign tg X.env]) : PS X (.Assign [tg] e pos) (tS C (sAsg t m)) :=
  imp_s (ps_asg ha hg hs hw h1) fun D σ H ⟨Oc, φ, st, ρ, p, h⟩ => ⟨Oc, φ, st, ρ, p, (ex_ok (rp := rV C Oc) p h).mono fun v H1 ⟨φ1, s1, x, s, p1, r, h⟩ => by
    cases q : tgV t x ρ with
    | none => rw [q] at h; exact h.elim
    | some ρ' =>
      rw [q] at h
      exact ⟨Oc, φ1, s1, ρ, x, ρ', p1, r, q, fun σ' p' _ => AftS.nx h p'⟩⟩

/-! ### what is walked -/
/-- an iterator that yields these -/
def ItOk (C : Cn) (Oc : Own) (φ : Fi) (H : Hp) (J : It) (vs : List Val) : Prop :=
  ∀ O2 φ' H' st', Stp φ φ' H H' → Grow C.K (own Oc φ) (own O2 φ') H H' → SR C.K O2 φ' H' st' → (∀ (i : Nat) x, vs[i]? = some x → J.go i H' ∧ ∀ v H2, J.yld i H' v H2 → Stp φ' φ' H' H2 ∧ SR C.K O2 φ' H2 st' ∧ RepV C.K O2 φ' H2 v x) ∧ ∀ i, vs.length ≤ i → J.stop i H'
def tI (C : Cn) (m : Env → M (List Val)) : TI := tM (fun Oc φ H J vs => ItOk C Oc φ H J vs) C m
theorem Grow.trans {K : PySem.W.Frag} {O1 O2 O3 : Own} {H1 H2 H3 : Hp} (a : Grow K O1 O2 H1 H2) (b : Grow K O2 O3 H2 H3) : Grow K O1 O3 H1 H3 :=
  ⟨fun x xs h => b.tup x xs (a.tup x xs h), fun x xs h => b.wt x xs (a.wt x xs h), fun x xs n h => let z := a.lst x xs n h; b.lst x xs z.1 z.2, fun x xs n h => let z := a.dct x xs n h; b.dct x xs z.1 z.2⟩
theorem RepV.via {K : PySem.W.Frag} {Oc O2 : Own} {φ φ' : Fi} {H H' : Hp} (s : Stp φ φ' H H') (g : Grow K (own Oc φ) (own O2 φ') H H') {x : Val} {v : V} (h : RepV K Oc φ H v x) : RepV K O2 φ' H' v x := by
  cases x with
  | d x => exact RepD.grow g h
  | loc n => exact RepV.step (K := K) (Oc := Oc) s (x := .loc n) h
  | exn c xs =>
    intro hc
    obtain ⟨a, vs, e, q, z⟩ := h hc
    exact ⟨a, vs, e, g.wt _ _ q, RepDs.grow g z⟩
  | scr ns => exact RepV.step (K := K) (Oc := Oc) s (x := .scr ns) h
theorem imp_i {tg : Expr} {w w' : TI} (h : PI X tg e w) (i : ∀ σ H R, w' σ H R → w σ H R) : PI X tg e w' := ⟨fun pins s σ H R I q => h.run pins s σ H R I (i σ H R q)⟩
theorem ss_for {tg : Expr} {t : Tg} {mi : Env → M (List Val)} (hp : PassesOwn (model X.prog X.w) X.A X.env X.xe) (hc : X.calm = true) (hi : PI X tg e (tI C mi)) (hg : PG X tg (gM C t)) (hb : PSs X ss (tS C x))
    (hs : ∀ x, foldedSetIterable e X.env x = pure x) : PS X (.For tg e ss [] pos) (tS C (sFor t mi x)) :=
  imp_s (ps_for hp hc hi hg hb hs) fun D σ H ⟨Oc, φ, st, ρ, p, h⟩ => ⟨Oc, φ, st, ρ, p, (ex_ok (rp := fun φ H J vs => ItOk C Oc φ H J vs) p h).mono fun J H1 ⟨φ1, s1, vs, s, p1, r, h⟩ => by
    refine ⟨fun i m σ H => m = vs.length - i ∧ i ≤ vs.length ∧ ∃ φ2 s2 ρ2, Stp φ1 φ2 H1 H ∧ Pt C Oc φ2 H s2 ρ2 σ ∧ AftS C Oc (sLoop t x (vs.drop i) ρ2 s2) φ2 H D, ⟨vs.length, by simp, Nat.zero_le _, φ1, s1, ρ, Stp.refl _ _, p1, h⟩, ?_⟩
    rintro i m σ2 H2 ⟨rfl, hi, φ2, s2, ρ2, t2, p2, h2⟩
    obtain ⟨hgo, hstop⟩ := r Oc φ2 H2 s2 t2 t2.grow p2.sr
    by_cases hlt : i < vs.length
    · obtain ⟨y, hy⟩ : ∃ y, vs[i]? = some y := ⟨vs[i], by simp [hlt]⟩
      have ed : vs.drop i = y :: vs.drop (i + 1) := by
        rw [List.drop_eq_getElem_cons hlt]
        have : vs[i] = y := by rw [List.getElem?_eq_getElem hlt] at hy; exact Option.some.inj hy
        rw [this]
      rw [ed] at h2
      obtain ⟨g1, g2⟩ := hgo i y hy
      refine .inr ⟨g1, fun σ' H' => ∃ φ3 s3 ρ3, Stp φ1 φ3 H1 H' ∧ Pt C Oc φ3 H' s3 ρ3 σ' ∧ AftS C Oc (sLoop t x (vs.drop (i + 1)) ρ3 s3) φ3 H' D, fun σ' H' ⟨φ3, s3, ρ3, q⟩ => ⟨vs.length - (i + 1), by omega, rfl, hlt, φ3, s3, ρ3, q⟩, fun v H3 yl => ?_⟩
      obtain ⟨t3, sr3, r3⟩ := g2 v H3 yl
      unfold sLoop at h2
      cases q : tgV t y ρ2 with
      | none => rw [q] at h2; exact h2.elim
      | some ρ3 =>
        rw [q] at h2
        refine ⟨Oc, φ2, s2, ρ2, y, ρ3, p2.step t3 sr3, r3, q, fun σ' p' _ => ⟨Oc, φ2, s2, ρ3, p', ?_⟩⟩
        have h3 := AftS.back t3 h2
        simp only at h3
        cases q2 : x ρ3 s2 with
        | ok f ρ4 s4 =>
          rw [q2] at h3
          cases f with
          | nx => exact fun φ4 H4 σ4 t4 p4 => ⟨φ4, s4, ρ4, (t2.trans t3).trans t4, p4, AftS.back t4 h3⟩
          | ct => exact fun φ4 H4 σ4 t4 p4 => ⟨φ4, s4, ρ4, (t2.trans t3).trans t4, p4, AftS.back t4 h3⟩
          | bk => exact h3
          | rt v => exact h3
        | exc c xs ρ4 s4 =>
          rw [q2] at h3
          exact h3
        | bad =>
          rw [q2] at h3
          exact h3
    · have ed : vs.drop i = [] := List.drop_eq_nil_of_le (Nat.le_of_not_lt hlt)
      rw [ed] at h2
      exact .inl ⟨hstop i (Nat.le_of_not_lt hlt), AftS.nx h2 p2⟩⟩
theorem ss_while {W : Nat} (hp : PassesOwn (model X.prog X.w) X.A X.env X.xe) (hc : PT X e (tT C k)) (hb : PSs X ss (tS C x)) : PS X (.While e ss [] pos) (tS C (sWhile k x W)) :=
  imp_s (ps_while hp hc hb) fun D σ H ⟨Oc, φ, st, ρ, p, h⟩ => by
    refine ⟨fun m σ H => ∃ φ s ρ, Pt C Oc φ H s ρ σ ∧ AftS C Oc (sWhile k x m ρ s) φ H D, ⟨W, φ, st, ρ, p, h⟩, ?_⟩
    rintro m σ H ⟨φ, s, ρ, p, h⟩
    cases m with
    | zero => exact h.elim
    | succ m =>
      unfold sWhile at h
      refine ⟨Oc, φ, s, ρ, p, (ex_ok (rp := rB) p h).mono fun v H1 ⟨φ1, s1, z, t1, p1, r, h⟩ => ?_⟩
      cases (show v = z from r)
      cases v with
      | false =>
        rw [if_neg Bool.false_ne_true] at h ⊢
        exact AftS.nx h p1
      | true =>
        rw [if_pos rfl] at h ⊢
        refine ⟨fun σ H => ∃ φ s ρ, Pt C Oc φ H s ρ σ ∧ AftS C Oc (sWhile k x m ρ s) φ H D, fun σ' H' q => ⟨m, Nat.lt_succ_self m, q⟩, Oc, φ1, s1, ρ, p1, ?_⟩
        cases q2 : x ρ s1 with
        | ok f ρ4 s4 =>
          rw [q2] at h
          cases f with
          | nx => exact fun φ4 H4 σ4 t4 p4 => ⟨φ4, s4, ρ4, p4, AftS.back t4 h⟩
          | ct => exact fun φ4 H4 σ4 t4 p4 => ⟨φ4, s4, ρ4, p4, AftS.back t4 h⟩
          | bk => exact h
          | rt v => exact h
        | exc c xs ρ4 s4 =>
          rw [q2] at h
          exact h
        | bad =>
          rw [q2] at h
          exact h
end
end Ev
set_option maxRecDepth 100000
set_option maxHeartbeats 4000000
/-! Ev, part K: defs that ask for no guard around them; calls. -/
namespace Ev
open PySem PySem.Spec PyProof.Rows L2

/-- a def's promise where nothing is under way that repr guards -/
structure FnG (P : Program) (w : World) (K : PySem.W.Frag) (mg : Str → Option Value) (base : Heap) (CX : CXT) (k : Nat) (f : Addr) (fd : FuncData) (ps : List Str) (sp : Sp) : Prop where
  len : ∀ vs H Q E, sp vs H Q E → vs.length = ps.length
  run : ∀ (A : Around), A.guards = some [] → ∀ (outer : List PySem.Env) (s : Shared) (H : Hp) (args : Args) (us : List Value) (vs : List V) (Q : VK) (E : XK),
    Room k A → Env0 P w K mg base A outer s H → BindsTo s fd args (ps.zip us) → Vals vs us → sp vs H Q E → codeAny (model P w) A (.call (.ref f) args) (CR CX outer P w H s Q E) s
section
variable {P : Program} {w : World} {K : PySem.W.Frag} {mg : Str → Option Value} {base : Heap} {CX : CXT} {k j : Nat} {f : Addr} {fd : FuncData} {ps N : List Str} {sp sp' : Sp}
theorem FnG.mono (F : FnG P w K mg base CX j f fd ps sp) (h : j ≤ k) : FnG P w K mg base CX k f fd ps sp :=
  ⟨F.len, fun A hg outer s H args us vs Q E hr => F.run A hg outer s H args us vs Q E (hr.mono h)⟩
theorem FnG.imp (F : FnG P w K mg base CX k f fd ps sp) (h : ∀ vs H Q E, sp' vs H Q E → sp vs H Q E) : FnG P w K mg base CX k f fd ps sp' :=
  ⟨fun vs H Q E q => F.len vs H Q E (h _ _ _ _ q), fun A hg outer s H args us vs Q E hr he hb hv hs => F.run A hg outer s H args us vs Q E hr he hb hv (h _ _ _ _ hs)⟩
/-- a def by its body -/
theorem FnG.of {name qual : Str} {params : Arguments} {body : List Stmt} {scope : Scope} {dvs : List V} {kws : List (Str × V)} (F : FunD K name qual params body scope dvs kws f fd) (S : FnScope N ps scope) (len : ∀ vs H Q E, sp vs H Q E → vs.length = ps.length)
    (hbody : ∀ (cdv : Value) (A : Around) (outer : List PySem.Env) (s : Shared) (H : Hp) (vs : List V) (Q : VK) (E : XK), A.guards = some [] → Room k (A.deeper (envOfC qual scope s.heap.objs.size f cdv)) → sp vs H Q E →
      ∃ t, PSs (cxOf CX P w K mg base N qual scope f cdv A outer s H E) body t ∧ t { nx := fun _ H' => Q .non H', rt := Q } (start N vs) H) : FnG P w K mg base CX (k + 1) f fd ps sp := by
  obtain ⟨oc, od, dV, kV, doc, pm, an, cdv, ct, osl, rfl, lk, hcd, _, _⟩ := F.ex
  constructor
  · exact len
  intro A hgd outer s H args us vs Q E hr e0 hb r hsp
  have hl := len vs H Q E hsp
  have grown : ∀ b o, base.get? b = some o → s.heap.get? b = some o := fun b o e => (e0.bs b o e).1
  have KX : K.In s.heap := e0.mod.kin.keeps grown
  have lim : s.heap.NoLimit := e0.mod.nolimit.keeps grown
  have kinds : ∀ y ∈ ps.zip us, scope.names.lookup y.1 = some .local ∨ (scope.names.lookup y.1 = some .cell ∧ ((cellsFrom (s.heap.objs.size + 1) scope.names []).lookup y.1).isSome = true) := by
    intro y hy
    rcases S.par y.1 (List.of_mem_zip (a := y.1) (b := y.2) hy).1 with q | q
    · exact .inl q
    · exact .inr ⟨q, PySem.W.cellsFrom_some _ _ _ (.inl q)⟩
  apply codeAny_call_function hr.depth (KX _ _ lk) rfl S.co S.gen rfl (PySem.W.codeRec_of KX hcd)
  apply hb
  apply wpAny_newFunctionEnv_cells S.kind kinds
  intro env he s1 x
  subst he
  refine ⟨lim.keeps x.toInCall.keep, codeAny_func ?_⟩
  obtain ⟨t, ht, hq⟩ := hbody cdv A outer s H vs Q E hgd (hr.deeper _) hsp
  have I := inv_start (CX := CX) (E := E) (outer := outer) (K := K) (mg := mg) (base := base) (P := P) (w := w) S hr.hd e0 hl r x
  apply wpAny_mono (ht.run [] s1 (start N vs) H _ I hq)
  · intro fl s' hs
    cases fl with
    | ret u =>
      obtain ⟨v, σ', H', J, rv, q⟩ := hs
      exact ⟨v, H', J.os, J.bare, J.base, J.hok, rv, q⟩
    | next =>
      obtain ⟨σ', H', J, q⟩ := hs
      exact ⟨.non, H', J.os, J.bare, J.base, J.hok, rfl, q⟩
    | brk =>
      obtain ⟨_, _, _, q⟩ := hs
      exact q.elim
    | cont =>
      obtain ⟨_, _, _, q⟩ := hs
      exact q.elim
  · exact fun e s' hs => hs
end

section
variable {X : Cx} {CX : CXT} {k : Nat} {f : Addr} {fd : FuncData} {ps : List Str} {sp : Sp} {E : XK} {x : Str} {p pos : Pos} {e : Expr} {es : List Expr} {t : TA}
theorem runG {pins : List (Addr × Obj)} {σ : Sl} {H : Hp} {s : Shared} {Q : VK} {us : List Value} {vs : List V} (F : FnG X.prog X.w X.K X.mg X.base CX k f fd ps sp) (hgd : X.A.guards = some []) (hr : Room k X.A) (hb : Binds X.K fd ps []) (hx : Passes CX X E)
    (I : Inv X pins σ H s) (r : Vals vs us) (h : sp vs H Q E) : wpAny (model X.prog X.w) X.A (call (.ref f) us) (EP X pins σ Q) X.xe s := by
  have hl : us.length = ps.length := by rw [← r.length]; exact F.len _ _ _ _ h
  have hb' : BindsTo s fd ⟨us, []⟩ (ps.zip us) := by
    have z := hb s us I.kIn (by rw [List.append_nil]; exact hl)
    rw [List.append_nil] at z
    exact z
  apply wpAny_call
  apply codeAny_mono (F.run X.A hgd X.stack s H ⟨us, []⟩ us vs Q E hr I.env0 hb' r h)
  intro z s' hq
  cases z with
  | error e => exact hx pins σ H s e s' I hq
  | ok fl => cases fl <;> first | exact I.after hq | exact hq.elim
/-- f(..) -/
theorem pe_callG (F : FnG X.prog X.w X.K X.mg X.base CX k f fd ps sp) (hgd : X.A.guards = some []) (hr : Room k X.A) (hg : Gl X x) (hm : X.mg x = some (.ref f)) (hk : PySem.W.keepIn X.K (.ref f) = true) (hb : Binds X.K fd ps []) (hx : Passes CX X E)
    (ha : PA X (e :: es) t) (he : starEach (e :: es) X.env = (false, eval e X.env) :: starEach es X.env) (hpl : (backTo pos (starEach es X.env)).any (·.1) = false) (hdb : (x == ("__debug__" : Str)) = false) :
    PE X (.Call (.Name x p) (e :: es) [] pos) fun σ H Q => t σ H fun vs H1 => sp vs H1 Q E := by
  constructor
  intro pins s σ H Q I h
  apply wpAny_Call_Name_kw
  apply ld_glob I hg hm ?_ hdb
  exact PySem.W.callWith_K (h₀ := X.base) I.ok.mod.kin hk (thn (ha.run pos pins s σ H _ I h) fun us s1 ⟨vs, H1, I1, r, q⟩ => ⟨I1.kIn, runG F hgd hr hb hx I1 r q⟩) he hpl
theorem pe_callG0 (F : FnG X.prog X.w X.K X.mg X.base CX k f fd ps sp) (hgd : X.A.guards = some []) (hr : Room k X.A) (hg : Gl X x) (hm : X.mg x = some (.ref f)) (hk : PySem.W.keepIn X.K (.ref f) = true) (hb : Binds X.K fd ps []) (hx : Passes CX X E) (hdb : (x == ("__debug__" : Str)) = false) :
    PE X (.Call (.Name x p) [] [] pos) fun σ H Q => sp [] H Q E := by
  constructor
  intro pins s σ H Q I h
  apply wpAny_Call_Name_kw
  apply ld_glob I hg hm ?_ hdb
  exact PySem.W.callWith_K0 I.kIn hk (runG (us := []) F hgd hr hb hx I .nil h)
end

/-! ### the law's call -/
theorem FnG.top {P : Program} {w : World} {K : PySem.W.Frag} {mg : Str → Option Value} {CX : CXT} {k : Nat} {fa : Addr} {fd : FuncData} {ps : List Str} {sp : Sp} (h : ∀ base : Heap, K.In base → base.Ns mainGlobals mg → FnG P w K mg base CX k fa fd ps sp) :
    ∀ base : Heap, K.In base → base.Ns mainGlobals mg → FnG P w K mg base CX k fa fd ps sp := h
/-- the script stands in an abstract heap that tracks nothing else -/
theorem law_callG {P : Program} {w : World} {K : PySem.W.Frag} {mg mb : Str → Option Value} {CX : CXT} {k : Nat} {fa a : Addr} {fd : FuncData} {x : Str} {sp : Sp} {s₁ : Shared} {vs : List Value} {ns : List Int}
    (KX : K.In s₁.heap) (hns : s₁.heap.Ns mainGlobals mg) (hb : s₁.heap.Ns builtinsNs mb) (hbb : ∀ x : Str, x ≠ "__name__" → mb x = bootBuiltins x) (hlim : s₁.heap.NoLimit) (hg : s₁.gens = #[])
    (ha : s₁.heap.get? a = some { cls := .type "list", data := .seq vs.toArray }) (hi : IntsAre vs ns) (hl : ns.length ≤ sizeLine) (hr : Room k callerA)
    (F : ∀ base : Heap, K.In base → base.Ns mainGlobals mg → FnG P w K mg base CX k fa fd [x] sp) (hbind : ∀ (s : Shared) (u : Value), BindsTo s fd ⟨[u], []⟩ [(x, u)])
    (hsp : ∀ H : Hp, Only H → SqL K H a (ns.map V.int) → sp [.ref a] H (fun v _ => v = .bl true) fun _ _ _ => False)
    (hCX : ∀ H e s', CX [] H s₁ (fun _ _ _ => False) e s' → False) :
    codeAny (model P w) callerA (.call (.ref fa) ⟨[.ref a], []⟩) (fun r s' => r = .ok (.ret (.bool true)) ∧ OldK s₁.heap s'.heap ∧ s'.os = s₁.os ∧ AllBare s'.gens) s₁ := by
  have rv := vals_ints hi
  have main : ∀ H : Hp, Only H → SqL K H a (ns.map V.int) → HOk P w H s₁.heap → (∀ b, H b ≠ none → b = a) → (H a ≠ none → K.lookup a = none) →
      codeAny (model P w) callerA (.call (.ref fa) ⟨[.ref a], []⟩) (fun r s' => r = .ok (.ret (.bool true)) ∧ OldK s₁.heap s'.heap ∧ s'.os = s₁.os ∧ AllBare s'.gens) s₁ := by
    intro H hO hS hok onlyA offK
    have isA : ∀ {b u}, H b = some u → b = a := fun {b u} q => onlyA b fun z => by rw [q] at z; cases z
    have free : ∀ {b : Addr} {o : Obj} {es : Array DictEntry} {ep : Nat}, s₁.heap.get? b = some o → o.data = .dict es ep → H b = none := by
      intro b o es ep e d
      cases q : H b with
      | none => rfl
      | some u =>
        cases isA q
        rw [ha] at e
        cases e
        cases d
    have nsK : ∀ {b : Addr} {m : Str → Option Value}, s₁.heap.Ns b m → (hidT s₁.heap H).Ns b m := by
      rintro b m ⟨o, es, ep, e, d, r⟩
      exact ⟨o, es, ep, hidT_get e (free e d), d, r⟩
    have KH : K.In (hidT s₁.heap H) := by
      intro b o e
      refine hidT_get (KX b o e) ?_
      cases q : H b with
      | none => rfl
      | some u =>
        cases isA q
        rw [offK (by rw [q]; exact fun z => by cases z)] at e
        cases e
    have hM : Mod K mg (hidT s₁.heap H) := by
      obtain ⟨mc, h1, h2⟩ := hlim
      exact ⟨KH, nsK hns, ⟨mb, nsK hb, hbb⟩, ⟨mc, nsK h1, h2⟩⟩
    have e0 : Env0 P w K mg (hidT s₁.heap H) callerA [] s₁ H := by
      refine ⟨rfl, hM, fun b o e => of_hidT e, Nat.le_of_eq (hidT_size _ _), trivial, ?_, hok, .of_eq hg⟩
      intro b hb
      cases (show b ∈ ([] : List Addr) from hb)
    apply codeAny_mono ((F _ KH (nsK hns)).run callerA rfl [] s₁ H ⟨[.ref a], []⟩ [.ref a] [.ref a] _ _ hr e0 (hbind s₁ (.ref a)) (.cons rfl .nil) (hsp H hO hS))
    intro r s' h
    cases r with
    | error e => exact (hCX H e s' h).elim
    | ok fl =>
      cases fl with
      | ret u =>
        obtain ⟨v, H', os, bare, un, hok', r', q⟩ := h
        cases (show v = .bl true from q)
        cases (show u = Value.bool true from r')
        refine ⟨rfl, OldK.of_keep fun b o e => ?_, os, bare⟩
        rcases hO b with z | ⟨ob, xs, z⟩
        · exact un.keep b o e z (fun y => by cases (show b ∈ ([] : List Addr) from y)) (fun y => by cases (show b ∈ ([] : List Addr) from y))
        · have g1 := (hok b _ z).1
          have g2 := (hok' b _ (un.frzs b ob _ z)).1
          rw [e] at g1
          cases g1
          exact g2
      | _ => exact h.elim
  cases hk : K.lookup a with
  | some o =>
    have e := KX a o hk
    rw [ha] at e
    cases e
    refine main (fun _ => none) (fun _ => .inl rfl) ?_ ?_ (fun b z => absurd rfl z) fun z => absurd rfl z
    · refine .inr ⟨_, vs.toArray, _, hk, rfl, rfl, rfl, ?_, by simpa using rv⟩
      rw [List.size_toArray, hi.length]
      exact hl
    · intro b u z
      cases (show (none : Option HO) = some u from z)
  | none =>
    have at_ : ∀ {b u}, (if b = a then some (HO.frz { cls := .type "list", data := .seq vs.toArray } (.lst (ns.map V.int))) else none) = some u → b = a ∧ u = HO.frz { cls := .type "list", data := .seq vs.toArray } (.lst (ns.map V.int)) := by
      intro b u z
      by_cases q : b = a
      · rw [if_pos q] at z
        cases z
        exact ⟨q, rfl⟩
      · rw [if_neg q] at z
        cases z
    refine main (fun b => if b = a then some (HO.frz { cls := .type "list", data := .seq vs.toArray } (.lst (ns.map V.int))) else none) ?_ (.inl (.inr ⟨_, if_pos rfl⟩)) ?_ ?_ fun _ => hk
    · intro b
      by_cases q : b = a
      · exact .inr ⟨_, _, if_pos q⟩
      · exact .inl (if_neg q)
    · intro b u z
      obtain ⟨rfl, rfl⟩ := at_ z
      exact ⟨ha, by rw [List.length_map]; exact hl, vs, _, rv, ha⟩
    · intro b z
      cases q : (if b = a then some (HO.frz { cls := .type "list", data := .seq vs.toArray } (.lst (ns.map V.int))) else none : Option HO) with
      | none => exact absurd q z
      | some u => exact (at_ q).1
theorem walkG {l : PySem.W.OpenLaw} {n k : Nat} {q : Program} {loose : List Str} {XP : (Str → Option Value) → Heap → Prop} {YP : World → Heap → Prop} {d : DefRec} {CX : CXT} {x : Str}
    (hn : l.most = some n) (hn2 : n ≤ sizeLine) (hdf : d.params.defaults = []) (hr : Room k callerA)
    (F : ∀ (w : World) (mg : Str → Option Value) (fa : Addr) (h : Heap), YP w h → h.Ns mainGlobals mg → mg d.name = some (.ref fa) →
      ∃ (K : PySem.W.Frag) (fd : FuncData) (sp : Sp), K.In h ∧ (∀ (s : Shared) (u : Value), BindsTo s fd ⟨[u], []⟩ [(x, u)]) ∧
        (∀ (H : Hp) (a : Addr) (ns : List Int), ns.length ≤ n → Only H → SqL K H a (ns.map V.int) → sp [.ref a] H (fun v _ => v = .bl true) fun _ _ _ => False) ∧
        ∀ base : Heap, K.In base → base.Ns mainGlobals mg → FnG l.prog w K mg base CX k fa fd [x] sp)
    (hCX : ∀ (H : Hp) (s : Shared) (e : Value) (s' : Shared), CX [] H s (fun _ _ _ => False) e s' → False) :
    PySem.W.WalkO q loose XP YP l.row.toRowW d [] (fun f vs => PySem.call f vs) := by
  apply Att.attach_call hn hdf
  intro w s₀ s₁ mg mb fa o pm cd doc a vs ns G Y ho hd hcd hmg hobj hints hlen hg
  obtain ⟨K, fd, sp, KX, hb, hsp, hF⟩ := F w mg fa _ Y G.T.g hmg
  exact law_callG KX G.T.g G.T.b G.T.builtins G.T.nolimit hg hobj hints (Nat.le_trans hlen hn2) hr hF hb (fun H hO hS => hsp H a ns hlen hO hS) (fun H e s' => hCX H s₁ e s')
end Ev
set_option maxRecDepth 100000
set_option maxHeartbeats 4000000
/-! Ev, part L: a call on the cells handed in alone. -/
namespace Ev
open PySem PySem.Spec PyProof.Rows L2

/-! ### what a call is -/
def Val.cl : Val → Bool
  | .d _ => true
  | .scr _ => true
  | _ => false
def Cell.cl : Cell → Bool
  | .lst vs => vs.all Val.cl
  | .dct m => m.all fun p => p.2.cl
  | _ => false
def locsOf : List Val → List Nat
  | [] => []
  | .loc n :: r => n :: locsOf r
  | _ :: r => locsOf r
def renum : Nat → List Val → List Val
  | _, [] => []
  | k, .loc _ :: r => .loc k :: renum (k + 1) r
  | k, x :: r => x :: renum k r
/-- the cells at these places -/
def picks (s : Store) : List Nat → Option Store
  | [] => some []
  | n :: r => match s[n]?, picks s r with
    | some c, some q => if c.cl then some (c :: q) else none
    | _, _ => none
/-- .. laid back -/
def lays : Store → List Nat → Store → Option Store
  | s, [], _ => some s
  | s, n :: r, c :: q => if c.cl then lays (s.set n c) r q else none
  | _, _, _ => none
def backV (fresh : Bool) (k : Nat) (v : Val) (q : Store) : M Val := match v with
  | .d x => M.pure (.d x)
  | .scr ns => M.pure (.scr ns)
  | .loc n => if k ≤ n then (match q[n]? with
    | some (.lst vs) => if vs.all Val.cl then mkList fresh vs else M.bad
    | _ => M.bad) else M.bad
  | .exn _ _ => M.bad
def subV (fresh : Bool) (c : List Val → M Val) (xs : List Val) : M Val := fun s =>
  if (locsOf xs).Nodup then (match picks s (locsOf xs) with
    | none => .bad
    | some q => match c (renum 0 xs) q with
      | .ok v q' => (match lays s (locsOf xs) q' with
        | none => .bad
        | some s' => backV fresh (locsOf xs).length v q' s')
      | .exc e ds q' => (match lays s (locsOf xs) q' with
        | none => .bad
        | some s' => .exc e ds s')
      | .bad => .bad) else .bad

/-! ### it is sound -/
/-- the cells handed in -/
def pf (φ : Fi) (ls : List Nat) : Fi := ls.map fun n => (φ[n]?).join
def po (Oc : Own) (φ : Fi) (ls : List Nat) : Own := fun a => own Oc φ a ∧ some a ∉ pf φ ls

section
variable {K : PySem.W.Frag} {Oc O : Own} {φ φ2 : Fi} {H H2 : Hp} {st st2 : Store}
theorem Grow.self {O O' : Own} (h : ∀ a, ¬ O a → ¬ O' a) : Grow K O O' H H := ⟨fun a xs q => q, fun a xs q => q, fun a xs n q => ⟨h a n, q⟩, fun a xs n q => ⟨h a n, q⟩⟩
theorem RepV.swap {O1 O2 : Own} {f1 f2 : Fi} {v : V} {x : Val} (g : Grow K (own O1 f1) (own O2 f2) H H2) (fz : ∀ a o u, H a = some (.frz o u) → H2 a = some (.frz o u)) (c : x.cl = true) (r : RepV K O1 f1 H v x) : RepV K O2 f2 H2 v x := by
  cases x with
  | d x => exact RepD.grow g r
  | scr ns =>
    obtain ⟨a, e, q⟩ := r
    refine ⟨a, e, ?_⟩
    rcases q with ⟨o, q⟩ | q
    · exact .inl ⟨o, fz a o _ q⟩
    · exact .inr q
  | _ => cases c
theorem RepVs.swap {O1 O2 : Own} {f1 f2 : Fi} (g : Grow K (own O1 f1) (own O2 f2) H H2) (fz : ∀ a o u, H a = some (.frz o u) → H2 a = some (.frz o u)) : ∀ {xs : List Val} {vs : List V}, xs.all Val.cl = true → RepVs K O1 f1 H vs xs → RepVs K O2 f2 H2 vs xs
  | [], vs, _, r => r
  | x :: xs, vs, c, r => by
    rw [List.all_cons, Bool.and_eq_true] at c
    obtain ⟨v, w, e, h1, h2⟩ := r
    exact ⟨v, w, e, h1.swap g fz c.1, RepVs.swap g fz c.2 h2⟩
theorem RepKs.swap {O1 O2 : Own} {f1 f2 : Fi} (g : Grow K (own O1 f1) (own O2 f2) H H2) (fz : ∀ a o u, H a = some (.frz o u) → H2 a = some (.frz o u)) : ∀ {xs : List (D × Val)} {vs : List (Key × V)}, (xs.all fun p => p.2.cl) = true → RepKs K O1 f1 H vs xs → RepKs K O2 f2 H2 vs xs
  | [], vs, _, r => r
  | (k, x) :: xs, vs, c, r => by
    rw [List.all_cons, Bool.and_eq_true] at c
    obtain ⟨q, v, w, e, h0, h1, h2⟩ := r
    exact ⟨q, v, w, e, h0, h1.swap g fz c.1, RepKs.swap g fz c.2 h2⟩
theorem CellAt.swap {O1 O2 : Own} {f1 f2 : Fi} (g : Grow K (own O1 f1) (own O2 f2) H H2) (fz : ∀ a o u, H a = some (.frz o u) → H2 a = some (.frz o u)) {a : Addr} {c : Cell} (cl : c.cl = true) (k : ∀ o, H a = some o → H2 a = some o) (r : CellAt K O1 f1 H a c) : CellAt K O2 f2 H2 a c := by
  cases c with
  | lst xs =>
    obtain ⟨vs, e, q⟩ := r
    exact ⟨vs, k _ e, RepVs.swap g fz cl q⟩
  | dct m =>
    obtain ⟨vs, e, q⟩ := r
    exact ⟨vs, k _ e, RepKs.swap g fz cl q⟩
  | ins => cases cl
  | dead => cases cl

theorem picks_len {s : Store} : ∀ {ls : List Nat} {q : Store}, picks s ls = some q → q.length = ls.length
  | [], q, h => by cases h; rfl
  | n :: r, q, h => by
    unfold picks at h
    cases e1 : s[n]? with
    | none => rw [e1] at h; cases h
    | some c =>
      cases e2 : picks s r with
      | none => rw [e1, e2] at h; cases h
      | some q' =>
        rw [e1, e2] at h
        simp only at h
        split at h
        · cases h
          rw [List.length_cons, List.length_cons, picks_len e2]
        · cases h
theorem picks_at {s : Store} : ∀ {ls : List Nat} {q : Store}, picks s ls = some q → ∀ (i n : Nat), ls[i]? = some n → ∃ c, s[n]? = some c ∧ q[i]? = some c ∧ c.cl = true
  | [], q, h, i, n, e => by simp at e
  | m :: r, q, h, i, n, e => by
    unfold picks at h
    cases e1 : s[m]? with
    | none => rw [e1] at h; cases h
    | some c =>
      cases e2 : picks s r with
      | none => rw [e1, e2] at h; cases h
      | some q' =>
        rw [e1, e2] at h
        simp only at h
        split at h
        · rename_i hc
          cases h
          cases i with
          | zero =>
            simp at e
            subst e
            exact ⟨c, e1, rfl, hc⟩
          | succ i =>
            obtain ⟨c', z1, z2, z3⟩ := picks_at e2 i n (by simpa using e)
            exact ⟨c', z1, by simpa using z2, z3⟩
        · cases h
theorem lays_len : ∀ {ls : List Nat} {s q s' : Store}, lays s ls q = some s' → s'.length = s.length
  | [], s, q, s', h => by unfold lays at h; cases h; rfl
  | n :: r, s, [], s', h => by unfold lays at h; cases h
  | n :: r, s, c :: q, s', h => by
    unfold lays at h
    split at h
    · rw [lays_len h, List.length_set]
    · cases h
theorem lays_out : ∀ {ls : List Nat} {s q s' : Store}, lays s ls q = some s' → ∀ n, n ∉ ls → s'[n]? = s[n]?
  | [], s, q, s', h, n, hn => by unfold lays at h; cases h; rfl
  | m :: r, s, [], s', h, n, hn => by unfold lays at h; cases h
  | m :: r, s, c :: q, s', h, n, hn => by
    unfold lays at h
    split at h
    · rw [lays_out h n (fun z => hn (List.mem_cons_of_mem _ z)), List.getElem?_set_ne (fun z => hn (by rw [z]; exact List.mem_cons_self))]
    · cases h
theorem lays_at : ∀ {ls : List Nat} {s q s' : Store}, ls.Nodup → (∀ n ∈ ls, n < s.length) → lays s ls q = some s' → ∀ (i n : Nat), ls[i]? = some n → ∃ c, s'[n]? = some c ∧ q[i]? = some c ∧ c.cl = true
  | [], s, q, s', nd, b, h, i, n, e => by simp at e
  | m :: r, s, [], s', nd, b, h, i, n, e => by unfold lays at h; cases h
  | m :: r, s, c :: q, s', nd, b, h, i, n, e => by
    unfold lays at h
    split at h
    · rename_i hc
      have nd' := List.nodup_cons.mp nd
      cases i with
      | zero =>
        simp at e
        subst e
        refine ⟨c, ?_, rfl, hc⟩
        rw [lays_out h m nd'.1, List.getElem?_set_self (b m List.mem_cons_self)]
      | succ i =>
        obtain ⟨c', z1, z2, z3⟩ := lays_at nd'.2 (fun n hn => by rw [List.length_set]; exact b n (List.mem_cons_of_mem _ hn)) h i n (by simpa using e)
        exact ⟨c', z1, by simpa using z2, z3⟩
    · cases h

/-- what a call leans on, and what it leaves -/
structure Sub (K : PySem.W.Frag) (Oc : Own) (φ : Fi) (H : Hp) (st : Store) (ls : List Nat) (q : Store) : Prop where
  sr : SR K Oc φ H st
  nd : ls.Nodup
  pk : picks st ls = some q
section
variable {ls : List Nat} {q : Store}
theorem Sub.at_ (S : Sub K Oc φ H st ls q) {i n : Nat} (e : ls[i]? = some n) : ∃ a c, φ[n]? = some (some a) ∧ (pf φ ls)[i]? = some (some a) ∧ st[n]? = some c ∧ q[i]? = some c ∧ c.cl = true ∧ CellAt K Oc φ H a c := by
  obtain ⟨c, h1, h2, h3⟩ := picks_at S.pk i n e
  obtain ⟨a, h4, h5⟩ := S.sr.cell (n := n) (by rw [S.sr.len]; exact (List.getElem?_eq_some_iff.mp h1).1) h1 (fun z => by rw [z] at h3; cases h3)
  refine ⟨a, c, h4, ?_, h1, h2, h3, h5⟩
  unfold pf
  rw [List.getElem?_map, e]
  simp only [Option.map_some, h4, Option.join]
  rfl
theorem Sub.mem (S : Sub K Oc φ H st ls q) {a : Addr} (h : some a ∈ pf φ ls) : ∃ i n : Nat, ls[i]? = some n ∧ φ[n]? = some (some a) ∧ (pf φ ls)[i]? = some (some a) := by
  obtain ⟨i, hi⟩ := List.mem_iff_getElem?.mp h
  obtain ⟨hl, _⟩ := List.getElem?_eq_some_iff.mp hi
  have hl' : i < ls.length := by unfold pf at hl; simpa using hl
  obtain ⟨n, hn⟩ : ∃ n, ls[i]? = some n := ⟨ls[i], by simp [hl']⟩
  obtain ⟨a', c, h4, h5, _⟩ := S.at_ hn
  rw [hi] at h5
  cases h5
  exact ⟨i, n, hn, h4, hi⟩
theorem Sub.own (S : Sub K Oc φ H st ls q) (a : Addr) : own (po Oc φ ls) (pf φ ls) a ↔ Ev.own Oc φ a := by
  constructor
  · rintro (h | h)
    · exact h.1
    · obtain ⟨i, n, _, h2, _⟩ := S.mem h
      exact .inr (List.mem_of_getElem? h2)
  · intro h
    by_cases z : some a ∈ pf φ ls
    · exact .inr z
    · exact .inl ⟨h, z⟩
theorem Sub.in_ (S : Sub K Oc φ H st ls q) : SR K (po Oc φ ls) (pf φ ls) H q where
  len := by
    rw [picks_len S.pk]
    unfold pf
    rw [List.length_map]
  nd := fun n m a e1 e2 => by
    have aux : ∀ i, (pf φ ls)[i]? = some (some a) → ∃ n, ls[i]? = some n ∧ φ[n]? = some (some a) := fun i e => by
      have hl := (List.getElem?_eq_some_iff.mp e).1
      have hl' : i < ls.length := by unfold pf at hl; simpa using hl
      obtain ⟨n, hn⟩ : ∃ n, ls[i]? = some n := ⟨ls[i], by simp [hl']⟩
      obtain ⟨a', c, h4, h5, _⟩ := S.at_ hn
      rw [e] at h5
      cases h5
      exact ⟨n, hn, h4⟩
    obtain ⟨n', h1, h2⟩ := aux n e1
    obtain ⟨m', h3, h4⟩ := aux m e2
    have := S.sr.nd n' m' a h2 h4
    subst this
    have l1 := (List.getElem?_eq_some_iff.mp h1).1
    exact (List.getElem?_inj l1 S.nd).mp (h1.trans h3.symm)
  oc := fun a ha => by
    obtain ⟨ha, hn⟩ := ha
    rcases ha with ha | ha
    · obtain ⟨h1, _, h3, h4⟩ := S.sr.oc a ha
      exact ⟨h1, hn, h3, h4⟩
    · obtain ⟨n, e⟩ := List.mem_iff_getElem?.mp ha
      rcases S.sr.there e with ⟨vs, z⟩ | ⟨vs, z⟩ <;> exact ⟨by rw [z]; exact fun y => (by cases y), hn, fun xs y => (by rw [z] at y; cases y), fun o u y => (by rw [z] at y; cases y)⟩
  live := fun i a e => by
    have hl := (List.getElem?_eq_some_iff.mp e).1
    have hl' : i < ls.length := by unfold pf at hl; simpa using hl
    obtain ⟨n, hn⟩ : ∃ n, ls[i]? = some n := ⟨ls[i], by simp [hl']⟩
    obtain ⟨a', c, h4, h5, h6, h7, h8, h9⟩ := S.at_ hn
    rw [e] at h5
    cases h5
    exact ⟨c, h7, h9.swap (Grow.self fun b hb z => hb ((S.own b).mp z)) (fun _ _ _ z => z) h8 fun _ z => z⟩
  dead := fun i e => by
    have hl := (List.getElem?_eq_some_iff.mp e).1
    have hl' : i < ls.length := by unfold pf at hl; simpa using hl
    obtain ⟨n, hn⟩ : ∃ n, ls[i]? = some n := ⟨ls[i], by simp [hl']⟩
    obtain ⟨a', c, h4, h5, _⟩ := S.at_ hn
    rw [e] at h5
    cases h5
theorem locs_in : ∀ {xs : List Val} {vs : List V} {n : Nat}, RepVs K Oc φ H vs xs → n ∈ locsOf xs → n < φ.length
  | [], vs, n, r, h => by cases h
  | .loc m :: xs, vs, n, r, h => by
    obtain ⟨v, w, e, h1, h2⟩ := r
    rcases List.mem_cons.mp h with z | z
    · rw [z]; exact h1.1
    · exact locs_in h2 z
  | .d _ :: xs, vs, n, r, h => by obtain ⟨v, w, e, h1, h2⟩ := r; exact locs_in h2 h
  | .exn _ _ :: xs, vs, n, r, h => by obtain ⟨v, w, e, h1, h2⟩ := r; exact locs_in h2 h
  | .scr _ :: xs, vs, n, r, h => by obtain ⟨v, w, e, h1, h2⟩ := r; exact locs_in h2 h
theorem Sub.args (S : Sub K Oc φ H st ls q) : ∀ {xs : List Val} {vs : List V} {k : Nat}, RepVs K Oc φ H vs xs → ls.drop k = locsOf xs → RepVs K (po Oc φ ls) (pf φ ls) H vs (renum k xs)
  | [], vs, k, r, h => r
  | .loc m :: xs, vs, k, r, h => by
    obtain ⟨v, w, e, h1, h2⟩ := r
    have hk : ls[k]? = some m := by
      have := congrArg List.head? h
      rw [List.head?_drop] at this
      exact this
    obtain ⟨a, c, h4, h5, _⟩ := S.at_ hk
    refine ⟨v, w, e, ⟨(List.getElem?_eq_some_iff.mp h5).1, fun b eb => ?_⟩, S.args h2 ?_⟩
    · rw [h5] at eb
      cases eb
      exact h1.2 a h4
    · have := congrArg List.tail h
      rw [List.tail_drop] at this
      exact this
  | .d x :: xs, vs, k, r, h => by
    obtain ⟨v, w, e, h1, h2⟩ := r
    exact ⟨v, w, e, RepV.swap (x := .d x) (Grow.self fun b hb z => hb ((S.own b).mp z)) (fun _ _ _ z => z) rfl h1, S.args h2 h⟩
  | .scr x :: xs, vs, k, r, h => by
    obtain ⟨v, w, e, h1, h2⟩ := r
    exact ⟨v, w, e, h1, S.args h2 h⟩
  | .exn c x :: xs, vs, k, r, h => by
    obtain ⟨v, w, e, h1, h2⟩ := r
    refine ⟨v, w, e, fun hc => ?_, S.args h2 h⟩
    obtain ⟨a, us, e1, q1, z1⟩ := h1 hc
    exact ⟨a, us, e1, q1, RepDs.grow (Grow.self fun b hb z => hb ((S.own b).mp z)) z1⟩
/-- behind it -/
theorem Sub.stp (S : Sub K Oc φ H st ls q) (s : Stp (pf φ ls) φ2 H H2) : Stp φ φ H H2 where
  len := Nat.le_refl _
  old := fun n x e => .inl e
  new := fun n a hn e => by
    have := (List.getElem?_eq_some_iff.mp e).1
    omega
  keep := fun a o e n => s.keep a o e fun z => by
    obtain ⟨i, m, _, h2, _⟩ := S.mem z
    exact n (List.mem_of_getElem? h2)
  tup := s.tup
  frz := s.frz
  there := s.there
theorem Sub.kept (S : Sub K Oc φ H st ls q) (s : Stp (pf φ ls) φ2 H H2) {s2 : Store} (r : SR K (po Oc φ ls) φ2 H2 s2) {s' : Store} (ly : lays st ls s2 = some s') {i n : Nat} {a : Addr} (e : ls[i]? = some n) (ea : φ[n]? = some (some a)) :
    φ2[i]? = some (some a) ∧ ∃ c, s'[n]? = some c ∧ s2[i]? = some c ∧ c.cl = true := by
  obtain ⟨c, z1, z2, z3⟩ := lays_at S.nd (fun n hn => by
    obtain ⟨i, hi⟩ := List.mem_iff_getElem?.mp hn
    obtain ⟨c, y1, _⟩ := picks_at S.pk i n hi
    exact (List.getElem?_eq_some_iff.mp y1).1) ly i n e
  refine ⟨?_, c, z1, z2, z3⟩
  obtain ⟨a', c', h4, h5, _⟩ := S.at_ e
  rw [ea] at h4
  cases h4
  rcases s.old i _ h5 with y | y
  · exact y
  · have := r.dead i y
    rw [this] at z2
    cases z2
    cases z3
theorem Sub.own2 (S : Sub K Oc φ H st ls q) (s : Stp (pf φ ls) φ2 H H2) {s2 : Store} (r : SR K (po Oc φ ls) φ2 H2 s2) {s' : Store} (ly : lays st ls s2 = some s') {a : Addr} (h : Ev.own Oc φ a) : Ev.own (po Oc φ ls) φ2 a := by
  by_cases z : some a ∈ pf φ ls
  · obtain ⟨i, n, h1, h2, _⟩ := S.mem z
    exact .inr (List.mem_of_getElem? (S.kept s r ly h1 h2).1)
  · exact .inl ⟨h, z⟩
theorem Sub.grow (S : Sub K Oc φ H st ls q) (s : Stp (pf φ ls) φ2 H H2) {s2 : Store} (r : SR K (po Oc φ ls) φ2 H2 s2) {s' : Store} (ly : lays st ls s2 = some s') : Grow K (Ev.own (po Oc φ ls) φ2) (Ev.own Oc φ) H2 H2 := Grow.self fun b hb z => hb (S.own2 s r ly z)
theorem Sub.out (S : Sub K Oc φ H st ls q) (s : Stp (pf φ ls) φ2 H H2) {s2 : Store} (r : SR K (po Oc φ ls) φ2 H2 s2) {s' : Store} (ly : lays st ls s2 = some s') : SR K Oc φ H2 s' where
  len := by rw [lays_len ly]; exact S.sr.len
  nd := S.sr.nd
  oc := fun a ha => by
    have nf := (S.sr.oc a ha).2.1
    have hp : po Oc φ ls a := ⟨.inl ha, fun z => by
      obtain ⟨i, m, _, h2, _⟩ := S.mem z
      exact nf (List.mem_of_getElem? h2)⟩
    obtain ⟨h1, _, h3, h4⟩ := r.oc a hp
    exact ⟨h1, nf, h3, h4⟩
  live := fun n a e => by
    by_cases hn : n ∈ ls
    · obtain ⟨i, hi⟩ := List.mem_iff_getElem?.mp hn
      obtain ⟨h1, c, h2, h3, h4⟩ := S.kept s r ly hi e
      obtain ⟨c', y1, y2⟩ := r.live i a h1
      rw [h3] at y1
      cases y1
      exact ⟨c, h2, y2.swap (S.grow s r ly) (fun _ _ _ z => z) h4 fun _ z => z⟩
    · obtain ⟨c, y1, y2⟩ := S.sr.live n a e
      refine ⟨c, by rw [lays_out ly n hn]; exact y1, y2.step (S.stp s) fun o z => s.keep a o z fun y => ?_⟩
      obtain ⟨i, m, h1, h2, _⟩ := S.mem y
      have := S.sr.nd n m a e h2
      subst this
      exact hn (List.mem_of_getElem? h1)
  dead := fun n e => by
    have hn : n ∉ ls := fun hn => by
      obtain ⟨i, hi⟩ := List.mem_iff_getElem?.mp hn
      obtain ⟨a, c, h4, _⟩ := S.at_ hi
      rw [h4] at e
      cases e
    rw [lays_out ly n hn]
    exact S.sr.dead n e
theorem Sub.out2 (S : Sub K Oc φ H st ls q) (s : Stp (pf φ ls) φ2 H H2) {s2 : Store} (r : SR K (po Oc φ ls) φ2 H2 s2) {s' : Store} (ly : lays st ls s2 = some s') {n : Nat} {a : Addr} {ys : List Val} {ws : List V} (newA : H a = none) (q1 : φ2[n]? = some (some a))
    (q2 : H2 a = some (.lst ws)) (hc : ys.all Val.cl = true) (q3 : RepVs K (po Oc φ ls) φ2 H2 ws ys) : Stp φ (φ ++ [some a]) H H2 ∧ SR K Oc (φ ++ [some a]) H2 (s' ++ [.lst ys]) := by
  have b := S.stp s
  have big : Stp φ (φ ++ [some a]) H H2 := by
    refine ⟨by simp, fun n x e => .inl (by rw [List.getElem?_append_left (List.getElem?_eq_some_iff.mp e).1]; exact e), fun n b hn e => ?_, b.keep, b.tup, b.frz, b.there⟩
    rw [List.getElem?_append_right hn] at e
    have e' := List.mem_of_getElem? e
    simp at e'
    rw [e']; exact newA
  have no : ∀ m, φ[m]? ≠ some (some a) := fun m e => by
    rcases S.sr.there e with ⟨vs, z⟩ | ⟨vs, z⟩ <;> (rw [newA] at z; cases z)
  have g : Grow K (Ev.own (po Oc φ ls) φ2) (Ev.own Oc (φ ++ [some a])) H2 H2 := Grow.self fun c hc z => hc (by
    rcases z with z | z
    · exact S.own2 s r ly (.inl z)
    · rcases List.mem_append.mp z with z | z
      · exact S.own2 s r ly (.inr z)
      · simp at z
        rw [z]
        exact .inr (List.mem_of_getElem? q1))
  have r3 := S.out s r ly
  refine ⟨big, by simp [r3.len], fun i j c e1 e2 => ?_, fun c hcc => ?_, fun i c e => ?_, fun i e => ?_⟩
  · have aux : ∀ k : Nat, (φ ++ [some a])[k]? = some (some c) → (k < φ.length ∧ φ[k]? = some (some c)) ∨ (k = φ.length ∧ c = a) := fun k e => by
      by_cases h : k < φ.length
      · rw [List.getElem?_append_left h] at e; exact .inl ⟨h, e⟩
      · have l := (List.getElem?_eq_some_iff.mp e).1
        simp at l
        rw [List.getElem?_append_right (Nat.le_of_not_lt h)] at e
        have e' := List.mem_of_getElem? e
        simp at e'
        exact .inr ⟨by omega, e'⟩
    rcases aux i e1 with ⟨l1, h1⟩ | ⟨l1, h1⟩ <;> rcases aux j e2 with ⟨l2, h2⟩ | ⟨l2, h2⟩
    · exact S.sr.nd i j c h1 h2
    · subst h2; exact absurd h1 (no i)
    · subst h1; exact absurd h2 (no j)
    · omega
  · obtain ⟨h1, h2, h3, h4⟩ := r3.oc c hcc
    refine ⟨h1, fun z => ?_, h3, h4⟩
    rcases List.mem_append.mp z with z | z
    · exact h2 z
    · simp at z
      rw [z] at hcc
      exact (S.sr.oc a hcc).1 newA
  · by_cases h : i < φ.length
    · rw [List.getElem?_append_left h] at e
      rw [List.getElem?_append_left (by rw [← r3.len]; exact h)]
      by_cases hn : i ∈ ls
      · obtain ⟨k, hk⟩ := List.mem_iff_getElem?.mp hn
        obtain ⟨h1, c', h2, h3, h4⟩ := S.kept s r ly hk e
        obtain ⟨c2, y1, y2⟩ := r.live k c h1
        rw [h3] at y1
        cases y1
        exact ⟨c', h2, y2.swap g (fun _ _ _ z => z) h4 fun _ z => z⟩
      · obtain ⟨c', y1, y2⟩ := S.sr.live i c e
        refine ⟨c', by rw [lays_out ly i hn]; exact y1, y2.step big fun o z => s.keep c o z fun y => ?_⟩
        obtain ⟨k, m, h1, h2, _⟩ := S.mem y
        have := S.sr.nd i m c e h2
        subst this
        exact hn (List.mem_of_getElem? h1)
    · have l := (List.getElem?_eq_some_iff.mp e).1
      simp at l
      rw [List.getElem?_append_right (Nat.le_of_not_lt h)] at e
      have e' := List.mem_of_getElem? e
      simp at e'
      subst e'
      have hi : i = φ.length := by omega
      subst hi
      refine ⟨.lst ys, by rw [r3.len]; simp, ws, q2, RepVs.swap g (fun _ _ _ z => z) hc q3⟩
  · by_cases h : i < φ.length
    · rw [List.getElem?_append_left h] at e
      rw [List.getElem?_append_left (by rw [← r3.len]; exact h)]
      exact r3.dead i e
    · rw [List.getElem?_append_right (Nat.le_of_not_lt h)] at e
      have e' := List.mem_of_getElem? e
      simp at e'
end
end

section
variable {C : Cn} {Oc : Own} {φ : Fi} {H : Hp} {st : Store} {σ σ2 : Sl} {vs : List V} {xs : List Val} {Q : VK} {fresh : Bool} {c : List Val → M Val}
theorem sub_ok (s : SR C.K Oc φ H st) (r : RepVs C.K Oc φ H vs xs) (h : Aft C Oc (rV C Oc) (subV fresh c xs st) φ H σ Q) (E : Value → Option Addr → Sl → Hp → Prop) (hE : ∀ cls d H', C.W cls d σ H' → E cls d σ2 H') :
    ∃ Oc' φ' st', SR C.K Oc' φ' H st' ∧ RepVs C.K Oc' φ' H vs (renum 0 xs) ∧ Aft { C with W := E } Oc' (rV C Oc') (c (renum 0 xs) st') φ' H σ2 Q := by
  unfold subV at h
  by_cases nd : (locsOf xs).Nodup
  · rw [if_pos nd] at h
    cases e : picks st (locsOf xs) with
    | none => rw [e] at h; exact h.elim
    | some q =>
      rw [e] at h
      simp only at h
      have S : Sub C.K Oc φ H st (locsOf xs) q := ⟨s, nd, e⟩
      refine ⟨_, _, q, S.in_, S.args r rfl, ?_⟩
      cases e2 : c (renum 0 xs) q with
      | bad => rw [e2] at h; exact h.elim
      | exc k ds q' =>
        rw [e2] at h
        simp only at h
        cases e3 : lays st (locsOf xs) q' with
        | none => rw [e3] at h; exact h.elim
        | some s' =>
          rw [e3] at h
          intro φ2 H2 cls d st2 r2 x
          refine hE cls d H2 (h φ H2 cls d (S.stp st2) (S.out st2 r2 e3) ⟨x.1, ?_⟩)
          rcases x.2 with x | ⟨dd, us, x1, x2, x3, x4⟩
          · exact .inl x
          · exact .inr ⟨dd, us, x1, x2, x3, RepDs.grow (S.grow st2 r2 e3) x4⟩
      | ok v q' =>
        rw [e2] at h
        simp only at h
        cases e3 : lays st (locsOf xs) q' with
        | none => rw [e3] at h; exact h.elim
        | some s' =>
          rw [e3] at h
          simp only at h
          intro φ2 H2 u st2 r2 x
          have r3 := S.out st2 r2 e3
          have h2 := h.back (S.stp st2)
          cases v with
          | d y => exact Aft.ok h2 r3 (RepV.swap (x := .d y) (S.grow st2 r2 e3) (fun _ _ _ z => z) rfl x)
          | scr ns => exact Aft.ok h2 r3 (show RepV C.K Oc φ H2 u (.scr ns) from x)
          | exn => exact h2.elim
          | loc n =>
            unfold backV at h2
            by_cases hn : (locsOf xs).length ≤ n
            · simp only [if_pos hn] at h2
              cases e4 : q'[n]? with
              | none => rw [e4] at h2; exact h2.elim
              | some cl =>
                rw [e4] at h2
                cases cl with
                | lst ys =>
                  simp only at h2
                  by_cases hc : ys.all Val.cl = true
                  · rw [if_pos hc] at h2
                    obtain ⟨a, q1, ws, q2, q3⟩ := r2.cell x.1 e4 (fun z => by cases z)
                    cases x.2 a q1
                    have no : ¬ own Oc φ a := fun z => by
                      by_cases y : some a ∈ pf φ (locsOf xs)
                      · obtain ⟨i, m, h1, h2, _⟩ := S.mem y
                        have h3 := (S.kept st2 r2 e3 h1 h2).1
                        have := r2.nd i n a h3 q1
                        have l1 := (List.getElem?_eq_some_iff.mp h1).1
                        omega
                      · exact (r2.oc a ⟨z, y⟩).2.1 (List.mem_of_getElem? q1)
                    have q4 := RepVs.swap (S.grow st2 r2 e3) (fun _ _ _ z => z) hc q3
                    have newA : H a = none := st2.new n a (by unfold pf; rw [List.length_map]; exact hn) q1
                    cases fresh with
                    | false =>
                      have h3 : Aft C Oc (rV C Oc) (M.bind (datas ys) (fun xs => M.pure (.d (.lst xs))) s') φ H2 σ Q := h2
                      unfold M.bind at h3
                      rcases datas_cases s' ys with e | ⟨ds, e, z⟩
                      · rw [e] at h3; exact h3.elim
                      · rw [e] at h3
                        subst z
                        exact Aft.ok h3 r3 (show RepD C.K (own Oc φ) H2 (.ref a) (.lst ds) from ⟨a, ws, rfl, no, q2, q4.to_D⟩)
                    | true =>
                      have h3 : Aft C Oc (rV C Oc) (.ok (.loc s'.length) (s' ++ [.lst ys])) φ H σ Q := by
                        have h0 := h
                        unfold backV at h0
                        simp only [if_pos hn, e4, if_pos hc] at h0
                        exact h0
                      obtain ⟨b1, b2⟩ := S.out2 st2 r2 e3 newA q1 q2 hc q3
                      refine h3 _ _ _ b1 b2 ⟨by rw [List.length_append, ← r3.len]; simp, fun b e => ?_⟩
                      rw [← r3.len] at e
                      simp at e
                      rw [e]
                  · rw [if_neg hc] at h2
                    exact h2.elim
                | _ => exact h2.elim
            · simp only [if_neg hn] at h2
              exact h2.elim
  · rw [if_neg nd] at h
    exact h.elim
end
end Ev
set_option maxRecDepth 100000
set_option maxHeartbeats 4000000
/-! Ev, part M: stores at places, what is walked, comprehensions. -/
namespace Ev
open PySem PySem.Spec PyProof.Rows L2

/-! ### o[i] = v -/
section
variable {C : Cn} {Oc : Own} {φ : Fi} {H : Hp} {st : Store} {σ : Sl} {α β : Type}
theorem Stp.put {n : Nat} {a : Addr} {o : HO} (s : SR C.K Oc φ H st) (e : φ[n]? = some (some a)) : Stp φ φ H (upd H a o) := Stp.write s e
theorem repVs_set : ∀ {xs : List Val} {vs : List V} {j : Nat} {x : Val} {v : V}, RepVs C.K Oc φ H vs xs → RepV C.K Oc φ H v x → RepVs C.K Oc φ H (vs.set j v) (xs.set j x)
  | [], vs, j, x, v, r, q => by rw [show vs = [] from r]; exact rfl
  | y :: ys, vs, 0, x, v, r, q => by
    obtain ⟨w, ws, e, h1, h2⟩ := r
    subst e
    exact ⟨v, ws, rfl, q, h2⟩
  | y :: ys, vs, j + 1, x, v, r, q => by
    obtain ⟨w, ws, e, h1, h2⟩ := r
    subst e
    exact ⟨w, ws.set j v, rfl, h1, repVs_set h2 q⟩
theorem put_ok {v o i : V} {x y z : Val} {Q : Hp → Prop} (s : SR C.K Oc φ H st) (rv : RepV C.K Oc φ H v x) (ro : RepV C.K Oc φ H o y) (ri : RepV C.K Oc φ H i z) (h : Aft C Oc (fun _ _ (_ : Unit) (_ : Unit) => True) (putV y z x st) φ H σ fun _ H' => Q H') : rSetL o i v H Q := by
  cases y with
  | loc n =>
    unfold putV at h
    have h' : Aft C Oc (fun _ _ (_ : Unit) (_ : Unit) => True) (M.bind (cellAt n) (fun c => match c with
      | .lst vs => intV z >>= fun k => match L2.ixN vs.length k with
        | some j => setCell n (.lst (vs.set j x))
        | none => M.bad
      | _ => M.bad) st) φ H σ fun _ H' => Q H' := h
    unfold M.bind cellAt at h'
    cases e : st[n]? with
    | none => rw [e] at h'; exact h'.elim
    | some c =>
      rw [e] at h'
      cases c with
      | lst xs =>
        simp only at h'
        obtain ⟨k, ek, h'⟩ := intV_ok ri h'
        obtain ⟨a, q1, ws, q2, q3⟩ := s.cell ro.1 e (fun z => by cases z)
        cases hj : L2.ixN xs.length k with
        | none => rw [hj] at h'; exact h'.elim
        | some j =>
          rw [hj] at h'
          refine ⟨a, ws, k, j, ro.2 a q1, ek, q2, by rw [RepVs.length q3]; exact hj, ?_⟩
          have hn : n < st.length := (List.getElem?_eq_some_iff.mp e).1
          simp only [setCell, if_pos hn] at h'
          have sw := Stp.write (o := .lst (ws.set j v)) s q1
          exact h' φ _ () sw (s.write q1 ⟨_, upd_same, repVs_set (q3.step sw) (rv.step sw)⟩) trivial
      | _ => exact h'.elim
  | d y => exact h.elim
  | exn => exact h.elim
  | scr => exact h.elim
end
section
variable {X : Cx} {C : Cn} {e o i : Expr} {pos spos : Pos} {m n l : Env → M Val}
theorem ss_put (hm : PE X e (tE C m)) (ho : PE X o (tE C n)) (hi : PE X i (tE C l))
    (ha : ∀ v, assign (.Subscript o i spos) X.env v = (do
      let ov ← holding [v] (eval o X.env)
      let iv ← holding [v, ov] (eval i X.env)
      standAt spos
      holding [v, ov, iv] (setItem ov iv v)
      release [v, ov, iv] []))
    (hs : swapsWithSole [.Subscript o i spos] e pos.line X.env = pure false) (hw : swappedStores [.Subscript o i spos] e X.env = pure none) (h1 : (assignEach [.Subscript o i spos] X.env).map (·.2) = [assign (.Subscript o i spos) X.env]) :
    PS X (.Assign [.Subscript o i spos] e pos) (tS C (sPut n l m)) :=
  imp_s (ps_asg hm (pg_sub ho hi set_list ha) hs hw h1) fun D σ H ⟨Oc, φ, st, ρ, p, h⟩ => by
    unfold sPut at h
    refine ⟨Oc, φ, st, ρ, p, ?_⟩
    have h2 := (ex_ok (rp := fun _ _ (_ : Unit) (_ : Unit) => True) p h)
    refine (Aft.bind (rp := rV C Oc) h2).mono fun v H1 ⟨φ1, s1, x, t1, r1, q1, k1⟩ => ?_
    refine ⟨Oc, φ1, s1, ρ, p.step t1 r1, (Aft.bind (rp := rV C Oc) k1).mono fun u H2 ⟨φ2, s2, y, t2, r2, q2, k2⟩ => ?_⟩
    refine ⟨Oc, φ2, s2, ρ, (p.step t1 r1).step t2 r2, (Aft.bind (rp := rV C Oc) k2).mono fun w H3 ⟨φ3, s3, z, t3, r3, q3, k3⟩ => ?_⟩
    refine put_ok r3 ((q1.step t2).step t3) (q2.step t3) q3 (k3.mono fun _ H4 ⟨φ4, s4, _, t4, p4, _, h4⟩ => ?_)
    exact AftS.nx h4 p4

/-! ### what is walked -/
def iV (v : Val) : M (List Val) := match v with
  | .d (.tup xs) => M.pure (xs.map .d)
  | .d (.lst xs) => M.pure (xs.map .d)
  | .scr ns => M.pure (ns.map fun i => .d (.int i))
  | _ => M.bad
def mIt (m : Env → M Val) : Env → M (List Val) := fun ρ => m ρ >>= iV
def iSeq (K : PySem.W.Frag) (tl : TE) : TI := fun σ H R => tl σ H fun x H1 => ∃ a, x = .ref a ∧ (((∃ xs, SqL K H1 a xs) ∧ R (Itl K a) H1) ∨ ((∃ xs, SqT K H1 a xs) ∧ R (Itt K a) H1))
theorem pi_seq {tg : Expr} {tl : TE} (hl : PE X e tl) : PI X tg e (iSeq X.K tl) := by
  constructor
  intro pins s σ H R I h
  apply thn (hl.run pins s σ H _ I h)
  rintro v s1 ⟨x, H1, I1, r1, a, rfl, q⟩
  cases r1
  have fresh : ∀ b ∈ [s1.heap.objs.size], FpOk X pins H1 b := by
    intro b hb
    cases List.mem_singleton.mp hb
    exact I1.fpOk (Nat.le_refl _) (I1.hok.fresh (Nat.le_refl _))
  rcases q with ⟨⟨xs, hq⟩, q⟩ | ⟨⟨xs, hq⟩, q⟩
  · obtain ⟨its, rv, p, hz⟩ := I1.list hq
    apply wpAny_pyIter_list p.isList
    exact ⟨_, _, _, _, H1, rfl, I1.kept (t' := s1.toks) fun b o e => Heap.get?_push_of_some _ e, turn_list a _, ⟨_, Heap.get?_push_size _ rfl, rfl, rfl⟩, fresh, q⟩
  · obtain ⟨its, rv, p, hz⟩ := I1.tuple hq
    apply wpAny_pyIter_tuple (show s1.heap.IsTuple a its.toArray from p)
    exact ⟨_, _, _, _, H1, rfl, I1.kept (t' := s1.toks) fun b o e => Heap.get?_push_of_some _ e, turn_tuple a _, ⟨_, Heap.get?_push_size _ rfl, rfl, rfl⟩, fresh, q⟩
theorem itl_ok {Oc : Own} {φ : Fi} {H : Hp} {a : Addr} {us : List V} {vs : List Val} (h : ∀ φ' H', Stp φ φ' H H' → SqL C.K H' a us) (r : RepVs C.K Oc φ H us vs) : ItOk C Oc φ H (Itl C.K a) vs := by
  intro O2 φ' H' st' t g sr
  have q := h φ' H' t
  refine ⟨fun i x hx => ?_, fun i hi => ⟨us, q, by rw [r.length]; exact hi⟩⟩
  obtain ⟨v, hv, rv⟩ := r.get hx
  refine ⟨⟨us, v, q, hv⟩, fun w H2 ⟨e, y⟩ => ?_⟩
  subst e
  have := y us q
  rw [hv] at this
  cases this
  exact ⟨Stp.refl _ _, sr, rv.via t g⟩
theorem itt_ok {Oc : Own} {φ : Fi} {H : Hp} {a : Addr} {us : List V} {vs : List Val} (h : ∀ φ' H', Stp φ φ' H H' → SqT C.K H' a us) (r : RepVs C.K Oc φ H us vs) : ItOk C Oc φ H (Itt C.K a) vs := by
  intro O2 φ' H' st' t g sr
  have q := h φ' H' t
  refine ⟨fun i x hx => ?_, fun i hi => ⟨us, q, by rw [r.length]; exact hi⟩⟩
  obtain ⟨v, hv, rv⟩ := r.get hx
  refine ⟨⟨us, v, q, hv⟩, fun w H2 ⟨e, y⟩ => ?_⟩
  subst e
  have := y us q
  rw [hv] at this
  cases this
  exact ⟨Stp.refl _ _, sr, rv.via t g⟩
theorem SqL'.stp {K : PySem.W.Frag} {φ φ' : Fi} {H H' : Hp} {a : Addr} {us : List V} (t : Stp φ φ' H H') (q : SqL' K H a us) : SqL' K H' a us := by
  rcases q with ⟨o, q⟩ | q
  · exact .inl ⟨o, t.frz a o _ q⟩
  · exact .inr q
/-- the values walked, where they stand -/
theorem iV_at {Oc : Own} {φ : Fi} {H : Hp} {st : Store} {σ : Sl} {v : V} {x : Val} {R : It → Hp → Prop} (s : SR C.K Oc φ H st) (r : RepV C.K Oc φ H v x) (h : Aft C Oc (fun φ H J vs => ItOk C Oc φ H J vs) (iV x st) φ H σ R) :
    ∃ a, v = .ref a ∧ (((∃ xs, SqL C.K H a xs) ∧ R (Itl C.K a) H) ∨ ((∃ xs, SqT C.K H a xs) ∧ R (Itt C.K a) H)) := by
  cases x with
  | d x =>
    cases x with
    | tup xs =>
      obtain ⟨a, vs, e, q, z⟩ := (show RepD C.K (own Oc φ) H v (.tup xs) from r)
      exact ⟨a, e, .inr ⟨⟨vs, q.to⟩, h φ H _ (Stp.refl _ _) s (itt_ok (fun φ' H' t => ((t.grow (K := C.K) (Oc := Oc)).tup _ _ q).to) (RepVs.of_D z))⟩⟩
    | lst xs =>
      obtain ⟨a, vs, e, n, q, z⟩ := (show RepD C.K (own Oc φ) H v (.lst xs) from r)
      exact ⟨a, e, .inl ⟨⟨vs, SqL.of q⟩, h φ H _ (Stp.refl _ _) s (itl_ok (fun φ' H' t => SqL.of ((t.grow (K := C.K) (Oc := Oc)).lst _ _ n q).2) (RepVs.of_D z))⟩⟩
    | _ => exact h.elim
  | scr ns =>
    obtain ⟨a, e, q⟩ := r
    exact ⟨a, e, .inl ⟨⟨_, q.of⟩, h φ H _ (Stp.refl _ _) s (itl_ok (fun φ' H' t => (q.stp t).of) (ints_rep ns))⟩⟩
  | loc => exact h.elim
  | exn => exact h.elim
theorem i_seq (hK : C.K = X.K) {tg : Expr} (hl : PE X e (tE C m)) : PI X tg e (tI C (mIt m)) :=
  imp_i (pi_seq hl) fun σ H R t => by
    obtain ⟨Oc, φ, st, ρ, p, h⟩ := tM.one (rp := rV C) t
    refine ⟨Oc, φ, st, ρ, p, h.mono fun v H1 ⟨Oc, φ, st, ρ, x, p, r, h⟩ => ?_⟩
    rw [← hK]
    exact iV_at p.sr r h
/-- range(n) -/
def upTo (n : Nat) : List Val := (List.range n).map fun (i : Nat) => .d (.int (i : Int))
def rngV (v : Val) : M (List Val) := do let j ← intV v; if j.natAbs < 2 ^ 62 then M.pure (upTo j.toNat) else M.bad
def mRng (m : Env → M Val) : Env → M (List Val) := fun ρ => m ρ >>= rngV
theorem itr_ok {Oc : Own} {φ : Fi} {H : Hp} {n : Nat} : ItOk C Oc φ H (Itr 0 n) (upTo n) := by
  intro O2 φ' H' st' t g sr
  have hl : (upTo n).length = n := by simp [upTo]
  refine ⟨fun i x hx => ?_, fun i hi => by rw [hl] at hi; exact hi⟩
  have hlt : i < n := by rw [← hl]; exact (List.getElem?_eq_some_iff.mp hx).1
  refine ⟨hlt, fun w H2 ⟨e, y⟩ => ?_⟩
  subst e
  refine ⟨Stp.refl _ _, sr, ?_⟩
  have : x = .d (.int i) := by
    simp only [upTo, List.getElem?_map, List.getElem?_range hlt] at hx
    exact (Option.some.inj hx).symm
  rw [this, y]
  exact (show V.int (0 + (i : Int)) = V.int i from by rw [Int.zero_add])
theorem i_rng {tg a : Expr} {p : Pos} (hg : Gl X "range") (hm : X.mg "range" = none) (ha : PE X a (tE C m)) (hs : noStar a = true) : PI X tg (.Call (.Name "range" p) [a] [] pos) (tI C (mRng m)) :=
  imp_i (pi_range1 hg hm (pa_cons ha pa_nil (star_one hs [] X.env)) (star_one hs [] X.env)) fun σ H R t => by
    obtain ⟨Oc, φ, st, ρ, p, h⟩ := tM.one (rp := rV C) t
    refine ⟨Oc, φ, st, ρ, p, h.mono fun v H1 ⟨Oc, φ, st, ρ, x, p, r, h⟩ => ?_⟩
    obtain ⟨j, e, h⟩ := intV_ok r h
    by_cases hz : j.natAbs < 2 ^ 62
    · rw [if_pos hz] at h
      refine ⟨j, by rw [e], by omega, by omega, h φ H1 _ (Stp.refl _ _) p.sr ?_⟩
      exact itr_ok
    · rw [if_neg hz] at h
      exact h.elim
/-- zip(a, b) of two lists or two tuples -/
def pairUp : List D → List D → List (D × D)
  | x :: xs, y :: ys => (x, y) :: pairUp xs ys
  | _, _ => []
def zipV (x y : Val) : M (List (D × D)) := match x, y with
  | .d (.tup xs), .d (.tup ys) => M.pure (pairUp xs ys)
  | .d (.lst xs), .d (.lst ys) => M.pure (pairUp xs ys)
  | _, _ => M.bad
def mZip (m n : Env → M Val) : Env → M (List Val) := fun ρ => m ρ >>= fun x => n ρ >>= fun y => zipV x y >>= fun ds => M.pure (ds.map fun p => .exn 0 [p.1, p.2])
theorem pairUp_get : ∀ {xs ys : List D} {i : Nat} {z : D × D}, (pairUp xs ys)[i]? = some z → ∃ x y, xs[i]? = some x ∧ ys[i]? = some y ∧ z = (x, y)
  | [], ys, i, z, h => by simp [pairUp] at h
  | x :: xs, [], i, z, h => by simp [pairUp] at h
  | x :: xs, y :: ys, 0, z, h => by
    simp [pairUp] at h
    exact ⟨x, y, by simp, by simp, h.symm⟩
  | x :: xs, y :: ys, i + 1, z, h => by
    simp only [pairUp, List.getElem?_cons_succ] at h ⊢
    exact pairUp_get h
theorem pairUp_len : ∀ xs ys : List D, (pairUp xs ys).length = min xs.length ys.length
  | [], ys => by simp [pairUp]
  | x :: xs, [] => by simp [pairUp]
  | x :: xs, y :: ys => by simp [pairUp, pairUp_len xs ys]
theorem RepDs.get {K : PySem.W.Frag} {O : Own} {H : Hp} : ∀ {xs : List D} {vs : List V} {i : Nat} {x : D}, RepDs K O H vs xs → xs[i]? = some x → ∃ v, vs[i]? = some v ∧ RepD K O H v x
  | [], _, _, _, _, e => by simp at e
  | y :: xs, vs, 0, x, h, e => by
    obtain ⟨v, r, q, h1, h2⟩ := h
    simp at e; subst e; subst q
    exact ⟨v, rfl, h1⟩
  | y :: xs, vs, i + 1, x, h, e => by
    obtain ⟨v, r, q, h1, h2⟩ := h
    subst q
    obtain ⟨u, hu, ru⟩ := RepDs.get (i := i) h2 (by simpa using e)
    exact ⟨u, by simpa using hu, ru⟩
theorem pair_new {Oc : Own} {φ : Fi} {H : Hp} {st : Store} {T : Addr} {v w : V} {x y : D} (sr : SR C.K Oc φ H st) (hT : H T = none) (r1 : RepD C.K (own Oc φ) H v x) (r2 : RepD C.K (own Oc φ) H w y) :
    Stp φ φ H (upd H T (.tup [v, w])) ∧ SR C.K Oc φ (upd H T (.tup [v, w])) st ∧ RepV C.K Oc φ (upd H T (.tup [v, w])) (.ref T) (.exn 0 [x, y]) := by
  have t := Stp.lay (φ := φ) (o := .tup [v, w]) hT
  refine ⟨t, sr.lay hT, fun _ => ⟨T, [v, w], rfl, .inl (.inl upd_same), ?_⟩⟩
  exact ⟨v, [w], rfl, RepD.grow t.grow r1, w, [], rfl, RepD.grow t.grow r2, rfl⟩
theorem i_zip (hK : C.K = X.K) {a b : Expr} {p tpos : Pos} {elts : List Expr} {kk : Nat} (hg : Gl X "zip") (hm : X.mg "zip" = none) (ha : PE X a (tE C m)) (hb : PE X b (tE C n)) (hs : noStar a = true) (hs2 : noStar b = true) :
    PI X (.Tuple elts kk tpos) (.Call (.Name "zip" p) [a, b] [] pos) (tI C (mZip m n)) :=
  imp_i (RZ.pi_zipA hg hm (pa_cons ha (pa_cons hb pa_nil (star_one hs2 [] X.env)) (star_one hs [b] X.env)) (star_one hs [b] X.env) (by
    rw [star_one hs2 [] X.env]; rfl)) fun σ H R t => by
    obtain ⟨Oc, φ, st, ρ, p, t⟩ := tM.two (rp := rV C) (rq := fun Oc φ H (J : It) vs => ItOk C Oc φ H J vs) t
    refine ⟨Oc, φ, st, ρ, p, t.mono fun v H1 t => ?_⟩
    obtain ⟨Oc, φ, st, ρ, p, t⟩ := t
    refine ⟨Oc, φ, st, ρ, p, t.mono fun u H2 ⟨Oc, φ, st, ρ, x, y, p, r, r', h⟩ => ?_⟩
    rw [← hK]
    cases x with
    | d x =>
      cases y with
      | d y =>
        cases x with
        | tup xs =>
          cases y with
          | tup ys =>
            obtain ⟨a, vs, e, q, z⟩ := (show RepD C.K (own Oc φ) H2 v (.tup xs) from r)
            obtain ⟨b, us, e2, q2, z2⟩ := (show RepD C.K (own Oc φ) H2 u (.tup ys) from r')
            refine ⟨a, b, vs, us, by rw [e, e2], .inr ⟨q.to, q2.to, h φ H2 _ (Stp.refl _ _) p.sr ?_⟩⟩
            intro O2 φ' H' st' t g sr
            refine ⟨fun i w hw => ?_, fun i hi => ⟨vs, us, (g.tup _ _ q).to, (g.tup _ _ q2).to, ?_⟩⟩
            · rw [List.getElem?_map] at hw
              cases hz : (pairUp xs ys)[i]? with
              | none => rw [hz] at hw; cases hw
              | some z0 =>
                rw [hz] at hw
                cases hw
                obtain ⟨x0, y0, hx, hy, ez⟩ := pairUp_get hz
                subst ez
                obtain ⟨v0, g1, g2⟩ := z.get hx
                obtain ⟨u0, g3, g4⟩ := z2.get hy
                refine ⟨⟨vs, us, v0, u0, (g.tup _ _ q).to, (g.tup _ _ q2).to, g1, g3⟩, ?_⟩
                rintro w H3 ⟨T, v1, u1, rfl, hT, rfl, k1, k2⟩
                have k1 := k1 vs (g.tup _ _ q).to
                have k2 := k2 us (g.tup _ _ q2).to
                rw [g1] at k1; rw [g3] at k2
                cases k1; cases k2
                exact pair_new sr hT (RepD.grow g g2) (RepD.grow g g4)
            · rw [List.length_map, pairUp_len] at hi
              rw [z.length, z2.length]
              omega
          | _ => exact h.elim
        | lst xs =>
          cases y with
          | lst ys =>
            obtain ⟨a, vs, e, n1, q, z⟩ := (show RepD C.K (own Oc φ) H2 v (.lst xs) from r)
            obtain ⟨b, us, e2, n2, q2, z2⟩ := (show RepD C.K (own Oc φ) H2 u (.lst ys) from r')
            refine ⟨a, b, vs, us, by rw [e, e2], .inl ⟨SqL.of q, SqL.of q2, h φ H2 _ (Stp.refl _ _) p.sr ?_⟩⟩
            intro O2 φ' H' st' t g sr
            have s1 := SqL.of (K := C.K) (g.lst _ _ n1 q).2
            have s2 := SqL.of (K := C.K) (g.lst _ _ n2 q2).2
            refine ⟨fun i w hw => ?_, fun i hi => ⟨vs, us, s1, s2, ?_⟩⟩
            · rw [List.getElem?_map] at hw
              cases hz : (pairUp xs ys)[i]? with
              | none => rw [hz] at hw; cases hw
              | some z0 =>
                rw [hz] at hw
                cases hw
                obtain ⟨x0, y0, hx, hy, ez⟩ := pairUp_get hz
                subst ez
                obtain ⟨v0, g1, g2⟩ := z.get hx
                obtain ⟨u0, g3, g4⟩ := z2.get hy
                refine ⟨⟨vs, us, v0, u0, s1, s2, g1, g3⟩, ?_⟩
                rintro w H3 ⟨T, v1, u1, rfl, hT, rfl, k1, k2⟩
                have k1 := k1 vs s1
                have k2 := k2 us s2
                rw [g1] at k1; rw [g3] at k2
                cases k1; cases k2
                exact pair_new sr hT (RepD.grow g g2) (RepD.grow g g4)
            · rw [List.length_map, pairUp_len] at hi
              rw [z.length, z2.length]
              omega
          | _ => exact h.elim
        | _ => exact h.elim
      | _ => cases x <;> exact h.elim
    | _ => exact h.elim
end
end Ev
set_option maxRecDepth 100000
set_option maxHeartbeats 4000000
/-! Ev, part N: comprehensions. -/
namespace Ev
open PySem PySem.Spec PyProof.Rows L2

/-- no exception lets out -/
def M.nx {α : Type} (m : M α) : M α := fun s => match m s with
  | .exc _ _ _ => .bad
  | r => r
def wipeE (ρ : Env) : List Nat → Env
  | [] => ρ
  | v :: vs => (wipeE ρ vs).set v none
def lcGo (t : Tg) (kc : Env → M Bool) (me : Env → M Val) (ρ : Env) : List Val → M (List Val)
  | [] => M.pure []
  | v :: vs => match tgV t v ρ with
    | none => M.bad
    | some ρ1 => M.nx (kc ρ1) >>= fun b => if b = true then M.nx (me ρ1) >>= fun y => lcGo t kc me ρ vs >>= fun r => M.pure (y :: r) else lcGo t kc me ρ vs
def mLc (c : Bool) (ix : List Nat) (t : Tg) (mi : Env → M (List Val)) (kc : Env → M Bool) (me : Env → M Val) : Env → M Val := fun ρ =>
  mi ρ >>= fun vs => if vs.length ≤ lineLen then lcGo t kc me (wipeE ρ ix) vs >>= fun ys => mkList c ys else M.bad
def Cn.nx (C : Cn) : Cn := { C with W := fun _ _ _ _ => False }
def kYes : Env → M Bool := fun _ => M.pure true

section
variable {C : Cn} {Oc : Own} {φ φ' : Fi} {H H' : Hp} {st : Store} {ρ : Env} {σ : Sl} {α β γ δ : Type}
theorem wipe_at : ∀ (σ : Sl) (vs : List Nat) (j : Nat), (wipe σ vs)[j]? = if j ∈ vs then (σ[j]?).map fun _ => none else σ[j]?
  | σ, [], j => by simp [wipe]
  | σ, v :: vs, j => by
    unfold wipe
    by_cases hj : j = v
    · subst hj
      rw [List.getElem?_set]
      have : (wipe σ vs).length = σ.length := wipe_length σ vs
      simp only [if_pos, List.mem_cons, true_or, this]
      by_cases hl : j < σ.length
      · rw [if_pos hl]; simp [hl]
      · rw [if_neg hl]; simp [List.getElem?_eq_none (Nat.le_of_not_lt hl)]
    · rw [List.getElem?_set_ne (Ne.symm hj), wipe_at σ vs j]
      simp [hj]
theorem wipe_agr {is vs : List Nat} {σ σ' : Sl} (g : Agr is (wipe σ vs) σ') (h : ∀ j ∈ is, j ∈ vs) : wipe σ' vs = wipe σ vs := by
  apply List.ext_getElem?
  intro j
  rw [wipe_at, wipe_at]
  have hl : σ'.length = σ.length := g.len.trans (wipe_length σ vs)
  by_cases hj : j ∈ vs
  · rw [if_pos hj, if_pos hj]
    by_cases hk : j < σ.length
    · simp [hk, hl]
    · rw [List.getElem?_eq_none (Nat.le_of_not_lt hk), List.getElem?_eq_none (by rw [hl]; exact Nat.le_of_not_lt hk)]
  · rw [if_neg hj, if_neg hj]
    have := g.at_ j (fun z => hj (h j z))
    rw [this, wipe_at, if_neg hj]
theorem ER.wipe {K : PySem.W.Frag} (e : ER K Oc φ H ρ σ) : ∀ ix : List Nat, ER K Oc φ H (wipeE ρ ix) (L2.wipe σ ix)
  | [] => e
  | v :: vs => by
    have r := ER.wipe e vs
    unfold wipeE L2.wipe
    refine ⟨by simp [r.len], fun i x h => ?_⟩
    by_cases hj : i = v
    · subst hj
      by_cases hl : i < (wipeE ρ vs).length
      · rw [List.getElem?_set_self hl] at h
        cases h
      · rw [List.getElem?_eq_none (by simpa using hl)] at h
        cases h
    · rw [List.getElem?_set_ne (Ne.symm hj)] at h
      rw [List.getElem?_set_ne (Ne.symm hj)]
      exact r.at_ i x h
theorem nx_in {O2 : Own} {φ2 : Fi} {H2 : Hp} {σ2 : Sl} {rp : Fi → Hp → β → α → Prop} {rq : Fi → Hp → δ → γ → Prop} {m : M α} {f : α → M γ} {Q : δ → Hp → Prop} (h : Aft C Oc rq ((m.nx >>= f) st) φ H σ Q) :
    Aft C.nx O2 rp (m st) φ2 H2 σ2 fun b H3 => ∃ φ3 s3 a, Stp φ2 φ3 H2 H3 ∧ SR C.K O2 φ3 H3 s3 ∧ rp φ3 H3 b a ∧ Aft C Oc rq (f a s3) φ H σ Q := by
  have h' : Aft C Oc rq (M.bind m.nx f st) φ H σ Q := h
  unfold M.bind M.nx at h'
  cases e : m st with
  | ok a s' =>
    rw [e] at h'
    exact fun φ3 H3 b s r q => ⟨φ3, s', a, s, r, q, h'⟩
  | exc c xs s' => rw [e] at h'; exact h'.elim
  | bad => rw [e] at h'; exact h'.elim
/-! ### the new list, owned by the block -/
abbrev and1 (Oc : Own) (d : Addr) : Own := fun a => Oc a ∨ a = d
theorem own_and {d : Addr} {a : Addr} : own (and1 Oc d) φ a ↔ (own Oc φ a ∨ a = d) := by
  constructor
  · rintro ((h | h) | h)
    · exact .inl (.inl h)
    · exact .inr h
    · exact .inl (.inr h)
  · rintro ((h | h) | h)
    · exact .inl (.inl h)
    · exact .inr h
    · exact .inl (.inr h)
theorem grow_in {K : PySem.W.Frag} {d : Addr} {o : HO} (hd : H d = none) : Grow K (own Oc φ) (own (and1 Oc d) φ) H (upd H d o) where
  tup := fun a xs h => (Stp.lay (φ := φ) (o := o) hd).grow (K := K) (Oc := Oc) |>.tup a xs h
  wt := fun a xs h => (Stp.lay (φ := φ) (o := o) hd).grow (K := K) (Oc := Oc) |>.wt a xs h
  lst := fun a xs n h => ⟨fun z => (own_and.mp z).elim n fun e => (by rw [e, hd] at h; cases h), by rw [upd_ne (ne_of_none h hd)]; exact h⟩
  dct := fun a xs n h => ⟨fun z => (own_and.mp z).elim n fun e => (by rw [e, hd] at h; cases h), by rw [upd_ne (ne_of_none h hd)]; exact h⟩
theorem grow_out {K : PySem.W.Frag} {d : Addr} : Grow K (own (and1 Oc d) φ) (own Oc φ) H H := Grow.self fun a n z => n (own_and.mpr (.inl z))
theorem RepV.own_to {K : PySem.W.Frag} {O2 : Own} {φ2 : Fi} {H2 : Hp} {v : V} {x : Val} (g : Grow K (own Oc φ) (own O2 φ2) H H2) (l : ∀ (n : Nat) x, φ[n]? = some x → φ2[n]? = some x) (fz : ∀ a o u, H a = some (.frz o u) → H2 a = some (.frz o u)) (r : RepV K Oc φ H v x) : RepV K O2 φ2 H2 v x := by
  cases x with
  | d x => exact RepD.grow g r
  | loc n =>
    obtain ⟨h1, h2⟩ := r
    have e := l n (φ[n]'h1) (by simp [h1])
    refine ⟨(List.getElem?_eq_some_iff.mp e).1, fun a ha => ?_⟩
    rw [e] at ha
    exact h2 a (by rw [← ha]; simp [h1])
  | exn c xs =>
    intro hc
    obtain ⟨a, vs, e, q, z⟩ := r hc
    exact ⟨a, vs, e, g.wt _ _ q, RepDs.grow g z⟩
  | scr ns =>
    obtain ⟨a, e, q⟩ := r
    refine ⟨a, e, ?_⟩
    rcases q with ⟨o, q⟩ | q
    · exact .inl ⟨o, fz a o _ q⟩
    · exact .inr q
theorem RepVs.own_to {K : PySem.W.Frag} {O2 : Own} {φ2 : Fi} {H2 : Hp} (g : Grow K (own Oc φ) (own O2 φ2) H H2) (l : ∀ (n : Nat) x, φ[n]? = some x → φ2[n]? = some x) (fz : ∀ a o u, H a = some (.frz o u) → H2 a = some (.frz o u)) : ∀ {xs : List Val} {vs : List V}, RepVs K Oc φ H vs xs → RepVs K O2 φ2 H2 vs xs
  | [], vs, r => r
  | x :: xs, vs, r => by
    obtain ⟨v, w, e, h1, h2⟩ := r
    exact ⟨v, w, e, h1.own_to g l fz, RepVs.own_to g l fz h2⟩
theorem RepKs.own_to {K : PySem.W.Frag} {O2 : Own} {φ2 : Fi} {H2 : Hp} (g : Grow K (own Oc φ) (own O2 φ2) H H2) (l : ∀ (n : Nat) x, φ[n]? = some x → φ2[n]? = some x) (fz : ∀ a o u, H a = some (.frz o u) → H2 a = some (.frz o u)) : ∀ {xs : List (D × Val)} {vs : List (Key × V)}, RepKs K Oc φ H vs xs → RepKs K O2 φ2 H2 vs xs
  | [], vs, r => r
  | (k, x) :: xs, vs, r => by
    obtain ⟨q, v, w, e, h0, h1, h2⟩ := r
    exact ⟨q, v, w, e, h0, h1.own_to g l fz, RepKs.own_to g l fz h2⟩
theorem CellAt.own_to {K : PySem.W.Frag} {O2 : Own} {φ2 : Fi} {H2 : Hp} {a : Addr} {c : Cell} (g : Grow K (own Oc φ) (own O2 φ2) H H2) (l : ∀ (n : Nat) x, φ[n]? = some x → φ2[n]? = some x) (fz : ∀ a o u, H a = some (.frz o u) → H2 a = some (.frz o u)) (k : ∀ o, H a = some o → H2 a = some o) (r : CellAt K Oc φ H a c) : CellAt K O2 φ2 H2 a c := by
  cases c with
  | lst xs =>
    obtain ⟨vs, e, q⟩ := r
    exact ⟨vs, k _ e, q.own_to g l fz⟩
  | dct m =>
    obtain ⟨vs, e, q⟩ := r
    exact ⟨vs, k _ e, q.own_to g l fz⟩
  | ins => exact r
  | dead => exact r
theorem SR.in1 {d : Addr} {us : List V} (s : SR C.K Oc φ H st) (hd : H d = none) : SR C.K (and1 Oc d) φ (upd H d (.lst us)) st where
  len := s.len
  nd := s.nd
  oc := fun a ha => by
    rcases ha with ha | ha
    · have ne : a ≠ d := fun z => (s.oc a ha).1 (by rw [z]; exact hd)
      rw [upd_ne ne]
      exact s.oc a ha
    · subst ha
      rw [upd_same]
      refine ⟨fun z => (by cases z), fun z => ?_, fun xs z => (by cases z), fun o u z => (by cases z)⟩
      obtain ⟨n, e⟩ := List.mem_iff_getElem?.mp z
      rcases s.there e with ⟨_, q⟩ | ⟨_, q⟩ <;> (rw [hd] at q; cases q)
  live := fun n a e => by
    obtain ⟨c, h1, h2⟩ := s.live n a e
    exact ⟨c, h1, h2.own_to (grow_in hd) (fun _ _ z => z) (fun b o u z => by rw [upd_ne (ne_of_none z hd)]; exact z) fun o z => by rw [upd_ne (ne_of_none z hd)]; exact z⟩
  dead := s.dead
theorem SR.out1 {d : Addr} (s : SR C.K (and1 Oc d) φ H st) : SR C.K Oc φ H st where
  len := s.len
  nd := s.nd
  oc := fun a ha => s.oc a (.inl ha)
  live := fun n a e => by
    obtain ⟨c, h1, h2⟩ := s.live n a e
    exact ⟨c, h1, h2.own_to grow_out (fun _ _ z => z) (fun _ _ _ z => z) fun _ z => z⟩
  dead := s.dead
theorem SR.wr {d : Addr} {us : List V} (s : SR C.K Oc φ H st) (hd : Oc d) (g : Grow C.K (own Oc φ) (own Oc φ) H (upd H d (.lst us))) (fz : ∀ a o u, H a = some (.frz o u) → upd H d (.lst us) a = some (.frz o u)) : SR C.K Oc φ (upd H d (.lst us)) st where
  len := s.len
  nd := s.nd
  oc := fun a ha => by
    by_cases ne : a = d
    · subst ne
      rw [upd_same]
      exact ⟨fun z => (by cases z), (s.oc a ha).2.1, fun xs z => (by cases z), fun o u z => (by cases z)⟩
    · rw [upd_ne ne]
      exact s.oc a ha
  live := fun n a e => by
    obtain ⟨c, h1, h2⟩ := s.live n a e
    refine ⟨c, h1, h2.own_to g (fun _ _ z => z) fz fun o z => ?_⟩
    rw [upd_ne (fun y => (s.oc d hd).2.1 (by rw [← y]; exact List.mem_of_getElem? e))]
    exact z
  dead := s.dead
/-- it becomes a cell -/
theorem SR.adopt {d : Addr} {us : List V} {ys : List Val} (s : SR C.K (and1 Oc d) φ H st) (nO : ¬ Oc d) (hd : H d = some (.lst us)) (r : RepVs C.K (and1 Oc d) φ H us ys) : SR C.K Oc (φ ++ [some d]) H (st ++ [.lst ys]) := by
  have g : Grow C.K (own (and1 Oc d) φ) (own Oc (φ ++ [some d])) H H := Grow.self fun a n z => n (own_and.mpr (by
    rcases z with z | z
    · exact .inl (.inl z)
    · rcases List.mem_append.mp z with z | z
      · exact .inl (.inr z)
      · simp at z; exact .inr z))
  have l : ∀ (n : Nat) x, φ[n]? = some x → (φ ++ [some d])[n]? = some x := fun n x e => by rw [List.getElem?_append_left (List.getElem?_eq_some_iff.mp e).1]; exact e
  have nφ : some d ∉ φ := (s.oc d (.inr rfl)).2.1
  have aux : ∀ (k : Nat) c, (φ ++ [some d])[k]? = some (some c) → (k < φ.length ∧ φ[k]? = some (some c)) ∨ (k = φ.length ∧ c = d) := fun k c e => by
    by_cases h : k < φ.length
    · rw [List.getElem?_append_left h] at e; exact .inl ⟨h, e⟩
    · have l := (List.getElem?_eq_some_iff.mp e).1
      simp at l
      rw [List.getElem?_append_right (Nat.le_of_not_lt h)] at e
      have e' := List.mem_of_getElem? e
      simp at e'
      exact .inr ⟨by omega, e'⟩
  refine ⟨by simp [s.len], fun i j c e1 e2 => ?_, fun c hc => ?_, fun i c e => ?_, fun i e => ?_⟩
  · rcases aux i c e1 with ⟨l1, h1⟩ | ⟨l1, h1⟩ <;> rcases aux j c e2 with ⟨l2, h2⟩ | ⟨l2, h2⟩
    · exact s.nd i j c h1 h2
    · subst h2; exact absurd (List.mem_of_getElem? h1) nφ
    · subst h1; exact absurd (List.mem_of_getElem? h2) nφ
    · omega
  · obtain ⟨h1, h2, h3, h4⟩ := s.oc c (.inl hc)
    refine ⟨h1, fun z => ?_, h3, h4⟩
    rcases List.mem_append.mp z with z | z
    · exact h2 z
    · simp at z
      rw [z] at hc
      exact nO hc
  · rcases aux i c e with ⟨l1, h1⟩ | ⟨l1, h1⟩
    · obtain ⟨c', y1, y2⟩ := s.live i c h1
      exact ⟨c', by rw [List.getElem?_append_left (by rw [← s.len]; exact l1)]; exact y1, y2.own_to g l (fun _ _ _ z => z) fun _ z => z⟩
    · subst h1
      subst l1
      exact ⟨.lst ys, by rw [s.len]; simp, us, hd, r.own_to g l fun _ _ _ z => z⟩
  · by_cases h : i < φ.length
    · rw [List.getElem?_append_left h] at e
      rw [List.getElem?_append_left (by rw [← s.len]; exact h)]
      exact s.dead i e
    · rw [List.getElem?_append_right (Nat.le_of_not_lt h)] at e
      have e' := List.mem_of_getElem? e
      simp at e'
theorem Stp.adopt {d : Addr} (s : Stp φ φ' H H') (hd : H d = none) : Stp φ (φ' ++ [some d]) H H' where
  len := by have := s.len; simp; omega
  old := fun n x e => by
    have hl : n < φ'.length := Nat.lt_of_lt_of_le (List.getElem?_eq_some_iff.mp e).1 s.len
    rw [List.getElem?_append_left hl]
    exact s.old n x e
  new := fun n a hn e => by
    by_cases h : n < φ'.length
    · rw [List.getElem?_append_left h] at e
      exact s.new n a hn e
    · rw [List.getElem?_append_right (Nat.le_of_not_lt h)] at e
      have e' := List.mem_of_getElem? e
      simp at e'
      rw [e']; exact hd
  keep := s.keep
  tup := s.tup
  frz := s.frz
  there := s.there
/-- the block's end -/
theorem lc_end {d : Addr} {us : List V} {ys : List Val} {c : Bool} {Q : VK} {H1 : Hp} {φ1 : Fi} (h : Aft C Oc (rV C Oc) (mkList c ys st) φ1 H1 σ Q) (t : Stp φ1 φ H1 H) (s : SR C.K (and1 Oc d) φ H st) (nO : ¬ Oc d) (d1 : H1 d = none) (hd : H d = some (.lst us)) (r : RepVs C.K (and1 Oc d) φ H us ys) : Q (.ref d) H := by
  cases c with
  | true =>
    have h' : Aft C Oc (rV C Oc) (.ok (.loc st.length) (st ++ [.lst ys])) φ1 H1 σ Q := h
    refine h' _ _ _ (t.adopt d1) (s.adopt nO hd r) ⟨by rw [List.length_append, ← s.len]; simp, fun b e => ?_⟩
    rw [← s.len] at e
    simp at e
    rw [e]
  | false =>
    have h' : Aft C Oc (rV C Oc) (M.bind (datas ys) (fun xs => M.pure (.d (.lst xs))) st) φ1 H1 σ Q := h
    unfold M.bind at h'
    rcases datas_cases st ys with e | ⟨ds, e, q⟩
    · rw [e] at h'; exact h'.elim
    · rw [e] at h'
      subst q
      refine h' φ H _ t s.out1 ⟨d, us, rfl, fun z => ?_, hd, (RepVs.own_to grow_out (fun _ _ z => z) (fun _ _ _ z => z) r).to_D⟩
      rcases z with z | z
      · exact nO z
      · exact (s.oc d (.inr rfl)).2.1 z
end

section
variable {X : Cx} {C : Cn} {elt tg iter : Expr} {ifs : List Expr} {scope : Scope} {ow : List (Str × Nat)} {pos spos py : Pos} {t : Tg} {mi : Env → M (List Val)} {kc : Env → M Bool} {me : Env → M Val} {c : Bool}
theorem ts_nil : PTs X [] (tT C kYes) := ⟨fun pins s σ H Q I ⟨Oc, φ, st, ρ, p, h⟩ => (pts_nil (X := X)).run pins s σ H Q I (Aft.ok h p.sr rfl)⟩
theorem ts_one {a : Expr} {k : Env → M Bool} (h : PT X a (tT C k)) : PTs X [a] (tT C k) := pts_one h
theorem M.assoc' {α β γ : Type} (m : M α) (f : α → M β) (g : β → M γ) (s : Store) : ((m >>= f) >>= g) s = (m >>= fun a => f a >>= g) s := congrFun (M.assoc m f g) s
/-- a comprehension's reading -/
theorem lc_read {vs0 : List Nat} {σ : Sl} {H : Hp} {Q : VK} (hix : ∀ j ∈ t.ix, j ∈ vs0) (h : tE C (mLc c vs0 t mi kc me) σ H Q) : tLc (tI C mi) (gM C t) (tT C.nx kc) (tE C.nx me) vs0 σ H Q := by
  obtain ⟨Oc, φ, st, ρ, p, h⟩ := h
  refine ⟨Oc, φ, st, ρ, p, (Aft.bind (rp := fun φ H J vs => ItOk C Oc φ H J vs) h).mono fun J H1 ⟨φ1, s1, vs, t1, r1, it, k⟩ => ?_⟩
  intro d hd
  by_cases hz : vs.length ≤ lineLen
  · rw [if_pos hz] at k
    have er : ER C.K Oc φ1 H1 (wipeE ρ vs0) (wipe σ vs0) := (p.er.step t1).wipe vs0
    have nO : ¬ Oc d := fun z => (r1.oc d z).1 hd
    have t01 := Stp.lay (φ := φ1) (o := HO.lst []) hd
    refine ⟨fun i m H2 => m = vs.length - i ∧ i ≤ vs.length ∧ ∃ φ2 s2 us ys, Stp φ1 φ2 H1 H2 ∧ Grow C.K (own Oc φ1) (own (and1 Oc d) φ2) H1 H2 ∧ SR C.K (and1 Oc d) φ2 H2 s2 ∧ H2 d = some (.lst us) ∧ us.length ≤ i ∧ RepVs C.K (and1 Oc d) φ2 H2 us ys ∧
      Aft C Oc (rV C Oc) ((lcGo t kc me (wipeE ρ vs0) (vs.drop i) >>= fun r => mkList c (ys ++ r)) s2) φ1 H1 σ Q,
      ⟨vs.length, by simp, Nat.zero_le _, φ1, s1, [], [], t01, grow_in hd, r1.in1 hd, upd_same, by simp, rfl, by simpa using k⟩, ?_⟩
    rintro i m H2 ⟨rfl, hi, φ2, s2, us, ys, ta, tb, sr, hu, hl, ru, k2⟩
    obtain ⟨hgo, hstop⟩ := it (and1 Oc d) φ2 H2 s2 ta tb sr
    by_cases hlt : i < vs.length
    · obtain ⟨y, hy⟩ : ∃ y, vs[i]? = some y := ⟨vs[i], by simp [hlt]⟩
      have ed : vs.drop i = y :: vs.drop (i + 1) := by
        rw [List.drop_eq_getElem_cons hlt]
        have : vs[i] = y := by rw [List.getElem?_eq_getElem hlt] at hy; exact Option.some.inj hy
        rw [this]
      rw [ed] at k2
      obtain ⟨g1, g2⟩ := hgo i y hy
      refine .inr ⟨g1, fun H' => ∃ φ3 s3 us ys, Stp φ1 φ3 H1 H' ∧ Grow C.K (own Oc φ1) (own (and1 Oc d) φ3) H1 H' ∧ SR C.K (and1 Oc d) φ3 H' s3 ∧ H' d = some (.lst us) ∧ us.length ≤ i + 1 ∧ RepVs C.K (and1 Oc d) φ3 H' us ys ∧
        Aft C Oc (rV C Oc) ((lcGo t kc me (wipeE ρ vs0) (vs.drop (i + 1)) >>= fun r => mkList c (ys ++ r)) s3) φ1 H1 σ Q, fun H' ⟨φ3, s3, us, ys, q⟩ => ⟨vs.length - (i + 1), by omega, rfl, hlt, φ3, s3, us, ys, q⟩, fun v H3 yl => ?_⟩
      obtain ⟨t3, sr3, r3⟩ := g2 v H3 yl
      have ta3 := ta.trans t3
      have tb3 := tb.trans t3.grow
      unfold lcGo at k2
      cases q : tgV t y (wipeE ρ vs0) with
      | none =>
        rw [q] at k2
        exact k2.elim
      | some ρ1 =>
        rw [q] at k2
        simp only at k2
        have er3 : ER C.K (and1 Oc d) φ2 H3 (wipeE ρ vs0) (wipe σ vs0) := ⟨er.len, fun j x e => by
          obtain ⟨w, e1, e2⟩ := er.at_ j x e
          exact ⟨w, e1, e2.via ta3 tb3⟩⟩
        refine ⟨and1 Oc d, φ2, s2, wipeE ρ vs0, y, ρ1, ⟨sr3, er3⟩, r3, q, fun σ' p' ag => ⟨wipe_agr ag hix, and1 Oc d, φ2, s2, ρ1, ⟨p'.sr, p'.er⟩, ?_⟩⟩
        rw [M.assoc] at k2
        refine (nx_in (rp := rB) k2).mono fun b H4 ⟨φ4, s4, b', t4, r4, e4, k4⟩ => ?_
        cases (show b = b' from e4)
        have live : ∀ {φ' : Fi} {H' : Hp}, Stp φ2 φ' H3 H' → H' d = some (.lst us) := fun {φ' H'} z => by
          have a1 : H3 d = some (.lst us) := t3.keep d _ hu (sr.oc d (.inr rfl)).2.1
          exact z.keep d _ a1 (sr.oc d (.inr rfl)).2.1
        cases b with
        | false =>
          rw [if_neg Bool.false_ne_true] at k4 ⊢
          exact ⟨φ4, s4, us, ys, ta3.trans t4, tb3.trans t4.grow, r4, live t4, by omega, (ru.step t3).step t4, k4⟩
        | true =>
          rw [if_pos rfl] at k4 ⊢
          rw [M.assoc] at k4
          refine ⟨and1 Oc d, φ4, s4, ρ1, ⟨r4, p'.er.step t4⟩, (nx_in (rp := rV C (and1 Oc d)) k4).mono fun z H5 ⟨φ5, s5, x, t5, r5, e5, k5⟩ => ?_⟩
          have hd5 := live (t4.trans t5)
          have oc5 := (r5.oc d (.inr rfl))
          refine ⟨us, hd5, by rw [← line_eq]; omega, ?_⟩
          have wr : ∀ {a : Addr} {o : HO}, H5 a = some o → a ≠ d → upd H5 d (.lst (us ++ [z])) a = some o := fun e ne => by rw [upd_ne ne]; exact e
          have gw : Grow C.K (own (and1 Oc d) φ5) (own (and1 Oc d) φ5) H5 (upd H5 d (.lst (us ++ [z]))) := ⟨fun a xs h => by
              rcases h with ⟨o, h, e⟩ | h
              · exact .inl ⟨o, wr h fun z => oc5.2.2.2 o _ (by rw [← z]; exact h), e⟩
              · exact .inr h, fun a xs h => by
              rcases h with (h | ⟨o, h⟩) | h
              · exact .inl (.inl (wr h fun z => oc5.2.2.1 xs (by rw [← z]; exact h)))
              · exact .inl (.inr ⟨o, wr h fun z => oc5.2.2.2 o _ (by rw [← z]; exact h)⟩)
              · exact .inr h, fun a xs n h => ⟨n, wr h fun z => n (by rw [z]; exact own_and.mpr (.inr rfl))⟩, fun a xs n h => ⟨n, wr h fun z => n (by rw [z]; exact own_and.mpr (.inr rfl))⟩⟩
          have fz : ∀ a o u, H5 a = some (.frz o u) → upd H5 d (.lst (us ++ [z])) a = some (.frz o u) := fun a o u e => wr e fun z => oc5.2.2.2 o u (by rw [← z]; exact e)
          have stA : Stp φ1 φ5 H1 H5 := (ta3.trans t4).trans t5
          have stB := ((tb3.trans t4.grow).trans t5.grow).trans gw
          have to6 : ∀ {a : Addr} {o : HO}, H1 a = some o → H5 a = some o → upd H5 d (.lst (us ++ [z])) a = some o := fun e1 e2 => wr e2 fun y => by rw [y, hd] at e1; cases e1
          have stA6 : Stp φ1 φ5 H1 (upd H5 d (.lst (us ++ [z]))) := ⟨stA.len, stA.old, stA.new, fun a o e n => to6 e (stA.keep a o e n), fun a xs e => to6 e (stA.tup a xs e), fun a o u e => to6 e (stA.frz a o u e), fun a e => by
            by_cases y : a = d
            · rw [y, upd_same]; exact fun q => by cases q
            · rw [upd_ne y]; exact stA.there a e⟩
          refine ⟨φ5, s5, us ++ [z], ys ++ [x], stA6, ?_, ?_, upd_same, by simp; omega, ?_, ?_⟩
          · exact stB
          · exact r5.wr (.inr rfl) gw fz
          · exact (((ru.step t3).step t4).step t5 |>.own_to gw (fun _ _ z => z) fz).append ⟨z, [], rfl, e5.own_to gw (fun _ _ z => z) fz, rfl⟩
          · rw [M.assoc] at k5
            have ef : (fun r => (M.pure (x :: r) : M (List Val)) >>= fun r => mkList c (ys ++ r)) = fun r => mkList c ((ys ++ [x]) ++ r) := by
              funext r
              show mkList c (ys ++ (x :: r)) = _
              rw [List.append_cons]
            rw [ef] at k5
            exact k5
    · have ed : vs.drop i = [] := List.drop_eq_nil_of_le (Nat.le_of_not_lt hlt)
      rw [ed] at k2
      refine .inl ⟨hstop i (Nat.le_of_not_lt hlt), ?_⟩
      have k3 : Aft C Oc (rV C Oc) (mkList c (ys ++ []) s2) φ1 H1 σ Q := k2
      rw [List.append_nil] at k3
      exact lc_end k3 ta sr nO hd hu ru
  · rw [if_neg hz] at k
    exact k.elim
theorem s_lc (hc : X.calm = true) (hN : X.N.Nodup) (hi : PI X tg iter (tI C mi)) (ok : BlkOk X.N X.env.scope scope ow) (hix : ∀ j ∈ t.ix, j ∈ ow.map (·.2))
    (hg : ∀ (s : Shared) (H : Hp) (D : Addr) (cl : List (Str × Addr)) (fp : List Addr), PG (X.blk s H scope (compEnvC scope cl D X.env) fp) tg (gM C t)) (ht : ∀ (s : Shared) (H : Hp) (D : Addr) (cl : List (Str × Addr)) (fp : List Addr), PTs (X.blk s H scope (compEnvC scope cl D X.env) fp) ifs (tT C.nx kc))
    (he : ∀ (s : Shared) (H : Hp) (D : Addr) (cl : List (Str × Addr)) (fp : List Addr), PE (X.blk s H scope (compEnvC scope cl D X.env) fp) elt (tE C.nx me)) (hs : ∀ x, foldedSetIterable iter X.env x = pure x) :
    PE X (.ListComp elt [⟨tg, iter, ifs, 0⟩] scope pos) (tE C (mLc c (ow.map (·.2)) t mi kc me)) :=
  imp_e (pe_lc hc hN hi ok hg ht he hs) fun σ H Q h => lc_read hix h
theorem ss_setLc {i : Nat} {y : Str} (hc : X.calm = true) (hN : X.N.Nodup) (hy : X.N[i]? = some y) (hyl : X.env.scope.names.lookup y = some .local) (hsw : swapsWith (.ListComp elt [⟨tg, iter, ifs, 0⟩] scope pos) (some (.Name y py)) spos.line X.env = pure true)
    (hi : PI X tg iter (tI C mi)) (ok : BlkOk X.N X.env.scope scope ow) (hix : ∀ j ∈ t.ix, j ∈ ow.map (·.2))
    (hg : ∀ (s : Shared) (H : Hp) (D : Addr) (cl : List (Str × Addr)) (fp : List Addr), PG (X.blk s H scope (compEnvC scope cl D X.env) fp) tg (gM C t)) (ht : ∀ (s : Shared) (H : Hp) (D : Addr) (cl : List (Str × Addr)) (fp : List Addr), PTs (X.blk s H scope (compEnvC scope cl D X.env) fp) ifs (tT C.nx kc))
    (he : ∀ (s : Shared) (H : Hp) (D : Addr) (cl : List (Str × Addr)) (fp : List Addr), PE (X.blk s H scope (compEnvC scope cl D X.env) fp) elt (tE C.nx me)) (hs : ∀ x, foldedSetIterable iter X.env x = pure x) :
    PS X (.Assign [.Name y py] (.ListComp elt [⟨tg, iter, ifs, 0⟩] scope pos) spos) (tS C (sAsg (.nm i) (mLc c (ow.map (·.2)) t mi kc me))) :=
  imp_s (ps_setLc hc hN hy hyl hsw hi ok hg ht he hs) fun D σ H ⟨Oc, φ, st, ρ, p, h⟩ => by
    refine lc_read hix ⟨Oc, φ, st, ρ, p, (ex_ok (rp := rV C Oc) p h).mono fun v H1 ⟨φ1, s1, x, s, p1, r, h⟩ => ?_⟩
    simp only [tgV] at h
    by_cases hl : i < ρ.length
    · rw [if_pos hl] at h
      exact AftS.nx h ⟨p1.sr, p1.er.put r i⟩
    · rw [if_neg hl] at h
      exact h.elim
end
end Ev
set_option maxRecDepth 100000
set_option maxHeartbeats 4000000
/-! Ev, part O: how many things a list holds, each once: len(set(..)) of texts. -/
namespace Ev
open PySem PySem.Spec PyProof.Rows

/-- each once, in order -/
def stepS (l : List Str) (x : Str) : List Str := if l.any (· == x) then l else l ++ [x]
def metS (l : List Str) : List Str := l.foldl stepS []
theorem metS_next (l : List Str) (x : Str) : metS (l ++ [x]) = stepS (metS l) x := by
  unfold metS
  rw [List.foldl_append]
  rfl
theorem stepS_any (l : List Str) (x k : Str) : (stepS l x).any (· == k) = (l.any (· == k) || decide (k = x)) := by
  unfold stepS
  by_cases e : k = x
  · subst e
    by_cases h : l.any (· == k) = true
    · rw [if_pos h, h]; rfl
    · rw [if_neg h, List.any_append]; simp
  · have ne : (x == k) = false := beq_eq_false_iff_ne.mpr fun z => e z.symm
    by_cases h : l.any (· == x) = true
    · rw [if_pos h]; simp [e]
    · rw [if_neg h, List.any_append]; simp [ne, e]
theorem stepS_len (l : List Str) (x : Str) : (stepS l x).length = if l.any (· == x) then l.length else l.length + 1 := by
  unfold stepS
  by_cases h : l.any (· == x) = true
  · rw [if_pos h, if_pos h]
  · rw [if_neg h, if_neg h]; simp
theorem metS_len : ∀ l : List Str, (metS l).length ≤ l.length := by
  intro l
  have key : ∀ (r acc : List Str), (r.foldl stepS acc).length ≤ acc.length + r.length := by
    intro r
    induction r with
    | nil => intro acc; exact Nat.le_refl _
    | cons x r ih =>
      intro acc
      have h1 := ih (stepS acc x)
      have h2 := stepS_len acc x
      have h3 : (stepS acc x).length ≤ acc.length + 1 := by rw [h2]; split <;> omega
      simp only [List.foldl_cons, List.length_cons]
      omega
  have h := key l []
  rw [List.length_nil, Nat.zero_add] at h
  exact h

section
variable {P : Program} {w : World} {A : Around} {R : Result → Shared → Prop} {it : Addr} {fp wr : List Addr} {G : Array GenState → Array GenState → Prop} {n : Nat} {Pv : Nat → Value → Prop} {St : Nat → Shared → Prop}
theorem fillS (Wk : WalksS P w A.in1 it fp wr G n Pv St) (d : Addr) (dfp : d ∉ fp) (xs : List Str) (hx : xs.length = n) (hroom : n + 1 < scanBound) (hv : ∀ i v, Pv i v → ∃ t, v = .str (xs.getD i Str.empty) t) :
    ∀ (k i : Nat) (s : Shared), n - i = k → i ≤ n → St i s → s.heap.SetOf (strKind P w) d (fun q => (metS (xs.take i)).any (· == q)) (metS (xs.take i)).length →
      (∀ s', Moved (d :: wr) G s s' → s'.heap.SetOf (strKind P w) d (fun q => (metS xs).any (· == q)) (metS xs).length → R (.ok (.ret .none)) s') →
      codeAny (model P w) A (.builtin "set.update.loop" ⟨[.ref d, .ref it], []⟩) R s := by
  have dwr : d ∉ wr := fun z => dfp (Wk.sub _ z)
  have more : ∀ b ∈ wr, b ∈ d :: wr := fun b z => List.mem_cons.mpr (.inr z)
  have stay : ∀ {s s' : Shared} {S : Str → Bool} {m : Nat}, Moved wr G s s' → s.heap.SetOf (strKind P w) d S m → s'.heap.SetOf (strKind P w) d S m := by
    rintro s s' S m mv ⟨o, es, ep, tb, ho, z⟩
    exact ⟨o, es, ep, tb, mv.heap d _ dwr ho, z⟩
  intro k
  induction k with
  | zero =>
    intro i s ek hi hst hset fin
    obtain rfl : i = n := by omega
    rw [← hx, List.take_length] at hset
    apply codeAny_builtin F.entry_set_update_loop
    rw [Around.under_plainId F.plain_set_update_loop _]
    apply wpAny_bind (m := pyNext (.ref it))
    apply Wk.done s _ _ hst
    intro s' mv
    exact wpAny_pure (fin s' (mv.mono more) (stay mv hset))
  | succ k again =>
    intro i s ek hi hst hset fin
    have lt : i < n := by omega
    apply codeAny_builtin F.entry_set_update_loop
    rw [Around.under_plainId F.plain_set_update_loop _]
    apply wpAny_bind (m := pyNext (.ref it))
    apply Wk.item i s _ _ lt hst
    intro v s' hP hst' mv
    obtain ⟨t, rfl⟩ := hv i v hP
    have hset' := stay mv hset
    show wpAny _ A.in1 (holding [Value.str (xs.getD i Str.empty) t] (setAdd d (.str (xs.getD i Str.empty) t)) >>= _) _ _ s'
    apply wpAny_bind
    apply wpAny_holding
    unfold setAdd
    apply wpAny_holding
    apply wpAny_bind
    apply (strKind P w).pyHash (k := xs.getD i Str.empty) (strKind_is _ _ _ _)
    have few : (metS (xs.take i)).length + 1 < scanBound := by
      have h1 := metS_len (xs.take i)
      rw [List.length_take] at h1
      omega
    apply wpAny_setAddHashed_of (knd := strKind P w) (s := { s' with toks := s'.toks + 1 }) (strKind_is _ _ _ _) rfl hset' few
    intro h' sb put
    have ex : xs.take (i + 1) = xs.take i ++ [xs.getD i Str.empty] := by
      rw [List.take_succ, List.getD_eq_getElem?_getD, List.getElem?_eq_getElem (by omega)]
      rfl
    have put' : h'.SetOf (strKind P w) d (fun q => (metS (xs.take (i + 1))).any (· == q)) (metS (xs.take (i + 1))).length := by
      rw [ex, metS_next]
      exact SetOf_congr put (fun q => (stepS_any _ _ q).symm) (stepS_len _ _).symm
    refine wpAny_pure ⟨plainId_quiet F.plain_set_update_loop _, again (i + 1) _ (by omega) lt ?_ put' ?_⟩
    · apply Wk.frame _ s' _ _ hst' (Nat.le_succ _)
      intro b hb o e
      exact (sb.2 b fun z => dfp (by rw [← z]; exact hb)).trans e
    · intro s2 mv2 set2
      apply fin s2 _ set2
      apply Moved.trans Wk.gtrans ((mv.mono more).then_heap (Nat.le_succ _) ?_) mv2
      intro b o hb e
      exact (sb.2 b fun z => hb (List.mem_cons.mpr (.inl z))).trans e
end
section
variable {P : Program} {w : World} {A : Around} {E : Value → Shared → Prop} {s : Shared}
set_option maxHeartbeats 8000000 in
theorem set_of_texts {l : Addr} {its : Array Value} {xs : List Str} {Q : Value → Shared → Prop} (hh : A.handled = none) (isl : s.heap.IsList l its) (txt : StrsAre its.toList xs) (room : xs.length + 1 < scanBound)
    (go : ∀ (h' : Heap) (tk : Nat), h'.SetOf (strKind P w) s.heap.objs.size (fun q => (metS xs).any (· == q)) (metS xs).length → (∀ b o, b < s.heap.objs.size → s.heap.get? b = some o → h'.get? b = some o) → Q (.ref s.heap.objs.size) { s with heap := h', toks := tk }) :
    wpAny (model P w) A (call (.type "set") [.ref l]) Q E s := by
  obtain ⟨c, tl, hmro⟩ := PySem.F.called_set.mro
  have made := PySem.F.called_set.made
  have subt := PySem.F.called_set.sub
  apply wpAny_call
  apply codeAny_of_tree
  show wpAny _ _ (callAny (.type "set") _) _ _ _
  refine wpAny_pure ⟨Code.quiet_builtin _ (by decide +kernel), codeAny_builtin PySem.F.entry_type_call ?_⟩
  rw [Around.under_plain (PySem.weight_type_call_type "set" [.ref l] []) rfl]
  have noTy := PySem.F.called_set.notType
  have canC := PySem.F.called_set.canCreate
  have chk := PySem.F.typeCall_set_1 (.ref l)
  repeat (any_goals (first | assumption | wp_step))
  apply codeAny_mono (PySem.code_set_new_1 (.ref l) (E := E) (Q₁ := fun v s1 => ∃ led : Bool, v = .ref s.heap.objs.size ∧ s1 = { s with heap := s.heap.push { cls := .type "set", dict := none, data := .set #[] 0 (.fresh 0 0 led) } }) fun led => ⟨led, rfl, rfl⟩)
  intro r s1 hr
  cases r with
  | error e => exact hr
  | ok fl =>
    cases fl with
    | ret v =>
      obtain ⟨led, rfl, rfl⟩ := hr
      generalize hob : ({ cls := .type "set", dict := none, data := .set #[] 0 (.fresh 0 0 led) } : Obj) = ob
      have gotS : (s.heap.push ob).get? s.heap.objs.size = some ob := Heap.get?_push_size _ (by rw [← hob]; rfl)
      have tyS : Shared.TypeIs { s with heap := s.heap.push ob } (.ref s.heap.objs.size) "set" := ⟨_, gotS, by rw [← hob]⟩
      have look := PySem.F.called_set.init.lookup
      have bind := PySem.F.called_set.init.bind (.ref s.heap.objs.size)
      repeat (any_goals (first | assumption | wp_step))
      apply codeAny_mono (codeAny_call_builtin (R := wants (fun r s2 => r = .none ∧ ∃ h' tk, s2 = { s with heap := h', toks := tk } ∧ h'.SetOf (strKind P w) s.heap.objs.size (fun q => (metS xs).any (· == q)) (metS xs).length ∧
        (∀ b o, b < s.heap.objs.size → s.heap.get? b = some o → h'.get? b = some o)) E) PySem.F.called_set.init.plain PySem.F.entry_set_init (PySem.check_set_init_1 tyS ?_))
      · intro r2 s2 hr2
        cases r2 with
        | error e => exact hr2
        | ok fl2 =>
          cases fl2 with
          | ret r =>
            obtain ⟨rfl, h', tk, rfl, set', keep'⟩ := hr2
            repeat (any_goals (first | assumption | wp_step))
            exact go _ _ set' keep'
          | _ => exact hr2.elim
      · obtain ⟨⟨cl, dd, da, sl⟩, hol, hcl, nl, hdl⟩ := isl
        simp only at hcl hdl
        subst hcl hdl
        have hol2 : (s.heap.push ob).get? l = some { cls := .type "list", dict := dd, data := .seq its nl, slots := sl } := Heap.get?_push_of_some _ hol
        have ns1 := PySem.F.sub_list_set
        have ns2 := PySem.F.sub_list_frozenset
        have nd : (Value.type "list" == Value.type "dict") = false := by decide
        have il : (s.heap.push ob).IsList l its := ⟨_, hol2, rfl, nl, rfl⟩
        unfold Builtin.«set.__init__» noKeywords Builtin.Frozenset.updateFrom
        subst hob
        generalize hPI : pyIter = PI
        wp_walk
        subst hPI
        apply wpAny_pyIter_list il
        apply wpAny_bind
        apply wpAny_runValue
        have lS : l < s.heap.objs.size := Heap.lt_size hol
        have hh3 : A.in1.in1.in1.handled = none := by simp [hh]
        have sz : (s.heap.push ({ cls := .type "set", dict := none, data := .set #[] 0 (.fresh 0 0 led) } : Obj)).objs.size = s.heap.objs.size + 1 := Heap.size_push _ _
        have neI : l ≠ (s.heap.push ({ cls := .type "set", dict := none, data := .set #[] 0 (.fresh 0 0 led) } : Obj)).objs.size := by rw [sz]; exact Nat.ne_of_lt (Nat.lt_succ_of_lt lS)
        have off : s.heap.objs.size ∉ [(s.heap.push ({ cls := .type "set", dict := none, data := .set #[] 0 (.fresh 0 0 led) } : Obj)).objs.size, l] := by
          rw [sz]
          simp only [List.mem_cons, List.not_mem_nil, or_false, not_or]
          exact ⟨Nat.ne_of_lt (Nat.lt_succ_self _), Nat.ne_of_gt lS⟩
        have len : xs.length = its.size := by rw [← StrsAre.len_eq txt, Array.length_toList]
        have val : ∀ (i : Nat) (v : Value), its[i]? = some v → ∃ t, v = .str (xs.getD i Str.empty) t := fun i v e => SS.strs_at txt i v ((Array.getElem?_toList).trans e)
        apply fillS ((Walks.list hh3 _ l neI its).toS) s.heap.objs.size off xs len (by rw [← len]; exact room) val (its.size - 0) 0 _ (by omega) (Nat.zero_le _) ⟨⟨_, Heap.get?_push_size _ rfl, rfl, rfl⟩, il.push _⟩
        · apply SetOf_congr ((setObjOf_fresh (knd := strKind P w) led).setOf (Heap.get?_push_of_some _ gotS) (by unfold scanBound; omega)) (fun _ => rfl) rfl
        · intro s' mv set'
          obtain ⟨h', g', d', tk', os'⟩ := s'
          cases (show g' = s.gens from mv.gens)
          cases (show d' = s.drawn from mv.drawn)
          cases (show os' = s.os from mv.os)
          show wpAny _ _ _ _ _ _
          apply wpAny_pure
          show wpAny _ _ (ret Value.none) _ _ _
          refine wpAny_pure ⟨rfl, h', tk', rfl, set', fun b o hb e => ?_⟩
          refine mv.heap b o ?_ (Heap.get?_push_of_some _ (Heap.get?_push_of_some _ e))
          rw [sz]
          simp only [List.mem_cons, List.not_mem_nil, or_false, not_or]
          exact ⟨Nat.ne_of_lt hb, Nat.ne_of_lt (Nat.lt_succ_of_lt hb)⟩
    | _ => exact hr.elim
end
end Ev
set_option maxRecDepth 100000
set_option maxHeartbeats 4000000
/-! Ev, part P: calls of defs; methods of lists. -/
namespace Ev
open PySem PySem.Spec PyProof.Rows L2

/-! ### a def by its meaning -/
/-- what a def's body gives, from the arguments and the cells -/
def bodyM (n : Nat) (m : Ms) (xs : List Val) : M Val := fun s => match m (xs.map some ++ List.replicate (n - xs.length) none) s with
  | .ok .nx _ s' => .ok (.d .non) s'
  | .ok (.rt v) _ s' => .ok v s'
  | .ok _ _ _ => .bad
  | .exc c ds _ s' => .exc c ds s'
  | .bad => .bad
/-- xf: exceptions may come -/
def Cn.at (C : Cn) (xf : Bool) (E : XK) : Cn := { C with W := fun cls d _ H => xf = true ∧ E cls d H }
def spM (C : Cn) (xf : Bool) (n : Nat) (c : List Val → M Val) : Sp := fun vs H Q E => vs.length = n ∧ ∃ Oc φ st xs, SR C.K Oc φ H st ∧ RepVs C.K Oc φ H vs xs ∧ Aft (C.at xf E) Oc (rV C Oc) (c xs st) φ H [] Q
theorem start_ER {K : PySem.W.Frag} {Oc : Own} {φ : Fi} {H : Hp} {N : List Str} {vs : List V} {xs : List Val} (r : RepVs K Oc φ H vs xs) : ER K Oc φ H (xs.map some ++ List.replicate (N.length - xs.length) none) (L2.start N vs) := by
  have hl := r.length
  refine ⟨by simp [L2.start, hl], fun i x h => ?_⟩
  by_cases hi : i < xs.length
  · rw [List.getElem?_append_left (by simpa using hi), List.getElem?_map] at h
    cases e : xs[i]? with
    | none => rw [e] at h; cases h
    | some y =>
      rw [e] at h
      cases h
      obtain ⟨v, hv, rv⟩ := r.get e
      refine ⟨v, ?_, rv⟩
      unfold L2.start
      rw [List.getElem?_append_left (by simp [hl, hi]), List.getElem?_map, hv]
      rfl
  · rw [List.getElem?_append_right (by simpa using hi), List.getElem?_replicate] at h
    split at h <;> cases h
theorem spM_body {C : Cn} {xf : Bool} {N : List Str} {n : Nat} {m : Ms} {vs : List V} {H : Hp} {Q : VK} {E : XK} (h : spM C xf n (bodyM N.length m) vs H Q E) : tS (C.at xf E) m { nx := fun _ H' => Q .non H', rt := Q } (L2.start N vs) H := by
  obtain ⟨hn, Oc, φ, st, xs, s, r, h⟩ := h
  refine ⟨Oc, φ, st, _, ⟨s, start_ER r⟩, ?_⟩
  unfold bodyM at h
  cases e : m (xs.map some ++ List.replicate (N.length - xs.length) none) st with
  | bad => rw [e] at h; exact h.elim
  | exc c ds ρ s' =>
    rw [e] at h
    exact fun φ' H' σ' cls d t p x => h φ' H' cls d t p.sr x
  | ok f ρ s' =>
    rw [e] at h
    cases f with
    | nx => exact fun φ' H' σ' t p => h φ' H' .non t p.sr rfl
    | rt v => exact fun φ' H' σ' t p u r => h φ' H' u t p.sr r
    | bk => exact h.elim
    | ct => exact h.elim

section
variable {P : Program} {w : World} {K : PySem.W.Frag} {mg : Str → Option Value} {base : Heap} {k : Nat} {f : Addr} {fd : FuncData} {ps N : List Str} {C : Cn} {m : Ms}
/-- a def that lets no exception out -/
theorem fn_body {name qual : Str} {params : Arguments} {body : List Stmt} {scope : Scope} {dvs : List V} {kws : List (Str × V)} (F : FunD K name qual params body scope dvs kws f fd) (S : FnScope N ps scope)
    (hbody : ∀ (cdv : Value) (A : Around) (outer : List PySem.Env) (s : Shared) (H : Hp) (E : XK), A.guards = some [] → Room k (A.deeper (envOfC qual scope s.heap.objs.size f cdv)) →
      PSs (cxOf CX0 P w K mg base N qual scope f cdv A outer s H E).nox body (tS (C.at false E) m)) : FnG P w K mg base CX0 (k + 1) f fd ps (spM C false ps.length (bodyM N.length m)) :=
  FnG.of F S (fun vs H Q E h => h.1) fun cdv A outer s H vs Q E hg hr h => ⟨_, PSs.nox (hbody cdv A outer s H E hg hr), spM_body h⟩
end

section
variable {X : Cx} {C : Cn} {CX : CXT} {k : Nat} {f : Addr} {fd : FuncData} {ps : List Str} {x : Str} {p pos : Pos} {e : Expr} {es : List Expr} {c : List Val → M Val} {m : Env → M (List Val)} {mv : Env → M Val} {n : Nat} {fresh : Bool}
theorem Aft.unx {α β : Type} {Oc : Own} {φ : Fi} {H : Hp} {st : Store} {σ : Sl} {rp : Fi → Hp → β → α → Prop} {m : M α} {Q : β → Hp → Prop} (h : Aft C Oc rp (m.nx st) φ H σ Q) : Aft C.nx Oc rp (m st) φ H σ Q := by
  unfold M.nx at h
  cases e : m st with
  | ok a s' => rw [e] at h; exact h
  | exc c xs s' => rw [e] at h; exact h.elim
  | bad => rw [e] at h; exact h.elim
/-- so many arguments -/
def LenM (m : Env → M (List Val)) (n : Nat) : Prop := ∀ ρ st xs s', m ρ st = .ok xs s' → xs.length = n
theorem len_nil : LenM mNil 0 := fun ρ st xs s' e => by cases e; rfl
theorem len_cons (h : LenM m n) : LenM (mCons mv m) (n + 1) := fun ρ st xs s' e => by
  have e' : M.bind (mv ρ) (fun x => M.bind (m ρ) fun xs => M.pure (x :: xs)) st = .ok xs s' := e
  unfold M.bind at e'
  cases e1 : mv ρ st with
  | bad => rw [e1] at e'; cases e'
  | exc => rw [e1] at e'; cases e'
  | ok x s1 =>
    rw [e1] at e'
    simp only at e'
    cases e2 : m ρ s1 with
    | bad => rw [e2] at e'; cases e'
    | exc => rw [e2] at e'; cases e'
    | ok ys s2 =>
      rw [e2] at e'
      cases e'
      rw [List.length_cons, h _ _ _ _ e2]
def mCal (fresh : Bool) (c : List Val → M Val) (m : Env → M (List Val)) : Env → M Val := fun ρ => m ρ >>= fun xs => M.nx (subV fresh c xs)
theorem cal_read {σ : Sl} {H : Hp} {Q : VK} {E : XK} (hlen : LenM m n) (t : tE C (mCal fresh c m) σ H Q) : tA C m σ H fun vs H1 => spM C false n c vs H1 Q E := by
  obtain ⟨Oc, φ, st, ρ, p, t⟩ := t
  refine ⟨Oc, φ, st, ρ, p, ?_⟩
  have t' : Aft C Oc (rV C Oc) (M.bind (m ρ) (fun xs => M.nx (subV fresh c xs)) st) φ H σ Q := t
  unfold M.bind at t'
  cases em : m ρ st with
  | bad => rw [em] at t'; exact t'.elim
  | exc c ds s' => rw [em] at t'; exact t'
  | ok xs s' =>
    rw [em] at t'
    intro φ1 H1 vs s r q
    have t2 := (t'.back s).unx
    obtain ⟨Oc', φ', st', h1, h2, h3⟩ := sub_ok (C := C.nx) (σ2 := []) r q t2 (C.at false E).W (fun _ _ _ z => False.elim z)
    exact ⟨by rw [RepVs.length q]; exact hlen _ _ _ _ em, Oc', φ', st', _, h1, h2, h3⟩
/-- a call of a def that lets no exception out -/
theorem s_cal (hK : C.K = X.K) (F : FnG X.prog X.w X.K X.mg X.base CX0 k f fd ps (spM C false n c)) (hgd : X.A.guards = some []) (hr : Room k X.A) (hg : Gl X x) (hm : X.mg x = some (.ref f)) (hk : PySem.W.keepIn X.K (.ref f) = true) (hb : Binds X.K fd ps [])
    (ha : PA X (e :: es) (tA C m)) (hlen : LenM m n) (hes : starEach (e :: es) X.env = (false, eval e X.env) :: starEach es X.env) (hpl : (backTo pos (starEach es X.env)).any (·.1) = false) (hdb : (x == ("__debug__" : Str)) = false) :
    PE X (.Call (.Name x p) (e :: es) [] pos) (tE C (mCal fresh c m)) :=
  imp_e (pe_callG (E := fun _ _ _ => False) F hgd hr hg hm hk hb (fun _ _ _ _ _ _ _ z => z.elim) ha hes hpl hdb) fun σ H Q t => cal_read hlen t
theorem s_cal0 (F : FnG X.prog X.w X.K X.mg X.base CX0 k f fd ps (spM C false 0 c)) (hgd : X.A.guards = some []) (hr : Room k X.A) (hg : Gl X x) (hm : X.mg x = some (.ref f)) (hk : PySem.W.keepIn X.K (.ref f) = true) (hb : Binds X.K fd ps []) (hdb : (x == ("__debug__" : Str)) = false) :
    PE X (.Call (.Name x p) [] [] pos) (tE C (mCal fresh c mNil)) :=
  imp_e (pe_callG0 (E := fun _ _ _ => False) F hgd hr hg hm hk hb (fun _ _ _ _ _ _ _ z => z.elim) hdb) fun σ H Q t => by
    obtain ⟨Oc, φ, st, ρ, p, t⟩ := cal_read (E := fun _ _ _ => False) len_nil t
    exact Aft.ok t p.sr rfl

/-! ### methods of lists in cells -/
/-- the list in a cell -/
def withL {γ : Type} (n : Nat) (g : List Val → M γ) : M γ := cellAt n >>= fun c => match c with
  | .lst vs => g vs
  | _ => M.bad
/-- it is a list's cell -/
def isL (v : Val) : M Unit := match v with
  | .loc n => withL n fun _ => M.pure ()
  | _ => M.bad
def setN (n : Nat) (vs : List Val) : M Val := setCell n (.lst vs) >>= fun _ => M.pure (.d .non)
def appV (x v : Val) : M Val := match x with
  | .loc n => withL n fun vs => if vs.length < lineLen then setN n (vs ++ [v]) else M.bad
  | _ => M.bad
def extV (x v : Val) : M Val := match x with
  | .loc n => listV v >>= fun ys => withL n fun vs => if vs.length + ys.length ≤ lineLen then setN n (vs ++ ys) else M.bad
  | _ => M.bad
def insV (x i v : Val) : M Val := match x with
  | .loc n => intV i >>= fun k => withL n fun vs => if vs.length < lineLen ∧ 0 ≤ k ∧ k < 2 ^ 63 then setN n (vs.take k.toNat ++ [v] ++ vs.drop k.toNat) else M.bad
  | _ => M.bad
def mApp (o a : Env → M Val) : Env → M Val := fun ρ => o ρ >>= fun x => isL x >>= fun _ => a ρ >>= fun v => appV x v
def mExt (o a : Env → M Val) : Env → M Val := fun ρ => o ρ >>= fun x => isL x >>= fun _ => a ρ >>= fun v => extV x v
def mIns (o i a : Env → M Val) : Env → M Val := fun ρ => o ρ >>= fun x => isL x >>= fun _ => i ρ >>= fun k => a ρ >>= fun v => insV x k v
section
variable {Oc : Own} {φ : Fi} {H : Hp} {st : Store} {σ : Sl} {v u : V} {y z w : Val} {Q : VK}
theorem cellL {n : Nat} {γ δ : Type} {rq : Fi → Hp → δ → γ → Prop} {Q : δ → Hp → Prop} {g : List Val → M γ} (s : SR C.K Oc φ H st) (r : RepV C.K Oc φ H v (.loc n)) (h : Aft C Oc rq (withL n g st) φ H σ Q) : ∃ a vs xs, v = .ref a ∧ φ[n]? = some (some a) ∧ H a = some (.lst vs) ∧ RepVs C.K Oc φ H vs xs ∧ st[n]? = some (.lst xs) ∧ Aft C Oc rq (g xs st) φ H σ Q := by
  have h' : Aft C Oc rq (M.bind (cellAt n) (fun c => match c with
      | .lst vs => g vs
      | _ => M.bad) st) φ H σ Q := h
  unfold M.bind cellAt at h'
  cases e : st[n]? with
  | none => rw [e] at h'; exact h'.elim
  | some c =>
    rw [e] at h'
    cases c with
    | lst xs =>
      obtain ⟨a, q1, vs, q2, q3⟩ := s.cell r.1 e (fun z => by cases z)
      exact ⟨a, vs, xs, r.2 a q1, q1, q2, q3, rfl, h'⟩
    | _ => exact h'.elim
theorem isL_ok {γ δ : Type} {rq : Fi → Hp → δ → γ → Prop} {Q : δ → Hp → Prop} {g : Unit → M γ} (s : SR C.K Oc φ H st) (r : RepV C.K Oc φ H v y) (h : Aft C Oc rq ((isL y >>= g) st) φ H σ Q) : tyV C.K "list" v H ∧ Aft C Oc rq (g () st) φ H σ Q := by
  cases y with
  | loc n =>
    have h' : Aft C Oc rq (M.bind (withL n fun _ => M.pure ()) g st) φ H σ Q := h
    have e0 : M.bind (withL n fun _ => M.pure ()) g st = withL n (fun _ => g ()) st := by
      unfold withL
      have z := congrFun (M.assoc (cellAt n) (fun c => (match c with
        | .lst _ => M.pure ()
        | _ => M.bad : M Unit)) g) st
      refine z.trans (congrFun (congrArg (fun q => cellAt n >>= q) (funext fun c => ?_)) st)
      cases c <;> rfl
    rw [e0] at h'
    clear h
    have h := h'
    obtain ⟨a, vs, xs, e1, _, e2, _, _, h⟩ := cellL (g := fun _ => g ()) s r h
    exact ⟨by rw [e1]; exact .inl ⟨rfl, vs, SqL.of e2⟩, h⟩
  | _ => exact h.elim
theorem non_set {n : Nat} {a : Addr} {c : Cell} {o : HO} (s : SR C.K Oc φ H st) (e : φ[n]? = some (some a)) (en : n < st.length) (h : Aft C Oc (rV C Oc) ((setCell n c >>= fun _ => (M.pure (.d .non) : M Val)) st) φ H σ Q) (hc : CellAt C.K Oc φ (upd H a o) a c) : Q .non (upd H a o) := by
  have h' : Aft C Oc (rV C Oc) (M.bind (setCell n c) (fun _ => M.pure (.d .non)) st) φ H σ Q := h
  unfold M.bind setCell at h'
  rw [if_pos en] at h'
  exact h' φ _ .non (Stp.write (o := o) s e) (s.write e hc) rfl
theorem app_rd (s : SR C.K Oc φ H st) (r : RepV C.K Oc φ H v y) (r' : RepV C.K Oc φ H u z) (h : Aft C Oc (rV C Oc) (appV y z st) φ H σ Q) : rAppend v [u] H Q := by
  cases y with
  | loc n =>
    unfold appV at h
    obtain ⟨a, vs, xs, e1, e2, e3, rs, e4, h⟩ := cellL s r h
    by_cases hz : xs.length < lineLen
    · rw [if_pos hz] at h
      have sw := Stp.write (o := .lst (vs ++ [u])) s e2
      exact ⟨a, vs, u, e1, rfl, e3, by rw [rs.length, ← line_eq]; exact hz, non_set s e2 (List.getElem?_eq_some_iff.mp e4).1 h ⟨_, upd_same, (rs.step sw).append ⟨u, [], rfl, r'.step sw, rfl⟩⟩⟩
    · rw [if_neg hz] at h
      exact h.elim
  | _ => exact h.elim
theorem ext_rd (s : SR C.K Oc φ H st) (r : RepV C.K Oc φ H v y) (r' : RepV C.K Oc φ H u z) (h : Aft C Oc (rV C Oc) (extV y z st) φ H σ Q) : rExtend v [u] H Q := by
  cases y with
  | loc n =>
    unfold extV at h
    obtain ⟨b, us, ys, f1, f3, rt, h⟩ := listV_ok s r' h
    obtain ⟨a, vs, xs, e1, e2, e3, rs, e4, h⟩ := cellL s r h
    by_cases hz : xs.length + ys.length ≤ lineLen
    · rw [if_pos hz] at h
      have sw := Stp.write (o := .lst (vs ++ us)) s e2
      exact ⟨a, b, vs, us, e1, by rw [f1], e3, f3, by rw [rs.length, rt.length, ← line_eq]; exact hz, non_set s e2 (List.getElem?_eq_some_iff.mp e4).1 h ⟨_, upd_same, (rs.step sw).append (rt.step sw)⟩⟩
    · rw [if_neg hz] at h
      exact h.elim
  | _ => exact h.elim
theorem RepVs.take : ∀ {k : Nat} {xs : List Val} {vs : List V}, RepVs C.K Oc φ H vs xs → RepVs C.K Oc φ H (vs.take k) (xs.take k)
  | 0, xs, vs, r => by simpa using (show RepVs C.K Oc φ H [] [] from rfl)
  | k + 1, [], vs, r => by rw [show vs = [] from r]; exact rfl
  | k + 1, x :: xs, vs, r => by
    obtain ⟨v, w, e, h1, h2⟩ := r
    subst e
    exact ⟨v, w.take k, rfl, h1, RepVs.take h2⟩
theorem RepVs.drop : ∀ {k : Nat} {xs : List Val} {vs : List V}, RepVs C.K Oc φ H vs xs → RepVs C.K Oc φ H (vs.drop k) (xs.drop k)
  | 0, xs, vs, r => r
  | k + 1, [], vs, r => by rw [show vs = [] from r]; exact rfl
  | k + 1, x :: xs, vs, r => by
    obtain ⟨v, w, e, h1, h2⟩ := r
    subst e
    exact RepVs.drop (k := k) h2
theorem ins_rd (s : SR C.K Oc φ H st) (r : RepV C.K Oc φ H v y) {i : V} (ri : RepV C.K Oc φ H i w) (r' : RepV C.K Oc φ H u z) (h : Aft C Oc (rV C Oc) (insV y w z st) φ H σ Q) :
    ∃ (l : Addr) (xs : List V) (k : Int) (y : V), v = .ref l ∧ [i, u] = [.int k, y] ∧ H l = some (.lst xs) ∧ xs.length < sizeLine ∧ 0 ≤ k ∧ k < 2 ^ 63 ∧ Q .non (upd H l (.lst (xs.take k.toNat ++ [y] ++ xs.drop k.toNat))) := by
  cases y with
  | loc n =>
    unfold insV at h
    obtain ⟨k, ek, h⟩ := intV_ok ri h
    obtain ⟨a, vs, xs, e1, e2, e3, rs, e4, h⟩ := cellL s r h
    by_cases hz : xs.length < lineLen ∧ 0 ≤ k ∧ k < 2 ^ 63
    · rw [if_pos hz] at h
      have sw := Stp.write (o := .lst (vs.take k.toNat ++ [u] ++ vs.drop k.toNat)) s e2
      refine ⟨a, vs, k, u, e1, by rw [ek], e3, by rw [rs.length, ← line_eq]; exact hz.1, hz.2.1, hz.2.2, non_set s e2 (List.getElem?_eq_some_iff.mp e4).1 h ⟨_, upd_same, ?_⟩⟩
      have rs' := rs.step sw
      exact (rs'.take.append (show RepVs C.K Oc φ _ [u] [z] from ⟨u, [], rfl, r'.step sw, rfl⟩)).append rs'.drop
    · rw [if_neg hz] at h
      exact h.elim
  | _ => exact h.elim
end
section
variable {o a i : Expr} {apos cpos : Pos} {mo ma mi : Env → M Val}
theorem few_ok {es : List Expr} {env : PySem.Env} (h1 : (backTo cpos (starEach es env)).all (fun x => !x.1) = true) (h2 : es.length < 30) : ((backTo cpos (starEach es env)).all (fun x => !x.1) && (backToKw cpos (keywordEach [] env)).all (fun x => x.1.isSome)
      && decide (es.length + ([] : List Keyword).length + (if ([] : List Keyword).isEmpty then 0 else 1) < 30)) = true := by
  rw [h1]
  simp only [Bool.true_and, Bool.and_eq_true, decide_eq_true_eq]
  refine ⟨by rfl, ?_⟩
  simpa using h2
theorem s_app (hK : C.K = X.K) (ho : PE X o (tE C mo)) (ha : PE X a (tE C ma)) (hs : noStar a = true) (hbase : attributeBase o "append" X.env (eval o X.env) = eval o X.env) (hline : (apos.endLine == cpos.line) = true) :
    PE X (.Call (.Attribute o "append" apos) [a] [] cpos) (tE C (mApp mo ma)) := by
  refine imp_e (pe_bm PySem.F.plainAttrs_list PySem.F.slot_list_append PySem.F.type_list_append (show MtR X "list.append" rAppend from mt_append) ho (pa_cons ha pa_nil (star_one hs [] X.env)) hbase (few_ok (by rw [star_one hs [] X.env]; rfl) (by simp)) hline (star_one hs [] X.env) (by rfl)) fun σ H Q t => ?_
  obtain ⟨Oc, φ, st, ρ, p, t⟩ := tM.one (rp := rV C) t
  refine ⟨Oc, φ, st, ρ, p, t.mono fun v H1 ⟨Oc, φ, st, ρ, x, p, r, h⟩ => ?_⟩
  obtain ⟨ty, h⟩ := isL_ok p.sr r h
  refine ⟨by rw [← hK]; exact ty, ⟨Oc, φ, st, ρ, p, (Aft.bind (rp := rV C Oc) h).mono fun u H2 ⟨φ2, s2, z, t2, r2, q2, k2⟩ => ?_⟩⟩
  exact app_rd r2 (r.step t2) q2 k2
theorem s_ext (hK : C.K = X.K) (ho : PE X o (tE C mo)) (ha : PE X a (tE C ma)) (hs : noStar a = true) (hbase : attributeBase o "extend" X.env (eval o X.env) = eval o X.env) (hline : (apos.endLine == cpos.line) = true) :
    PE X (.Call (.Attribute o "extend" apos) [a] [] cpos) (tE C (mExt mo ma)) := by
  refine imp_e (pe_bm PySem.F.plainAttrs_list PySem.F.slot_list_extend PySem.F.type_list_extend (show MtR X "list.extend" rExtend from mt_extend) ho (pa_cons ha pa_nil (star_one hs [] X.env)) hbase (few_ok (by rw [star_one hs [] X.env]; rfl) (by simp)) hline (star_one hs [] X.env) (by rfl)) fun σ H Q t => ?_
  obtain ⟨Oc, φ, st, ρ, p, t⟩ := tM.one (rp := rV C) t
  refine ⟨Oc, φ, st, ρ, p, t.mono fun v H1 ⟨Oc, φ, st, ρ, x, p, r, h⟩ => ?_⟩
  obtain ⟨ty, h⟩ := isL_ok p.sr r h
  refine ⟨by rw [← hK]; exact ty, ⟨Oc, φ, st, ρ, p, (Aft.bind (rp := rV C Oc) h).mono fun u H2 ⟨φ2, s2, z, t2, r2, q2, k2⟩ => ?_⟩⟩
  exact ext_rd r2 (r.step t2) q2 k2
theorem s_ins (hK : C.K = X.K) (ho : PE X o (tE C mo)) (hi : PE X i (tE C mi)) (ha : PE X a (tE C ma)) (hs1 : noStar i = true) (hs : noStar a = true) (hbase : attributeBase o "insert" X.env (eval o X.env) = eval o X.env) (hline : (apos.endLine == cpos.line) = true) :
    PE X (.Call (.Attribute o "insert" apos) [i, a] [] cpos) (tE C (mIns mo mi ma)) := by
  refine imp_e (pe_bm PySem.F.plainAttrs_list PySem.F.slot_list_insert PySem.F.type_list_insert mt_insert ho (pa_cons hi (pa_cons ha pa_nil (star_one hs [] X.env)) (star_one hs1 [a] X.env)) hbase (few_ok (by rw [star_one hs1 [a] X.env, star_one hs [] X.env]; rfl) (by simp)) hline (star_one hs1 [a] X.env) (by rw [star_one hs [] X.env]; rfl)) fun σ H Q t => ?_
  obtain ⟨Oc, φ, st, ρ, p, t⟩ := tM.one (rp := rV C) t
  refine ⟨Oc, φ, st, ρ, p, t.mono fun v H1 ⟨Oc, φ, st, ρ, x, p, r, h⟩ => ?_⟩
  obtain ⟨ty, h⟩ := isL_ok p.sr r h
  refine ⟨by rw [← hK]; exact ty, ⟨Oc, φ, st, ρ, p, (Aft.bind (rp := rV C Oc) h).mono fun k H2 ⟨φ2, s2, z, t2, r2, q2, k2⟩ => ?_⟩⟩
  refine ⟨Oc, φ2, s2, ρ, p.step t2 r2, (Aft.bind (rp := rV C Oc) k2).mono fun u H3 ⟨φ3, s3, y, t3, r3, q3, k3⟩ => ?_⟩
  exact ins_rd r3 ((r.step t2).step t3) (q2.step t3) q3 k3
end
end
end Ev
set_option maxRecDepth 100000
set_option maxHeartbeats 4000000
/-! Ev, part Q: len(set(..)), count, turned about. -/
namespace Ev
open PySem PySem.Spec PyProof.Rows L2

/-! ### texts off values -/
def strsOf : List Val → M (List Str)
  | [] => M.pure []
  | v :: vs => strV v >>= fun x => strsOf vs >>= fun xs => M.pure (x :: xs)
section
variable {C : Cn} {Oc : Own} {φ : Fi} {H : Hp} {st : Store} {σ : Sl}
theorem strsOf_ok {β γ : Type} {rq : Fi → Hp → β → γ → Prop} {Q : β → Hp → Prop} : ∀ {xs : List Val} {vs : List V} {g : List Str → M γ}, RepVs C.K Oc φ H vs xs → Aft C Oc rq ((strsOf xs >>= g) st) φ H σ Q → ∃ zs : List Str, vs = zs.map V.str ∧ zs.length = xs.length ∧ Aft C Oc rq (g zs st) φ H σ Q
  | [], vs, g, r, h => ⟨[], r, rfl, h⟩
  | x :: xs, vs, g, r, h => by
    obtain ⟨v, w, e, h1, h2⟩ := r
    unfold strsOf at h
    rw [M.assoc] at h
    obtain ⟨z, ez, h⟩ := strV_ok h1 h
    rw [M.assoc] at h
    obtain ⟨zs, e2, e3, h⟩ := strsOf_ok h2 h
    exact ⟨z :: zs, by rw [e, ez, e2]; rfl, by simp [e3], h⟩
theorem strs_vals : ∀ {zs : List Str} {us : List Value}, Vals (zs.map V.str) us → StrsAre us zs
  | [], _, .nil => .nil
  | z :: zs, _, .cons r t => by
    obtain ⟨k, rfl⟩ := r
    exact .cons z k (strs_vals t)
end

/-! ### len(set(xs)), a list of texts -/
def lenSetS (v : Val) : M Val := listV v >>= fun vs => strsOf vs >>= fun xs => if xs.length < 4000 then M.pure (.d (.int ((metS xs).length : Nat))) else M.bad
def mLenSet (m : Env → M Val) : Env → M Val := fun ρ => m ρ >>= lenSetS
section
variable {X : Cx} {C : Cn} {a : Expr} {p p2 q pos : Pos} {m : Env → M Val}
theorem pe_lset {ta : TE} (hc : X.calm = true) (hg : Gl X "len") (hm : X.mg "len" = none) (hg2 : Gl X "set") (hm2 : X.mg "set" = none) (ha : PE X a ta) (na : starEach [a] X.env = (false, eval a X.env) :: starEach [] X.env) :
    PE X (.Call (.Name "len" p) [.Call (.Name "set" p2) [a] [] q] [] pos) fun σ H Q => ta σ H fun x H1 => ∃ l, ∃ xs : List Str, x = .ref l ∧ SqL X.K H1 l (xs.map V.str) ∧ xs.length < 4000 ∧ Q (.int ((metS xs).length : Nat)) H1 := by
  constructor
  intro pins s σ H Q I h
  refine Call_ (ld_blt I hg hm boot_len (PyProof.Rows.callWith_builtin1 (PyProof.Rows.args_cons ?_ rfl) rfl rfl))
  refine Call_ (ld_blt I hg2 hm2 PyProof.Rows.boot_set ?_)
  refine PyProof.Rows.callWith_type1 (PyProof.Rows.args_cons (thn (ha.run pins s σ H _ I h) ?_) na) na rfl
  rintro v s1 ⟨x, H1, I1, r1, l, xs, rfl, hq, few, q1⟩
  apply PyProof.Rows.args_nil
  cases r1
  obtain ⟨its, r, pl, hz⟩ := I1.list hq
  refine set_of_texts (I1.ok.hd hc) pl.isList (xs := xs) (by simpa using strs_vals r) (by unfold scanBound; omega) fun h' tk set keep => ?_
  apply PyProof.Rows.args_nil
  obtain ⟨o, es, ep, t, ho, hex, hd, _, _, _, hf, hn⟩ := set
  have I2 : Inv X pins σ H1 { s1 with heap := h', toks := tk } := I1.kept fun b o e => keep b o (Heap.lt_size e) e
  have small := metS_len xs
  exact call_len_set ho hex hd hf (by rw [hn]; omega) ⟨.int ((metS xs).length : Nat), H1, I2.tok _, ⟨_, by rw [hn]⟩, q1⟩
theorem s_lset (hK : C.K = X.K) (hc : X.calm = true) (hg : Gl X "len") (hm : X.mg "len" = none) (hg2 : Gl X "set") (hm2 : X.mg "set" = none) (ha : PE X a (tE C m)) (hs : noStar a = true) :
    PE X (.Call (.Name "len" p) [.Call (.Name "set" p2) [a] [] q] [] pos) (tE C (mLenSet m)) :=
  imp_e (pe_lset hc hg hm hg2 hm2 ha (star_one hs [] X.env)) fun σ H Q t => by
    obtain ⟨Oc, φ, st, ρ, p, t⟩ := tM.one (rp := rV C) t
    refine ⟨Oc, φ, st, ρ, p, t.mono fun v H1 ⟨Oc, φ, st, ρ, x, p, r, h⟩ => ?_⟩
    unfold lenSetS at h
    obtain ⟨a, vs, xs, e, q, z, h⟩ := listV_ok p.sr r h
    obtain ⟨zs, e2, e3, h⟩ := strsOf_ok z h
    by_cases hz : zs.length < 4000
    · rw [if_pos hz] at h
      subst e2
      exact ⟨a, zs, e, by rw [← hK]; exact SqL.of q, hz, Aft.ok h p.sr (show RepV C.K Oc φ H1 _ (.d (.int _)) from rfl)⟩
    · rw [if_neg hz] at h
      exact h.elim
end

/-! ### xs.count(x), texts -/
def cntS (x v : Val) : M Val := listV x >>= fun vs => strsOf vs >>= fun xs => strV v >>= fun z => M.pure (.d (.int (xs.count z : Nat)))
def isLs (v : Val) : M Unit := listV v >>= fun _ => M.pure ()
def mCnt (o a : Env → M Val) : Env → M Val := fun ρ => o ρ >>= fun x => isLs x >>= fun _ => a ρ >>= fun v => cntS x v
section
variable {X : Cx} {C : Cn} {o a : Expr} {apos cpos : Pos} {mo ma : Env → M Val}
theorem count_str (z : Str) : ∀ {us : List Value} {ys : List Str}, StrsAre us ys → us.countP (isStrOf z) = ys.count z
  | _, _, .nil => rfl
  | _, _, .cons y t h => by
    rw [List.countP_cons, List.count_cons, count_str z h]
    rfl
theorem mt_cntS : MtR X "list.count" (fun x xs H Q => ∃ (p : Addr) (ns : List Str) (k : Str), x = .ref p ∧ xs = [.str k] ∧ SqL X.K H p (ns.map V.str) ∧ Q (.int (ns.count k : Nat)) H) := by
  rintro pins s σ H x xs v us Q I rx rxs ⟨p, ns, k, rfl, rfl, hs, q⟩
  cases rx
  obtain ⟨u, rfl, t, rfl⟩ := rxs.one
  obtain ⟨its, rv, ⟨⟨cls, dd, data, sl⟩, n, ho, hc, hdn, hd⟩, hlen⟩ := I.list hs
  simp only at hc hd
  subst hc hd
  have hi := strs_vals rv
  refine call_meets PySem.F.slot_list_count (show s.TypeIs (.ref p) "list" from ⟨_, ho, rfl⟩) PySem.F.entry_list_count (PySem.F.args_list_count_2 _ _) (SeqAt.list_countAt p its.toArray n dd sl (.str k t) (isStrOf k)) ⟨ho, fun y hy => (eq_isStrOf k t hi y (by simpa using hy)).at _ _, ?_⟩
  refine ⟨.int (ns.count k : Nat), H, I.tok _, ⟨s.toks, ?_⟩, q⟩
  rw [← count_str k hi]
theorem isLs_ok {Oc : Own} {φ : Fi} {H : Hp} {st : Store} {σ : Sl} {v : V} {y : Val} {γ δ : Type} {rq : Fi → Hp → δ → γ → Prop} {Q : δ → Hp → Prop} {g : Unit → M γ} (s : SR C.K Oc φ H st) (r : RepV C.K Oc φ H v y) (h : Aft C Oc rq ((isLs y >>= g) st) φ H σ Q) : tyV C.K "list" v H ∧ Aft C Oc rq (g () st) φ H σ Q := by
  unfold isLs at h
  rw [M.assoc] at h
  obtain ⟨a, vs, xs, e, q, z, h⟩ := listV_ok s r h
  exact ⟨by rw [e]; exact .inl ⟨rfl, vs, SqL.of q⟩, h⟩
theorem s_cnt (hK : C.K = X.K) (ho : PE X o (tE C mo)) (ha : PE X a (tE C ma)) (hs : noStar a = true) (hbase : attributeBase o "count" X.env (eval o X.env) = eval o X.env) (hline : (apos.endLine == cpos.line) = true) :
    PE X (.Call (.Attribute o "count" apos) [a] [] cpos) (tE C (mCnt mo ma)) := by
  refine imp_e (pe_bm PySem.F.plainAttrs_list PySem.F.slot_list_count PySem.F.type_list_count mt_cntS ho (pa_cons ha pa_nil (star_one hs [] X.env)) hbase (few_ok (by rw [star_one hs [] X.env]; rfl) (by simp)) hline (star_one hs [] X.env) (by rfl)) fun σ H Q t => ?_
  obtain ⟨Oc, φ, st, ρ, p, t⟩ := tM.one (rp := rV C) t
  refine ⟨Oc, φ, st, ρ, p, t.mono fun v H1 ⟨Oc, φ, st, ρ, x, p, r, h⟩ => ?_⟩
  obtain ⟨ty, h⟩ := isLs_ok p.sr r h
  refine ⟨by rw [← hK]; exact ty, ⟨Oc, φ, st, ρ, p, (Aft.bind (rp := rV C Oc) h).mono fun u H2 ⟨φ2, s2, z, t2, r2, q2, k2⟩ => ?_⟩⟩
  unfold cntS at k2
  obtain ⟨b, vs, xs, e, q, y, k2⟩ := listV_ok r2 (r.step t2) k2
  obtain ⟨zs, e2, e3, k2⟩ := strsOf_ok y k2
  obtain ⟨w, e4, k2⟩ := strV_ok q2 k2
  subst e2
  exact ⟨b, zs, w, e, by rw [e4], by rw [← hK]; exact SqL.of q, Aft.ok k2 r2 (show RepV C.K Oc φ2 H2 _ (.d (.int _)) from rfl)⟩
end

/-! ### x[::-1] -/
section
variable {P : Program} {w : World} {A : Around} {E : Value → Shared → Prop} {s : Shared}
theorem applied_rev {sl : Addr} {n : Nat} {u : Tok} {Q : Int × Int × Nat → Shared → Prop} (hs : s.heap.IsSliceOf sl .none .none (.int (-1) u)) (h : Q ((n : Int) - 1, -1, n) s) : wpAny (model P w) A (Builtin.Slice.sliceApplied (.ref sl) (pure (n : Int))) Q E s := by
  obtain ⟨os, hos, hcs, hds⟩ := id hs
  unfold Builtin.Slice.sliceApplied Builtin.Slice.sliceFields
  refine wpAny_bind (wpAny_bind (wpAny_field hos hds (x := .none) rfl (wpAny_bind (wpAny_field hos hds (x := .none) rfl (wpAny_bind (wpAny_field hos hds (x := .int (-1) u) rfl (wpAny_pure ?_)))))))
  apply wpAny_bind
  apply HT.slicePart_ (o := some (-1)) (.int _ _)
  show wpAny _ _ (if ((-1 : Int) == 0) = true then _ else _) _ _ s
  rw [if_neg (by decide)]
  apply wpAny_bind
  apply HT.slicePart_ (o := none) .none
  apply wpAny_bind
  apply HT.slicePart_ (o := none) .none
  apply wpAny_bind
  apply wpAny_pure
  have e : (match Builtin.Slice.sliceAdjust none none (-1) (n : Int) with | (lo, hi) => (lo, (-1 : Int), Builtin.Slice.slicePlaces lo hi (-1))) = ((n : Int) - 1, (-1 : Int), n) := by
    unfold Builtin.Slice.sliceAdjust Builtin.Slice.slicePlaces
    simp
    omega
  show wpAny _ _ (pure (match Builtin.Slice.sliceAdjust none none (-1) (n : Int) with | (lo, hi) => (lo, (-1 : Int), Builtin.Slice.slicePlaces lo hi (-1)))) _ _ s
  rw [e]
  exact wpAny_pure h
theorem filterMap_same {α β : Type} {f g : α → Option β} : ∀ {l : List α}, (∀ a ∈ l, f a = g a) → l.filterMap f = l.filterMap g
  | [], _ => rfl
  | a :: l, h => by
    rw [List.filterMap_cons, List.filterMap_cons, h a List.mem_cons_self, filterMap_same fun b hb => h b (List.mem_cons_of_mem _ hb)]
theorem pick_rev (xs : Array Value) : ((List.range xs.size).filterMap fun (m : Nat) => xs[(((xs.size : Int) - 1) + (m : Int) * (-1)).toNat]?) = xs.toList.reverse := by
  apply List.ext_getElem?
  intro i
  have e : (List.range xs.size).filterMap (fun (m : Nat) => xs[(((xs.size : Int) - 1) + (m : Int) * (-1)).toNat]?) = (List.range xs.size).map fun m => xs.toList.reverse.getD m .none := by
    rw [← List.filterMap_eq_map]
    refine filterMap_same fun m hm => ?_
    have hl : m < xs.size := by simpa using hm
    have en : (((xs.size : Int) - 1) + (m : Int) * (-1)).toNat = xs.size - 1 - m := by omega
    rw [en]
    simp only [Function.comp, List.getD_eq_getElem?_getD]
    rw [List.getElem?_reverse (by simpa using hl)]
    have hl2 : xs.size - 1 - m < xs.size := by omega
    simp [hl2]
  rw [e, List.getElem?_map]
  by_cases hi : i < xs.size
  · rw [List.getElem?_range hi]
    have hr : i < xs.toList.reverse.length := by simpa using hi
    simp only [Option.map_some, List.getD_eq_getElem?_getD, List.getElem?_eq_getElem hr, Option.getD_some]
  · rw [List.getElem?_eq_none (by simpa using hi), List.getElem?_eq_none (by simpa using hi)]
    rfl
theorem tuple_rev {t sl : Addr} {its : Array Value} {u : Tok} {Q : Value → Shared → Prop} (ht : s.heap.IsTuple t its) (hs : s.heap.IsSliceOf sl .none .none (.int (-1) u)) (hz : its.size ≤ sizeLine)
    (h : Q (.ref s.heap.objs.size) { s with heap := s.heap.push { cls := .type "tuple", data := .seq its.toList.reverse.toArray } }) : wpAny (model P w) A (getItem (.ref t) (.ref sl)) Q E s := by
  have room : sizeOk (.seq its.toList.reverse.toArray) := by
    show its.toList.reverse.toArray.size ≤ sizeLine
    rw [List.size_toArray, List.length_reverse, Array.length_toList]
    exact hz
  obtain ⟨os, hos, hcs, hds⟩ := id hs
  have tyS : s.TypeIs (.ref sl) "slice" := ⟨os, hos, hcs⟩
  have it : PyProof.Rows.IsTup s.heap t its := ht
  unfold getItem
  try with_reducible refine wpAny_holding ?_
  first | refine wpAny_bind (wpAny_pure ?_) | skip
  apply wpAny_bind
  apply wpAny_sequenceKey it.typeIs (by decide)
  apply wpAny_bind
  apply wpAny_callSpecial?_slot (name := Str.ofString "__getitem__") it.typeIs PyProof.Rows.slot_tuple_getitem
  apply wpAny_call_entry PyProof.Rows.slot_tuple_getitem it.typeIs entry_tuple_getitem ?_ (args_tuple_getitem _ _)
  show wpAny _ _ (Builtin.Tuple.tupleItemsOf (.ref t) >>= _) _ _ s
  apply wpAny_bind
  apply PyProof.Rows.tupleItemsOf_ it
  apply wpAny_bind
  apply wpAny_typeOf tyS
  rw [if_pos (by decide)]
  apply wpAny_bind
  apply applied_rev hs
  have no : ¬ ((((its.size : Int) - 1) == 0 && (-1 : Int) == 1 && its.size == its.size) = true) := by
    intro q
    rw [Bool.and_eq_true, Bool.and_eq_true] at q
    exact absurd (eq_of_beq q.1.2) (by decide)
  show wpAny _ _ (if (((its.size : Int) - 1) == 0 && (-1 : Int) == 1 && its.size == its.size) = true then _ else _) _ _ s
  rw [if_neg no, pick_rev]
  first
    | exact wpAny_bind (m := Builtin.Tuple.tupleExact _) (wpAny_newObj_type (wpAny_pure ⟨_, rfl, wpAny_pure h⟩) room)
    | exact wpAny_bind (m := Builtin.Tuple.tupleExact _) (wpAny_newObj_type (wpAny_bind (wpAny_pure (wpAny_pure ⟨_, rfl, wpAny_pure h⟩))) room)
    | exact wpAny_bind (wpAny_bind (m := Builtin.Tuple.tupleExact _) (wpAny_newObj_type (wpAny_pure (wpAny_pure ⟨_, rfl, wpAny_pure h⟩)) room))
    | exact wpAny_bind (wpAny_bind (m := Builtin.Tuple.tupleExact _) (wpAny_newObj_type (wpAny_pure ⟨_, rfl, wpAny_pure h⟩) room))
end
end Ev
set_option maxRecDepth 100000
set_option maxHeartbeats 4000000
/-! Ev, part R: turned about; dicts; names of the module. -/
namespace Ev
open PySem PySem.Spec PyProof.Rows L2

/-! ### x[::-1] -/
def revV (v : Val) : M Val := match v with
  | .d (.tup xs) => M.pure (.d (.tup xs.reverse))
  | v => listV v >>= fun vs => mkList false vs.reverse
def mRev (m : Env → M Val) : Env → M Val := fun ρ => m ρ >>= revV
section
variable {X : Cx} {C : Cn} {e : Expr} {k : Nat} {p1 p2 p3 pos : Pos} {m : Env → M Val}
theorem pe_rev {te : TE} (he : PE X e te) : PE X (.Subscript e (.Slice none none (some (.UnaryOp .USub (.Constant (.int 1) k p1) p2)) p3) pos) fun σ H Q => te σ H fun x H1 => ∃ a xs, x = .ref a ∧
    ((SqL X.K H1 a xs ∧ ∀ p, H1 p = none → Q (.ref p) (upd H1 p (.lst xs.reverse))) ∨ (SqT X.K H1 a xs ∧ ∀ p, H1 p = none → NewT p xs.reverse H1 Q)) := by
  constructor
  intro pins s σ H Q I h
  refine Subscript_ (thn (he.run pins s σ H _ I h) ?_)
  rintro v s1 ⟨x, H1, I1, r1, a, xs, rfl, q⟩
  cases r1
  have step : PO X (some (.UnaryOp .USub (.Constant (.int 1) k p1) p2)) (tPart (tUn (rU fun i => .int (-i)) (tC (.int 1)))) := po_some (pe_un un_neg pe_int)
  refine wpAny_Slice (thn (po_none.run pins s1 σ H1 (fun o H2 => o = none ∧ H2 = H1) I1 ⟨rfl, rfl⟩) ?_)
  rintro vl s2 ⟨_, _, I2, pl, rfl, rfl⟩
  refine thn (po_none.run pins s2 σ _ (fun o H3 => o = none ∧ H3 = _) I2 ⟨rfl, rfl⟩) ?_
  rintro vu s3 ⟨_, _, I3, pu, rfl, rfl⟩
  refine thn (step.run pins s3 σ _ (fun o H4 => o = some (-1) ∧ H4 = _) I3 ⟨1, rfl, -1, rfl, rfl, rfl⟩) ?_
  rintro vs s4 ⟨_, _, I4, ps, rfl, rfl⟩
  have I5 := I4.kept (t' := s4.toks) (h' := s4.heap.push { cls := .type "slice", data := .fields #[vl, vu, vs] }) fun b ob q => Heap.get?_push_of_some _ q
  rcases q with ⟨hx, q⟩ | ⟨hx, q⟩
  · obtain ⟨its, r, ht, hz⟩ := I5.list hx
    have hlen := r.length
    show wpAny (model X.prog X.w) X.A (subscriptTail e (.Slice none none (some (.UnaryOp .USub (.Constant (.int 1) k p1) p2)) p3) (.ref a) (.ref s4.heap.objs.size)) (EP X pins σ Q) X.xe _
    refine tail_any (ops := [.ref a, .ref s4.heap.objs.size]) ht.isList.typeIs (PySem.slot_list_getitem.lookup) ?_ (by with_unfolding_all rfl)
    refine wpAny_getItem_list_slice ht.isList (Heap.IsSliceOf.new _ vl vu vs) pl pu ps (by decide) ?_ (by rw [List.size_toArray]; omega)
    rw [PySem.W.krv_pick]
    refine ⟨.ref _, _, I5.laid (t' := s4.toks) (o := .lst xs.reverse) (fun b ob q => Heap.get?_push_of_some _ q) (Nat.le_refl _) ?_, rfl, q _ (I5.hok.fresh (Nat.le_refl _))⟩
    exact ⟨by rw [List.length_reverse]; exact hz, _, 0, r.reverse, Heap.get?_push_size _ rfl⟩
  · obtain ⟨its, r, ht, hz⟩ := I5.tuple hx
    have hlen := r.length
    cases pl
    cases pu
    cases ps
    show wpAny (model X.prog X.w) X.A (subscriptTail e (.Slice none none (some (.UnaryOp .USub (.Constant (.int 1) k p1) p2)) p3) (.ref a) (.ref s4.heap.objs.size)) (EP X pins σ Q) X.xe _
    refine tail_any (ops := [.ref a, .ref s4.heap.objs.size]) (PyProof.Rows.IsTup.typeIs ht) (PyProof.Rows.slot_tuple_getitem.lookup) ?_ (by with_unfolding_all rfl)
    refine tuple_rev ht (Heap.IsSliceOf.new _ _ _ _) (by rw [List.size_toArray]; omega) ?_
    exact laidT (tk := s4.toks) I5 r.reverse (by rw [List.length_reverse]; exact hz) q
theorem RepVs.reverse {Oc : Own} {φ : Fi} {H : Hp} : ∀ {xs : List Val} {vs : List V}, RepVs C.K Oc φ H vs xs → RepVs C.K Oc φ H vs.reverse xs.reverse
  | [], vs, r => by rw [show vs = [] from r]; exact rfl
  | x :: xs, vs, r => by
    obtain ⟨v, w, e, h1, h2⟩ := r
    subst e
    rw [List.reverse_cons, List.reverse_cons]
    exact (RepVs.reverse h2).append (show RepVs C.K Oc φ H [v] [x] from ⟨v, [], rfl, h1, rfl⟩)
theorem s_rev (hK : C.K = X.K) (he : PE X e (tE C m)) : PE X (.Subscript e (.Slice none none (some (.UnaryOp .USub (.Constant (.int 1) k p1) p2)) p3) pos) (tE C (mRev m)) :=
  imp_e (pe_rev he) fun σ H Q t => by
    obtain ⟨Oc, φ, st, ρ, p, t⟩ := tM.one (rp := rV C) t
    refine ⟨Oc, φ, st, ρ, p, t.mono fun v H1 ⟨Oc, φ, st, ρ, x, p, r, h⟩ => ?_⟩
    rw [← hK]
    have lists : Aft C Oc (rV C Oc) ((listV x >>= fun vs => mkList false vs.reverse) st) φ H1 σ Q → ∃ a xs, v = .ref a ∧ ((SqL C.K H1 a xs ∧ ∀ p, H1 p = none → Q (.ref p) (upd H1 p (.lst xs.reverse))) ∨ (SqT C.K H1 a xs ∧ ∀ p, H1 p = none → NewT p xs.reverse H1 Q)) := fun h => by
      obtain ⟨a, vs, xs, e, q, z, h⟩ := listV_ok p.sr r h
      exact ⟨a, vs, e, .inl ⟨SqL.of q, fun l hl => new_list h p.sr z.reverse hl⟩⟩
    cases x with
    | d x =>
      cases x with
      | tup xs =>
        obtain ⟨a, vs, e, q, z⟩ := (show RepD C.K (own Oc φ) H1 v (.tup xs) from r)
        refine ⟨a, vs, e, .inr ⟨q.to, fun l hl => new_tup h p.sr ?_ hl⟩⟩
        have z' := (RepVs.of_D z).reverse
        rw [← List.map_reverse] at z'
        exact z'.to_D
      | _ => exact lists h
    | _ => exact lists h
end

/-! ### names of the module -/
section
variable {X : Cx} {C : Cn} {x : Str} {pos : Pos}
def mStr (z : Str) : Env → M Val := fun _ => M.pure (.d (.str z))
def mInt (i : Int) : Env → M Val := fun _ => M.pure (.d (.int i))
theorem s_gstr {z : Str} (hg : Gl X x) (hm : ∃ t, X.mg x = some (.str z t)) (hd : (x == ("__debug__" : Str)) = false) : PE X (.Name x pos) (tE C (mStr z)) := by
  obtain ⟨t, hm⟩ := hm
  exact s_c (pe_glob (v := .str z) hg hm ⟨t, rfl⟩ hd) fun _ _ => rfl
theorem s_gint {i : Int} (hg : Gl X x) (hm : ∃ t, X.mg x = some (.int i t)) (hd : (x == ("__debug__" : Str)) = false) : PE X (.Name x pos) (tE C (mInt i)) := by
  obtain ⟨t, hm⟩ := hm
  exact s_c (pe_glob (v := .int i) hg hm ⟨t, rfl⟩ hd) fun _ _ => rfl
end

/-! ### dicts -/
/-- the value at a key -/
def keyV (v : Val) : M D := match v with
  | .d (.int i) => M.pure (.int i)
  | .d (.str x) => M.pure (.str x)
  | _ => M.bad
def dctV (v : Val) : M (List (D × D)) := match v with
  | .d (.dct m) => M.pure m
  | _ => M.bad
def dixV (x k : Val) : M Val := dctV x >>= fun m => keyV k >>= fun q => match dget m q with
  | some y => M.pure (.d y)
  | none => M.bad
def mDix (m n : Env → M Val) : Env → M Val := fun ρ => m ρ >>= fun x => n ρ >>= fun k => dixV x k
def getV (x k y : Val) : M Val := dctV x >>= fun m => keyV k >>= fun q => match dget m q with
  | some y => M.pure (.d y)
  | none => M.pure y
def mGet2 (m n l : Env → M Val) : Env → M Val := fun ρ => m ρ >>= fun x => dctV x >>= fun _ => n ρ >>= fun k => l ρ >>= fun y => getV x k y
section
variable {X : Cx} {C : Cn} {Oc : Own} {φ : Fi} {H : Hp} {st : Store} {σ : Sl}
theorem keyV_ok {β γ : Type} {rq : Fi → Hp → β → γ → Prop} {Q : β → Hp → Prop} {v : V} {x : Val} {g : D → M γ} (r : RepV C.K Oc φ H v x) (h : Aft C Oc rq ((keyV x >>= g) st) φ H σ Q) : ∃ k q, v = kV q ∧ keyOf k = some q ∧ Aft C Oc rq (g k st) φ H σ Q := by
  cases x with
  | d x =>
    cases x with
    | int i => exact ⟨.int i, .inl i, r, rfl, h⟩
    | str i => exact ⟨.str i, .inr i, r, rfl, h⟩
    | _ => exact h.elim
  | _ => exact h.elim
theorem dctV_ok {β γ : Type} {rq : Fi → Hp → β → γ → Prop} {Q : β → Hp → Prop} {v : V} {x : Val} {g : List (D × D) → M γ} (r : RepV C.K Oc φ H v x) (h : Aft C Oc rq ((dctV x >>= g) st) φ H σ Q) : ∃ a kvs m, x = .d (.dct m) ∧ v = .ref a ∧ ¬ own Oc φ a ∧ H a = some (.dK kvs) ∧ RepMs C.K (own Oc φ) H kvs m ∧ Aft C Oc rq (g m st) φ H σ Q := by
  cases x with
  | d x =>
    cases x with
    | dct m =>
      obtain ⟨a, kvs, e, n, q, z⟩ := (show RepD C.K (own Oc φ) H v (.dct m) from r)
      exact ⟨a, kvs, m, rfl, e, n, q, z, h⟩
    | _ => exact h.elim
  | _ => exact h.elim
theorem key_eq {k k' : D} {q q' : Key} (h : keyOf k = some q) (h' : keyOf k' = some q') : deq k k' = decide (q = q') := by
  cases k <;> cases k' <;> simp only [keyOf, Option.some.injEq, reduceCtorEq] at h h' <;> subst h <;> subst h' <;> simp [deq] <;> rfl
theorem dget_ok {K : PySem.W.Frag} {O : Own} : ∀ {m : List (D × D)} {kvs : List (Key × V)} {k : D} {q : Key}, RepMs K O H kvs m → keyOf k = some q → (dget m k = none ∧ valV kvs q = none) ∨ ∃ x v, dget m k = some x ∧ valV kvs q = some v ∧ RepD K O H v x
  | [], kvs, k, q, r, hk => by
    rw [show kvs = [] from r]
    exact .inl ⟨rfl, rfl⟩
  | (j, x) :: m, kvs, k, q, r, hk => by
    simp only [RepMs] at r
    obtain ⟨p, v, r', e, h0, h1, h2⟩ := r
    subst e
    have e := key_eq h0 hk
    by_cases hq : p = q
    · subst hq
      right
      refine ⟨x, v, ?_, valV_pos rfl, h1⟩
      unfold dget
      rw [e]; simp
    · have hn : dget ((j, x) :: m) k = dget m k := by
        rw [dget, e]; simp [hq]
      rw [hn, valV_neg (by exact hq)]
      exact dget_ok h2 hk
theorem RepMs.grow' {K : PySem.W.Frag} {O O' : Own} {H H' : Hp} (g : Grow K O O' H H') {m : List (D × D)} {kvs : List (Key × V)} (r : RepMs K O H kvs m) : RepMs K O' H' kvs m := RepMs.grow g r
section
variable {o i e f : Expr} {pos apos cpos : Pos} {mo mi me mf : Env → M Val}
theorem s_dix (hu : X.A.units + 1100 < cLine) (ho : PE X o (tE C mo)) (hi : PE X i (tE C mi)) (hs : NoSl i) : PE X (.Subscript o i pos) (tE C (mDix mo mi)) :=
  imp_e (pe_dget (by omega) ho hi hs) fun σ H Q t => by
    obtain ⟨Oc, φ, st, ρ, p, t⟩ := tM.two (rp := rV C) t
    refine ⟨Oc, φ, st, ρ, p, t.mono fun v H1 t => ?_⟩
    obtain ⟨Oc, φ, st, ρ, p, t⟩ := t
    refine ⟨Oc, φ, st, ρ, p, t.mono fun u H2 ⟨Oc, φ, st, ρ, x, y, p, r, r', h⟩ => ?_⟩
    unfold dixV at h
    obtain ⟨a, kvs, m, ex, e, _, q, z, h⟩ := dctV_ok r h
    obtain ⟨k, kq, e2, hk, h⟩ := keyV_ok r' h
    rcases dget_ok z hk with ⟨g1, g2⟩ | ⟨w, vw, g1, g2, g3⟩
    · rw [g1] at h; exact h.elim
    · rw [g1] at h
      refine ⟨a, vw, e, ?_, Aft.ok h p.sr g3⟩
      rw [e2, ← g2]
      exact DGet.k q
theorem s_get2 (hu : X.A.units + 1100 < cLine) (ho : PE X o (tE C mo)) (he : PE X e (tE C me)) (hf : PE X f (tE C mf)) (m : M2 X o "get" apos e f cpos) : PE X (.Call (.Attribute o "get" apos) [e, f] [] cpos) (tE C (mGet2 mo me mf)) :=
  imp_e (pe_dget2 (by omega) ho he hf m) fun σ H Q t => by
    obtain ⟨Oc, φ, st, ρ, p, t⟩ := tM.one (rp := rV C) t
    refine ⟨Oc, φ, st, ρ, p, t.mono fun v H1 ⟨Oc, φ, st, ρ, x, p, r, h⟩ => ?_⟩
    obtain ⟨a, kvs, m, ex, e, na, q, z, h⟩ := dctV_ok r h
    refine ⟨a, e, .inl ⟨kvs, .inl q⟩, ?_⟩
    refine ⟨Oc, φ, st, ρ, p, (Aft.bind (rp := rV C Oc) h).mono fun u H2 ⟨φ2, s2, y, t2, r2, q2, k2⟩ => ?_⟩
    refine ⟨Oc, φ2, s2, ρ, p.step t2 r2, (Aft.bind (rp := rV C Oc) k2).mono fun w H3 ⟨φ3, s3, d, t3, r3, q3, k3⟩ => ?_⟩
    have k3 : Aft C Oc (rV C Oc) (getV x y d s3) φ3 H3 σ Q := k3
    subst ex
    have t23 := t2.trans t3
    have g := t23.grow (K := C.K) (Oc := Oc)
    have qd := g.dct _ _ na q
    have zz := RepMs.grow' g z
    unfold getV at k3
    have k4 : Aft C Oc (rV C Oc) ((keyV y >>= fun q => match dget m q with
      | some y => M.pure (.d y)
      | none => M.pure d) s3) φ3 H3 σ Q := k3
    obtain ⟨kd, kq, e2, hk, k4⟩ := keyV_ok (q2.step t3) k4
    rcases dget_ok zz hk with ⟨g1, g2⟩ | ⟨y', vw, g1, g2, g3⟩
    · rw [g1] at k4
      refine ⟨none, ?_, Aft.ok k4 r3 q3⟩
      rw [e2, ← g2]
      exact DGet.k qd.2
    · rw [g1] at k4
      refine ⟨some vw, ?_, Aft.ok k4 r3 g3⟩
      rw [e2, ← g2]
      exact DGet.k qd.2
end
end
end Ev
set_option maxRecDepth 100000
set_option maxHeartbeats 4000000
/-! Ev, part S: dict(..) of pairs; displays; dicts of the module. -/
namespace Ev
open PySem PySem.Spec PyProof.Rows L2

section
variable {X : Cx} {pins : List (Addr × Obj)} {σ : L2.St} {H : Hp} {s : Shared}
theorem pairs_two (I : Inv X pins σ H s) : ∀ {ts : List Addr} {kvs : List (Key × V)}, Paired (fun p kv => SqT X.K H p [kV kv.1, kv.2]) ts kvs →
    ∃ (prs : List (Key × Value)) (ks : List Value), KV kvs prs ∧ prs.length = ts.length ∧ ks.length = ts.length ∧ ∀ (j : Nat) (q : Key × Value), prs[j]? = some q → ∃ b u, ts[j]? = some b ∧ ks[j]? = some u ∧ s.heap.IsTuple b #[u, q.2] ∧ (mixKind X.prog X.w).is q.1 u = true
  | _, _, .nil => ⟨[], [], .nil, rfl, rfl, fun j q e => by simp at e⟩
  | _, _, .cons (a := p) (b := kv) h t => by
    obtain ⟨prs, ks, r, h1, h2, hp⟩ := pairs_two I t
    obtain ⟨its, rv, ht, _⟩ := I.tuple h
    obtain ⟨u, y, ei, ru, ry⟩ := vals2 rv
    subst ei
    refine ⟨(kv.1, y) :: prs, u :: ks, .cons ⟨rfl, ry⟩ r, by simp [h1], by simp [h2], fun j q e => ?_⟩
    cases j with
    | zero =>
      cases Option.some.inj e
      exact ⟨p, u, rfl, rfl, ht, kV_is ru⟩
    | succ j => exact hp j q (by simpa using e)
theorem SqP.at_ {a : Addr} {xs : List V} (I : Inv X pins σ H s) (h : SqP X.K H a xs) : ∃ its : List Value, Vals xs its ∧ xs.length ≤ sizeLine ∧ PlainSeq "tuple" s.heap a its.toArray := by
  obtain ⟨its, rv, ⟨o, ho, hc, n, hd⟩, hz⟩ := I.tuple h.to
  refine ⟨its, rv, hz, o, n, ho, hc, ?_, hd⟩
  rcases h with ⟨o', h, e⟩ | ⟨o', _, _, hk, _, e, _⟩
  · have z := (I.hok a _ h).1
    rw [ho] at z
    cases z
    exact e
  · have z := I.kIn a o' hk
    rw [ho] at z
    cases z
    exact e
theorem call_dictT (hc : X.calm = true) : CallR X (.type "dict") (fun xs H Q => ∃ (a : Addr) (ts : List Addr) (kvs : List (Key × V)), xs = [.ref a] ∧ (SqL X.K H a (ts.map V.ref) ∨ SqP X.K H a (ts.map V.ref)) ∧ Paired (fun p kv => SqT X.K H p [kV kv.1, kv.2]) ts kvs ∧
    ∀ p, H p = none → Q (.ref p) (upd H p (.dK (mergeK [] kvs)))) := by
  rintro pins s σ H xs us Q I r ⟨a, ts, kvs, rfl, hq, hp, q⟩
  rcases hq with hq | hq
  · exact call_dictP hc pins s σ H _ us Q I r ⟨a, ts, kvs, rfl, hq, hp, q⟩
  · obtain ⟨u, rfl, rx⟩ := vals1 r
    cases rx
    obtain ⟨its, rv, hz, pl⟩ := SqP.at_ I hq
    have ei := refs_at rv
    subst ei
    rw [List.length_map] at hz
    obtain ⟨prs, ks, rel, h1, h2, hpr⟩ := pairs_two I hp
    have lz : (ks.zip (prs.map (·.2))).length = ts.length := by simp [h1, h2]
    have at_ : ∀ (j : Nat) k v, (ks.zip (prs.map (·.2)))[j]? = some (k, v) → ∃ b q, ts[j]? = some b ∧ prs[j]? = some q ∧ q.2 = v ∧ s.heap.IsTuple b #[k, v] ∧ (mixKind X.prog X.w).is q.1 k = true := by
      intro j k v e
      rw [List.getElem?_zip_eq_some] at e
      obtain ⟨e1, e2⟩ := e
      rw [List.getElem?_map] at e2
      cases e3 : prs[j]? with
      | none => rw [e3] at e2; cases e2
      | some q =>
        rw [e3] at e2
        cases e2
        obtain ⟨b, u, g1, g2, g3, g4⟩ := hpr j q e3
        rw [e1] at g2
        cases g2
        exact ⟨b, q, g1, rfl, rfl, g3, g4⟩
    have items : PairItems s.heap (ts.map Value.ref).toArray (fun j => ts.getD j 0) (ks.zip (prs.map (·.2))) := by
      refine ⟨by rw [lz]; simp, fun j k v e => ?_⟩
      obtain ⟨b, q, g1, _, _, g3, _⟩ := at_ j k v e
      have eb : ts.getD j 0 = b := by rw [List.getD_eq_getElem?_getD, g1]; rfl
      show (ts.map Value.ref).toArray[j]? = some (Value.ref (ts.getD j 0)) ∧ PairAt s.heap (ts.getD j 0) k v
      rw [eb]
      refine ⟨by simp [g1], .inl g3⟩
    refine PySem.call_dict_pairs (knd := mixKind X.prog X.w) (kvs := prs) (PairArg.tuple a (ts.map Value.ref).toArray (fun j => ts.getD j 0) (ks.zip (prs.map (·.2)))) (I.ok.hd hc) ⟨pl, items⟩ ⟨by rw [lz, h1], fun i key v e => ?_⟩ (by rw [lz]; exact hz) fun h' tk hd' keep => ?_
    · obtain ⟨b, q, _, g2, g3, _, g5⟩ := at_ i key v e
      exact ⟨q.1, by rw [g2, ← g3], g5⟩
    · have hm : (s.heap.objs.size == sysModules) = false := beq_eq_false_iff_ne.mpr (Nat.ne_of_gt I.big)
      have hlen : (mergeK [] kvs).length ≤ sizeLine := by
        have z := length_mergeK kvs []
        rw [List.length_nil, Nat.zero_add, rel.length, h1] at z
        omega
      have new : ObjOk X.prog X.w (upd H s.heap.objs.size (.dK (mergeK [] kvs))) h' s.heap.objs.size (.dK (mergeK [] kvs)) := ⟨hlen, hm, merged [] prs, KV.merge rel .nil, hd'⟩
      exact ⟨.ref s.heap.objs.size, _, I.laid (t' := tk) (fun b o e => keep b o (fun z => nomatch z) e) (Nat.le_refl _) new, rfl, q _ (I.hok.fresh (Nat.le_refl _))⟩
end

/-- the pairs of a list of pairs -/
def prsOf : List D → Option (List (D × D))
  | [] => some []
  | .tup [k, v] :: r => match keyOf k, prsOf r with
    | some _, some m => some ((k, v) :: m)
    | _, _ => none
  | _ => none
def dmake (m : List (D × D)) : List (D × D) := m.foldl (fun acc p => dput acc p.1 p.2) []
def dmk (xs : List D) : M Val := match prsOf xs with
  | some m => M.pure (.d (.dct (dmake m)))
  | none => M.bad
def dictV (v : Val) : M Val := match v with
  | .d (.tup xs) => dmk xs
  | .d (.lst xs) => dmk xs
  | _ => M.bad
section
variable {K : PySem.W.Frag} {O : Own} {H : Hp}
theorem prsOf_ok : ∀ {xs : List D} {vs : List V} {m : List (D × D)}, RepDs K O H vs xs → prsOf xs = some m → ∃ (ts : List Addr) (kvs : List (Key × V)), vs = ts.map V.ref ∧ Paired (fun p kv => SqT K H p [kV kv.1, kv.2]) ts kvs ∧ RepMs K O H kvs m
  | [], vs, m, r, h => by
    cases h
    exact ⟨[], [], r, .nil, rfl⟩
  | x :: xs, vs, m, r, h => by
    obtain ⟨v, w, e, h1, h2⟩ := r
    unfold prsOf at h
    split at h
    · rename_i ex
      cases ex
    · rename_i k y r' ex
      cases ex
      cases e1 : keyOf k with
      | none => rw [e1] at h; cases h
      | some q =>
        cases e2 : prsOf xs with
        | none => rw [e1, e2] at h; cases h
        | some m' =>
          rw [e1, e2] at h
          cases h
          obtain ⟨ts, kvs, g1, g2, g3⟩ := prsOf_ok h2 e2
          obtain ⟨a, us, f1, f2, f3⟩ := (show RepD K O H v (.tup [k, y]) from h1)
          obtain ⟨v1, w1, j1, j2, v2, w2, j3, j4, j5⟩ := f3
          have ek : v1 = kV q := by
            cases k <;> simp only [keyOf, Option.some.injEq, reduceCtorEq] at e1 <;> subst e1 <;> exact j2
          have eu : us = [kV q, v2] := by rw [j1, j3, show w2 = [] from j5, ek]
          refine ⟨a :: ts, (q, v2) :: kvs, by rw [e, f1, g1]; rfl, .cons (by rw [← eu]; exact f2.to) g2, ?_⟩
          exact ⟨q, v2, kvs, rfl, e1, j4, g3⟩
    · cases h
theorem put_rep {k : D} {q : Key} {x : D} {v : V} (hk : keyOf k = some q) (rx : RepD K O H v x) : ∀ {m : List (D × D)} {kvs : List (Key × V)}, RepMs K O H kvs m → (kvs.map (·.1)).Nodup → RepMs K O H (putK kvs q v) (dput m k x)
  | [], kvs, r, nd => by
    cases (show kvs = [] from r)
    exact ⟨q, v, [], rfl, hk, rx, rfl⟩
  | (j, y) :: m, kvs, r, nd => by
    simp only [RepMs] at r
    obtain ⟨p, u, w, e, h0, h1, h2⟩ := r
    subst e
    have ej := key_eq h0 hk
    rw [List.map_cons, List.nodup_cons] at nd
    by_cases hq : p = q
    · subst hq
      have e1 : dput ((j, y) :: m) k x = (j, x) :: m := by rw [dput, ej]; simp
      rw [e1]
      have e2 : putK ((p, u) :: w) p v = (p, v) :: w := by
        unfold putK
        rw [if_pos (by simp)]
        rw [List.map_cons, if_pos rfl]
        congr 1
        have : ∀ kv ∈ w, (if kv.1 = p then (kv.1, v) else kv) = kv := fun kv hkv => by
          exact if_neg (fun (z : kv.1 = p) => nd.1 (List.mem_map.mpr ⟨kv, hkv, z⟩))
        rw [List.map_congr_left this]
        simp
      rw [e2]
      exact ⟨p, v, w, rfl, h0, rx, h2⟩
    · have e1 : dput ((j, y) :: m) k x = (j, y) :: dput m k x := by rw [dput, ej]; simp [hq]
      rw [e1]
      have e2 : putK ((p, u) :: w) q v = (p, u) :: putK w q v := by
        unfold putK
        simp only [List.any_cons, hq, decide_false, Bool.false_or, List.map_cons, if_false]
        split <;> simp
      rw [e2]
      exact ⟨p, u, putK w q v, rfl, h0, h1, put_rep hk rx h2 nd.2⟩
theorem putK_keys {kvs : List (Key × V)} {q : Key} {v : V} (nd : (kvs.map (·.1)).Nodup) : ((putK kvs q v).map (·.1)).Nodup := by
  unfold putK
  split
  · have e : (kvs.map fun kv => if kv.1 = q then (kv.1, v) else kv).map (·.1) = kvs.map (·.1) := by
      rw [List.map_map]
      apply List.map_congr_left
      intro kv _
      simp only [Function.comp]
      split <;> rfl
    rw [e]
    exact nd
  · rename_i h
    rw [List.map_append, List.nodup_append]
    refine ⟨nd, by simp, fun a ha b hb e => h ?_⟩
    simp at hb
    subst hb
    subst e
    obtain ⟨kv, h1, h2⟩ := List.mem_map.mp ha
    exact List.any_eq_true.mpr ⟨kv, h1, by simp [h2]⟩
theorem make_rep : ∀ {m acc : List (D × D)} {kvs acc' : List (Key × V)}, RepMs K O H kvs m → RepMs K O H acc' acc → (acc'.map (·.1)).Nodup → RepMs K O H (mergeK acc' kvs) (m.foldl (fun acc p => dput acc p.1 p.2) acc)
  | [], acc, kvs, acc', r, ra, nd => by
    cases (show kvs = [] from r)
    exact ra
  | (k, x) :: m, acc, kvs, acc', r, ra, nd => by
    simp only [RepMs] at r
    obtain ⟨q, v, w, e, h0, h1, h2⟩ := r
    subst e
    exact make_rep (m := m) (kvs := w) h2 (put_rep h0 h1 ra nd) (putK_keys nd)
end
theorem new_dct {C : Cn} {Oc : Own} {φ : Fi} {H : Hp} {st : Store} {σ : Sl} {kvs : List (Key × V)} {m : List (D × D)} {p : Addr} {Q : VK} (h : Aft C Oc (rV C Oc) (.ok (.d (.dct m)) st) φ H σ Q) (s : SR C.K Oc φ H st) (r : RepMs C.K (own Oc φ) H kvs m) (hp : H p = none) :
    Q (.ref p) (upd H p (.dK kvs)) :=
  h φ _ _ (Stp.lay hp) (s.lay hp) ⟨p, kvs, rfl, fun z => z.elim (fun z => (s.oc p z).1 hp) (fun z => by
    obtain ⟨n, e⟩ := List.mem_iff_getElem?.mp z
    rcases s.there e with ⟨_, q⟩ | ⟨_, q⟩ <;> (rw [hp] at q; cases q)), upd_same, RepMs.grow (Stp.lay (φ := φ) hp).grow r⟩
theorem f_dict {C : Cn} : Fits C (fun xs H Q => ∃ (a : Addr) (ts : List Addr) (kvs : List (Key × V)), xs = [.ref a] ∧ (SqL C.K H a (ts.map V.ref) ∨ SqP C.K H a (ts.map V.ref)) ∧ Paired (fun p kv => SqT C.K H p [kV kv.1, kv.2]) ts kvs ∧
    ∀ p, H p = none → Q (.ref p) (upd H p (.dK (mergeK [] kvs)))) (fun xs => match xs with | [x] => dictV x | _ => M.bad) :=
  fits1 (g := dictV) (fun xs hx => by
    cases xs with
    | nil => rfl
    | cons x xs => cases xs with
      | nil => exact absurd rfl (hx x)
      | cons => rfl) (fun x => rfl) fun Oc φ H st σ v x Q s r h => by
    cases x with
    | d x =>
      cases x with
      | tup xs =>
        obtain ⟨a, vs, e, q, z⟩ := (show RepD C.K (own Oc φ) H v (.tup xs) from r)
        have h : Aft C Oc (rV C Oc) (dmk xs st) φ H σ Q := h
        unfold dmk at h
        cases em : prsOf xs with
        | none => rw [em] at h; exact h.elim
        | some m =>
          rw [em] at h
          obtain ⟨ts, kvs, g1, g2, g3⟩ := prsOf_ok z em
          subst g1
          exact ⟨a, ts, kvs, by rw [e], .inr q, g2, fun p hp => new_dct h s (make_rep g3 rfl List.nodup_nil) hp⟩
      | lst xs =>
        obtain ⟨a, vs, e, n, q, z⟩ := (show RepD C.K (own Oc φ) H v (.lst xs) from r)
        have h : Aft C Oc (rV C Oc) (dmk xs st) φ H σ Q := h
        unfold dmk at h
        cases em : prsOf xs with
        | none => rw [em] at h; exact h.elim
        | some m =>
          rw [em] at h
          obtain ⟨ts, kvs, g1, g2, g3⟩ := prsOf_ok z em
          subst g1
          exact ⟨a, ts, kvs, by rw [e], .inl (SqL.of q), g2, fun p hp => new_dct h s (make_rep g3 rfl List.nodup_nil) hp⟩
      | _ => exact h.elim
    | _ => exact h.elim

/-! ### displays of written pairs -/
def cV : D → V
  | .int i => .int i
  | .str x => .str x
  | .bl b => .bl b
  | _ => .non
def mDsp (m : List (D × D)) : Env → M Val := fun _ => M.pure (.d (.dct m))
def plainD : D → Bool
  | .int _ => true
  | .str _ => true
  | .bl _ => true
  | .non => true
  | _ => false
theorem tPairs_c : ∀ {m : List (D × D)} {σ : Sl} {H : Hp} {Q : List (V × V) → Hp → Prop}, Q (m.map fun p => (cV p.1, cV p.2)) H → tPairs (m.map fun p => (tC (cV p.1), tC (cV p.2))) σ H Q
  | [], σ, H, Q, h => h
  | p :: m, σ, H, Q, h => tPairs_c (m := m) h
theorem rep_c {K : PySem.W.Frag} {O : Own} {H : Hp} {x : D} (h : plainD x = true) : RepD K O H (cV x) x := by
  cases x <;> first | rfl | cases h
def kvOf : List (D × D) → Option (List (Key × V))
  | [] => some []
  | (k, x) :: m => match keyOf k, kvOf m with
    | some q, some r => if plainD x then some ((q, cV x) :: r) else none
    | _, _ => none
theorem kvOf_rep {K : PySem.W.Frag} {O : Own} {H : Hp} : ∀ {m : List (D × D)} {kvs : List (Key × V)}, kvOf m = some kvs → RepMs K O H kvs m ∧ (m.map fun p => (cV p.1, cV p.2)) = kvs.map fun kv => (kV kv.1, kv.2)
  | [], kvs, h => by
    cases h
    exact ⟨rfl, rfl⟩
  | (k, x) :: m, kvs, h => by
    unfold kvOf at h
    cases e1 : keyOf k with
    | none => rw [e1] at h; cases h
    | some q =>
      cases e2 : kvOf m with
      | none => rw [e1, e2] at h; cases h
      | some r =>
        rw [e1, e2] at h
        simp only at h
        split at h
        · rename_i hx
          cases h
          obtain ⟨g1, g2⟩ := kvOf_rep (K := K) (O := O) (H := H) e2
          have ek : cV k = kV q := by
            cases k <;> simp only [keyOf, Option.some.injEq, reduceCtorEq] at e1 <;> subst e1 <;> rfl
          exact ⟨⟨q, cV x, r, rfl, e1, rep_c hx, g1⟩, by rw [List.map_cons, List.map_cons, g2, ek]⟩
        · cases h
theorem s_dsp {X : Cx} {C : Cn} {pos : Pos} {keys : List (Option Expr)} {values : List Expr} {m : List (D × D)} {kvs : List (Key × V)} (h : PPs X pos keys values (m.map fun p => (tC (cV p.1), tC (cV p.2)))) (hk : kvOf m = some kvs) (hm : mergeK [] kvs = kvs) (hs : kvs.length ≤ 15)
    (hall : keys.all (·.isSome) = true) (hl : keys.length = values.length) (h0 : keys ≠ []) (h15 : keys.length ≤ 15) : PE X (.Dict keys values pos) (tE C (mDsp m)) :=
  imp_e (pe_disp h hall hl h0 h15) fun σ H Q ⟨Oc, φ, st, ρ, p, t⟩ q hq => by
    obtain ⟨g1, g2⟩ := kvOf_rep (K := C.K) (O := own Oc φ) (H := H) hk
    refine tPairs_c ⟨upd_same, kvs, g2, hs, ?_⟩
    rw [hm]
    have e : upd (upd H q (.dK [])) q (.dK kvs) = upd H q (.dK kvs) := by
      funext a
      by_cases z : a = q
      · subst z; rw [upd_same, upd_same]
      · rw [upd_ne z, upd_ne z, upd_ne z]
    rw [e]
    exact new_dct t p.sr g1 hq
end Ev
set_option maxRecDepth 100000
set_option maxHeartbeats 8000000
/-! Ev, part T: list(zip(a, b)). -/
namespace Ev
open PySem PySem.Spec PyProof.Rows L2

/-- a zip object that has handed out the tuple at T -/
def ZipH (h : Heap) (z TI TO T : Addr) : Prop := (∃ b, h.get? z = some { cls := .type "zip", dict := none, data := .fields #[rawInt T, .bool b, .bool false, .ref TI, .ref TO], slots := #[] }) ∧ ∃ o, h.get? T = some o
section
variable {P : Program} {w : World} {A : Around} {E : Value → Shared → Prop} {s : Shared}
theorem alive {a : Addr} {Q : Option Obj → Shared → Prop} (h : Q (s.heap.get? a) s) : wpAny (model P w) A (loadIfAlive a) Q E s := fun Γ p hΓ => by
  unfold loadIfAlive
  rw [Sem.wp_loadIfAlive]
  exact h
theorem taken {z TI TO T : Addr} {Q : Bool → Shared → Prop} (hz : ZipH s.heap z TI TO T) (hT : T ≠ z) (h : ∀ h', ZipH h' z TI TO T → Heap.SameBut z s.heap h' → Q false { s with heap := h' }) : wpAny (model P w) A (Builtin.SmallTypes.ownedTupleIsFree (.ref z)) Q E s := by
  obtain ⟨⟨b, hz⟩, o, ho⟩ := hz
  unfold Builtin.SmallTypes.ownedTupleIsFree
  apply wpAny_bind
  apply wpAny_field hz rfl (x := rawInt T) rfl
  show wpAny _ _ (loadIfAlive (T : Int).toNat >>= _) _ _ _
  apply wpAny_bind
  apply alive
  have e : s.heap.get? (T : Int).toNat = some o := by rw [Int.toNat_natCast]; exact ho
  rw [e]
  show wpAny _ _ (field (.ref z) 1 >>= _) _ _ _
  apply wpAny_bind
  apply wpAny_field hz rfl (x := .bool b) rfl
  cases b with
  | true => exact wpAny_pure (h s.heap ⟨⟨true, hz⟩, o, ho⟩ ⟨rfl, fun _ _ => rfl⟩)
  | false =>
    show wpAny _ _ (setField (.ref z) 1 (.bool true) >>= _) _ _ _
    apply wpAny_bind
    apply wpAny_setField_rec hz (by simp)
    intro h' hz' sb
    exact wpAny_pure (h h' ⟨⟨true, hz'⟩, o, (sb.2 T hT).trans ho⟩ sb)
/-- the next pair, one handed out ahead still held -/
theorem next2 {z TI TO T i1 i2 l1 l2 : Addr} {k1 k2 : Nat} {xs ys : Array Value} {x y : Value} {Q : Option Value → Shared → Prop} (D : ZipApart z TI TO i1 i2 l1 l2) (hz : ZipH s.heap z TI TO T) (hT : T ≠ z) (hT1 : T ≠ i1) (hT2 : T ≠ i2) (hTI : IsPair s.heap TI (.ref i1) (.ref i2))
    (h1 : s.heap.IsListIter i1 l1 k1) (h2 : s.heap.IsListIter i2 l2 k2) (hl1 : s.heap.IsList l1 xs) (hl2 : s.heap.IsList l2 ys) (hx : xs[k1]? = some x) (hy : ys[k2]? = some y)
    (hQ : ∀ h', ZipH h' z TI TO T → h'.IsListIter i1 l1 (k1 + 1) → h'.IsListIter i2 l2 (k2 + 1) → IsPair h' s.heap.objs.size x y → (∀ c o, c ≠ z → c ≠ i1 → c ≠ i2 → s.heap.get? c = some o → h'.get? c = some o) → Q (some (.ref s.heap.objs.size)) { s with heap := h' }) :
    wpAny (model P w) A (pyNext (.ref z)) Q E s := by
  have ty : s.TypeIs (.ref z) "zip" := by
    obtain ⟨⟨b, e⟩, _⟩ := hz
    exact ⟨_, e, rfl⟩
  unfold pyNext
  apply wpAny_bind
  apply wpAny_attempt
  apply wpAny_callSpecial?_slot (name := Str.ofString "__next__") ty PySem.F.slot_zip_next
  apply wpAny_call_entry PySem.F.slot_zip_next ty PySem.F.entry_zip_next ?_ (PySem.F.args_zip_next_1 _)
  obtain ⟨b, ez⟩ := hz.1
  show wpAny _ _ (field (.ref z) 2 >>= _) _ _ _
  apply wpAny_bind
  apply wpAny_field ez rfl (x := .bool false) rfl
  show wpAny _ _ (field (.ref z) 3 >>= _) _ _ _
  apply wpAny_bind
  apply wpAny_field ez rfl (x := .ref TI) rfl
  apply wpAny_bind
  apply wpAny_seqItems hTI rfl
  show wpAny _ _ (Builtin.SmallTypes.ownedTupleIsFree (.ref z) >>= _) _ _ _
  apply wpAny_bind
  apply taken hz hT
  intro ha za sa
  simp only [Bool.false_eq_true, if_false]
  have h1a : ha.IsListIter i1 l1 k1 := h1.extBut sa.extBut D.i1z
  have h2a : ha.IsListIter i2 l2 k2 := h2.extBut sa.extBut D.i2z
  have l1a : ha.IsList l1 xs := hl1.extBut sa.extBut D.l1z
  have l2a : ha.IsList l2 ys := hl2.extBut sa.extBut D.l2z
  apply wpAny_bind
  simp only [List.forIn_toArray, List.forIn_cons, List.forIn_nil]
  apply wpAny_bind
  apply wpAny_bind
  apply wpAny_holding
  show wpAny _ _ (Builtin.SmallTypes.nextOf (.ref i1) >>= _) _ _ _
  apply wpAny_bind
  apply wpAny_nextOf_list_item h1a l1a hx
  intro hb h1b sb
  apply wpAny_pure
  apply wpAny_pure
  have h2b : hb.IsListIter i2 l2 k2 := h2a.extBut sb.extBut D.i12.symm
  have l2b : hb.IsList l2 ys := l2a.extBut sb.extBut D.l2i1
  apply wpAny_bind
  apply wpAny_bind
  apply wpAny_holding
  show wpAny _ _ (Builtin.SmallTypes.nextOf (.ref i2) >>= _) _ _ _
  apply wpAny_bind
  apply wpAny_nextOf_list_item h2b l2b hy
  intro hc h2c sc
  apply wpAny_pure
  apply wpAny_pure
  apply wpAny_pure
  show wpAny _ _ (newTuple [x, y] >>= _) _ _ _
  apply wpAny_bind
  refine wpAny_newTuple ?_ (by show 2 ≤ sizeLine; decide)
  have size : hc.objs.size = s.heap.objs.size := by rw [sc.1, sb.1, sa.1]
  have keep : ∀ c o, c ≠ z → c ≠ i1 → c ≠ i2 → s.heap.get? c = some o → (hc.push { cls := .type "tuple", data := .seq #[x, y] }).get? c = some o := fun c o c1 c2 c3 e => Heap.get?_push_of_some _ (by rw [sc.2 c c3, sb.2 c c2, sa.2 c c1]; exact e)
  apply wpAny_pure
  refine ⟨_, rfl, ?_⟩
  apply wpAny_pure
  have hz' : ZipH (hc.push { cls := .type "tuple", data := .seq #[x, y] }) z TI TO T := by
    obtain ⟨⟨b', e1⟩, o, e2⟩ := za
    refine ⟨⟨b', Heap.get?_push_of_some _ ?_⟩, o, Heap.get?_push_of_some _ ?_⟩
    · rw [sc.2 z D.i2z.symm, sb.2 z D.i1z.symm]; exact e1
    · rw [sc.2 T hT2, sb.2 T hT1]; exact e2
  have fin := hQ (hc.push { cls := .type "tuple", data := .seq #[x, y] }) hz' ((h1b.extBut sc.extBut D.i12).at fun o e => Heap.get?_push_of_some _ e) (h2c.at fun o e => Heap.get?_push_of_some _ e) (by rw [← size]; exact Heap.get?_push_size _ rfl) keep
  rw [← size] at fin
  exact fin
theorem end2 {z TI TO T i1 i2 l1 l2 : Addr} {k1 k2 : Nat} {xs ys : Array Value} {Q : Option Value → Shared → Prop} (hh : A.handled = none) (D : ZipApart z TI TO i1 i2 l1 l2) (hz : ZipH s.heap z TI TO T) (hT : T ≠ z) (hTI : IsPair s.heap TI (.ref i1) (.ref i2))
    (h1 : s.heap.IsListIter i1 l1 k1) (h2 : s.heap.IsListIter i2 l2 k2) (hl1 : s.heap.IsList l1 xs) (hl2 : s.heap.IsList l2 ys) (hend : xs[k1]? = none ∨ ys[k2]? = none)
    (hQ : ∀ h', (∀ c o, c ≠ z → c ≠ i1 → c ≠ i2 → s.heap.get? c = some o → h'.get? c = some o) → Q none { s with heap := h' }) :
    wpAny (model P w) A (pyNext (.ref z)) Q E s := by
  have ty : s.TypeIs (.ref z) "zip" := by
    obtain ⟨⟨b, e⟩, _⟩ := hz
    exact ⟨_, e, rfl⟩
  unfold pyNext
  apply wpAny_bind
  apply wpAny_attempt
  apply wpAny_callSpecial?_slot (name := Str.ofString "__next__") ty PySem.F.slot_zip_next
  apply wpAny_call_entry PySem.F.slot_zip_next ty PySem.F.entry_zip_next ?_ (PySem.F.args_zip_next_1 _)
  obtain ⟨b, ez⟩ := hz.1
  show wpAny _ _ (field (.ref z) 2 >>= _) _ _ _
  apply wpAny_bind
  apply wpAny_field ez rfl (x := .bool false) rfl
  show wpAny _ _ (field (.ref z) 3 >>= _) _ _ _
  apply wpAny_bind
  apply wpAny_field ez rfl (x := .ref TI) rfl
  apply wpAny_bind
  apply wpAny_seqItems hTI rfl
  show wpAny _ _ (Builtin.SmallTypes.ownedTupleIsFree (.ref z) >>= _) _ _ _
  apply wpAny_bind
  apply taken hz hT
  intro ha za sa
  simp only [Bool.false_eq_true, if_false]
  have h1a : ha.IsListIter i1 l1 k1 := h1.extBut sa.extBut D.i1z
  have h2a : ha.IsListIter i2 l2 k2 := h2.extBut sa.extBut D.i2z
  have l1a : ha.IsList l1 xs := hl1.extBut sa.extBut D.l1z
  have l2a : ha.IsList l2 ys := hl2.extBut sa.extBut D.l2z
  apply wpAny_bind
  simp only [List.forIn_toArray, List.forIn_cons, List.forIn_nil]
  apply wpAny_bind
  apply wpAny_bind
  apply wpAny_holding
  show wpAny _ _ (Builtin.SmallTypes.nextOf (.ref i1) >>= _) _ _ _
  apply wpAny_bind
  cases hx : xs[k1]? with
  | none =>
    apply wpAny_nextOf_list_end (A := A.in1) (show A.in1.handled = none from hh) h1a l1a hx
    intro hb e eb he
    obtain ⟨o, ho, hc⟩ := he
    refine wpAny_bind (wpAny_isInstance (T := "StopIteration") (b := true) ⟨o, ho, hc⟩ isSubtype_stop ?_)
    exact wpAny_pure (hQ _ fun c o c1 c2 c3 e => eb c o c2 ((sa.2 c c1).trans e))
  | some x =>
    have hy : ys[k2]? = none := by
      rcases hend with q | q
      · rw [hx] at q; cases q
      · exact q
    apply wpAny_nextOf_list_item h1a l1a hx
    intro hb h1b sb
    apply wpAny_pure
    apply wpAny_pure
    have h2b : hb.IsListIter i2 l2 k2 := h2a.extBut sb.extBut D.i12.symm
    have l2b : hb.IsList l2 ys := l2a.extBut sb.extBut D.l2i1
    apply wpAny_bind
    apply wpAny_bind
    apply wpAny_holding
    show wpAny _ _ (Builtin.SmallTypes.nextOf (.ref i2) >>= _) _ _ _
    apply wpAny_bind
    apply wpAny_nextOf_list_end (A := A.in1) (show A.in1.handled = none from hh) h2b l2b hy
    intro hc e ec he
    obtain ⟨o, ho, hcl⟩ := he
    refine wpAny_bind (wpAny_isInstance (T := "StopIteration") (b := true) ⟨o, ho, hcl⟩ isSubtype_stop ?_)
    exact wpAny_pure (hQ _ fun c o c1 c2 c3 e => ec c o c3 ((sb.2 c c2).trans ((sa.2 c c1).trans e)))
end

/-! ### the loop -/
/-- new pairs beside the list at p that takes them -/
inductive PN (p : Addr) (H0 : Hp) : Hp → List Addr → List (V × V) → Prop
  | nil : PN p H0 (upd H0 p (.lst [])) [] []
  | snoc {Hc : Hp} {ts : List Addr} {zs : List (V × V)} {T : Addr} {o : Obj} {x y : V} : PN p H0 Hc ts zs → Hc T = none → o.dict = none → PN p H0 (upd (upd Hc T (.frz o (.tup [x, y]))) p (.lst ((ts ++ [T]).map V.ref))) (ts ++ [T]) (zs ++ [(x, y)])
theorem PN.keep {p : Addr} {H0 Hc : Hp} {ts : List Addr} {zs : List (V × V)} (hp : H0 p = none) (h : PN p H0 Hc ts zs) : ∀ a o, H0 a = some o → Hc a = some o := by
  induction h with
  | nil => exact fun a o e => by rw [upd_ne (ne_of_none e hp)]; exact e
  | snoc h hT ho ih =>
    intro a o e
    rw [upd_ne (ne_of_none e hp), upd_ne (ne_of_none (ih a o e) hT)]
    exact ih a o e
theorem PN.list {p : Addr} {H0 Hc : Hp} {ts : List Addr} {zs : List (V × V)} (h : PN p H0 Hc ts zs) : Hc p = some (.lst (ts.map V.ref)) ∧ ts.length = zs.length := by
  induction h with
  | nil => exact ⟨upd_same, rfl⟩
  | snoc h hT ho ih => exact ⟨upd_same, by simp [ih.2]⟩
theorem PN.sql {K : PySem.W.Frag} {p a : Addr} {H0 Hc : Hp} {ts : List Addr} {zs : List (V × V)} {xs : List V} (hp : H0 p = none) (h : PN p H0 Hc ts zs) (q : SqL K H0 a xs) : SqL K Hc a xs := by
  rcases q with (q | ⟨o, q⟩) | q
  · exact .inl (.inl (h.keep hp a _ q))
  · exact .inl (.inr ⟨o, h.keep hp a _ q⟩)
  · exact .inr q
theorem line_dec (n : Nat) (h : n ≤ sizeLine) : n ≤ sizeLine := h
section
variable {X : Cx} {pins : List (Addr × Obj)} {σ : L2.St} {A : Around} {R : Result → Shared → Prop} {z TI TO i1 i2 a b S : Addr} {H1 : Hp} {xs ys : List V}
def ZSt (h : Heap) (S z TI TO i1 i2 : Addr) : Option Addr → Prop
  | none => IsZip h z TI TO .none
  | some T => ZipH h z TI TO T ∧ T ≠ z ∧ T ≠ i1 ∧ T ≠ i2 ∧ T ≠ S
theorem zl_loop (hh : A.handled = none) (D : ZipApart z TI TO i1 i2 a b) (hS : H1 S = none) (qx : SqL X.K H1 a xs) (qy : SqL X.K H1 b ys) (hz : (xs.zip ys).length ≤ sizeLine) (off : S ∉ [z, TI, TO, i1, i2]) :
    ∀ (k i : Nat) (s : Shared) (Hc : Hp) (ts : List Addr) (To : Option Addr), (xs.zip ys).length - i = k → i ≤ (xs.zip ys).length → Inv X pins σ Hc s → (∀ c ∈ [z, TI, TO, i1, i2], FpOk X pins Hc c) → ZSt s.heap S z TI TO i1 i2 To → IsPair s.heap TI (.ref i1) (.ref i2) → (∃ u v, IsPair s.heap TO u v) →
      s.heap.IsListIter i1 a i → s.heap.IsListIter i2 b i → PN S H1 Hc ts ((xs.zip ys).take i) →
      (∀ (s' : Shared) (Hc : Hp) (ts : List Addr), Inv X pins σ Hc s' → PN S H1 Hc ts (xs.zip ys) → R (.ok (.ret .none)) s') → codeAny (model X.prog X.w) A (.builtin "list.extend.loop" ⟨[.ref S, .ref z, .none], []⟩) R s := by
  intro k
  induction k with
  | zero =>
    intro i s Hc ts To ek hi I hf zst hTI hTO h1 h2 pn fin
    obtain rfl : i = (xs.zip ys).length := by omega
    rw [List.take_length] at pn
    obtain ⟨its, rv, p1, _⟩ := I.list (pn.sql hS qx)
    obtain ⟨its2, rv2, p2, _⟩ := I.list (pn.sql hS qy)
    have l1 := rv.length
    have l2 := rv2.length
    have hend : its.toArray[(xs.zip ys).length]? = none ∨ its2.toArray[(xs.zip ys).length]? = none := by
      rw [List.length_zip]
      by_cases q : xs.length ≤ ys.length
      · exact .inl (by simp; omega)
      · exact .inr (by simp; omega)
    apply codeAny_builtin PySem.F.entry_extend_loop
    rw [Around.under_plainId PySem.F.plain_extend_loop _]
    show wpAny _ A.in1 (pyNext (.ref z) >>= _) _ _ s
    apply wpAny_bind
    obtain ⟨u, v, hTO⟩ := hTO
    have done : ∀ h', (∀ c o, c ≠ z → c ≠ TO → c ≠ i1 → c ≠ i2 → s.heap.get? c = some o → h'.get? c = some o) → R (.ok (.ret .none)) { s with heap := h' } := fun h' keep =>
      fin _ Hc ts (I.turnedL (t' := s.toks) (ch := [z, TI, TO, i1, i2]) (fun c o hc e => keep c o (fun q => hc (by simp [q])) (fun q => hc (by simp [q])) (fun q => hc (by simp [q])) (fun q => hc (by simp [q])) e) hf) pn
    cases To with
    | none =>
      apply wpAny_pyNext_zip_end (show A.in1.handled = none from hh) D zst hTI hTO h1 h2 p1.isList p2.isList hend
      intro h' keep
      exact wpAny_pure (done h' keep)
    | some T =>
      apply end2 (show A.in1.handled = none from hh) D zst.1 zst.2.1 hTI h1 h2 p1.isList p2.isList hend
      intro h' keep
      exact wpAny_pure (done h' fun c o c1 _ c3 c4 e => keep c o c1 c3 c4 e)
  | succ k ih =>
    intro i s Hc ts To ek hi I hf zst hTI hTO h1 h2 pn fin
    have hlt : i < (xs.zip ys).length := by omega
    have hlt' := hlt
    rw [List.length_zip] at hlt'
    obtain ⟨its, rv, p1, _⟩ := I.list (pn.sql hS qx)
    obtain ⟨its2, rv2, p2, _⟩ := I.list (pn.sql hS qy)
    have hx : xs[i]? = some xs[i] := List.getElem?_eq_getElem (by omega)
    have hy : ys[i]? = some ys[i] := List.getElem?_eq_getElem (by omega)
    obtain ⟨u, hu, ru⟩ := rv.get hx
    obtain ⟨v, hv, rv'⟩ := rv2.get hy
    have hu' : its.toArray[i]? = some u := by simpa using hu
    have hv' : its2.toArray[i]? = some v := by simpa using hv
    obtain ⟨hl, hlen⟩ := pn.list
    have tl : ts.length = i := by rw [hlen, List.length_take]; omega
    have old : ∀ c ∈ [z, TI, TO, i1, i2], c < s.heap.objs.size := by
      intro c hc
      have zl : z < s.heap.objs.size := by
        cases To with
        | none => exact Heap.lt_size zst
        | some T => obtain ⟨⟨b', e⟩, _⟩ := zst.1; exact Heap.lt_size e
      obtain ⟨_, _, hTO⟩ := hTO
      obtain ⟨_, e1, _⟩ := h1
      obtain ⟨_, e2, _⟩ := h2
      have c' : c = z ∨ c = TI ∨ c = TO ∨ c = i1 ∨ c = i2 := by simpa using hc
      rcases c' with q | q | q | q | q <;> rw [q]
      · exact zl
      · exact Heap.lt_size hTI
      · exact Heap.lt_size hTO
      · exact Heap.lt_size e1
      · exact Heap.lt_size e2
    -- what stands behind the draw
    have turn : ∀ h' T', ZSt h' S z TI TO i1 i2 (some T') → IsPair h' TI (.ref i1) (.ref i2) → (∃ u v, IsPair h' TO u v) → h'.IsListIter i1 a (i + 1) → h'.IsListIter i2 b (i + 1) → IsPair h' s.heap.objs.size u v →
        (∀ c o, c ∉ [z, TI, TO, i1, i2] → s.heap.get? c = some o → h'.get? c = some o) →
        wpAny (model X.prog X.w) A.in1 (updateSeq S (·.push (.ref s.heap.objs.size)) >>= fun _ => again (.builtin "list.extend.loop" ⟨[.ref S, .ref z, .none], []⟩))
          (fun fin s' => match fin with | .done f => R (.ok f) s' | .again c' => c'.quiet = true ∧ codeAny (model X.prog X.w) A c' R s') (fun e s' => R (.error e) s') { s with heap := h' } := by
      intro h' T' zst' hTI' hTO' h1' h2' hT keep
      have new : ObjOk X.prog X.w (upd Hc s.heap.objs.size (.frz { cls := .type "tuple", data := .seq #[u, v] } (.tup [xs[i], ys[i]]))) h' s.heap.objs.size (.frz { cls := .type "tuple", data := .seq #[u, v] } (.tup [xs[i], ys[i]])) :=
        ⟨hT, by show 2 ≤ sizeLine; decide, [u, v], .cons ru (.cons rv' .nil), ⟨_, hT, rfl, _, rfl⟩⟩
      have free : Hc s.heap.objs.size = none := I.hok.fresh (Nat.le_refl _)
      have I1 := I.turnedNew (t' := s.toks) (ch := [z, TI, TO, i1, i2]) keep hf (Nat.le_refl _) new
      have hl1 : upd Hc s.heap.objs.size (.frz { cls := .type "tuple", data := .seq #[u, v] } (.tup [xs[i], ys[i]])) S = some (.lst (ts.map V.ref)) := by rw [upd_ne (ne_of_none hl free)]; exact hl
      obtain ⟨acc, n, ra, ho, hza⟩ := I1.lst hl1
      have la := ra.length
      rw [List.length_map] at la
      apply wpAny_bind
      refine wpAny_updateSeq ho rfl ?_ (by rw [List.size_toArray, ← la, tl]; omega) (by show (acc.toArray.push _).size ≤ sizeLine + 1; rw [Array.size_push, List.size_toArray, ← la, tl]; omega)
      have I2 := I1.lstUpd (f := Obj.mapSeq (·.push (.ref s.heap.objs.size))) (its' := acc ++ [.ref s.heap.objs.size]) (n' := n + 1) (ys := (ts ++ [s.heap.objs.size]).map V.ref) hl1 ho (by simp [Obj.mapSeq]) (by rw [List.map_append]; exact ra.append (.cons rfl .nil)) (by rw [List.length_map, List.length_append, tl]; simp; omega) s.toks
      have pn2 := pn.snoc (x := xs[i]) (y := ys[i]) (o := { cls := .type "tuple", data := .seq #[u, v] }) free rfl
      have ez : (xs.zip ys).take (i + 1) = (xs.zip ys).take i ++ [(xs[i], ys[i])] := by
        rw [List.take_succ, List.getElem?_eq_getElem hlt]
        simp
      rw [← ez] at pn2
      have offS : ∀ c ∈ [z, TI, TO, i1, i2], c ≠ S := fun c hc e => off (by rw [← e]; exact hc)
      have up : ∀ c o, c ≠ S → h'.get? c = some o → (h'.update S (Obj.mapSeq (·.push (.ref s.heap.objs.size)))).get? c = some o := fun c o hc e => (Heap.get?_update_other _ _ (Ne.symm hc)).trans e
      have mem : z ∈ [z, TI, TO, i1, i2] ∧ TI ∈ [z, TI, TO, i1, i2] ∧ TO ∈ [z, TI, TO, i1, i2] ∧ i1 ∈ [z, TI, TO, i1, i2] ∧ i2 ∈ [z, TI, TO, i1, i2] := by simp
      refine wpAny_pure ⟨plainId_quiet PySem.F.plain_extend_loop _, ih (i + 1) _ _ _ (some T') (by omega) hlt I2 ?_ ?_ (up _ _ (offS _ mem.2.1) hTI') ?_ (h1'.at fun o e => up _ o (offS _ mem.2.2.2.1) e) (h2'.at fun o e => up _ o (offS _ mem.2.2.2.2) e) pn2 fin⟩
      · intro c hc
        obtain ⟨f0, f1⟩ := hf c hc
        refine ⟨?_, f1⟩
        rw [upd_ne (offS c hc), upd_ne (Nat.ne_of_lt (old c hc))]
        exact f0
      · obtain ⟨⟨⟨b', e1⟩, o, e2⟩, q⟩ := zst'
        exact ⟨⟨⟨b', up _ _ (offS _ mem.1) e1⟩, o, up _ _ q.2.2.2 e2⟩, q⟩
      · obtain ⟨u', v', e⟩ := hTO'
        exact ⟨u', v', up _ _ (offS _ mem.2.2.1) e⟩
    apply codeAny_builtin PySem.F.entry_extend_loop
    rw [Around.under_plainId PySem.F.plain_extend_loop _]
    show wpAny _ A.in1 (pyNext (.ref z) >>= _) _ _ s
    apply wpAny_bind
    obtain ⟨u0, v0, hTO⟩ := hTO
    have sS : s.heap.objs.size ≠ S := fun e => by
      have free := I.hok.fresh (Nat.le_refl s.heap.objs.size)
      rw [e] at free
      rw [free] at hl
      cases hl
    have ne : ∀ {c}, c ∈ [z, TI, TO, i1, i2] → s.heap.objs.size ≠ c := fun hc => Nat.ne_of_gt (old _ hc)
    cases To with
    | none =>
      apply wpAny_pyNext_zip_item D zst hTI hTO h1 h2 p1.isList p2.isList hu' hv'
      intro h' z' TO' h1' h2' hT hsz keep
      refine turn h' _ ⟨⟨⟨false, z'⟩, _, hT⟩, ne (by simp), ne (by simp), ne (by simp), sS⟩ (keep _ _ D.TIz D.TITO D.TIi1 D.TIi2 hTI) ⟨_, _, TO'⟩ h1' h2' hT fun c o hc e => keep c o (fun q => hc (by simp [q])) (fun q => hc (by simp [q])) (fun q => hc (by simp [q])) (fun q => hc (by simp [q])) e
    | some T =>
      apply next2 D zst.1 zst.2.1 zst.2.2.1 zst.2.2.2.1 hTI h1 h2 p1.isList p2.isList hu' hv'
      intro h' z' h1' h2' hT keep
      refine turn h' T ⟨z', zst.2⟩ (keep _ _ D.TIz D.TIi1 D.TIi2 hTI) ⟨_, _, keep _ _ D.TOz D.TOi1 D.TOi2 hTO⟩ h1' h2' hT fun c o hc e => keep c o (fun q => hc (by simp [q])) (fun q => hc (by simp [q])) (fun q => hc (by simp [q])) e
end
end Ev
set_option maxRecDepth 100000
set_option maxHeartbeats 8000000
/-! Ev, part U: list(zip(a, b)), the rule. -/
namespace Ev
open PySem PySem.Spec PyProof.Rows L2

theorem zip_len : typeLookup (.type "zip") "__len__" = pure none := by rw [typeLookup_type, builtinLookup_eq_fast]; kernel_rfl
theorem zip_hint : typeLookup (.type "zip") "__length_hint__" = pure none := by rw [typeLookup_type, builtinLookup_eq_fast]; kernel_rfl
theorem boot_list' : bootBuiltins "list" = some (.type "list") := by decide +kernel
section
variable {X : Cx} {pins : List (Addr × Obj)} {σ : L2.St} {A : Around} {E : Value → Shared → Prop} {s : Shared} {z TI TO i1 i2 a b : Addr} {H1 : Hp} {xs ys : List V}
theorem list_zip {Q : Value → Shared → Prop} (hh : A.handled = none) (D : ZipApart z TI TO i1 i2 a b) (qx : SqL X.K H1 a xs) (qy : SqL X.K H1 b ys) (hz : (xs.zip ys).length ≤ sizeLine) (I : Inv X pins σ H1 s) (hf : ∀ c ∈ [z, TI, TO, i1, i2], FpOk X pins H1 c)
    (zst : IsZip s.heap z TI TO .none) (hTI : IsPair s.heap TI (.ref i1) (.ref i2)) (hTO : ∃ u v, IsPair s.heap TO u v) (h1 : s.heap.IsListIter i1 a 0) (h2 : s.heap.IsListIter i2 b 0)
    (fin : ∀ (s' : Shared) (Hc : Hp) (ts : List Addr) (p : Addr), H1 p = none → Inv X pins σ Hc s' → PN p H1 Hc ts (xs.zip ys) → Q (.ref p) s') : wpAny (model X.prog X.w) A (call (.type "list") [.ref z]) Q E s := by
  refine callType_codes (Q₁ := fun v s1 => v = .ref s.heap.objs.size ∧ s1 = { s with heap := s.heap.push { cls := .type "list", data := .seq #[] } }) PySem.F.called_list (PySem.F.typeCall_list_1 _) PySem.F.entry_list_init (code_list_new _ ⟨rfl, rfl⟩) ?_
  rintro v s1 ⟨rfl, rfl⟩
  have gotS : (s.heap.push { cls := .type "list", data := .seq #[] }).get? s.heap.objs.size = some { cls := .type "list", data := .seq #[] } := Heap.get?_push_size _ rfl
  refine ⟨⟨_, gotS, rfl⟩, PySem.F.args_list_init_2 _ _, ?_⟩
  have free : H1 s.heap.objs.size = none := I.hok.fresh (Nat.le_refl _)
  have old : ∀ {c o}, s.heap.get? c = some o → c ≠ s.heap.objs.size := fun e => Nat.ne_of_lt (Heap.lt_size e)
  generalize hS : s.heap.objs.size = S at *
  obtain ⟨u0, v0, hTO⟩ := hTO
  obtain ⟨o1, e1, c1, d1⟩ := h1
  obtain ⟨o2, e2, c2, d2⟩ := h2
  have off : S ∉ [z, TI, TO, i1, i2] := by
    intro m
    have m' : S = z ∨ S = TI ∨ S = TO ∨ S = i1 ∨ S = i2 := by simpa using m
    rcases m' with q | q | q | q | q
    · exact old zst q.symm
    · exact old hTI q.symm
    · exact old hTO q.symm
    · exact old e1 q.symm
    · exact old e2 q.symm
  -- the loop at any heap that has the new list empty
  have key : ∀ (h : Heap) (tk n : Nat), h.get? S = some { cls := .type "list", data := .seq #[] n } → (∀ c o, s.heap.get? c = some o → h.get? c = some o) →
      codeAny (model X.prog X.w) A.in1 (.builtin "list.extend.loop" ⟨[.ref S, .ref z, .none], []⟩) (wants (fun r s₂ => r = .none ∧ Q (.ref S) s₂) E) { s with heap := h, toks := tk } := by
    intro h tk n got keep
    have I1 : Inv X pins σ (upd H1 S (.lst [])) { s with heap := h, toks := tk } := I.laid (t' := tk) keep (by rw [hS]; exact Nat.le_refl _) ⟨Nat.zero_le _, [], n, .nil, got⟩
    refine zl_loop (A := A.in1) (show A.in1.handled = none from hh) D free qx qy hz off (xs.zip ys).length 0 _ _ [] none rfl (Nat.zero_le _) I1 ?_ (keep _ _ zst) (keep _ _ hTI) ⟨_, _, keep _ _ hTO⟩ ⟨o1, keep _ _ e1, c1, d1⟩ ⟨o2, keep _ _ e2, c2, d2⟩ (by rw [List.take_zero]; exact .nil) ?_
    · intro c hc
      obtain ⟨f0, f1⟩ := hf c hc
      refine ⟨?_, f1⟩
      rw [upd_ne (fun e => off (by rw [← e]; exact hc))]
      exact f0
    · intro s' Hc ts I' pn
      exact ⟨rfl, fin s' Hc ts S free I' pn⟩
  show wpAny _ A.in1.in1 (do let old ← Builtin.List.listItems (.ref S); Builtin.List.listUpdate (.ref S) (fun _ => #[]); letGo old.toList.reverse; Builtin.List.listExtendWith (.ref S) (.ref z) .none) _ _ _
  apply wpAny_bind
  unfold Builtin.List.listItems
  apply wpAny_bind
  apply wpAny_seqItems gotS rfl
  apply wpAny_pure
  show wpAny _ A.in1.in1 (updateSeq S (fun _ => #[]) >>= fun _ => letGo (#[] : Array Value).toList.reverse >>= fun _ => Builtin.List.listExtendWith (.ref S) (.ref z) .none) _ _ _
  apply wpAny_bind
  refine wpAny_updateSeq gotS rfl ?_
  apply wpAny_bind
  apply wpAny_letGo
  have gotS2 := Heap.get?_update_self (Obj.mapSeq (fun _ => (#[] : Array Value))) gotS rfl
  have keep2 : ∀ c o, s.heap.get? c = some o → ((s.heap.push { cls := .type "list", data := .seq #[] }).update S (Obj.mapSeq (fun _ => (#[] : Array Value)))).get? c = some o := fun c o e => (Heap.get?_update_other _ _ (Ne.symm (old e))).trans (Heap.get?_push_of_some _ e)
  generalize ((s.heap.push { cls := .type "list", data := .seq #[] }).update S (Obj.mapSeq (fun _ => (#[] : Array Value)))) = h2 at *
  have zst2 := keep2 _ _ zst
  have tz : ∀ tk, Shared.TypeIs { s with heap := h2, toks := tk } (.ref z) "zip" := fun _ => ⟨_, zst2, rfl⟩
  unfold Builtin.List.listExtendWith
  apply wpAny_bind
  apply wpAny_typeOf (T := "zip") (tz _)
  have n1 : Builtin.List.listSameRef (.ref S) (.ref z) = false := by
    have q : S ≠ z := fun e => off (by rw [e]; simp)
    simp [Builtin.List.listSameRef, q]
  have n2 : (Value.type "zip" == Value.type "list") = false := by decide
  have n3 : (Value.type "zip" == Value.type "tuple") = false := by decide
  simp only [n1, n2, n3, Bool.or_false, Bool.false_eq_true, if_false]
  apply wpAny_bind
  apply wpAny_pyIter_zip zst2
  apply wpAny_bind
  apply wpAny_holding
  unfold Builtin.List.listLengthHint
  apply wpAny_bind
  apply wpAny_specialOf (tz _) zip_len
  show wpAny _ _ (specialOf (Value.ref z) (Str.ofString "__length_hint__") >>= _) _ _ _
  apply wpAny_bind
  apply wpAny_specialOf (tz _) zip_hint
  apply wpAny_pure
  apply wpAny_ite_split
  · intro _
    apply wpAny_bind
    apply wpAny_rule
    apply wpAny_bind
    show wpAny _ _ (updateSeq S (·.push .none) >>= fun _ => updateSeq S (·.pop)) _ _ _
    apply wpAny_bind
    refine wpAny_updateSeq gotS2 rfl ?_
    have gotS3 := Heap.get?_update_self (Obj.mapSeq (·.push Value.none)) gotS2 rfl
    refine wpAny_updateSeq (hz := by seq_fits) gotS3 rfl ?_
    have gotS4 := Heap.get?_update_self (Obj.mapSeq (·.pop)) gotS3 rfl
    refine wpAny_pure ⟨plainId_quiet PySem.F.plain_extend_loop _, key _ _ _ gotS4 fun c o e => ?_⟩
    exact (Heap.get?_update_other _ _ (Ne.symm (old e))).trans ((Heap.get?_update_other _ _ (Ne.symm (old e))).trans (keep2 c o e))
  · intro _
    exact wpAny_pure ⟨plainId_quiet PySem.F.plain_extend_loop _, key _ _ _ gotS2 keep2⟩
end
section
variable {X : Cx} {a b : Expr} {p p2 q pos : Pos} {ta : TA}
theorem pe_lzip (hc : X.calm = true) (hg : Gl X "list") (hm : X.mg "list" = none) (hg2 : Gl X "zip") (hm2 : X.mg "zip" = none) (ha : PA X [a, b] ta) (hs : starEach [a, b] X.env = (false, eval a X.env) :: starEach [b] X.env) (hpl : (backTo q (starEach [b] X.env)).any (·.1) = false)
    (na : starEach [.Call (.Name "zip" p2) [a, b] [] q] X.env = (false, eval (.Call (.Name "zip" p2) [a, b] [] q) X.env) :: starEach [] X.env) :
    PE X (.Call (.Name "list" p) [.Call (.Name "zip" p2) [a, b] [] q] [] pos) fun σ H Q => ta σ H fun vs H1 => ∃ a b xs ys, vs = [.ref a, .ref b] ∧ SqL X.K H1 a xs ∧ SqL X.K H1 b ys ∧ (xs.zip ys).length ≤ sizeLine ∧ ∀ p Hc ts, H1 p = none → PN p H1 Hc ts (xs.zip ys) → Q (.ref p) Hc := by
  constructor
  intro pins s σ H Q I h
  refine Call_ (ld_blt I hg hm boot_list' ?_)
  refine PyProof.Rows.callWith_type1 (PyProof.Rows.args_cons ?_ na) na rfl
  refine Call_ (ld_blt I hg2 hm2 PyProof.Rows.boot_zip ?_)
  refine PyProof.Rows.callWith_type1 (thn (ha.run q pins s σ H _ I h) ?_) hs hpl
  rintro us s1 ⟨vs, H1, I1, r1, a, b, xs, ys, rfl, qx, qy, hz, q1⟩
  cases r1 with
  | cons r rr =>
    cases rr with
    | cons r' rr =>
      cases rr
      cases r
      cases r'
      obtain ⟨its, rv, p1, _⟩ := I1.list qx
      obtain ⟨its2, rv2, p2, _⟩ := I1.list qy
      apply call_zip_2 p1.isList p2.isList
      intro h' hz' hTI hTO h1 h2 hsz keep
      apply PyProof.Rows.args_nil
      have I2 : Inv X pins σ H1 { s1 with heap := h' } := I1.kept (t' := s1.toks) keep
      have fresh : ∀ c ∈ [s1.heap.objs.size + 4, s1.heap.objs.size + 2, s1.heap.objs.size + 3, s1.heap.objs.size, s1.heap.objs.size + 1], FpOk X pins H1 c := by
        intro c hc
        have hle : s1.heap.objs.size ≤ c := by
          have c' : c = s1.heap.objs.size + 4 ∨ c = s1.heap.objs.size + 2 ∨ c = s1.heap.objs.size + 3 ∨ c = s1.heap.objs.size ∨ c = s1.heap.objs.size + 1 := by simpa using hc
          rcases c' with e | e | e | e | e <;> rw [e] <;> first | exact Nat.le_add_right _ _ | exact Nat.le_refl _
        exact I1.fpOk hle (I1.hok.fresh hle)
      exact list_zip (I1.ok.hd hc) (PySem.W.ktu_apart s1.heap.objs.size a b p1.lt p2.lt) qx qy hz I2 fresh hz' hTI ⟨_, _, hTO⟩ h1 h2 fun s' Hc ts p hp I' pn => ⟨.ref p, Hc, I', rfl, q1 p Hc ts hp pn⟩
end

/-! ### its meaning -/
section
variable {K : PySem.W.Frag} {Oc : Own} {φ : Fi} {H H' : Hp} {st : Store}
theorem Stp.ext (k : ∀ a o, H a = some o → H' a = some o) : Stp φ φ H H' where
  len := Nat.le_refl _
  old := fun n x e => .inl e
  new := fun n a hn e => by
    have := (List.getElem?_eq_some_iff.mp e).1
    omega
  keep := fun a o e _ => k a o e
  tup := fun a xs e => k a _ e
  frz := fun a o u e => k a _ e
  there := fun a e => by
    cases q : H a with
    | none => exact absurd q e
    | some o => rw [k a o q]; exact fun z => by cases z
theorem SR.ext (s : SR K Oc φ H st) (k : ∀ a o, H a = some o → H' a = some o) : SR K Oc φ H' st where
  len := s.len
  nd := s.nd
  oc := fun a ha => by
    obtain ⟨h1, h2, h3, h4⟩ := s.oc a ha
    cases q : H a with
    | none => exact absurd q h1
    | some o =>
      rw [q] at h3 h4
      rw [k a o q]
      exact ⟨fun z => (by cases z), h2, h3, h4⟩
  live := fun n a e => by
    obtain ⟨c, h1, h2⟩ := s.live n a e
    exact ⟨c, h1, h2.step (Stp.ext k) fun o z => k a o z⟩
  dead := s.dead
theorem repDs_get {O : Own} : ∀ {ds : List D} {vs : List V}, vs.length = ds.length → (∀ (j : Nat) d, ds[j]? = some d → ∃ v, vs[j]? = some v ∧ RepD K O H v d) → RepDs K O H vs ds
  | [], vs, hl, h => List.length_eq_zero_iff.mp hl
  | d :: ds, vs, hl, h => by
    obtain ⟨v, hv, r⟩ := h 0 d rfl
    cases vs with
    | nil => cases hv
    | cons w ws =>
      cases hv
      refine ⟨v, ws, rfl, r, repDs_get (by simpa using hl) fun j e he => ?_⟩
      obtain ⟨u, hu, ru⟩ := h (j + 1) e (by simpa using he)
      exact ⟨u, by simpa using hu, ru⟩
end
theorem PN.at_ {p : Addr} {H0 Hc : Hp} {ts : List Addr} {zs : List (V × V)} (h : PN p H0 Hc ts zs) : ∀ (j : Nat) (x y : V), zs[j]? = some (x, y) → ∃ T o, ts[j]? = some T ∧ Hc T = some (.frz o (.tup [x, y])) ∧ o.dict = none := by
  induction h with
  | nil => intro j x y e; simp at e
  | @snoc Hc ts zs T o x y h hT ho ih =>
    intro j x' y' e
    obtain ⟨hl, hlen⟩ := h.list
    have pT : p ≠ T := fun z => by rw [z, hT] at hl; cases hl
    by_cases hj : j < zs.length
    · rw [List.getElem?_append_left hj] at e
      obtain ⟨T', o', h1, h2, h3⟩ := ih j x' y' e
      refine ⟨T', o', ?_, ?_, h3⟩
      · rw [List.getElem?_append_left (by rw [hlen]; exact hj)]; exact h1
      · rw [upd_ne (fun z => by rw [z, hl] at h2; cases h2), upd_ne (fun z => by rw [z, hT] at h2; cases h2)]; exact h2
    · rw [List.getElem?_append_right (Nat.le_of_not_lt hj)] at e
      have e0 : j - zs.length = 0 := by
        have := (List.getElem?_eq_some_iff.mp e).1
        simp at this
        exact this
      rw [e0] at e
      simp at e
      obtain ⟨rfl, rfl⟩ := e
      refine ⟨T, o, ?_, ?_, ho⟩
      · rw [List.getElem?_append_right (by omega)]
        have : j - ts.length = 0 := by omega
        rw [this]; rfl
      · rw [upd_ne (Ne.symm pT), upd_same]
def tupUp : List D → List D → List D
  | x :: xs, y :: ys => .tup [x, y] :: tupUp xs ys
  | _, _ => []
theorem tupUp_len : ∀ xs ys : List D, (tupUp xs ys).length = min xs.length ys.length
  | [], ys => by simp [tupUp]
  | x :: xs, [] => by simp [tupUp]
  | x :: xs, y :: ys => by simp [tupUp, tupUp_len xs ys]
theorem tupUp_get : ∀ {xs ys : List D} {i : Nat} {z : D}, (tupUp xs ys)[i]? = some z → ∃ x y, xs[i]? = some x ∧ ys[i]? = some y ∧ z = .tup [x, y]
  | [], ys, i, z, h => by simp [tupUp] at h
  | x :: xs, [], i, z, h => by simp [tupUp] at h
  | x :: xs, y :: ys, 0, z, h => by
    simp [tupUp] at h
    exact ⟨x, y, by simp, by simp, h.symm⟩
  | x :: xs, y :: ys, i + 1, z, h => by
    simp only [tupUp, List.getElem?_cons_succ] at h ⊢
    exact tupUp_get h
def lzipV (x y : Val) : M Val := listV x >>= fun vs => datas vs >>= fun xs => listV y >>= fun us => datas us >>= fun ys => if xs.length ≤ lineLen then M.pure (.d (.lst (tupUp xs ys))) else M.bad
def mLzip (m n : Env → M Val) : Env → M Val := fun ρ => m ρ >>= fun x => n ρ >>= fun y => lzipV x y
section
variable {X : Cx} {C : Cn} {a b : Expr} {p p2 q pos : Pos} {m n : Env → M Val}
theorem s_lzip (hK : C.K = X.K) (hc : X.calm = true) (hg : Gl X "list") (hm : X.mg "list" = none) (hg2 : Gl X "zip") (hm2 : X.mg "zip" = none) (ha : PE X a (tE C m)) (hb : PE X b (tE C n)) (hs : noStar a = true) (hs2 : noStar b = true) :
    PE X (.Call (.Name "list" p) [.Call (.Name "zip" p2) [a, b] [] q] [] pos) (tE C (mLzip m n)) :=
  imp_e (pe_lzip hc hg hm hg2 hm2 (pa_cons ha (pa_cons hb pa_nil (star_one hs2 [] X.env)) (star_one hs [b] X.env)) (star_one hs [b] X.env) (by rw [star_one hs2 [] X.env]; rfl) (star_one rfl [] X.env)) fun σ H Q t => by
    obtain ⟨Oc, φ, st, ρ, p, t⟩ := tM.two (rp := rV C) t
    refine ⟨Oc, φ, st, ρ, p, t.mono fun v H1 t => ?_⟩
    obtain ⟨Oc, φ, st, ρ, p, t⟩ := t
    refine ⟨Oc, φ, st, ρ, p, t.mono fun u H2 ⟨Oc, φ, st, ρ, x, y, p, r, r', h⟩ => ?_⟩
    unfold lzipV at h
    obtain ⟨a1, vs, xs, e1, q1, z1, h⟩ := listV_ok p.sr r h
    obtain ⟨ds, ed, h2⟩ := datas_go h
    clear h
    subst ed
    obtain ⟨a2, us, ys, e2, q2, z2, h3⟩ := listV_ok p.sr r' h2
    obtain ⟨es, ee, h4⟩ := datas_go h3
    clear h2 h3
    subst ee
    have r1 := z1.to_D
    have r2 := z2.to_D
    by_cases hz : ds.length ≤ lineLen
    · rw [if_pos hz] at h4
      refine ⟨a1, a2, vs, us, by rw [e1, e2], by rw [← hK]; exact SqL.of q1, by rw [← hK]; exact SqL.of q2, by rw [List.length_zip, r1.length, ← line_eq]; omega, fun l Hc ts hl pn => ?_⟩
      have k := pn.keep hl
      have t := Stp.ext (φ := φ) k
      have g := t.grow (K := C.K) (Oc := Oc)
      obtain ⟨l1, l2⟩ := pn.list
      refine h4 φ Hc (.ref l) t (p.sr.ext k) ⟨l, _, rfl, fun z => ?_, l1, repDs_get ?_ fun j d hd => ?_⟩
      · rcases z with z | z
        · exact (p.sr.oc l z).1 hl
        · obtain ⟨n, e⟩ := List.mem_iff_getElem?.mp z
          rcases p.sr.there e with ⟨_, q⟩ | ⟨_, q⟩ <;> (rw [hl] at q; cases q)
      · rw [List.length_map, l2, List.length_zip, tupUp_len, r1.length, r2.length]
      · obtain ⟨x0, y0, g1, g2, rfl⟩ := tupUp_get hd
        obtain ⟨v0, f1, f2⟩ := r1.get g1
        obtain ⟨u0, f3, f4⟩ := r2.get g2
        obtain ⟨T, o, j1, j2, j3⟩ := pn.at_ j v0 u0 (by rw [List.getElem?_zip_eq_some]; exact ⟨f1, f3⟩)
        refine ⟨.ref T, by rw [List.getElem?_map, j1]; rfl, T, [v0, u0], rfl, .inl ⟨o, j2, j3⟩, ?_⟩
        exact ⟨v0, [u0], rfl, RepD.grow g f2, u0, [], rfl, RepD.grow g f4, rfl⟩
    · rw [if_neg hz] at h4
      exact h4.elim
end
end Ev
set_option maxRecDepth 100000
set_option maxHeartbeats 8000000
/-! Ev, part V: dicts of the module with text keys; what the top leaves. -/
namespace Ev
open PySem PySem.Spec PyProof.Rows L2

/-- what .get is to show of the dict at a -/
def tabB (K : PySem.W.Frag) (a : Addr) (tab : List (Str × Option D)) : Bool := tab.all fun q => match PySem.W.nsIn K a q.1, q.2 with
  | some none, none => true
  | some (some u), some x => plainD x && He.relB (cV x) u
  | _, _ => false
structure KTab (K : PySem.W.Frag) (w : World) (d : Addr) (tab : List (Str × Option D)) : Prop where
  kd : ∃ es n, KDict K w d es n
  vals : tabB K d tab = true
theorem KTab.look {K : PySem.W.Frag} {w : World} {d : Addr} {tab : List (Str × Option D)} (h : KTab K w d tab) {z : Str} {r : Option D} (hz : tab.lookup z = some r) : (r = none ∧ PySem.W.nsIn K d z = some none) ∨ ∃ x u, r = some x ∧ PySem.W.nsIn K d z = some (some u) ∧ plainD x = true ∧ RelV (cV x) u := by
  have q := List.all_eq_true.mp h.vals (z, r) (PySem.mem_of_lookup hz)
  simp only at q
  cases e : PySem.W.nsIn K d z with
  | none => rw [e] at q; cases q
  | some o =>
    rw [e] at q
    cases o with
    | none =>
      cases r with
      | none => exact .inl ⟨rfl, rfl⟩
      | some x => cases q
    | some u =>
      cases r with
      | none => cases q
      | some x =>
        simp only [Bool.and_eq_true] at q
        exact .inr ⟨x, u, rfl, rfl, q.1, He.relB_ok q.2⟩
def kgetV (tab : List (Str × Option D)) (k y : Val) : M Val := strV k >>= fun z => match tab.lookup z with
  | some (some x) => M.pure (.d x)
  | some none => M.pure y
  | none => M.bad
def mKget2 (tab : List (Str × Option D)) (n l : Env → M Val) : Env → M Val := fun ρ => n ρ >>= fun k => l ρ >>= fun y => kgetV tab k y
def mKget1 (tab : List (Str × Option D)) (n : Env → M Val) : Env → M Val := fun ρ => n ρ >>= fun k => kgetV tab k (.d .non)
section
variable {X : Cx} {C : Cn} {x : Str} {p apos cpos : Pos} {e f : Expr} {d : Addr} {tab : List (Str × Option D)} {me mf : Env → M Val} {te tf : TE}
theorem kd_at {pins : List (Addr × Obj)} {σ : L2.St} {H : Hp} {s : Shared} (I : Inv X pins σ H s) (k : KTab X.K X.w d tab) : s.TypeIs (.ref d) "dict" ∧ ∀ b, Value.ref d = .ref b → ∃ ob, s.heap.get? b = some ob ∧ ob.dict = none := by
  obtain ⟨es, n, D⟩ := k.kd
  have e := I.kIn d _ D.at_
  exact ⟨⟨_, e, rfl⟩, fun b q => by cases q; exact ⟨_, e, rfl⟩⟩
theorem pe_kget2 (k : KTab X.K X.w d tab) (hg : Gl X x) (hm : X.mg x = some (.ref d)) (hd : (x == ("__debug__" : Str)) = false) (he : PE X e te) (hf : PE X f tf) (m : M2 X (.Name x p) "get" apos e f cpos) :
    PE X (.Call (.Attribute (.Name x p) "get" apos) [e, f] [] cpos) fun σ H Q => te σ H fun y H1 => tf σ H1 fun w H2 => ∃ (z : Str) (r : Option D), y = .str z ∧ tab.lookup z = some r ∧ Q (match r with | some q => cV q | none => w) H2 := by
  constructor
  intro pins s σ H Q I h
  refine wpAny_Call_method m.base m.few m.line PySem.F.plainAttrs_dict PySem.F.slot_dict_get PySem.F.type_dict_get (thn ((pe_glob (v := .ref d) hg hm rfl hd).run pins s σ H (fun y H' => y = .ref d ∧ H' = H) I ⟨rfl, rfl⟩) ?_)
  rintro u s1 ⟨_, _, I1, rx, rfl, rfl⟩
  cases (show u = Value.ref d from rx)
  obtain ⟨t1, t2⟩ := kd_at I1 k
  refine ⟨t1, t2, ?_⟩
  rw [m.trees]
  refine Calls.callWith_builtin rfl (Calls.evalArgs_plain (Calls.spliced_cons (thn (he.run pins s1 σ _ _ I1 h) ?_)))
  rintro iv s2 ⟨y, H2, I2, ry, q2⟩
  refine Calls.spliced_cons (thn (hf.run pins s2 σ H2 _ I2 q2) ?_)
  rintro fv s3 ⟨w, H3, I3, rw', z, r, rfl, hz, q3⟩
  apply Calls.spliced_nil
  obtain ⟨t, rfl⟩ := ry
  obtain ⟨es, n, D⟩ := k.kd
  have mp := PySem.W.mapOf_K (prog := X.prog) (w := X.w) I3.kIn D.at_ D.lit
  refine call_meetsIn PySem.F.slot_dict_get (kd_at I3 k).1 PySem.F.entry_dict_get (PySem.F.args_dict_get_3 _ _ _) (meets_dict_get_default (PySem.strKind X.prog X.w) d (PySem.strKind_is _ _ z t) D.low fv) ⟨_, mp, ?_⟩
  rcases k.look hz with ⟨rfl, e0⟩ | ⟨q, u, rfl, e0, _, ru⟩
  · rw [PySem.W.find_K D.at_ e0]
    exact ⟨w, H3, I3.tok _, rw', q3⟩
  · rw [PySem.W.find_K D.at_ e0]
    exact ⟨cV q, H3, I3.tok _, ru, q3⟩
theorem pe_kget1 (k : KTab X.K X.w d tab) (hg : Gl X x) (hm : X.mg x = some (.ref d)) (hd : (x == ("__debug__" : Str)) = false) (he : PE X e te) (m : M1 X (.Name x p) "get" apos e cpos) :
    PE X (.Call (.Attribute (.Name x p) "get" apos) [e] [] cpos) fun σ H Q => te σ H fun y H1 => ∃ (z : Str) (r : Option D), y = .str z ∧ tab.lookup z = some r ∧ Q (match r with | some q => cV q | none => .non) H1 := by
  constructor
  intro pins s σ H Q I h
  refine wpAny_Call_method m.base m.few m.line PySem.F.plainAttrs_dict PySem.F.slot_dict_get PySem.F.type_dict_get (thn ((pe_glob (v := .ref d) hg hm rfl hd).run pins s σ H (fun y H' => y = .ref d ∧ H' = H) I ⟨rfl, rfl⟩) ?_)
  rintro u s1 ⟨_, _, I1, rx, rfl, rfl⟩
  cases (show u = Value.ref d from rx)
  obtain ⟨t1, t2⟩ := kd_at I1 k
  refine ⟨t1, t2, ?_⟩
  rw [m.trees]
  refine Calls.callWith_builtin rfl (Calls.evalArgs_plain (Calls.spliced_cons (thn (he.run pins s1 σ _ _ I1 h) ?_)))
  rintro iv s2 ⟨y, H2, I2, ry, z, r, rfl, hz, q3⟩
  apply Calls.spliced_nil
  obtain ⟨t, rfl⟩ := ry
  obtain ⟨es, n, D⟩ := k.kd
  have mp := PySem.W.mapOf_K (prog := X.prog) (w := X.w) I2.kIn D.at_ D.lit
  refine call_meetsIn PySem.F.slot_dict_get (kd_at I2 k).1 PySem.F.entry_dict_get (PySem.F.args_dict_get_2 _ _) (meets_dict_get (PySem.strKind X.prog X.w) d (PySem.strKind_is _ _ z t) D.low) ⟨_, mp, ?_⟩
  rcases k.look hz with ⟨rfl, e0⟩ | ⟨q, u, rfl, e0, _, ru⟩
  · rw [PySem.W.find_K D.at_ e0]
    exact ⟨.non, H2, I2.tok _, rfl, q3⟩
  · rw [PySem.W.find_K D.at_ e0]
    exact ⟨cV q, H2, I2.tok _, ru, q3⟩
theorem kget_ok {Oc : Own} {φ : Fi} {H : Hp} {st : Store} {σ : Sl} {v w : V} {k y : Val} {Q : VK} {K : PySem.W.Frag} {W : World} (kt : KTab K W d tab) (s : SR C.K Oc φ H st) (r : RepV C.K Oc φ H v k) (r' : RepV C.K Oc φ H w y) (h : Aft C Oc (rV C Oc) (kgetV tab k y st) φ H σ Q) :
    ∃ (z : Str) (r : Option D), v = .str z ∧ tab.lookup z = some r ∧ Q (match r with | some q => cV q | none => w) H := by
  unfold kgetV at h
  obtain ⟨z, e, h⟩ := strV_ok r h
  cases hz : tab.lookup z with
  | none => rw [hz] at h; exact h.elim
  | some o =>
    rw [hz] at h
    refine ⟨z, o, e, hz, ?_⟩
    cases o with
    | none => exact Aft.ok h s r'
    | some q =>
      rcases kt.look hz with ⟨e0, _⟩ | ⟨q', u, e0, _, pl, _⟩
      · cases e0
      · cases e0
        exact Aft.ok h s (show RepV C.K Oc φ H (cV q) (.d q) from rep_c pl)
theorem s_kget2 (k : KTab X.K X.w d tab) (hg : Gl X x) (hm : X.mg x = some (.ref d)) (hd : (x == ("__debug__" : Str)) = false) (he : PE X e (tE C me)) (hf : PE X f (tE C mf)) (m : M2 X (.Name x p) "get" apos e f cpos) :
    PE X (.Call (.Attribute (.Name x p) "get" apos) [e, f] [] cpos) (tE C (mKget2 tab me mf)) :=
  imp_e (pe_kget2 k hg hm hd he hf m) fun σ H Q t => by
    obtain ⟨Oc, φ, st, ρ, p, t⟩ := tM.two (rp := rV C) t
    refine ⟨Oc, φ, st, ρ, p, t.mono fun v H1 t => ?_⟩
    obtain ⟨Oc, φ, st, ρ, p, t⟩ := t
    exact ⟨Oc, φ, st, ρ, p, t.mono fun u H2 ⟨Oc, φ, st, ρ, x, y, p, r, r', h⟩ => kget_ok k p.sr r r' h⟩
theorem s_kget1 (k : KTab X.K X.w d tab) (hg : Gl X x) (hm : X.mg x = some (.ref d)) (hd : (x == ("__debug__" : Str)) = false) (he : PE X e (tE C me)) (m : M1 X (.Name x p) "get" apos e cpos) :
    PE X (.Call (.Attribute (.Name x p) "get" apos) [e] [] cpos) (tE C (mKget1 tab me)) :=
  imp_e (pe_kget1 k hg hm hd he m) fun σ H Q t => by
    obtain ⟨Oc, φ, st, ρ, p, t⟩ := tM.one (rp := rV C) t
    exact ⟨Oc, φ, st, ρ, p, t.mono fun v H1 ⟨Oc, φ, st, ρ, x, p, r, h⟩ => kget_ok (w := .non) k p.sr r (show RepV C.K Oc φ H1 .non (.d .non) from rfl) h⟩
end

/-! ### what the top leaves -/
/-- where, the keys in order, what .get shows -/
abbrev KTb : Type := (PySem.W.Frag → Addr) × List Str × List (Str × Option D)
abbrev AlE : Type := He.AlD × List (Option (List (Option (Str × Int)))) × Bool
def obsE (fa : List He.Fa) (fn : List He.DefD) (ts : List KTb) (K : PySem.W.Frag) : AlE := (He.obsD fa fn K, ts.map fun t => He.dicW K (t.1 K), ts.all fun t => tabB K (t.1 K) t.2.2)
def valE (fn : List He.DefD) (ts : List KTb) (w : World) : AlE := (He.valD fn, ts.map fun t => some (He.keysIn w.params t.2.1), true)
def obsEG (n : Nat) (fa : List He.Fa) (fn : List He.DefD) (ts : List KTb) (g : Addr → Option Obj) : AlE := obsE fa fn ts (He.frG g (He.asD g n))
def SaysE (fa : List He.Fa) (fn : List He.DefD) (ts : List KTb) (w : World) (K : PySem.W.Frag) : Prop := obsE fa fn ts K = valE fn ts w
def hookE (n : Nat) (fa : List He.Fa) (fn : List He.DefD) (ts : List KTb) : PySem.W.Hook where
  α := AlE
  obs := fun s => obsEG n fa fn ts s.heap.get?
  val := fun w => valE fn ts w
  says := fun w h => ∃ K : PySem.W.Frag, K.In h ∧ SaysE fa fn ts w K
  of := fun _ _ e => ⟨_, He.frG_in, e⟩
  keeps := fun _ _ _ ⟨K, hK, c⟩ k => ⟨K, PySem.W.Frag.In.keeps hK k, c⟩
theorem obsEG_eq {n : Nat} {fa : List He.Fa} {fn : List He.DefD} {ts : List KTb} {g : Addr → Option Obj} {s : Shared} (h : ∀ a, g a = s.heap.get? a) : obsEG n fa fn ts g = (hookE n fa fn ts).obs s := by
  have e : g = s.heap.get? := funext h
  rw [e]
  rfl
section
variable {fa : List He.Fa} {fn : List He.DefD} {ts : List KTb} {w : World} {K : PySem.W.Frag}
theorem SaysE.d (c : SaysE fa fn ts w K) : He.SaysD fa fn K := congrArg (fun z : AlE => z.1) c
theorem SaysE.tab (c : SaysE fa fn ts w K) (i : Nat) {t : KTb} (h : ts[i]? = some t) : KTab K w (t.1 K) t.2.2 := by
  have e : ts.map (fun t => He.dicW K (t.1 K)) = ts.map fun t => some (He.keysIn w.params t.2.1) := congrArg (fun z : AlE => z.2.1) c
  have e2 : (ts.map fun t => He.dicW K (t.1 K))[i]? = (ts.map fun t => some (He.keysIn w.params t.2.1))[i]? := by rw [e]
  rw [List.getElem?_map, List.getElem?_map, h] at e2
  have e3 : (ts.all fun t => tabB K (t.1 K) t.2.2) = true := congrArg (fun z : AlE => z.2.2) c
  exact ⟨He.dicW_ok (Option.some.inj e2), List.all_eq_true.mp e3 t (List.mem_of_getElem? h)⟩
end
end Ev
set_option maxRecDepth 100000
set_option maxHeartbeats 8000000
/-! Ev, part W: the rules as a printer uses them. -/
namespace Ev
open PySem PySem.Spec PyProof.Rows L2

/-! ### side conditions -/

/-- what every body is walked with -/
structure Bd (X : Cx) (C : Cn) (k : Nat) : Prop where
  hK : C.K = X.K
  hc : X.calm = true
  hg : X.A.guards = some []
  hr : Room k X.A
  hu : X.A.units + 1100 < cLine
theorem Bd.blk {X : Cx} {C : Cn} {k : Nat} (B : Bd X C k) (s : Shared) (H : Hp) (scope : Scope) (ce : PySem.Env) (fp : List Addr) : Bd (X.blk s H scope ce fp) C.nx k := ⟨B.hK, B.hc, B.hg, B.hr, B.hu⟩

theorem Bd.blk' {X : Cx} {C : Cn} {k : Nat} (B : Bd X C k) (s : Shared) (H : Hp) (scope : Scope) (ce : PySem.Env) (fp : List Addr) : Bd (X.blk s H scope ce fp) C k := ⟨B.hK, B.hc, B.hg, B.hr, B.hu⟩

/-! ### one and two arguments -/
def mB1 (f : Val → M Val) (m : Env → M Val) : Env → M Val := fun ρ => m ρ >>= f
def mB2 (f : Val → Val → M Val) (m n : Env → M Val) : Env → M Val := fun ρ => m ρ >>= fun x => n ρ >>= fun y => f x y
theorem one_eq (f : List Val → M Val) (m : Env → M Val) : (fun ρ => mCons m mNil ρ >>= f) = mB1 (fun x => f [x]) m := by
  funext ρ
  unfold mCons mB1
  rw [M.assoc]
  rfl
theorem two_eq (f : List Val → M Val) (m n : Env → M Val) : (fun ρ => mCons m (mCons n mNil) ρ >>= f) = mB2 (fun x y => f [x, y]) m n := by
  funext ρ
  unfold mCons mB2
  rw [M.assoc]
  congr 1
  funext x
  rw [M.assoc]
  show (n ρ >>= fun y => M.pure [y]) >>= (fun xs => M.pure (x :: xs) >>= f) = _
  rw [M.assoc]
  rfl
section
variable {X : Cx} {C : Cn} {k : Nat} {a b : Expr} {p pos : Pos} {m n : Env → M Val}
theorem b_len (B : Bd X C k) (hm : X.mg "len" = none) (ha : PE X a (tE C m)) (hg : Gl X "len" := by rfl) (hs : noStar a = true := by rfl) : PE X (.Call (.Name "len" p) [a] [] pos) (tE C (mB1 lenV m)) := by
  have h := s_callB (C := C) (f := biV .len) call_len (by rw [← B.hK]; exact f_len) hg hm PySem.boot_len (s_cons (m := m) ha s_nil (star_one hs [] X.env)) (by decide) (by decide) (by simp [hs]) (p := p) (pos := pos)
  rw [one_eq] at h
  exact h
theorem b_sum (B : Bd X C k) (hm : X.mg "sum" = none) (ha : PE X a (tE C m)) (hg : Gl X "sum" := by rfl) (hs : noStar a = true := by rfl) : PE X (.Call (.Name "sum" p) [a] [] pos) (tE C (mB1 (fun x => biV .sum [x]) m)) := by
  have h := s_callB (C := C) (f := biV .sum) (cr_sum B.hc) (by rw [← B.hK]; exact f_sum) hg hm PyProof.Rows.boot_sum (s_cons (m := m) ha s_nil (star_one hs [] X.env)) (by decide) (by decide) (by simp [hs]) (p := p) (pos := pos)
  rw [one_eq] at h
  exact h
theorem b_all (B : Bd X C k) (hm : X.mg "all" = none) (ha : PE X a (tE C m)) (hg : Gl X "all" := by rfl) (hs : noStar a = true := by rfl) : PE X (.Call (.Name "all" p) [a] [] pos) (tE C (mB1 (fun x => biV .all [x]) m)) := by
  have h := s_callB (C := C) (f := biV .all) (cr_all B.hc) (by rw [← B.hK]; exact f_all) hg hm PyProof.Rows.boot_all (s_cons (m := m) ha s_nil (star_one hs [] X.env)) (by decide) (by decide) (by simp [hs]) (p := p) (pos := pos)
  rw [one_eq] at h
  exact h
theorem b_any (B : Bd X C k) (hm : X.mg "any" = none) (ha : PE X a (tE C m)) (hg : Gl X "any" := by rfl) (hs : noStar a = true := by rfl) : PE X (.Call (.Name "any" p) [a] [] pos) (tE C (mB1 (fun x => biV .any [x]) m)) := by
  have h := s_callB (C := C) (f := biV .any) (cr_any B.hc) (by rw [← B.hK]; exact f_any) hg hm PyProof.Rows.boot_any (s_cons (m := m) ha s_nil (star_one hs [] X.env)) (by decide) (by decide) (by simp [hs]) (p := p) (pos := pos)
  rw [one_eq] at h
  exact h
theorem b_abs (B : Bd X C k) (hm : X.mg "abs" = none) (ha : PE X a (tE C m)) (hg : Gl X "abs" := by rfl) (hs : noStar a = true := by rfl) : PE X (.Call (.Name "abs" p) [a] [] pos) (tE C (mB1 (fun x => biV .abs [x]) m)) := by
  have h := s_callB (C := C) (f := biV .abs) call_abs f_abs hg hm PyProof.Rows.boot_abs (s_cons (m := m) ha s_nil (star_one hs [] X.env)) (by decide) (by decide) (by simp [hs]) (p := p) (pos := pos)
  rw [one_eq] at h
  exact h
theorem b_repr (B : Bd X C k) (hm : X.mg "repr" = none) (ha : PE X a (tE C m)) (hg : Gl X "repr" := by rfl) (hs : noStar a = true := by rfl) : PE X (.Call (.Name "repr" p) [a] [] pos) (tE C (mB1 (fun x => biV .repr [x]) m)) := by
  have h := s_callB (C := C) (f := biV .repr) (call_repr B.hg B.hu) (by rw [← B.hK]; exact f_repr) hg hm PyProof.Rows.boot_repr (s_cons (m := m) ha s_nil (star_one hs [] X.env)) (by decide) (by decide) (by simp [hs]) (p := p) (pos := pos)
  rw [one_eq] at h
  exact h
theorem b_int (B : Bd X C k) (hm : X.mg "int" = none) (ha : PE X a (tE C m)) (hg : Gl X "int" := by rfl) (hs : noStar a = true := by rfl) : PE X (.Call (.Name "int" p) [a] [] pos) (tE C (mB1 (fun x => biV .int [x]) m)) := by
  have h := s_callTy (C := C) (f := biV .int) call_int1 f_int hg hm PyProof.Rows.boot_int (s_cons (m := m) ha s_nil (star_one hs [] X.env)) (by decide) (by decide) (by simp [hs]) (p := p) (pos := pos)
  rw [one_eq] at h
  exact h
theorem b_str (B : Bd X C k) (hm : X.mg "str" = none) (ha : PE X a (tE C m)) (hg : Gl X "str" := by rfl) (hs : noStar a = true := by rfl) : PE X (.Call (.Name "str" p) [a] [] pos) (tE C (mB1 (fun x => biV .str [x]) m)) := by
  have h := s_callTy (C := C) (f := biV .str) call_str_int f_str hg hm PyProof.Rows.boot_str (s_cons (m := m) ha s_nil (star_one hs [] X.env)) (by decide) (by decide) (by simp [hs]) (p := p) (pos := pos)
  rw [one_eq] at h
  exact h
theorem b_tuple (B : Bd X C k) (hm : X.mg "tuple" = none) (ha : PE X a (tE C m)) (hg : Gl X "tuple" := by rfl) (hs : noStar a = true := by rfl) : PE X (.Call (.Name "tuple" p) [a] [] pos) (tE C (mB1 tupV m)) := by
  have h := s_callTy (C := C) (f := biV .tuple) call_tupleP (by rw [← B.hK]; exact f_tuple) hg hm PyProof.Rows.boot_tuple (s_cons (m := m) ha s_nil (star_one hs [] X.env)) (by decide) (by decide) (by simp [hs]) (p := p) (pos := pos)
  rw [one_eq] at h
  exact h
theorem b_list (c : Bool) (B : Bd X C k) (hm : X.mg "list" = none) (ha : PE X a (tE C m)) (hg : Gl X "list" := by rfl) (hs : noStar a = true := by rfl) : PE X (.Call (.Name "list" p) [a] [] pos) (tE C (mB1 (fun x => biV (.list c) [x]) m)) := by
  have h := s_callTy (C := C) (f := biV (.list c)) call_list_of (by rw [← B.hK]; exact f_list) hg hm PyProof.Rows.boot_list (s_cons (m := m) ha s_nil (star_one hs [] X.env)) (by decide) (by decide) (by simp [hs]) (p := p) (pos := pos)
  rw [one_eq] at h
  exact h
theorem b_dict (B : Bd X C k) (hm : X.mg "dict" = none) (ha : PE X a (tE C m)) (hg : Gl X "dict" := by rfl) (hs : noStar a = true := by rfl) : PE X (.Call (.Name "dict" p) [a] [] pos) (tE C (mB1 dictV m)) := by
  have h := s_callTy (C := C) (call_dictT B.hc) (by rw [← B.hK]; exact f_dict) hg hm PyProof.Rows.boot_dict (s_cons (m := m) ha s_nil (star_one hs [] X.env)) (by decide) (by decide) (by simp [hs]) (p := p) (pos := pos)
  rw [one_eq] at h
  exact h
theorem b_min (B : Bd X C k) (hm : X.mg "min" = none) (ha : PE X a (tE C m)) (hb : PE X b (tE C n)) (hg : Gl X "min" := by rfl) (hs : noStar a = true := by rfl) (hs2 : noStar b = true := by rfl) : PE X (.Call (.Name "min" p) [a, b] [] pos) (tE C (mB2 (fun x y => biV .min2 [x, y]) m n)) := by
  have h := s_callB (C := C) (f := biV .min2) (call_min2 B.hc) f_min2 hg hm PyProof.Rows.boot_min (s_cons (m := m) ha (s_cons (m := n) hb s_nil (star_one hs2 [] X.env)) (star_one hs [b] X.env)) (by decide) (by decide) (by simp [hs, hs2]) (p := p) (pos := pos)
  rw [two_eq] at h
  exact h
theorem b_max (B : Bd X C k) (hm : X.mg "max" = none) (ha : PE X a (tE C m)) (hb : PE X b (tE C n)) (hg : Gl X "max" := by rfl) (hs : noStar a = true := by rfl) (hs2 : noStar b = true := by rfl) : PE X (.Call (.Name "max" p) [a, b] [] pos) (tE C (mB2 (fun x y => biV .max2 [x, y]) m n)) := by
  have h := s_callB (C := C) (f := biV .max2) (call_max2 B.hc) f_max2 hg hm PyProof.Rows.boot_max (s_cons (m := m) ha (s_cons (m := n) hb s_nil (star_one hs2 [] X.env)) (star_one hs [b] X.env)) (by decide) (by decide) (by simp [hs, hs2]) (p := p) (pos := pos)
  rw [two_eq] at h
  exact h
end

/-! ### the rules, side conditions seen to -/
section
variable {X : Cx} {C : Cn} {k : Nat} {a b c : Expr} {p p2 p3 pos apos spos : Pos} {m n l : Env → M Val} {q q2 : Env → M Bool} {x : Str} {es : List Expr} {ms : Env → M (List Val)}
theorem r_var (i : Nat) (hN : X.N[i]? = some x := by rfl) (hv : Vis X.env.scope x := by first | exact Or.inl rfl | exact Or.inr (Or.inl rfl) | exact Or.inr (Or.inr rfl)) (hd : (x == ("__debug__" : Str)) = false := by decide) (hcd : (x == ("__classdict__" : Str)) = false := by decide) : PE X (.Name x pos) (tE C (mVar i)) := s_var hN hv hd hcd
def mC (d : D) : Env → M Val := fun _ => M.pure (.d d)
theorem r_int {i : Int} {j : Nat} : PE X (.Constant (.int i) j pos) (tE C (mC (.int i))) := s_int
theorem r_bl {i : Bool} {j : Nat} : PE X (.Constant (.bool i) j pos) (tE C (mC (.bl i))) := s_bl
theorem r_non {j : Nat} : PE X (.Constant .none j pos) (tE C (mC .non)) := s_non
theorem r_str {i : Str} {j : Nat} : PE X (.Constant (.str i) j pos) (tE C (mC (.str i))) := s_str
theorem r_cons (ha : PE X a (tE C m)) (hr : PA X es (tA C ms)) (hs : noStar a = true := by rfl) : PA X (a :: es) (tA C (mCons m ms)) := s_cons ha hr (star_one hs es X.env)
theorem r_cmp (B : Bd X C k) (o : Cm) (ha : PE X a (tE C m)) (hb : PE X b (tE C n)) (hm : behindInMarks o.op b = false := by first | rfl | decide | with_unfolding_all rfl | decide +kernel) : PE X (.Compare a [o.op] [b] pos) (tE C (mCmp o m n)) := s_cmp B.hK B.hu ha hb hm
theorem t_cmp (B : Bd X C k) (o : Cm) (ha : PE X a (tE C m)) (hb : PE X b (tE C n)) (hm : behindInMarks o.op b = false := by first | rfl | decide | with_unfolding_all rfl | decide +kernel) : PT X (.Compare a [o.op] [b] pos) (tT C (kCmp o m n)) := k_cmp B.hK B.hu ha hb hm
theorem r_chn (B : Bd X C k) (o o' : Cm) (ha : PE X a (tE C m)) (hb : PE X b (tE C n)) (hc : PE X c (tE C l)) (hm : behindInMarks o'.op c = false := by first | rfl | decide | with_unfolding_all rfl | decide +kernel) : PE X (.Compare a [o.op, o'.op] [b, c] pos) (tE C (mChn o o' m n l)) := s_chn B.hK B.hu ha hb hc hm
theorem t_chn (B : Bd X C k) (o o' : Cm) (ha : PE X a (tE C m)) (hb : PE X b (tE C n)) (hc : PE X c (tE C l)) (hm : behindInMarks o'.op c = false := by first | rfl | decide | with_unfolding_all rfl | decide +kernel) : PT X (.Compare a [o.op, o'.op] [b, c] pos) (tT C (kChn o o' m n l)) := k_chn B.hK B.hu ha hb hc hm
theorem t_val (B : Bd X C k) (ha : PE X a (tE C m)) (he : ∀ whole, isTrue a X.env whole = (do let v ← whole; standAt a.pos; holding [v] (PySem.truthy v)) := by intro _; rfl) : PT X a (tT C (kTr m)) := k_tr B.hK ha he
theorem r_bin (B : Bd X C k) (o : Bn) (ha : PE X a (tE C m)) (hb : PE X b (tE C n)) : PE X (.BinOp a o.op b pos) (tE C (mBin o m n)) := s_bin B.hK ha hb
theorem r_ix (B : Bd X C k) (ha : PE X a (tE C m)) (hb : PE X b (tE C n)) (hs : PlainIx b := by intro _ _; rfl) : PE X (.Subscript a b pos) (tE C (mIx m n)) := s_ix B.hK ha hb hs
theorem r_dix (B : Bd X C k) (ha : PE X a (tE C m)) (hb : PE X b (tE C n)) (hs : NoSl b := by intro _ _; rfl) : PE X (.Subscript a b pos) (tE C (mDix m n)) := s_dix B.hu ha hb hs
theorem r_sl (B : Bd X C k) {lo hi : Option Expr} {ml mh : Option (Env → M Val)} (ha : PE X a (tE C m)) (hl : PO X lo (tO C (mPt ml))) (hh : PO X hi (tO C (mPt mh))) : PE X (.Subscript a (.Slice lo hi none p2) pos) (tE C (mSl m ml mh)) := s_sl B.hK ha hl hh
theorem r_rev (B : Bd X C k) {j : Nat} {q1 q2 q3 : Pos} (ha : PE X a (tE C m)) : PE X (.Subscript a (.Slice none none (some (.UnaryOp .USub (.Constant (.int 1) j q1) q2)) q3) pos) (tE C (mRev m)) := s_rev B.hK ha
theorem r_inst (B : Bd X C k) (t : Ty) (hm : X.mg "isinstance" = none) (hm2 : X.mg x = none) (ha : PE X a (tE C m)) (ht : ∀ c, t ≠ .cls c := by intro c z; cases z) (hx : x = Str.ofString t.nm := by rfl) (hg : Gl X "isinstance" := by rfl) (hg2 : Gl X x := by rfl) (hs : noStar a = true := by rfl) :
    PE X (.Call (.Name "isinstance" p) [a, .Name x p2] [] pos) (tE C (mInst t m)) := s_inst B.hK ht hx hg hm hg2 hm2 ha hs
theorem r_gstr {z : Str} (hm : ∃ t, X.mg x = some (.str z t)) (hg : Gl X x := by rfl) (hd : (x == ("__debug__" : Str)) = false := by decide) : PE X (.Name x pos) (tE C (mStr z)) := s_gstr hg hm hd
theorem r_gint {z : Int} (hm : ∃ t, X.mg x = some (.int z t)) (hg : Gl X x := by rfl) (hd : (x == ("__debug__" : Str)) = false := by decide) : PE X (.Name x pos) (tE C (mInt z)) := s_gint hg hm hd
theorem r_app (B : Bd X C k) (ho : PE X a (tE C m)) (ha : PE X b (tE C n)) (hs : noStar b = true := by rfl) (hbase : attributeBase a "append" X.env (eval a X.env) = eval a X.env := by rfl) (hline : (apos.endLine == pos.line) = true := by rfl) : PE X (.Call (.Attribute a "append" apos) [b] [] pos) (tE C (mApp m n)) := s_app B.hK ho ha hs hbase hline
theorem r_ext (B : Bd X C k) (ho : PE X a (tE C m)) (ha : PE X b (tE C n)) (hs : noStar b = true := by rfl) (hbase : attributeBase a "extend" X.env (eval a X.env) = eval a X.env := by rfl) (hline : (apos.endLine == pos.line) = true := by rfl) : PE X (.Call (.Attribute a "extend" apos) [b] [] pos) (tE C (mExt m n)) := s_ext B.hK ho ha hs hbase hline
theorem r_ins (B : Bd X C k) (ho : PE X a (tE C m)) (hi : PE X b (tE C n)) (ha : PE X c (tE C l)) (hs1 : noStar b = true := by rfl) (hs : noStar c = true := by rfl) (hbase : attributeBase a "insert" X.env (eval a X.env) = eval a X.env := by rfl) (hline : (apos.endLine == pos.line) = true := by rfl) : PE X (.Call (.Attribute a "insert" apos) [b, c] [] pos) (tE C (mIns m n l)) := s_ins B.hK ho hi ha hs1 hs hbase hline
theorem r_cnt (B : Bd X C k) (ho : PE X a (tE C m)) (ha : PE X b (tE C n)) (hs : noStar b = true := by rfl) (hbase : attributeBase a "count" X.env (eval a X.env) = eval a X.env := by rfl) (hline : (apos.endLine == pos.line) = true := by rfl) : PE X (.Call (.Attribute a "count" apos) [b] [] pos) (tE C (mCnt m n)) := s_cnt B.hK ho ha hs hbase hline
theorem r_lset (B : Bd X C k) {q : Pos} (hm : X.mg "len" = none) (hm2 : X.mg "set" = none) (ha : PE X a (tE C m)) (hg : Gl X "len" := by rfl) (hg2 : Gl X "set" := by rfl) (hs : noStar a = true := by rfl) : PE X (.Call (.Name "len" p) [.Call (.Name "set" p2) [a] [] q] [] pos) (tE C (mLenSet m)) := s_lset B.hK B.hc hg hm hg2 hm2 ha hs
theorem r_lzip (B : Bd X C k) {q : Pos} (hm : X.mg "list" = none) (hm2 : X.mg "zip" = none) (ha : PE X a (tE C m)) (hb : PE X b (tE C n)) (hg : Gl X "list" := by rfl) (hg2 : Gl X "zip" := by rfl) (hs : noStar a = true := by rfl) (hs2 : noStar b = true := by rfl) : PE X (.Call (.Name "list" p) [.Call (.Name "zip" p2) [a, b] [] q] [] pos) (tE C (mLzip m n)) := s_lzip B.hK B.hc hg hm hg2 hm2 ha hb hs hs2
theorem r_get2 (B : Bd X C k) (ho : PE X a (tE C m)) (he : PE X b (tE C n)) (hf : PE X c (tE C l)) (hM : M2 X a "get" apos b c pos := by exact ⟨rfl, rfl, rfl, rfl⟩) : PE X (.Call (.Attribute a "get" apos) [b, c] [] pos) (tE C (mGet2 m n l)) := s_get2 B.hu ho he hf hM
theorem r_kget2 {d : Addr} {tab : List (Str × Option D)} (kt : KTab X.K X.w d tab) (hm : X.mg x = some (.ref d)) (he : PE X b (tE C n)) (hf : PE X c (tE C l)) (hg : Gl X x := by rfl) (hd : (x == ("__debug__" : Str)) = false := by decide) (hM : M2 X (.Name x p) "get" apos b c pos := by exact ⟨rfl, rfl, rfl, rfl⟩) :
    PE X (.Call (.Attribute (.Name x p) "get" apos) [b, c] [] pos) (tE C (mKget2 tab n l)) := s_kget2 kt hg hm hd he hf hM
theorem r_kget1 {d : Addr} {tab : List (Str × Option D)} (kt : KTab X.K X.w d tab) (hm : X.mg x = some (.ref d)) (he : PE X b (tE C n)) (hg : Gl X x := by rfl) (hd : (x == ("__debug__" : Str)) = false := by decide) (hM : M1 X (.Name x p) "get" apos b pos := by exact ⟨rfl, rfl, rfl, rfl⟩) :
    PE X (.Call (.Attribute (.Name x p) "get" apos) [b] [] pos) (tE C (mKget1 tab n)) := s_kget1 kt hg hm hd he hM
/-! targets -/
theorem r_nm (i : Nat) (hN : X.N.Nodup) (hi : X.N[i]? = some x := by rfl) (hx : Loc X.env.scope x := by first | exact Or.inl rfl | exact Or.inr rfl) (hf : X.fn x = true ∨ X.env.scope.names.lookup x = some .local := by first | exact Or.inl rfl | exact Or.inr rfl) : PG X (.Name x pos) (gM C (.nm i)) := g_nm hN hi hx hf
theorem r_gcons {t : Tg} {ts : List Tg} (h1 : PG X a (gM C t)) (h2 : PGs X es (gMs C ts)) (hs : (assignEach (a :: es) X.env).map (·.2) = assign a X.env :: (assignEach es X.env).map (·.2) := by rfl) : PGs X (a :: es) (gMs C (t :: ts)) := gs_cons h1 h2 hs
theorem r_gtp (B : Bd X C k) {j : Nat} {ts : List Tg} (h : PGs X es (gMs C ts)) (hn : (assignEach es X.env).length = Tg.many ts := by rfl) (hst : (assignEach es X.env).findIdx? (·.1) = none := by rfl) : PG X (.Tuple es j pos) (gM C (.tp ts)) := g_tp B.hK B.hc h hn hst
/-! what is walked -/
theorem r_iseq (B : Bd X C k) {tg : Expr} (hl : PE X a (tE C m)) : PI X tg a (tI C (mIt m)) := i_seq B.hK hl
theorem r_irng {tg : Expr} (hm : X.mg "range" = none) (ha : PE X a (tE C m)) (hg : Gl X "range" := by rfl) (hs : noStar a = true := by rfl) : PI X tg (.Call (.Name "range" p) [a] [] pos) (tI C (mRng m)) := i_rng hg hm ha hs
theorem r_izip (B : Bd X C k) {tpos : Pos} {elts : List Expr} {kk : Nat} (hm : X.mg "zip" = none) (ha : PE X a (tE C m)) (hb : PE X b (tE C n)) (hg : Gl X "zip" := by rfl) (hs : noStar a = true := by rfl) (hs2 : noStar b = true := by rfl) : PI X (.Tuple elts kk tpos) (.Call (.Name "zip" p) [a, b] [] pos) (tI C (mZip m n)) := i_zip B.hK hg hm ha hb hs hs2
/-! comprehensions -/
variable {elt tg iter : Expr} {ifs : List Expr} {scope : Scope} {t : Tg} {mi : Env → M (List Val)} {kc : Env → M Bool} {me : Env → M Val} {ss : List Stmt} {xs : Ms}
theorem r_lc (cl : Bool) (ow : List (Str × Nat)) (B : Bd X C k) (hN : X.N.Nodup) (hi : PI X tg iter (tI C mi)) (hg : ∀ (s : Shared) (H : Hp) (D : Addr) (cl : List (Str × Addr)) (fp : List Addr), Bd (X.blk s H scope (compEnvC scope cl D X.env) fp) C k → PG (X.blk s H scope (compEnvC scope cl D X.env) fp) tg (gM C t))
    (ht : ∀ (s : Shared) (H : Hp) (D : Addr) (cl : List (Str × Addr)) (fp : List Addr), Bd (X.blk s H scope (compEnvC scope cl D X.env) fp) C.nx k → PTs (X.blk s H scope (compEnvC scope cl D X.env) fp) ifs (tT C.nx kc))
    (he : ∀ (s : Shared) (H : Hp) (D : Addr) (cl : List (Str × Addr)) (fp : List Addr), Bd (X.blk s H scope (compEnvC scope cl D X.env) fp) C.nx k → PE (X.blk s H scope (compEnvC scope cl D X.env) fp) elt (tE C.nx me))
    (ok : blkC X.N X.env.scope scope ow = true := by first | rfl | decide | with_unfolding_all rfl | decide +kernel) (hix : ∀ j ∈ t.ix, j ∈ ow.map (·.2) := by decide) (hs : ∀ x, foldedSetIterable iter X.env x = pure x := by intro _; rfl) : PE X (.ListComp elt [⟨tg, iter, ifs, 0⟩] scope pos) (tE C (mLc cl (ow.map (·.2)) t mi kc me)) :=
  s_lc B.hc hN hi (blkOk_by ok) hix (fun s H D cl fp => hg s H D cl fp (B.blk' ..)) (fun s H D cl fp => ht s H D cl fp (B.blk ..)) (fun s H D cl fp => he s H D cl fp (B.blk ..)) hs
theorem r_setLc (i : Nat) (cl : Bool) (ow : List (Str × Nat)) (B : Bd X C k) (hN : X.N.Nodup) (hi : PI X tg iter (tI C mi)) (hg : ∀ (s : Shared) (H : Hp) (D : Addr) (cl : List (Str × Addr)) (fp : List Addr), Bd (X.blk s H scope (compEnvC scope cl D X.env) fp) C k → PG (X.blk s H scope (compEnvC scope cl D X.env) fp) tg (gM C t))
    (ht : ∀ (s : Shared) (H : Hp) (D : Addr) (cl : List (Str × Addr)) (fp : List Addr), Bd (X.blk s H scope (compEnvC scope cl D X.env) fp) C.nx k → PTs (X.blk s H scope (compEnvC scope cl D X.env) fp) ifs (tT C.nx kc))
    (he : ∀ (s : Shared) (H : Hp) (D : Addr) (cl : List (Str × Addr)) (fp : List Addr), Bd (X.blk s H scope (compEnvC scope cl D X.env) fp) C.nx k → PE (X.blk s H scope (compEnvC scope cl D X.env) fp) elt (tE C.nx me))
    (hy : X.N[i]? = some x := by rfl) (hyl : X.env.scope.names.lookup x = some .local := by rfl) (hk : X.env.scope.kind = .function := by rfl) (hln : (p.line == pos.line) = true := by rfl) (hna : (scope.names.any fun (n, k) => n == x && (k == .local || k == .cell)) = false := by first | rfl | decide | with_unfolding_all rfl | decide +kernel)
    (ok : blkC X.N X.env.scope scope ow = true := by first | rfl | decide | with_unfolding_all rfl | decide +kernel) (hix : ∀ j ∈ t.ix, j ∈ ow.map (·.2) := by decide) (hs : ∀ x, foldedSetIterable iter X.env x = pure x := by intro _; rfl) : PS X (.Assign [.Name x p] (.ListComp elt [⟨tg, iter, ifs, 0⟩] scope pos) spos) (tS C (sAsg (.nm i) (mLc cl (ow.map (·.2)) t mi kc me))) :=
  ss_setLc B.hc hN hy hyl (sw_true hk hyl hln hna) hi (blkOk_by ok) hix (fun s H D cl fp => hg s H D cl fp (B.blk' ..)) (fun s H D cl fp => ht s H D cl fp (B.blk ..)) (fun s H D cl fp => he s H D cl fp (B.blk ..)) hs
/-! statements -/
theorem r_asg {tg : Expr} {t : Tg} (ha : PE X a (tE C m)) (hg : PG X tg (gM C t)) (hs : swapsWithSole [tg] a pos.line X.env = pure false := by rfl) (hw : swappedStores [tg] a X.env = pure none := by rfl) (h1 : (assignEach [tg] X.env).map (·.2) = [assign tg X.env] := by rfl) : PS X (.Assign [tg] a pos) (tS C (sAsg t m)) := ss_asg ha hg hs hw h1
theorem r_put (hm : PE X c (tE C l)) (ho : PE X a (tE C m)) (hi : PE X b (tE C n))
    (ha : ∀ v, assign (.Subscript a b spos) X.env v = (do
      let ov ← holding [v] (eval a X.env)
      let iv ← holding [v, ov] (eval b X.env)
      standAt spos
      holding [v, ov, iv] (setItem ov iv v)
      release [v, ov, iv] []) := by intro _; rfl)
    (hs : swapsWithSole [.Subscript a b spos] c pos.line X.env = pure false := by rfl) (hw : swappedStores [.Subscript a b spos] c X.env = pure none := by rfl) (h1 : (assignEach [.Subscript a b spos] X.env).map (·.2) = [assign (.Subscript a b spos) X.env] := by rfl) :
    PS X (.Assign [.Subscript a b spos] c pos) (tS C (sPut m n l)) := ss_put hm ho hi ha hs hw h1
theorem r_exp (ha : PE X a (tE C m)) (hs : swapsWith a none pos.line X.env = pure false := by rfl) : PS X (.Expr a pos) (tS C (sExp m)) := ss_exp ha hs
end
/-- in a body that lets no exception out -/
theorem r_for {X : Cx} {C : Cn} {k : Nat} {a tg : Expr} {t : Tg} {mi : Env → M (List Val)} {pos : Pos} {ss : List Stmt} {xs : Ms} (B : Bd X.nox C k) (hi : PI X.nox tg a (tI C mi)) (hg : PG X.nox tg (gM C t)) (hb : PSs X.nox ss (tS C xs)) (hs : ∀ x, foldedSetIterable a X.nox.env x = pure x := by intro _; rfl) : PS X.nox (.For tg a ss [] pos) (tS C (sFor t mi xs)) :=
  ss_for PassesOwn.never B.hc hi hg hb hs
theorem r_while {X : Cx} {C : Cn} {k : Nat} {a : Expr} {q : Env → M Bool} {pos : Pos} {ss : List Stmt} {xs : Ms} (W : Nat) (B : Bd X.nox C k) (hc : PT X.nox a (tT C q)) (hb : PSs X.nox ss (tS C xs)) : PS X.nox (.While a ss [] pos) (tS C (sWhile q xs W)) :=
  ss_while PassesOwn.never hc hb

/-! ### defs -/
/-- a def of the module keeps to a meaning -/
def Ok (P : Program) (w : World) (K : PySem.W.Frag) (mg : Str → Option Value) (base : Heap) (C : Cn) (k : Nat) (x : Str) (n : Nat) (c : List Val → M Val) : Prop :=
  ∃ (fd : FuncData) (ps : List Str), FnG P w K mg base CX0 k (He.ga K x) fd ps (spM C false n c) ∧ Binds K fd ps [] ∧ PySem.W.keepIn K (.ref (He.ga K x)) = true ∧ mg x = some (.ref (He.ga K x))
theorem spM_at {C : Cn} {xf : Bool} {E : XK} {n : Nat} {c : List Val → M Val} : spM (C.at xf E) false n c = spM C false n c := rfl
theorem Ok.mono {P : Program} {w : World} {K : PySem.W.Frag} {mg : Str → Option Value} {base : Heap} {C : Cn} {j k : Nat} {x : Str} {n : Nat} {c : List Val → M Val} (h : Ok P w K mg base C j x n c) (hk : j ≤ k) : Ok P w K mg base C k x n c := by
  obtain ⟨fd, ps, F, r⟩ := h
  exact ⟨fd, ps, F.mono hk, r⟩
/-- no meaning at all -/
theorem Ok.bad {P : Program} {w : World} {K : PySem.W.Frag} {mg : Str → Option Value} {base : Heap} {C : Cn} {k : Nat} {x : Str} {n : Nat} {fd : FuncData} {ps : List Str} (hn : ps.length = n) (hb : Binds K fd ps []) (hk : PySem.W.keepIn K (.ref (He.ga K x)) = true) (hm : mg x = some (.ref (He.ga K x))) :
    Ok P w K mg base C k x n fun _ => M.bad :=
  ⟨fd, ps, ⟨fun vs H Q E h => h.1.trans hn.symm, fun A hg outer s H args us vs Q E hr he hb hv h => by
    obtain ⟨_, _, _, _, _, _, _, h⟩ := h
    exact h.elim⟩, hb, hk, hm⟩
section
variable {X : Cx} {C : Cn} {k j : Nat} {x : Str} {p pos : Pos} {a : Expr} {es : List Expr} {c : List Val → M Val} {n : Nat} {ms : Env → M (List Val)}
theorem r_cal (fresh : Bool) (B : Bd X C k) (h : Ok X.prog X.w X.K X.mg X.base C j x n c) (hj : j ≤ k) (ha : PA X (a :: es) (tA C ms)) (hl : LenM ms n) (hg : Gl X x := by rfl) (hes : (a :: es).all noStar = true := by rfl) (hdb : (x == ("__debug__" : Str)) = false := by decide) : PE X (.Call (.Name x p) (a :: es) [] pos) (tE C (mCal fresh c ms)) := by
  obtain ⟨fd, ps, F, hb, hk, hm⟩ := h
  simp only [List.all_cons, Bool.and_eq_true] at hes
  exact s_cal B.hK F B.hg (B.hr.mono hj) hg hm hk hb ha hl (star_one hes.1 es X.env) (back_all pos X.env hes.2) hdb
theorem r_cal0 (fresh : Bool) (B : Bd X C k) (h : Ok X.prog X.w X.K X.mg X.base C j x 0 c) (hj : j ≤ k) (hg : Gl X x := by rfl) (hdb : (x == ("__debug__" : Str)) = false := by decide) : PE X (.Call (.Name x p) [] [] pos) (tE C (mCal fresh c mNil)) := by
  obtain ⟨fd, ps, F, hb, hk, hm⟩ := h
  exact s_cal0 F B.hg (B.hr.mono hj) hg hm hk hb hdb
end
/-- a def by its body: the rule for the printer -/
theorem FnG.body {P : Program} {w : World} {K : PySem.W.Frag} {mg : Str → Option Value} {base : Heap} {C : Cn} {k : Nat} {f : Addr} {x : Str} {m : Ms} {params : Arguments} {body : List Stmt} {scope : Scope} {fd : FuncData} {N ps : List Str} (F : FunD K x x params body scope [] [] f fd) (S : FnScope N ps scope)
    (hK : C.K = K) (h60 : 60 ≤ k)
    (hbody : ∀ (X : Cx) (D : Cn), (∃ (cdv : Value) (A : Around) (outer : List PySem.Env) (s : Shared) (H : Hp) (E : XK), X = cxOf CX0 P w K mg base N x scope f cdv A outer s H E ∧ D = C.at false E) → Bd X.nox D k → PSs X.nox body (tS D m)) :
    FnG P w K mg base CX0 (k + 1) f fd ps (spM C false ps.length (bodyM N.length m)) := by
  refine fn_body F S fun cdv A outer s H E hg hr => ?_
  have few : (A.deeper (envOfC x scope s.heap.objs.size f cdv)).units + 1100 < cLine := by
    have := hr.un
    omega
  exact hbody _ _ ⟨cdv, A, outer, s, H, E, rfl, rfl⟩ ⟨hK, rfl, hg, hr, few⟩
theorem Ok.of {P : Program} {w : World} {K : PySem.W.Frag} {mg : Str → Option Value} {base : Heap} {C : Cn} {k : Nat} {x : Str} {m : Ms} {params : Arguments} {body : List Stmt} {scope : Scope} {fd : FuncData} {N ps : List Str} (F : FunD K x x params body scope [] [] (He.ga K x) fd) (hm : mg x = some (.ref (He.ga K x))) (S : FnScope N ps scope)
    (hK : C.K = K) (h60 : 60 ≤ k)
    (hb : ∀ (kV doc pm : Value) (an : Option Addr) (cdv ct : Value) (us : List Value), us.length = ps.length → bindArgs (PySem.W.fnOf x x params body scope .none kV doc pm an cdv ct) ⟨us, []⟩ = pure (ps.zip us))
    (hbody : ∀ (X : Cx) (D : Cn), (∃ (cdv : Value) (A : Around) (outer : List PySem.Env) (s : Shared) (H : Hp) (E : XK), X = cxOf CX0 P w K mg base N x scope (He.ga K x) cdv A outer s H E ∧ D = C.at false E) → Bd X.nox D k → PSs X.nox body (tS D m)) :
    Ok P w K mg base C (k + 1) x ps.length (bodyM N.length m) :=
  ⟨fd, ps, FnG.body F S hK h60 hbody, F.bindsN hb, F.kp, hm⟩
/-- the law's promise, from its meaning -/
theorem law_sp {K : PySem.W.Frag} {C : Cn} {n : Nat} {c : List Val → M Val} (hK : C.K = K) (h : ∀ ns : List Int, ns.length ≤ n → ∃ s, c [.scr ns] [] = .ok (.d (.bl true)) s) (H : Hp) (a : Addr) (ns : List Int) (hn : ns.length ≤ n) (hO : Only H) (hS : SqL K H a (ns.map V.int)) :
    spM C false 1 c [.ref a] H (fun v _ => v = .bl true) fun _ _ _ => False := by
  subst hK
  obtain ⟨s, e⟩ := h ns hn
  have nil : ∀ {α : Type} {n : Nat} {x : α}, ([] : List α)[n]? = some x → False := fun e => by simp at e
  refine ⟨rfl, fun _ => False, [], [], [.scr ns], ⟨rfl, fun _ _ _ e => (nil e).elim, fun _ z => z.elim, fun _ _ e => (nil e).elim, fun _ e => (nil e).elim⟩, ⟨.ref a, [], rfl, ⟨a, rfl, ?_⟩, rfl⟩, ?_⟩
  · rcases hS with (q | ⟨o, q⟩) | q
    · rcases hO a with z | ⟨o, xs, z⟩ <;> (rw [q] at z; cases z)
    · exact .inl ⟨o, q⟩
    · exact .inr q
  · rw [e]
    exact fun φ' H' b _ _ r => r
end Ev
set_option maxRecDepth 100000
set_option maxHeartbeats 8000000
/-! what a meaning gives: rules backwards -/
namespace Ev
open PySem

def W {α : Type} (m : M α) (s : Store) (Q : α → Store → Prop) : Prop := match m s with
  | .ok a s' => Q a s'
  | _ => False
def WS (m : Ms) (ρ : Env) (s : Store) (Q : Fl → Env → Store → Prop) : Prop := match m ρ s with
  | .ok f ρ' s' => Q f ρ' s'
  | _ => False
section
variable {α β : Type} {m : M α} {f : α → M β} {s : Store} {Q : β → Store → Prop} {R : α → Store → Prop}
theorem W_bind : W (m >>= f) s Q ↔ W m s fun a s' => W (f a) s' Q := by
  show W (M.bind m f) s Q ↔ _
  unfold W M.bind
  cases m s <;> exact Iff.rfl
theorem W_pure {a : α} : W (M.pure a) s R ↔ R a s := Iff.rfl
theorem W_bad : W (M.bad : M α) s R ↔ False := Iff.rfl
theorem W_nx : W m.nx s R ↔ W m s R := by
  unfold W M.nx
  cases m s <;> exact Iff.rfl
theorem W.mono {R' : α → Store → Prop} (h : W m s R) (i : ∀ a s', R a s' → R' a s') : W m s R' := by
  unfold W at *
  cases e : m s with
  | ok a s' => rw [e] at h; exact i a s' h
  | exc => rw [e] at h; exact h
  | bad => rw [e] at h; exact h
theorem W.get (h : W m s R) : ∃ a s', m s = .ok a s' ∧ R a s' := by
  unfold W at h
  cases e : m s with
  | ok a s' => rw [e] at h; exact ⟨a, s', rfl, h⟩
  | exc => rw [e] at h; exact h.elim
  | bad => rw [e] at h; exact h.elim
theorem W.of {a : α} {s' : Store} (e : m s = .ok a s') (h : R a s') : W m s R := by
  unfold W
  rw [e]
  exact h
theorem W_if {c : Bool} {m n : M α} : W (if c = true then m else n) s R ↔ if c = true then W m s R else W n s R := by
  cases c <;> exact Iff.rfl
theorem W_ite {c : Prop} [Decidable c] {m n : M α} : W (if c then m else n) s R ↔ if c then W m s R else W n s R := by
  by_cases h : c
  · rw [if_pos h, if_pos h]
  · rw [if_neg h, if_neg h]
end
section
variable {ρ : Env} {s : Store} {Q : Fl → Env → Store → Prop} {R : Val → Store → Prop} {m o i : Env → M Val} {k : Env → M Bool} {a b : Ms} {t : Tg}
theorem W_var {i : Nat} : W (mVar i ρ) s R ↔ ∃ x, ρ[i]? = some (some x) ∧ R x s := by
  unfold mVar
  cases e : ρ[i]? with
  | none => simp [W_bad]
  | some o => cases o <;> simp [W_bad, W_pure]
theorem WS_seq : WS (sSeq a b) ρ s Q ↔ WS a ρ s fun f ρ' s' => match f with
    | .nx => WS b ρ' s' Q
    | f => Q f ρ' s' := by
  unfold WS sSeq
  cases e : a ρ s with
  | ok f ρ' s' => cases f <;> exact Iff.rfl
  | exc => exact Iff.rfl
  | bad => exact Iff.rfl
theorem WS_nx : WS sNx ρ s Q ↔ Q .nx ρ s := Iff.rfl
theorem WS_asg : WS (sAsg t m) ρ s Q ↔ W (m ρ) s fun v s' => ∃ ρ', tgV t v ρ = some ρ' ∧ Q .nx ρ' s' := by
  unfold WS sAsg ex W
  cases m ρ s with
  | ok v s' =>
    simp only
    cases tgV t v ρ <;> simp
  | exc => exact Iff.rfl
  | bad => exact Iff.rfl
theorem WS_ret : WS (sRet m) ρ s Q ↔ W (m ρ) s fun v s' => Q (.rt v) ρ s' := by
  unfold WS sRet ex W
  cases m ρ s <;> exact Iff.rfl
theorem WS_exp : WS (sExp m) ρ s Q ↔ W (m ρ) s fun v s' => Q .nx ρ s' := by
  unfold WS sExp ex W
  cases m ρ s <;> exact Iff.rfl
theorem WS_if : WS (sIf k a b) ρ s Q ↔ W (k ρ) s fun c s' => if c = true then WS a ρ s' Q else WS b ρ s' Q := by
  unfold WS sIf ex W
  cases k ρ s with
  | ok c s' => cases c <;> exact Iff.rfl
  | exc => exact Iff.rfl
  | bad => exact Iff.rfl
theorem WS_put : WS (sPut o i m) ρ s Q ↔ W (m ρ) s fun v s1 => W (o ρ) s1 fun x s2 => W (i ρ) s2 fun k s3 => W (putV x k v) s3 fun _ s4 => Q .nx ρ s4 := by
  have e : WS (sPut o i m) ρ s Q ↔ W (m ρ >>= fun v => o ρ >>= fun x => i ρ >>= fun k => putV x k v) s fun _ s4 => Q .nx ρ s4 := by
    unfold WS sPut ex W
    cases (m ρ >>= fun v => o ρ >>= fun x => i ρ >>= fun k => putV x k v) s <;> exact Iff.rfl
  rw [e, W_bind]
  simp only [W_bind]
theorem WS.mono {Q' : Fl → Env → Store → Prop} (h : WS a ρ s Q) (j : ∀ f ρ s, Q f ρ s → Q' f ρ s) : WS a ρ s Q' := by
  unfold WS at *
  cases e : a ρ s with
  | ok f ρ' s' => rw [e] at h; exact j _ _ _ h
  | exc => rw [e] at h; exact h
  | bad => rw [e] at h; exact h
/-- a turn's ends -/
def Turn (N : Env → Store → Prop) (Q : Fl → Env → Store → Prop) : Fl → Env → Store → Prop
  | .nx, ρ, s => N ρ s
  | .ct, ρ, s => N ρ s
  | .bk, ρ, s => Q .nx ρ s
  | .rt v, ρ, s => Q (.rt v) ρ s
theorem WS_loop {vs : List Val} (I : Nat → Env → Store → Prop) (n : Nat) (hn : n ≤ vs.length) (h0 : I n ρ s)
    (turn : ∀ (i : Nat) (v : Val) (ρ : Env) (s : Store), vs[i]? = some v → I i ρ s → ∃ ρ1, tgV t v ρ = some ρ1 ∧ WS b ρ1 s (Turn (I (i + 1)) Q)) (fin : ∀ ρ s, I vs.length ρ s → Q .nx ρ s) : WS (sLoop t b (vs.drop n)) ρ s Q := by
  generalize hk : vs.length - n = k
  induction k generalizing n ρ s with
  | zero =>
    have e : n = vs.length := by omega
    subst e
    rw [List.drop_length]
    exact fin ρ s h0
  | succ k ih =>
    have hlt : n < vs.length := by omega
    rw [List.drop_eq_getElem_cons hlt]
    obtain ⟨ρ1, e1, h1⟩ := turn n vs[n] ρ s (List.getElem?_eq_getElem hlt) h0
    unfold sLoop WS
    simp only [e1]
    unfold WS at h1
    cases e2 : b ρ1 s with
    | bad => rw [e2] at h1; exact h1.elim
    | exc => rw [e2] at h1; exact h1.elim
    | ok f ρ2 s2 =>
      rw [e2] at h1
      cases f with
      | nx => exact ih (n + 1) hlt h1 (by omega)
      | ct => exact ih (n + 1) hlt h1 (by omega)
      | bk => exact h1
      | rt v => exact h1
theorem WS_for {mi : Env → M (List Val)} (h : W (mi ρ) s fun vs s1 => ∃ I : Nat → Env → Store → Prop, I 0 ρ s1 ∧
    (∀ (i : Nat) (v : Val) (ρ : Env) (s : Store), vs[i]? = some v → I i ρ s → ∃ ρ1, tgV t v ρ = some ρ1 ∧ WS b ρ1 s (Turn (I (i + 1)) Q)) ∧ ∀ ρ s, I vs.length ρ s → Q .nx ρ s) : WS (sFor t mi b) ρ s Q := by
  obtain ⟨vs, s1, e, I, h0, turn, fin⟩ := h.get
  have z := WS_loop I 0 (Nat.zero_le _) h0 turn fin
  unfold WS sFor ex
  rw [e]
  exact z
theorem W_body {n : Nat} {xs : List Val} : W (bodyM n a xs) s R ↔ WS a (xs.map some ++ List.replicate (n - xs.length) none) s fun f _ s' => match f with
    | .nx => R (.d .non) s'
    | .rt v => R v s'
    | _ => False := by
  unfold W bodyM WS
  cases a (xs.map some ++ List.replicate (n - xs.length) none) s with
  | ok f ρ' s' => cases f <;> exact Iff.rfl
  | exc => exact Iff.rfl
  | bad => exact Iff.rfl
/-- a call on the cells handed in -/
theorem W_sub {fresh : Bool} {c : List Val → M Val} {xs : List Val} {q : Store} (nd : (locsOf xs).Nodup) (pk : picks s (locsOf xs) = some q)
    (h : W (c (renum 0 xs)) q fun v q' => ∃ s', lays s (locsOf xs) q' = some s' ∧ W (backV fresh (locsOf xs).length v q') s' R) : W (subV fresh c xs) s R := by
  obtain ⟨v, q', e, s', e2, h2⟩ := h.get
  unfold W subV
  rw [if_pos nd, pk]
  simp only [e, e2]
  exact h2
theorem W_cal {fresh : Bool} {c : List Val → M Val} {ms : Env → M (List Val)} : W (mCal fresh c ms ρ) s R ↔ W (ms ρ) s fun xs s' => W (subV fresh c xs) s' R := by
  unfold mCal
  rw [W_bind]
  simp only [W_nx]
theorem W_nil {R : List Val → Store → Prop} : W (mNil ρ) s R ↔ R [] s := Iff.rfl
theorem W_cons {ms : Env → M (List Val)} {R : List Val → Store → Prop} : W (mCons m ms ρ) s R ↔ W (m ρ) s fun v s1 => W (ms ρ) s1 fun vs s2 => R (v :: vs) s2 := by
  unfold mCons
  rw [W_bind]
  simp only [W_bind, W_pure]
/-- a comprehension -/
theorem W_lcgo {kc : Env → M Bool} {me : Env → M Val} {vs : List Val} {R : List Val → Store → Prop} (I : Nat → List Val → Store → Prop) (n : Nat) (hn : n ≤ vs.length) (ys : List Val) (h0 : I n ys s)
    (turn : ∀ (i : Nat) (v : Val) (ys : List Val) (s : Store), vs[i]? = some v → I i ys s → ∃ ρ1, tgV t v ρ = some ρ1 ∧ W (kc ρ1) s fun b s2 => if b = true then W (me ρ1) s2 fun y s3 => I (i + 1) (ys ++ [y]) s3 else I (i + 1) ys s2)
    (fin : ∀ zs s, I vs.length (ys ++ zs) s → R zs s) : W (lcGo t kc me ρ (vs.drop n)) s R := by
  generalize hk : vs.length - n = k
  induction k generalizing n ys s R with
  | zero =>
    have e : n = vs.length := by omega
    subst e
    rw [List.drop_length]
    exact fin [] s (by rw [List.append_nil]; exact h0)
  | succ k ih =>
    have hlt : n < vs.length := by omega
    rw [List.drop_eq_getElem_cons hlt]
    obtain ⟨ρ1, e1, h1⟩ := turn n vs[n] ys s (List.getElem?_eq_getElem hlt) h0
    unfold lcGo
    rw [e1]
    simp only
    rw [W_bind, W_nx]
    refine h1.mono fun b s2 h2 => ?_
    cases b with
    | false =>
      rw [if_neg Bool.false_ne_true] at h2 ⊢
      exact ih (n + 1) hlt ys h2 fin (by omega)
    | true =>
      rw [if_pos rfl] at h2 ⊢
      rw [W_bind, W_nx]
      refine h2.mono fun y s3 h3 => ?_
      rw [W_bind]
      refine ih (n + 1) hlt (ys ++ [y]) h3 (fun zs s h => ?_) (by omega)
      exact fin (y :: zs) s (by rw [List.append_cons]; exact h)
theorem W_lc {c : Bool} {ix : List Nat} {mi : Env → M (List Val)} {kc : Env → M Bool} {me : Env → M Val} (h : W (mi ρ) s fun vs s1 => vs.length ≤ lineLen ∧ ∃ I : Nat → List Val → Store → Prop, I 0 [] s1 ∧
    (∀ (i : Nat) (v : Val) (ys : List Val) (s : Store), vs[i]? = some v → I i ys s → ∃ ρ1, tgV t v (wipeE ρ ix) = some ρ1 ∧ W (kc ρ1) s fun b s2 => if b = true then W (me ρ1) s2 fun y s3 => I (i + 1) (ys ++ [y]) s3 else I (i + 1) ys s2) ∧
    ∀ ys s, I vs.length ys s → W (mkList c ys) s R) : W (mLc c ix t mi kc me ρ) s R := by
  unfold mLc
  rw [W_bind]
  refine h.mono fun vs s1 ⟨hz, I, h0, turn, fin⟩ => ?_
  rw [if_pos hz, W_bind]
  exact W_lcgo I 0 (Nat.zero_le _) [] h0 turn fun zs s h => fin zs s (by simpa using h)
end
/-! data lists -/
theorem W_datas {ds : List D} {s : Store} {R : List D → Store → Prop} : W (datas (ds.map .d)) s R ↔ R ds s := by
  induction ds generalizing R with
  | nil => exact Iff.rfl
  | cons d ds ih =>
    show W ((Val.d d).data >>= fun x => datas (ds.map .d) >>= fun xs => M.pure (x :: xs)) s R ↔ _
    rw [W_bind]
    show W (datas (ds.map .d) >>= fun xs => M.pure (d :: xs)) s R ↔ _
    rw [W_bind, ih]
    exact Iff.rfl
theorem W_mk {ds : List D} {s : Store} {R : Val → Store → Prop} : W (mkList false (ds.map .d)) s R ↔ R (.d (.lst ds)) s := by
  show W (datas (ds.map .d) >>= fun xs => M.pure (.d (.lst xs))) s R ↔ _
  rw [W_bind, W_datas]
  exact Iff.rfl
end Ev
set_option maxRecDepth 100000
set_option maxHeartbeats 8000000
/-! backward rules, combinator by combinator -/
namespace Ev
open PySem
section
variable {ρ : Env} {s : Store} {R : Val → Store → Prop} {T : Bool → Store → Prop} {m n l : Env → M Val} {k q : Env → M Bool} {L : List Val → Store → Prop}
theorem W_C {d : D} : W (mC d ρ) s R ↔ R (.d d) s := Iff.rfl
theorem W_Str {x : Str} : W (mStr x ρ) s R ↔ R (.d (.str x)) s := Iff.rfl
theorem W_Int {i : Int} : W (mInt i ρ) s R ↔ R (.d (.int i)) s := Iff.rfl
theorem W_Dsp {x : List (D × D)} : W (mDsp x ρ) s R ↔ R (.d (.dct x)) s := Iff.rfl
theorem W_bin {o : Bn} : W (mBin o m n ρ) s R ↔ W (m ρ) s fun x s1 => W (n ρ) s1 fun y s2 => W (binV o x y) s2 R := by unfold mBin; simp only [W_bind]
theorem W_kcmp {o : Cm} : W (kCmp o m n ρ) s T ↔ W (m ρ) s fun x s1 => W (n ρ) s1 fun y s2 => W (cmpV o x y) s2 T := by unfold kCmp; simp only [W_bind]
theorem W_mcmp {o : Cm} : W (mCmp o m n ρ) s R ↔ W (m ρ) s fun x s1 => W (n ρ) s1 fun y s2 => W (cmpV o x y) s2 fun b s3 => R (.d (.bl b)) s3 := by unfold mCmp; simp only [W_bind, W_pure]
theorem W_ix : W (mIx m n ρ) s R ↔ W (m ρ) s fun x s1 => W (n ρ) s1 fun y s2 => W (ixV x y) s2 R := by unfold mIx; simp only [W_bind]
theorem W_dix : W (mDix m n ρ) s R ↔ W (m ρ) s fun x s1 => W (n ρ) s1 fun y s2 => W (dixV x y) s2 R := by unfold mDix; simp only [W_bind]
theorem W_B1 {f : Val → M Val} : W (mB1 f m ρ) s R ↔ W (m ρ) s fun x s1 => W (f x) s1 R := by unfold mB1; simp only [W_bind]
theorem W_B2 {f : Val → Val → M Val} : W (mB2 f m n ρ) s R ↔ W (m ρ) s fun x s1 => W (n ρ) s1 fun y s2 => W (f x y) s2 R := by unfold mB2; simp only [W_bind]
theorem W_ktr : W (kTr m ρ) s T ↔ W (m ρ) s fun x s1 => W (truthy x) s1 T := by unfold kTr; simp only [W_bind, W_pure]
theorem W_knt : W (kNt k ρ) s T ↔ W (k ρ) s fun b s1 => T (!b) s1 := by unfold kNt; simp only [W_bind, W_pure]
theorem W_kand : W (kAnd k q ρ) s T ↔ W (k ρ) s fun b s1 => if b = true then W (q ρ) s1 T else T false s1 := by unfold kAnd; simp only [W_bind, W_if, W_pure]
theorem W_kor : W (kOr k q ρ) s T ↔ W (k ρ) s fun b s1 => if b = true then T true s1 else W (q ρ) s1 T := by unfold kOr; simp only [W_bind, W_if, W_pure]
theorem W_mnt : W (mNt m ρ) s R ↔ W (m ρ) s fun x s1 => W (truthy x) s1 fun b s2 => R (.d (.bl (!b))) s2 := by unfold mNt; simp only [W_bind, W_pure]
theorem W_mand : W (mAnd m n ρ) s R ↔ W (m ρ) s fun x s1 => W (truthy x) s1 fun b s2 => if b = true then W (n ρ) s2 R else R x s2 := by unfold mAnd; simp only [W_bind, W_if, W_pure]
theorem W_mor : W (mOr m n ρ) s R ↔ W (m ρ) s fun x s1 => W (truthy x) s1 fun b s2 => if b = true then R x s2 else W (n ρ) s2 R := by unfold mOr; simp only [W_bind, W_if, W_pure]
theorem W_mif : W (mIf k m n ρ) s R ↔ W (k ρ) s fun b s1 => if b = true then W (m ρ) s1 R else W (n ρ) s1 R := by unfold mIf; simp only [W_bind, W_if]
theorem W_kchn {o o' : Cm} : W (kChn o o' m n l ρ) s T ↔ W (m ρ) s fun x s1 => W (n ρ) s1 fun y s2 => W (cmpV o x y) s2 fun b s3 => if b = true then W (l ρ) s3 fun z s4 => W (cmpV o' y z) s4 T else T false s3 := by
  unfold kChn
  simp only [W_bind, W_if, W_pure]
theorem W_neg : W (mNeg m ρ) s R ↔ W (m ρ) s fun x s1 => W (intV x) s1 fun i s2 => R (.d (.int (-i))) s2 := by unfold mNeg; simp only [W_bind, W_pure]
theorem W_inst {t : Ty} : W (mInst t m ρ) s R ↔ W (m ρ) s fun x s1 => W (isTy t x) s1 fun b s2 => R (.d (.bl b)) s2 := by unfold mInst; simp only [W_bind, W_pure]
theorem W_it : W (mIt m ρ) s L ↔ W (m ρ) s fun x s1 => W (iV x) s1 L := by unfold mIt; simp only [W_bind]
theorem W_rng : W (mRng m ρ) s L ↔ W (m ρ) s fun x s1 => W (rngV x) s1 L := by unfold mRng; simp only [W_bind]
theorem W_zip : W (mZip m n ρ) s L ↔ W (m ρ) s fun x s1 => W (n ρ) s1 fun y s2 => W (zipV x y) s2 fun ds s3 => L (ds.map fun p => .exn 0 [p.1, p.2]) s3 := by unfold mZip; simp only [W_bind, W_pure]
theorem W_tup {ms : Env → M (List Val)} : W (mTup ms ρ) s R ↔ W (ms ρ) s fun vs s1 => W (datas vs) s1 fun xs s2 => W (if xs.length ≤ lineLen then M.pure (.d (.tup xs)) else M.bad) s2 R := by unfold mTup; simp only [W_bind]
theorem W_lst {c : Bool} {ms : Env → M (List Val)} : W (mLst c ms ρ) s R ↔ W (ms ρ) s fun vs s1 => W (if vs.length ≤ lineLen then mkList c vs else M.bad) s1 R := by unfold mLst; simp only [W_bind]
theorem W_rev : W (mRev m ρ) s R ↔ W (m ρ) s fun x s1 => W (revV x) s1 R := by unfold mRev; simp only [W_bind]
theorem W_pt0 {O : Option Int → Store → Prop} : W (mPt none ρ) s O ↔ O none s := Iff.rfl
theorem W_pt1 {O : Option Int → Store → Prop} : W (mPt (some m) ρ) s O ↔ W (m ρ) s fun x s1 => W (intV x) s1 fun i s2 => O (some i) s2 := by
  show W (m ρ >>= fun x => intV x >>= fun i => M.pure (some i)) s O ↔ _
  simp only [W_bind, W_pure]
theorem W_sl {lo hi : Option (Env → M Val)} : W (mSl m lo hi ρ) s R ↔ W (m ρ) s fun x s1 => W (mPt lo ρ) s1 fun i s2 => W (mPt hi ρ) s2 fun j s3 => W (slV x i j) s3 R := by unfold mSl; simp only [W_bind]
theorem W_lset : W (mLenSet m ρ) s R ↔ W (m ρ) s fun x s1 => W (lenSetS x) s1 R := by unfold mLenSet; simp only [W_bind]
theorem W_cnt : W (mCnt m n ρ) s R ↔ W (m ρ) s fun x s1 => W (isLs x) s1 fun _ s2 => W (n ρ) s2 fun v s3 => W (cntS x v) s3 R := by unfold mCnt; simp only [W_bind]
theorem W_lzip : W (mLzip m n ρ) s R ↔ W (m ρ) s fun x s1 => W (n ρ) s1 fun y s2 => W (lzipV x y) s2 R := by unfold mLzip; simp only [W_bind]
theorem W_app : W (mApp m n ρ) s R ↔ W (m ρ) s fun x s1 => W (isL x) s1 fun _ s2 => W (n ρ) s2 fun v s3 => W (appV x v) s3 R := by unfold mApp; simp only [W_bind]
theorem W_ext : W (mExt m n ρ) s R ↔ W (m ρ) s fun x s1 => W (isL x) s1 fun _ s2 => W (n ρ) s2 fun v s3 => W (extV x v) s3 R := by unfold mExt; simp only [W_bind]
theorem W_ins : W (mIns m n l ρ) s R ↔ W (m ρ) s fun x s1 => W (isL x) s1 fun _ s2 => W (n ρ) s2 fun i s3 => W (l ρ) s3 fun v s4 => W (insV x i v) s4 R := by unfold mIns; simp only [W_bind]
theorem W_get2 : W (mGet2 m n l ρ) s R ↔ W (m ρ) s fun x s1 => W (dctV x) s1 fun _ s2 => W (n ρ) s2 fun k s3 => W (l ρ) s3 fun y s4 => W (getV x k y) s4 R := by unfold mGet2; simp only [W_bind]
theorem W_kg2 {tab : List (Str × Option D)} : W (mKget2 tab m n ρ) s R ↔ W (m ρ) s fun x s1 => W (n ρ) s1 fun y s2 => W (kgetV tab x y) s2 R := by unfold mKget2; simp only [W_bind]
theorem W_kg1 {tab : List (Str × Option D)} : W (mKget1 tab m ρ) s R ↔ W (m ρ) s fun x s1 => W (kgetV tab x (.d .non)) s1 R := by unfold mKget1; simp only [W_bind]
end
/-! on values -/
section
variable {s : Store} {R : Val → Store → Prop} {T : Bool → Store → Prop}
theorem V_add {i j : Int} : W (binV .add (.d (.int i)) (.d (.int j))) s R ↔ R (.d (.int (i + j))) s := Iff.rfl
theorem V_sub {i j : Int} : W (binV .sub (.d (.int i)) (.d (.int j))) s R ↔ R (.d (.int (i - j))) s := Iff.rfl
theorem V_mul {i j : Int} : W (binV .mul (.d (.int i)) (.d (.int j))) s R ↔ mulOk i j = true ∧ R (.d (.int (i * j))) s := by
  show W (if mulOk i j then M.pure (.d (.int (i * j))) else M.bad) s R ↔ _
  rw [W_if]
  by_cases h : mulOk i j = true
  · rw [if_pos h]; simp [h, W_pure]
  · rw [if_neg h]; simp [h, W_bad]
theorem V_mod {i j : Int} : W (binV .mod (.d (.int i)) (.d (.int j))) s R ↔ j ≠ 0 ∧ R (.d (.int (i.fmod j))) s := by
  show W (if j ≠ 0 then M.pure (.d (.int (i.fmod j))) else M.bad) s R ↔ _
  rw [W_ite]
  by_cases h : j ≠ 0
  · rw [if_pos h]; simp [h, W_pure]
  · rw [if_neg h]; simp [h, W_bad]
theorem V_fdiv {i j : Int} : W (binV .fdiv (.d (.int i)) (.d (.int j))) s R ↔ (j ≠ 0 ∧ j.natAbs < 1073741824) ∧ R (.d (.int (i.fdiv j))) s := by
  show W (if j ≠ 0 ∧ j.natAbs < 1073741824 then M.pure (.d (.int (i.fdiv j))) else M.bad) s R ↔ _
  rw [W_ite]
  by_cases h : j ≠ 0 ∧ j.natAbs < 1073741824
  · rw [if_pos h]; simp only [W_pure, h, true_and, ne_eq, not_false_eq_true, and_self]
  · rw [if_neg h]; simp only [W_bad, h, false_and]
theorem V_pow {i j : Int} : W (binV .pow (.d (.int i)) (.d (.int j))) s R ↔ (0 ≤ j ∧ j ≤ 1000000 ∧ i.natAbs < 2 ^ 64) ∧ R (.d (.int (i ^ j.toNat))) s := by
  show W (if 0 ≤ j ∧ j ≤ 1000000 ∧ i.natAbs < 2 ^ 64 then M.pure (.d (.int (i ^ j.toNat))) else M.bad) s R ↔ _
  rw [W_ite]
  by_cases h : 0 ≤ j ∧ j ≤ 1000000 ∧ i.natAbs < 2 ^ 64
  · rw [if_pos h]; simp only [W_pure, h, true_and, and_self]
  · rw [if_neg h]; simp only [W_bad, h, false_and]
theorem V_lt {i j : Int} : W (cmpV .lt (.d (.int i)) (.d (.int j))) s T ↔ T (decide (i < j)) s := Iff.rfl
theorem V_le {i j : Int} : W (cmpV .le (.d (.int i)) (.d (.int j))) s T ↔ T (decide (i ≤ j)) s := Iff.rfl
theorem V_gt {i j : Int} : W (cmpV .gt (.d (.int i)) (.d (.int j))) s T ↔ T (decide (j < i)) s := Iff.rfl
theorem V_ge {i j : Int} : W (cmpV .ge (.d (.int i)) (.d (.int j))) s T ↔ T (decide (j ≤ i)) s := Iff.rfl
theorem V_eq {a b : D} (ha : a.fit = true) (hb : b.fit = true) : W (cmpV .eq (.d a) (.d b)) s T ↔ T (deq a b) s := by
  show W ((Val.d a |> dataV) >>= fun x => dataV (.d b) >>= fun y => if x.fit ∧ y.fit then M.pure (deq x y) else M.bad) s T ↔ _
  rw [W_bind]
  show W (dataV (.d b) >>= fun y => if a.fit ∧ y.fit then M.pure (deq a y) else M.bad) s T ↔ _
  rw [W_bind]
  show W (if a.fit ∧ b.fit then M.pure (deq a b) else M.bad) s T ↔ _
  rw [W_ite, if_pos ⟨ha, hb⟩, W_pure]
theorem V_ne {a b : D} (ha : a.fit = true) (hb : b.fit = true) : W (cmpV .ne (.d a) (.d b)) s T ↔ T (!deq a b) s := by
  show W (eqV (.d a) (.d b) >>= fun b => M.pure (!b)) s T ↔ _
  rw [W_bind]
  exact V_eq (T := fun b s => T (!b) s) ha hb
theorem V_int {i : Int} {I : Int → Store → Prop} : W (intV (.d (.int i))) s I ↔ I i s := Iff.rfl
theorem fit_int {i : Int} : (D.int i).fit = true := rfl
theorem fit_bl {i : Bool} : (D.bl i).fit = true := rfl
theorem fit_non : D.non.fit = true := rfl
theorem fit_str {x : Str} (h : PyData.strOk x = true) : (D.str x).fit = true := by
  unfold D.fit D.flat
  rw [h]
  rfl
/-- x[i] of data -/
theorem V_ixT {xs : List D} {i : Int} {x : D} (h : L2.atI xs i = some x) : W (ixV (.d (.tup xs)) (.d (.int i))) s R ↔ R (.d x) s := by
  have e : L2.atI (xs.map Val.d) i = some (.d x) := by
    unfold L2.atI at h ⊢
    rw [List.length_map]
    cases q : L2.ixN xs.length i with
    | none => rw [q] at h; cases h
    | some j => rw [q] at h; simp only [Option.bind_some] at h ⊢; rw [List.getElem?_map, h]; rfl
  show W (M.of (L2.atI (xs.map Val.d) i)) s R ↔ _
  rw [e]
  exact Iff.rfl
theorem V_ixL {xs : List D} {i : Int} {x : D} (h : L2.atI xs i = some x) : W (ixV (.d (.lst xs)) (.d (.int i))) s R ↔ R (.d x) s := V_ixT h
theorem atI_nat {xs : List D} {i : Int} {x : D} (h0 : 0 ≤ i) (h : xs[i.toNat]? = some x) : L2.atI xs i = some x := by
  have hl := (List.getElem?_eq_some_iff.mp h).1
  unfold L2.atI L2.ixN
  rw [if_pos h0, if_pos (by omega)]
  exact h
theorem V_lenT {xs : List D} : W (lenV (.d (.tup xs))) s R ↔ R (.d (.int (xs.length : Nat))) s := by
  show R (.d (.int ((xs.map Val.d).length : Nat))) s ↔ _
  rw [List.length_map]
theorem V_lenL {xs : List D} : W (lenV (.d (.lst xs))) s R ↔ R (.d (.int (xs.length : Nat))) s := V_lenT
end

theorem WS_nm {i : Nat} {ρ : Env} {s : Store} {m : Env → M Val} {Q : Fl → Env → Store → Prop} : WS (sAsg (.nm i) m) ρ s Q ↔ W (m ρ) s fun v s' => i < ρ.length ∧ Q .nx (ρ.set i (some v)) s' := by
  rw [WS_asg]
  have e : (fun (v : Val) (s' : Store) => ∃ ρ', tgV (.nm i) v ρ = some ρ' ∧ Q .nx ρ' s') = fun v s' => i < ρ.length ∧ Q .nx (ρ.set i (some v)) s' := by
    funext v s'
    unfold tgV
    by_cases h : i < ρ.length
    · simp [h]
    · simp [h]
  rw [e]

/-! ### calls -/
theorem lays_nil {s q : Store} : lays s [] q = some s := by cases q <;> (unfold lays; rfl)
/-- the answer as data -/
def Fz (k : Nat) (v : Val) (s : Store) (d : D) : Prop := v = .d d ∨ ∃ j xs, v = .loc j ∧ k ≤ j ∧ s[j]? = some (.lst (xs.map .d)) ∧ d = .lst xs
theorem fz_back {k : Nat} {v : Val} {q s : Store} {d : D} {R : Val → Store → Prop} (h : Fz k v q d) (r : R (.d d) s) : W (backV false k v q) s R := by
  rcases h with rfl | ⟨j, xs, rfl, hj, e, rfl⟩
  · exact r
  · have e2 : backV false k (.loc j) q = if (xs.map Val.d).all Val.cl = true then mkList false (xs.map Val.d) else M.bad := by
      unfold backV
      simp only [if_pos hj, e]
    rw [e2]
    have cl : (xs.map Val.d).all Val.cl = true := by rw [List.all_map, List.all_eq_true]; exact fun _ _ => rfl
    rw [if_pos cl, W_mk]
    exact r
theorem locs_d (ds : List D) : locsOf (ds.map .d) = [] := by
  induction ds with
  | nil => rfl
  | cons d ds ih => exact ih
theorem renum_d (k : Nat) (ds : List D) : renum k (ds.map .d) = ds.map .d := by
  induction ds with
  | nil => rfl
  | cons d ds ih =>
    show Val.d d :: renum k (ds.map .d) = _
    rw [ih]
    rfl
theorem W_sub0 {f : List Val → M Val} {s : Store} {R : Val → Store → Prop} (ds : List D) (h : W (f (ds.map .d)) [] fun v s' => ∃ d, Fz 0 v s' d ∧ R (.d d) s) : W (subV false f (ds.map .d)) s R := by
  refine W_sub (q := []) (by rw [locs_d]; exact List.nodup_nil) (by rw [locs_d]; rfl) ?_
  rw [renum_d, locs_d]
  exact h.mono fun v s' ⟨d, h1, h2⟩ => ⟨s, lays_nil, fz_back h1 h2⟩
theorem W_sub1 {f : List Val → M Val} {s : Store} {R : Val → Store → Prop} {t : Nat} {c : Cell} (ds : List D) (hs : s[t]? = some c) (cl : c.cl = true)
    (h : W (f (.loc 0 :: ds.map .d)) [c] fun v s' => ∃ d c' g, Fz 1 v s' d ∧ s' = c' :: g ∧ c'.cl = true ∧ R (.d d) (s.set t c')) : W (subV false f (.loc t :: ds.map .d)) s R := by
  have e : locsOf (Val.loc t :: ds.map .d) = [t] := by
    show t :: locsOf (ds.map .d) = [t]
    rw [locs_d]
  refine W_sub (q := [c]) (by rw [e]; simp) (by rw [e]; unfold picks; rw [hs]; simp [picks, cl]) ?_
  have e2 : renum 0 (Val.loc t :: ds.map .d) = .loc 0 :: ds.map .d := by
    show Val.loc 0 :: renum 1 (ds.map .d) = _
    rw [renum_d]
  rw [e2, e]
  refine h.mono fun v s' ⟨d, c', g, h1, h2, h3, h4⟩ => ⟨s.set t c', ?_, fz_back h1 h4⟩
  rw [h2]
  unfold lays
  rw [if_pos h3]
  exact lays_nil

/-! ### cells at places -/
section
variable {s : Store} {R : Val → Store → Prop} {j : Nat} {es : List D} {vs : List Val}
theorem W_listL {Q : List Val → Store → Prop} (h : s[j]? = some (.lst vs)) : W (listV (.loc j)) s Q ↔ Q vs s := by
  have e : listV (.loc j) s = .ok vs s := by
    show M.bind (cellAt j) _ s = _
    unfold M.bind cellAt
    rw [h]
    rfl
  unfold W
  rw [e]
theorem W_seqL {Q : List Val → Store → Prop} (h : s[j]? = some (.lst vs)) : W (seqV (.loc j)) s Q ↔ Q vs s := W_listL h
theorem W_listD {Q : List Val → Store → Prop} : W (listV (.d (.lst es))) s Q ↔ Q (es.map .d) s := Iff.rfl
theorem V_tupL : W (tupV (.d (.lst es))) s R ↔ R (.d (.tup es)) s := by
  show W (listV (.d (.lst es)) >>= fun vs => datas vs >>= fun xs => M.pure (.d (.tup xs))) s R ↔ _
  rw [W_bind, W_listD, W_bind, W_datas]
  exact Iff.rfl
theorem V_tupLoc (h : s[j]? = some (.lst (es.map .d))) : W (tupV (.loc j)) s R ↔ R (.d (.tup es)) s := by
  show W (listV (.loc j) >>= fun vs => datas vs >>= fun xs => M.pure (.d (.tup xs))) s R ↔ _
  rw [W_bind, W_listL h, W_bind, W_datas]
  exact Iff.rfl
theorem V_lzip {ds : List D} (hz : ds.length ≤ lineLen) (h : s[j]? = some (.lst (es.map .d))) : W (lzipV (.d (.lst ds)) (.loc j)) s R ↔ R (.d (.lst (tupUp ds es))) s := by
  unfold lzipV
  rw [W_bind, W_listD, W_bind, W_datas, W_bind, W_listL h, W_bind, W_datas, if_pos hz]
  exact Iff.rfl
theorem W_isL {Q : Unit → Store → Prop} (h : s[j]? = some (.lst vs)) : W (isL (.loc j)) s Q ↔ Q () s := by
  unfold isL withL
  rw [W_bind]
  unfold W cellAt
  rw [h]
  exact Iff.rfl
theorem W_setN {vs : List Val} (hj : j < s.length) : W (setN j vs) s R ↔ R (.d .non) (s.set j (.lst vs)) := by
  unfold setN
  rw [W_bind]
  unfold W setCell
  rw [if_pos hj]
  exact Iff.rfl
theorem W_withL {g : List Val → M Val} (h : s[j]? = some (.lst vs)) : W (withL j g) s R ↔ W (g vs) s R := by
  unfold withL
  rw [W_bind]
  have e : cellAt j s = .ok (.lst vs) s := by
    unfold cellAt
    rw [h]
  have e2 : ∀ Q : Cell → Store → Prop, W (cellAt j) s Q ↔ Q (.lst vs) s := fun Q => by
    unfold W
    rw [e]
  rw [e2]
theorem W_appL {v : Val} (h : s[j]? = some (.lst vs)) (hz : vs.length < lineLen) : W (appV (.loc j) v) s R ↔ R (.d .non) (s.set j (.lst (vs ++ [v]))) := by
  show W (withL j fun vs => if vs.length < lineLen then setN j (vs ++ [v]) else M.bad) s R ↔ _
  rw [W_withL h, if_pos hz, W_setN (List.getElem?_eq_some_iff.mp h).1]
theorem W_insL {v : Val} {k : Int} (h : s[j]? = some (.lst vs)) (hz : vs.length < lineLen ∧ 0 ≤ k ∧ k < 2 ^ 63) : W (insV (.loc j) (.d (.int k)) v) s R ↔ R (.d .non) (s.set j (.lst (vs.take k.toNat ++ [v] ++ vs.drop k.toNat))) := by
  show W (withL j fun vs => if vs.length < lineLen ∧ 0 ≤ k ∧ k < 2 ^ 63 then setN j (vs.take k.toNat ++ [v] ++ vs.drop k.toNat) else M.bad) s R ↔ _
  rw [W_withL h, if_pos hz, W_setN (List.getElem?_eq_some_iff.mp h).1]
theorem W_mkT {vs : List Val} : W (mkList true vs) s R ↔ R (.loc s.length) (s ++ [.lst vs]) := Iff.rfl
/-- x[lo:] of data -/
theorem V_slL {lo hi : Option Int} : W (slV (.d (.lst es)) lo hi) s R ↔ R (.d (.lst (cut es lo hi))) s := by
  show W (seqV (.d (.lst es)) >>= fun vs => mkList false (cut vs lo hi)) s R ↔ _
  rw [W_bind]
  show W (mkList false (cut (es.map .d) lo hi)) s R ↔ _
  rw [cut_map, W_mk]
theorem V_slT {lo hi : Option Int} : W (slV (.d (.tup es)) lo hi) s R ↔ R (.d (.tup (cut es lo hi))) s := Iff.rfl
theorem V_ivL {Q : List Val → Store → Prop} : W (iV (.d (.lst es))) s Q ↔ Q (es.map .d) s := Iff.rfl
theorem V_ivT {Q : List Val → Store → Prop} : W (iV (.d (.tup es))) s Q ↔ Q (es.map .d) s := Iff.rfl
theorem cut_one {α : Type} (xs : List α) : cut xs (some 1) none = xs.drop 1 := by
  have e : HT.sIx xs.length 0 (some 1) = min 1 xs.length := HT.sIx_nat xs.length 0 1
  unfold cut
  rw [e, HT.sIx_none]
  cases xs with
  | nil => rfl
  | cons x xs =>
    have e : min 1 (x :: xs).length = 1 := by simp
    rw [e]
    simp
end

/-- two cells, the first and the last argument -/
theorem W_sub2 {f : List Val → M Val} {s : Store} {R : Val → Store → Prop} {t u : Nat} {c e : Cell} (a b : D) (hs : s[t]? = some c) (hu : s[u]? = some e) (tu : t ≠ u) (cl : c.cl = true) (cl2 : e.cl = true)
    (h : W (f [.loc 0, .d a, .d b, .loc 1]) [c, e] fun v s' => ∃ d c' e' g, Fz 2 v s' d ∧ s' = c' :: e' :: g ∧ c'.cl = true ∧ e'.cl = true ∧ R (.d d) ((s.set t c').set u e')) : W (subV false f [.loc t, .d a, .d b, .loc u]) s R := by
  refine W_sub (q := [c, e]) (by show [t, u].Nodup; simp [tu]) ?_ ?_
  · show picks s [t, u] = some [c, e]
    unfold picks picks
    rw [hs, hu]
    simp [picks, cl, cl2]
  · show W (f [.loc 0, .d a, .d b, .loc 1]) [c, e] _
    refine h.mono fun v s' ⟨d, c', e', g, h1, h2, h3, h4, h5⟩ => ⟨(s.set t c').set u e', ?_, fz_back h1 h5⟩
    show lays s [t, u] s' = _
    rw [h2]
    unfold lays
    rw [if_pos h3]
    unfold lays
    rw [if_pos h4]
    exact lays_nil

theorem WS_tp {ts : List Tg} {ρ : Env} {s : Store} {m : Env → M Val} {Q : Fl → Env → Store → Prop} : WS (sAsg (.tp ts) m) ρ s Q ↔ W (m ρ) s fun v s' => ∃ ρ', tgV (.tp ts) v ρ = some ρ' ∧ Q .nx ρ' s' := WS_asg
end Ev
set_option maxRecDepth 100000
set_option maxHeartbeats 8000000
/-! plain layer: nice data, calls without cells, comprehensions over data -/
namespace Ev
open PySem

/-! ### data that == and repr go through -/
structure Nice (k B : Nat) (d : D) : Prop where
  fl : d.flat = true
  sm : d.small = true
  dp : d.depth ≤ k
  wt : d.wt ≤ B
section
variable {k k' B B' n : Nat} {d : D} {xs : List D}
theorem Nice.mono (h : Nice k B d) (hk : k ≤ k') (hB : B ≤ B') : Nice k' B' d := ⟨h.fl, h.sm, Nat.le_trans h.dp hk, Nat.le_trans h.wt hB⟩
theorem Nice.fit (h : Nice k B d) (hk : k ≤ 1000 := by omega) : d.fit = true := by
  unfold D.fit
  rw [h.fl, Bool.true_and, decide_eq_true_eq]
  exact Nat.le_trans h.dp hk
theorem Nice.rep (h : Nice k B d) (hk : k ≤ 1000 := by omega) (hB : B ≤ 16777216 := by omega) : reprOk d = true := by
  unfold reprOk
  rw [h.fit hk, h.sm, Bool.true_and, Bool.true_and, decide_eq_true_eq]
  exact Nat.le_trans h.wt hB
theorem nices : ∀ {xs : List D}, (∀ x ∈ xs, Nice k B x) → D.flats xs = true ∧ D.smalls xs = true ∧ D.depths xs ≤ k ∧ D.wts xs ≤ xs.length * (B + 2)
  | [], _ => ⟨rfl, rfl, Nat.zero_le _, Nat.zero_le _⟩
  | x :: xs, h => by
    obtain ⟨h1, h2, h3, h4⟩ := nices fun y hy => h y (List.mem_cons_of_mem _ hy)
    have hx := h x (List.mem_cons_self ..)
    refine ⟨?_, ?_, ?_, ?_⟩
    · show (x.flat && D.flats xs) = true
      rw [hx.fl, h1]; rfl
    · show (x.small && D.smalls xs) = true
      rw [hx.sm, h2]; rfl
    · show max x.depth (D.depths xs) ≤ k
      exact Nat.max_le.mpr ⟨hx.dp, h3⟩
    · show x.wt + 2 + D.wts xs ≤ (xs.length + 1) * (B + 2)
      have := hx.wt
      rw [Nat.add_mul]
      omega
theorem Nice.tup (h : ∀ x ∈ xs, Nice k B x) (hn : xs.length ≤ n) : Nice (k + 1) (n * (B + 2) + 3) (.tup xs) := by
  obtain ⟨h1, h2, h3, h4⟩ := nices h
  have hm : xs.length * (B + 2) ≤ n * (B + 2) := Nat.mul_le_mul hn (Nat.le_refl _)
  exact ⟨h1, h2, by show D.depths xs + 1 ≤ k + 1; omega, by show D.wts xs + 3 ≤ _; omega⟩
theorem Nice.lst (h : ∀ x ∈ xs, Nice k B x) (hn : xs.length ≤ n) : Nice (k + 1) (n * (B + 2) + 3) (.lst xs) := by
  obtain ⟨h1, h2, h3, h4⟩ := nices h
  have hm : xs.length * (B + 2) ≤ n * (B + 2) := Nat.mul_le_mul hn (Nat.le_refl _)
  exact ⟨h1, h2, by show D.depths xs + 1 ≤ k + 1; omega, by show D.wts xs + 2 ≤ _; omega⟩
theorem Nice.non : Nice 0 1921 .non := ⟨rfl, rfl, Nat.le_refl _, by decide⟩
theorem Nice.bl {b : Bool} : Nice 0 1921 (.bl b) := ⟨rfl, rfl, Nat.le_refl _, by show 5 ≤ _; decide⟩
theorem Nice.int {i : Int} (h : i.natAbs < 2 ^ 64) : Nice 0 1921 (.int i) := by
  refine ⟨rfl, ?_, Nat.le_refl _, Nat.le_refl _⟩
  show decide (i.natAbs.log2 < 1920) = true
  rw [decide_eq_true_eq]
  by_cases z : i.natAbs = 0
  · rw [z]; decide
  · have := (Nat.log2_lt z).mpr h
    omega
theorem Nice.str {x : Str} (h : PyData.strOk x = true) (hl : x.length ≤ 100) : Nice 0 1921 (.str x) :=
  ⟨h, rfl, Nat.le_refl _, by show 10 * x.length + 2 ≤ _; omega⟩
end

/-! ### calls without cells -/
def Ret (c : List Val → M Val) (ds : List D) (d : D) : Prop := W (c (ds.map .d)) [] fun v s' => Fz 0 v s' d
section
variable {c : List Val → M Val} {ds : List D} {d : D} {s : Store} {R : Val → Store → Prop} {n : Nat} {a : Ms}
theorem Ret.call (h : Ret c ds d) (r : R (.d d) s) : W (subV false c (ds.map .d)) s R := W_sub0 ds (W.mono h fun v s' z => ⟨d, z, r⟩)
theorem Ret.body (h : WS a (ds.map (fun x => some (Val.d x)) ++ List.replicate (n - ds.length) none) [] fun f _ s' => match f with
    | .nx => Fz 0 (.d .non) s' d
    | .rt v => Fz 0 v s' d
    | _ => False) : Ret (bodyM n a) ds d := by
  unfold Ret
  rw [W_body, List.map_map, List.length_map]
  exact h
theorem Fz.dat {k : Nat} : Fz k (.d d) s d := .inl rfl
theorem Fz.cel {k j : Nat} {xs : List D} (hj : k ≤ j) (h : s[j]? = some (.lst (xs.map .d))) : Fz k (.loc j) s (.lst xs) := .inr ⟨j, xs, rfl, hj, h, rfl⟩
end

/-! ### conditions that change nothing -/
def Wb (k : Ev.Env → M Bool) (ρ : Ev.Env) (s : Store) (p : Bool) : Prop := W (k ρ) s fun b s' => b = p ∧ s' = s
theorem WS_ifb {k : Ev.Env → M Bool} {ρ : Ev.Env} {s : Store} {p : Bool} {a b : Ms} {Q : Fl → Ev.Env → Store → Prop} (h : Wb k ρ s p) (ht : p = true → WS a ρ s Q) (hf : p = false → WS b ρ s Q) : WS (sIf k a b) ρ s Q := by
  rw [WS_if]
  refine W.mono h ?_
  rintro b s' ⟨rfl, rfl⟩
  cases b with
  | true => rw [if_pos rfl]; exact ht rfl
  | false => rw [if_neg Bool.false_ne_true]; exact hf rfl
theorem W_mifb {k : Ev.Env → M Bool} {ρ : Ev.Env} {s : Store} {p : Bool} {a b : Ev.Env → M Val} {Q : Val → Store → Prop} (h : Wb k ρ s p) (ht : p = true → W (a ρ) s Q) (hf : p = false → W (b ρ) s Q) : W (mIf k a b ρ) s Q := by
  rw [W_mif]
  refine W.mono h ?_
  rintro b s' ⟨rfl, rfl⟩
  cases b with
  | true => rw [if_pos rfl]; exact ht rfl
  | false => rw [if_neg Bool.false_ne_true]; exact hf rfl
section
variable {k l : Ev.Env → M Bool} {ρ : Ev.Env} {s : Store} {p q : Bool}
theorem Wb_or (h : Wb k ρ s p) (g : p = false → Wb l ρ s q) : Wb (kOr k l) ρ s (p || q) := by
  unfold Wb
  rw [W_kor]
  refine W.mono h ?_
  rintro b s' ⟨rfl, rfl⟩
  cases b with
  | true => exact ⟨rfl, rfl⟩
  | false => rw [if_neg Bool.false_ne_true]; exact (g rfl)
theorem Wb_and (h : Wb k ρ s p) (g : p = true → Wb l ρ s q) : Wb (kAnd k l) ρ s (p && q) := by
  unfold Wb
  rw [W_kand]
  refine W.mono h ?_
  rintro b s' ⟨rfl, rfl⟩
  cases b with
  | true => rw [if_pos rfl]; exact (g rfl)
  | false => exact ⟨rfl, rfl⟩
theorem Wb_nt (h : Wb k ρ s p) : Wb (kNt k) ρ s (!p) := by
  unfold Wb
  rw [W_knt]
  refine W.mono h ?_
  rintro b s' ⟨rfl, rfl⟩
  exact ⟨rfl, rfl⟩
theorem Wb_of (h : Wb k ρ s p) (e : p = q) : Wb k ρ s q := e ▸ h
theorem Wb_yes : Wb kYes ρ s true := ⟨rfl, rfl⟩
theorem Wb_int {i : Nat} {a b : Int} {o : Cm} (h : ρ[i]? = some (some (Val.d (.int a)))) (e : ∀ T : Bool → Store → Prop, T p s → W (cmpV o (.d (.int a)) (.d (.int b))) s T) : Wb (kCmp o (mVar i) (mC (.int b))) ρ s p := by
  unfold Wb
  rw [W_kcmp, W_var]
  exact ⟨_, h, e _ ⟨rfl, rfl⟩⟩
theorem Wb_lt {i : Nat} {a b : Int} (h : ρ[i]? = some (some (Val.d (.int a)))) : Wb (kCmp .lt (mVar i) (mC (.int b))) ρ s (decide (a < b)) := Wb_int h fun T z => z
theorem Wb_gt {i : Nat} {a b : Int} (h : ρ[i]? = some (some (Val.d (.int a)))) : Wb (kCmp .gt (mVar i) (mC (.int b))) ρ s (decide (b < a)) := Wb_int h fun T z => z
theorem deq_int {a b : Int} : deq (.int a) (.int b) = decide (a = b) := by
  show (a == b) = _
  rw [Bool.eq_iff_iff]
  simp
theorem deq_str {x y : Str} : deq (.str x) (.str y) = decide (x = y) := by
  show (x == y) = _
  rw [Bool.eq_iff_iff]
  simp
theorem Wb_eq {i : Nat} {a b : Int} (h : ρ[i]? = some (some (Val.d (.int a)))) : Wb (kCmp .eq (mVar i) (mC (.int b))) ρ s (decide (a = b)) := Wb_int h fun T z => (V_eq fit_int fit_int).mpr (by
  rw [deq_int]
  exact z)
/-- any two comparands -/
theorem Wb_cmp {o : Cm} {m n : Ev.Env → M Val} {x y : Val} (hm : W (m ρ) s fun v s' => v = x ∧ s' = s) (hn : W (n ρ) s fun v s' => v = y ∧ s' = s) (h : W (cmpV o x y) s fun b s' => b = p ∧ s' = s) : Wb (kCmp o m n) ρ s p := by
  unfold Wb
  rw [W_kcmp]
  refine hm.mono ?_
  rintro _ _ ⟨rfl, rfl⟩
  refine hn.mono ?_
  rintro _ _ ⟨rfl, rfl⟩
  exact h
theorem Wb_eqD {m n : Ev.Env → M Val} {x y : D} (hm : W (m ρ) s fun v s' => v = .d x ∧ s' = s) (hn : W (n ρ) s fun v s' => v = .d y ∧ s' = s) (hx : x.fit = true) (hy : y.fit = true) : Wb (kCmp .eq m n) ρ s (deq x y) :=
  Wb_cmp hm hn ((V_eq hx hy).mpr ⟨rfl, rfl⟩)
theorem Wb_neD {m n : Ev.Env → M Val} {x y : D} (hm : W (m ρ) s fun v s' => v = .d x ∧ s' = s) (hn : W (n ρ) s fun v s' => v = .d y ∧ s' = s) (hx : x.fit = true) (hy : y.fit = true) : Wb (kCmp .ne m n) ρ s (!deq x y) :=
  Wb_cmp hm hn ((V_ne hx hy).mpr ⟨rfl, rfl⟩)
theorem K_var {i : Nat} {v : Val} (h : ρ[i]? = some (some v)) : W (mVar i ρ) s fun u s' => u = v ∧ s' = s := by
  rw [W_var]
  exact ⟨_, h, rfl, rfl⟩
theorem K_C {d : D} : W (mC d ρ) s fun u s' => u = .d d ∧ s' = s := ⟨rfl, rfl⟩
theorem K_Str {d : Str} : W (mStr d ρ) s fun u s' => u = .d (.str d) ∧ s' = s := ⟨rfl, rfl⟩
theorem K_ix {m n : Ev.Env → M Val} {xs : List D} {i : Int} {x : D} (hm : W (m ρ) s fun v s' => v = .d (.tup xs) ∧ s' = s) (hn : W (n ρ) s fun v s' => v = .d (.int i) ∧ s' = s) (h : L2.atI xs i = some x) : W (mIx m n ρ) s fun u s' => u = .d x ∧ s' = s := by
  rw [W_ix]
  refine hm.mono ?_
  rintro _ _ ⟨rfl, rfl⟩
  refine hn.mono ?_
  rintro _ _ ⟨rfl, rfl⟩
  rw [V_ixT h]
  exact ⟨rfl, rfl⟩
theorem K_ixL {m n : Ev.Env → M Val} {xs : List D} {i : Int} {x : D} (hm : W (m ρ) s fun v s' => v = .d (.lst xs) ∧ s' = s) (hn : W (n ρ) s fun v s' => v = .d (.int i) ∧ s' = s) (h : L2.atI xs i = some x) : W (mIx m n ρ) s fun u s' => u = .d x ∧ s' = s := by
  rw [W_ix]
  refine hm.mono ?_
  rintro _ _ ⟨rfl, rfl⟩
  refine hn.mono ?_
  rintro _ _ ⟨rfl, rfl⟩
  rw [V_ixL h]
  exact ⟨rfl, rfl⟩
/-- the word of a thing is ..  -/
theorem Wb_eqS {i : Nat} {x y : Str} (h : ρ[i]? = some (some (Val.d (.str x)))) (hx : PyData.strOk x = true) (hy : PyData.strOk y = true := by decide +kernel) : Wb (kCmp .eq (mVar i) (mC (.str y))) ρ s (decide (x = y)) :=
  Wb_of (Wb_eqD (K_var h) K_C (fit_str hx) (fit_str hy)) deq_str
theorem Wb_tr {m : Ev.Env → M Val} (h : W (m ρ) s fun v s' => v = .d (.bl p) ∧ s' = s) : Wb (kTr m) ρ s p := by
  unfold Wb
  rw [W_ktr]
  refine h.mono ?_
  rintro _ _ ⟨rfl, rfl⟩
  exact ⟨rfl, rfl⟩
def tyB : Ty → D → Bool
  | .str, .str _ => true
  | .int, .int _ => true
  | .int, .bl _ => true
  | .bool, .bl _ => true
  | .tuple, .tup _ => true
  | .list, .lst _ => true
  | .dict, .dct _ => true
  | _, _ => false
theorem isTy_d {t : Ty} {x : D} {T : Bool → Store → Prop} : W (isTy t (.d x)) s T ↔ T (tyB t x) s := by
  cases t <;> cases x <;> exact Iff.rfl
theorem Wb_inst {t : Ty} {m : Ev.Env → M Val} {x : D} (h : W (m ρ) s fun v s' => v = .d x ∧ s' = s) : Wb (kTr (mInst t m)) ρ s (tyB t x) := by
  refine Wb_tr ?_
  rw [W_inst]
  refine h.mono ?_
  rintro _ _ ⟨rfl, rfl⟩
  rw [isTy_d]
  exact ⟨rfl, rfl⟩
end

/-! ### in -/
theorem V_in {a : D} {ds : List D} {s : Store} {T : Bool → Store → Prop} (ha : a.fit = true) (hd : ∀ d ∈ ds, d.fit = true) : (W (cmpV .isin (.d a) (.d (.tup ds))) s T ↔ T (memD a ds) s) ∧ (W (cmpV .isin (.d a) (.d (.lst ds))) s T ↔ T (memD a ds) s) := by
  have all : (ds.all D.fit) = true := List.all_eq_true.mpr hd
  have e : ∀ T : Bool → Store → Prop, W (datas (ds.map .d) >>= fun bs => if a.fit = true ∧ bs.all D.fit = true then M.pure (memD a bs) else M.bad) s T ↔ T (memD a ds) s := fun T => by
    rw [W_bind, W_datas, W_ite, if_pos ⟨ha, all⟩, W_pure]
  exact ⟨e T, e T⟩
theorem V_inT {a : D} {ds : List D} {s : Store} {T : Bool → Store → Prop} (ha : a.fit = true) (hd : ∀ d ∈ ds, d.fit = true) : W (cmpV .isin (.d a) (.d (.tup ds))) s T ↔ T (memD a ds) s := (V_in ha hd).1
theorem V_inL {a : D} {ds : List D} {s : Store} {T : Bool → Store → Prop} (ha : a.fit = true) (hd : ∀ d ∈ ds, d.fit = true) : W (cmpV .isin (.d a) (.d (.lst ds))) s T ↔ T (memD a ds) s := (V_in ha hd).2
theorem memD_strs {x : Str} {xs : List Str} : memD (.str x) (xs.map .str) = decide (x ∈ xs) := by
  induction xs with
  | nil => simp [memD]
  | cons y xs ih =>
    show (deq (.str y) (.str x) || memD (.str x) (xs.map .str)) = _
    rw [ih, deq_str, Bool.eq_iff_iff, Bool.or_eq_true, decide_eq_true_eq, decide_eq_true_eq, decide_eq_true_eq, List.mem_cons]
    constructor
    · rintro (h | h)
      · exact .inl h.symm
      · exact .inr h
    · rintro (h | h)
      · exact .inl h.symm
      · exact .inr h

/-! ### written tuples and lists -/
theorem V_d0 {s : Store} {R : List D → Store → Prop} : W (datas []) s R ↔ R [] s := Iff.rfl
theorem V_d1 {x : D} {vs : List Val} {s : Store} {R : List D → Store → Prop} : W (datas (.d x :: vs)) s R ↔ W (datas vs) s fun xs s' => R (x :: xs) s' := by
  show W (M.pure x >>= fun x => datas vs >>= fun xs => M.pure (x :: xs)) s R ↔ _
  rw [W_bind]
  show W (datas vs >>= fun xs => M.pure (x :: xs)) s R ↔ _
  rw [W_bind]
  exact Iff.rfl
theorem W_mkF {vs : List Val} {s : Store} {R : Val → Store → Prop} : W (mkList false vs) s R ↔ W (datas vs) s fun xs s' => R (.d (.lst xs)) s' := by
  show W (datas vs >>= fun xs => M.pure (.d (.lst xs))) s R ↔ _
  rw [W_bind]
  exact Iff.rfl
theorem V_pow9 {s : Store} {R : Val → Store → Prop} : W (binV .pow (.d (.int 10)) (.d (.int 9))) s R ↔ R (.d (.int 1000000000)) s := by
  rw [V_pow]
  constructor
  · exact fun h => h.2
  · exact fun h => ⟨by decide, h⟩
theorem V_pow18 {s : Store} {R : Val → Store → Prop} : W (binV .pow (.d (.int 10)) (.d (.int 18))) s R ↔ R (.d (.int 1000000000000000000)) s := by
  rw [V_pow]
  constructor
  · exact fun h => h.2
  · exact fun h => ⟨by decide, h⟩

theorem at_0 {x : D} {r : List D} : L2.atI (x :: r) 0 = some x := atI_nat (by decide) rfl
theorem at_1 {x y : D} {r : List D} : L2.atI (x :: y :: r) 1 = some y := atI_nat (by decide) rfl
theorem at_2 {x y z : D} {r : List D} : L2.atI (x :: y :: z :: r) 2 = some z := atI_nat (by decide) rfl
section
variable {x y z : D} {r : List D} {s : Store} {R : Val → Store → Prop}
theorem V_ix0 : W (ixV (.d (.tup (x :: r))) (.d (.int 0))) s R ↔ R (.d x) s := V_ixT at_0
theorem V_ix1 : W (ixV (.d (.tup (x :: y :: r))) (.d (.int 1))) s R ↔ R (.d y) s := V_ixT at_1
theorem V_ix2 : W (ixV (.d (.tup (x :: y :: z :: r))) (.d (.int 2))) s R ↔ R (.d z) s := V_ixT at_2
theorem V_ixL0 : W (ixV (.d (.lst (x :: r))) (.d (.int 0))) s R ↔ R (.d x) s := V_ixL at_0
theorem V_ixL1 : W (ixV (.d (.lst (x :: y :: r))) (.d (.int 1))) s R ↔ R (.d y) s := V_ixL at_1
end
theorem V_extLoc {s : Store} {j : Nat} {vs : List Val} {es : List D} {R : Val → Store → Prop} (h : s[j]? = some (.lst vs)) (hz : vs.length + es.length ≤ lineLen) (r : R (.d .non) (s.set j (.lst (vs ++ es.map .d)))) : W (extV (.loc j) (.d (.lst es))) s R := by
  show W (listV (.d (.lst es)) >>= fun ys => withL j fun vs => if vs.length + ys.length ≤ lineLen then setN j (vs ++ ys) else M.bad) s R
  rw [W_bind, W_listD, W_withL h, if_pos (by rw [List.length_map]; exact hz), W_setN (List.getElem?_eq_some_iff.mp h).1]
  exact r
theorem flat_len {b : Nat} : ∀ {l : List (List Str)}, (∀ y ∈ l, y.length ≤ b) → l.flatten.length ≤ l.length * b
  | [], _ => by simp
  | y :: l, h => by
    have h1 := h y (List.mem_cons_self ..)
    have h2 := flat_len fun z hz => h z (List.mem_cons_of_mem _ hz)
    simp only [List.flatten_cons, List.length_append, List.length_cons, Nat.add_mul]
    omega
theorem flat_next {l : List (List Str)} {i : Nat} {y : List Str} (h : l[i]? = some y) : (l.take (i + 1)).flatten = (l.take i).flatten ++ y := by
  rw [List.take_succ, h, List.flatten_append]
  simp

/-! ### repr, sum -/
theorem V_repr {x : D} {s : Store} {R : Val → Store → Prop} (h : reprOk x = true) (r : R (.d (.str x.py.shown)) s) : W (biV .repr [.d x]) s R := by
  show W (M.pure x >>= fun d => if reprOk d = true then M.pure (.d (.str d.py.shown)) else M.bad) s R
  rw [W_bind]
  show W (if reprOk x = true then M.pure (.d (.str x.py.shown)) else M.bad) s R
  rw [if_pos h]
  exact r
theorem W_sumI {is : List Int} {s : Store} {Q : Int → Store → Prop} : W (sumI ((is.map D.int).map .d)) s Q ↔ Q is.sum s := by
  induction is generalizing Q with
  | nil => exact Iff.rfl
  | cons i is ih =>
    show W (sumI ((is.map D.int).map .d) >>= fun n => M.pure (i + n)) s Q ↔ _
    rw [W_bind, ih, List.sum_cons]
    exact Iff.rfl
theorem V_sum {is : List Int} {s : Store} {R : Val → Store → Prop} (r : R (.d (.int is.sum)) s) : W (biV .sum [.d (.lst (is.map .int))]) s R := by
  show W (listV (.d (.lst (is.map .int))) >>= fun vs => sumI vs >>= fun n => M.pure (.d (.int n))) s R
  rw [W_bind]
  show W (sumI ((is.map D.int).map .d) >>= fun n => M.pure (.d (.int n))) s R
  rw [W_bind, W_sumI]
  exact r
theorem sum_bound {b : Int} : ∀ {is : List Int}, (∀ i ∈ is, 0 ≤ i ∧ i ≤ b) → 0 ≤ is.sum ∧ is.sum ≤ is.length * b
  | [], _ => by simp
  | i :: is, h => by
    have h1 := h i (List.mem_cons_self ..)
    have h2 := sum_bound fun j hj => h j (List.mem_cons_of_mem _ hj)
    simp only [List.sum_cons, List.length_cons]
    have e : ((is.length + 1 : Nat) : Int) * b = (is.length : Int) * b + b := by
      rw [Int.natCast_add, Int.add_mul]
      simp
    omega

/-! ### comprehensions over data -/
theorem W_lcD {ix : List Nat} {v : Nat} {me : Ev.Env → M Val} {mi : Ev.Env → M (List Val)} {ρ : Ev.Env} {s : Store} {R : Val → Store → Prop} (xs ys : List D) (hi : ∀ Q : List Val → Store → Prop, Q (xs.map .d) s → W (mi ρ) s Q) (hz : xs.length ≤ lineLen) (hv : v < (wipeE ρ ix).length) (hl : ys.length = xs.length)
    (step : ∀ (i : Nat) (x y : D), xs[i]? = some x → ys[i]? = some y → W (me ((wipeE ρ ix).set v (some (.d x)))) s fun r s' => r = .d y ∧ s' = s) (r : R (.d (.lst ys)) s) : W (mLc false ix (.nm v) mi kYes me ρ) s R := by
  refine W_lc (hi _ ⟨by rw [List.length_map]; exact hz, fun i zs s' => s' = s ∧ zs = (ys.take i).map Val.d, ⟨rfl, rfl⟩, ?_, ?_⟩)
  · rintro i u zs s' hu ⟨rfl, rfl⟩
    rw [List.getElem?_map] at hu
    cases ex : xs[i]? with
    | none => rw [ex] at hu; cases hu
    | some x =>
      rw [ex] at hu
      cases hu
      have il : i < ys.length := by rw [hl]; exact (List.getElem?_eq_some_iff.mp ex).1
      refine ⟨_, if_pos hv, ?_⟩
      show W (M.pure true) _ _
      rw [W_pure, if_pos rfl]
      refine (step i x ys[i] ex (List.getElem?_eq_getElem il)).mono ?_
      rintro _ _ ⟨rfl, rfl⟩
      refine ⟨rfl, ?_⟩
      rw [List.take_succ, List.getElem?_eq_getElem il, List.map_append]
      rfl
  · rintro zs s' ⟨rfl, rfl⟩
    have e : ys.take (xs.map Val.d).length = ys := by rw [List.length_map, ← hl, List.take_length]
    rw [e, W_mk]
    exact r
theorem W_lcF {ix : List Nat} {v : Nat} {kc : Ev.Env → M Bool} {mi : Ev.Env → M (List Val)} {ρ : Ev.Env} {s : Store} {R : Val → Store → Prop} (xs : List D) (p : D → Bool) (hi : ∀ Q : List Val → Store → Prop, Q (xs.map .d) s → W (mi ρ) s Q) (hz : xs.length ≤ lineLen) (hv : v < (wipeE ρ ix).length)
    (step : ∀ x ∈ xs, Wb kc ((wipeE ρ ix).set v (some (.d x))) s (p x)) (r : R (.d (.lst (xs.filter p))) s) : W (mLc false ix (.nm v) mi kc (mVar v) ρ) s R := by
  refine W_lc (hi _ ⟨by rw [List.length_map]; exact hz, fun i zs s' => s' = s ∧ zs = ((xs.take i).filter p).map Val.d, ⟨rfl, rfl⟩, ?_, ?_⟩)
  · rintro i u zs s' hu ⟨rfl, rfl⟩
    rw [List.getElem?_map] at hu
    cases ex : xs[i]? with
    | none => rw [ex] at hu; cases hu
    | some x =>
      rw [ex] at hu
      cases hu
      refine ⟨_, if_pos hv, ?_⟩
      refine W.mono (step x (List.mem_of_getElem? ex)) ?_
      rintro b s2 ⟨rfl, rfl⟩
      have tk : (xs.take (i + 1)).filter p = (xs.take i).filter p ++ if p x then [x] else [] := by
        rw [List.take_succ, ex, List.filter_append]
        cases q : p x <;> simp [q, List.filter]
      cases q : p x with
      | true =>
        rw [if_pos rfl, W_var]
        refine ⟨_, by rw [List.getElem?_set_self hv], rfl, ?_⟩
        rw [tk, q, if_pos rfl, List.map_append]
        rfl
      | false =>
        rw [if_neg Bool.false_ne_true]
        refine ⟨rfl, ?_⟩
        rw [tk, q, if_neg Bool.false_ne_true, List.append_nil]
  · rintro zs s' ⟨rfl, rfl⟩
    have e : xs.take (xs.map Val.d).length = xs := by rw [List.length_map, List.take_length]
    rw [e, W_mk]
    exact r
theorem choose_list {α β : Type} {P : α → β → Prop} : ∀ {xs : List α}, (∀ x ∈ xs, ∃ y, P x y) → ∃ ys : List β, ys.length = xs.length ∧ ∀ (i : Nat) (x : α) (y : β), xs[i]? = some x → ys[i]? = some y → P x y
  | [], _ => ⟨[], rfl, fun i x y h => by simp at h⟩
  | x :: xs, h => by
    obtain ⟨y, hy⟩ := h x (List.mem_cons_self ..)
    obtain ⟨ys, hl, hp⟩ := choose_list fun z hz => h z (List.mem_cons_of_mem _ hz)
    refine ⟨y :: ys, by simp [hl], fun i a b ha hb => ?_⟩
    cases i with
    | zero => simp at ha hb; rw [← ha, ← hb]; exact hy
    | succ i => exact hp i a b (by simpa using ha) (by simpa using hb)
theorem len_pos_at {α : Type} {xs : List α} {n : Nat} (h : xs.length = n + 1) : ∃ x r, xs = x :: r ∧ r.length = n := by
  cases xs with
  | nil => cases h
  | cons x r => exact ⟨x, r, rfl, by simpa using h⟩
theorem dat_at {xs : List D} {j : Nat} {v : Val} (h : (xs.map Val.d)[j]? = some v) : ∃ d, xs[j]? = some d ∧ d ∈ xs ∧ v = .d d := by
  rw [List.getElem?_map] at h
  cases e : xs[j]? with
  | none => rw [e] at h; cases h
  | some d => rw [e] at h; cases h; exact ⟨d, rfl, List.mem_of_getElem? e, rfl⟩
/-! each once -/
theorem metS_nodup (xs : List Str) : (metS xs).length < xs.length ↔ ¬ xs.Nodup := by
  have key : ∀ (r acc : List Str), (r.foldl stepS acc).length ≤ acc.length + r.length ∧ ((r.foldl stepS acc).length = acc.length + r.length ↔ r.Nodup ∧ ∀ x ∈ r, x ∉ acc) := by
    intro r
    induction r with
    | nil => intro acc; simp
    | cons x r ih =>
      intro acc
      obtain ⟨h1, h2⟩ := ih (stepS acc x)
      have h3 := stepS_len acc x
      have h4 : ∀ y, y ∈ stepS acc x ↔ y ∈ acc ∨ y = x := fun y => by
        have h := stepS_any acc x y
        have e : ∀ (l : List Str), l.any (· == y) = true ↔ y ∈ l := fun l => by simp
        rw [← e, ← e, h]
        simp
      simp only [List.foldl_cons, List.length_cons]
      by_cases hx : x ∈ acc
      · have e : acc.any (· == x) = true := by simpa using hx
        rw [if_pos e] at h3
        refine ⟨by omega, ?_⟩
        constructor
        · intro h; omega
        · rintro ⟨_, h⟩; exact absurd hx (h x (List.mem_cons_self ..))
      · have e : ¬ acc.any (· == x) = true := by simpa using hx
        rw [if_neg e] at h3
        refine ⟨by omega, ?_⟩
        rw [List.nodup_cons]
        constructor
        · intro h
          obtain ⟨g1, g2⟩ := h2.mp (by omega)
          refine ⟨⟨fun z => g2 x z ((h4 x).mpr (.inr rfl)), g1⟩, fun y hy => ?_⟩
          rcases List.mem_cons.mp hy with rfl | hy
          · exact hx
          · exact fun z => g2 y hy ((h4 y).mpr (.inl z))
        · rintro ⟨⟨g1, g2⟩, g3⟩
          have := h2.mpr ⟨g2, fun y hy z => by
            rcases (h4 y).mp z with z | rfl
            · exact g3 y (List.mem_cons_of_mem _ hy) z
            · exact g1 hy⟩
          omega
  obtain ⟨h1, h2⟩ := key xs []
  simp only [List.length_nil, Nat.zero_add] at h1 h2
  have h3 : (xs.foldl stepS []).length = xs.length ↔ xs.Nodup := by rw [h2]; simp
  unfold metS
  rw [← h3]
  omega
theorem count_nodup (xs : List Str) : xs.filter (fun x => decide (1 < xs.count x)) = [] ↔ xs.Nodup := by
  rw [List.filter_eq_nil_iff, List.nodup_iff_count]
  constructor
  · intro h a
    by_cases ha : a ∈ xs
    · have := h a ha
      simpa using this
    · rw [List.count_eq_zero_of_not_mem ha]; omega
  · intro h a _
    have := h a
    simpa using this
end Ev
set_option maxRecDepth 100000
set_option maxHeartbeats 8000000
/-! what repr shows is a text -/
namespace Ev
open PySem

def okS (x : Str) : Prop := ∀ c ∈ x.cps.toList, c < 0x110000
theorem okS_iff {x : Str} : PyData.strOk x = true ↔ okS x := by
  unfold PyData.strOk okS
  rw [← Array.all_toList, List.all_eq_true]
  simp
theorem okS_app {a b : Str} (ha : okS a) (hb : okS b) : okS (a ++ b) := by
  intro c hc
  have e : (a ++ b).cps.toList = a.cps.toList ++ b.cps.toList := by
    show (a.cps ++ b.cps).toList = _
    simp
  rw [e] at hc
  rcases List.mem_append.mp hc with h | h
  · exact ha c h
  · exact hb c h
theorem char_small (c : Char) : c.toNat < 0x110000 := by
  have h := c.valid
  simp only [UInt32.isValidChar, Nat.isValidChar] at h
  show c.val.toNat < _
  omega
theorem okS_of (s : String) : okS (Str.ofString s) := by
  rw [Str.ofString_eq_toList]
  intro c hc
  have hc' : c ∈ s.toList.map Char.toNat := hc
  obtain ⟨ch, _, rfl⟩ := List.mem_map.mp hc'
  exact char_small ch
theorem chars_small (l : List Char) : ∀ c ∈ l.map Char.toNat, c < 0x110000 := by
  intro c hc
  obtain ⟨ch, _, rfl⟩ := List.mem_map.mp hc
  exact char_small ch
theorem reprChar_small {q c : Nat} (hc : c < 0x110000) : ∀ d ∈ PySem.Builtin.Str.reprChar q c, d < 0x110000 := by
  have hex : ∀ w, ∀ d ∈ List.replicate w 48 ++ (Nat.toDigits 16 c).map Char.toNat, d < 0x110000 := fun w d hd => by
    rcases List.mem_append.mp hd with h | h
    · rw [(List.mem_replicate.mp h).2]; decide
    · exact chars_small _ d h
  have two : ∀ a b : Nat, a < 0x110000 → b < 0x110000 → ∀ d ∈ [a, b], d < 0x110000 := fun a b ha hb d hd => by
    simp at hd
    rcases hd with rfl | rfl
    · exact ha
    · exact hb
  have app : ∀ a b : Nat, ∀ l : List Nat, a < 0x110000 → b < 0x110000 → (∀ d ∈ l, d < 0x110000) → ∀ d ∈ [a, b] ++ l, d < 0x110000 := fun a b l ha hb hl d hd => by
    rcases List.mem_append.mp hd with h | h
    · exact two a b ha hb d h
    · exact hl d h
  unfold PySem.Builtin.Str.reprChar
  intro d
  split
  · exact two _ _ (by decide) hc d
  · split
    · exact two _ _ (by decide) (by decide) d
    · split
      · exact two _ _ (by decide) (by decide) d
      · split
        · exact two _ _ (by decide) (by decide) d
        · split
          · intro hd
            simp at hd
            rw [hd]; exact hc
          · split
            · exact app _ _ _ (by decide) (by decide) (hex _) d
            · split
              · exact app _ _ _ (by decide) (by decide) (hex _) d
              · exact app _ _ _ (by decide) (by decide) (hex _) d
theorem quote_small (x : Str) : reprQuote x < 0x110000 := by
  unfold reprQuote
  split <;> decide
theorem okS_repr {x : Str} (h : okS x) : okS (reprText x) := by
  unfold reprText
  have key : ∀ (l : List Nat) (acc : Array Nat), (∀ c ∈ l, c < 0x110000) → (∀ c ∈ acc.toList, c < 0x110000) → ∀ c ∈ (l.foldl (fun out c => out ++ (PySem.Builtin.Str.reprChar (reprQuote x) c).toArray) acc).toList, c < 0x110000 := by
    intro l
    induction l with
    | nil => intro acc _ ha; exact ha
    | cons c l ih =>
      intro acc hl ha
      simp only [List.foldl_cons]
      refine ih _ (fun d hd => hl d (List.mem_cons_of_mem _ hd)) fun d hd => ?_
      rw [Array.toList_append] at hd
      rcases List.mem_append.mp hd with g | g
      · exact ha d g
      · exact reprChar_small (hl c (List.mem_cons_self ..)) d g
  intro c hc
  have hc' : c ∈ ((x.cps.foldl (fun out c => out ++ (PySem.Builtin.Str.reprChar (reprQuote x) c).toArray) #[reprQuote x]).push (reprQuote x)).toList := hc
  rw [Array.toList_push] at hc'
  rcases List.mem_append.mp hc' with g | g
  · rw [← Array.foldl_toList] at g
    exact key _ _ h (fun d hd => by simp at hd; rw [hd]; exact quote_small x) c g
  · simp at g
    rw [g]; exact quote_small x
theorem okS_from : ∀ (ts : List Str) (k : Nat) (acc : Str), (∀ t ∈ ts, okS t) → okS acc → okS (textFrom k acc ts)
  | [], _, acc, _, h => h
  | t :: ts, k, acc, ht, h => by
    refine okS_from ts (k + 1) _ (fun u hu => ht u (List.mem_cons_of_mem _ hu)) ?_
    refine okS_app (okS_app h ?_) (ht t (List.mem_cons_self ..))
    split
    · exact okS_of _
    · exact okS_of _
theorem okS_join {sep : Str} (hs : okS sep) : ∀ (ts : List Str), (∀ t ∈ ts, okS t) → okS (Str.join sep ts)
  | [], _ => fun c hc => by cases hc
  | [t], h => h t (List.mem_cons_self ..)
  | t :: u :: ts, h => okS_app (okS_app (h t (List.mem_cons_self ..)) hs) (okS_join hs (u :: ts) fun v hv => h v (List.mem_cons_of_mem _ hv))
theorem okS_list {ts : List Str} (h : ∀ t ∈ ts, okS t) : okS (listText ts) := okS_app (okS_from ts 0 _ h (okS_of _)) (okS_of _)
theorem okS_tuple {ts : List Str} (h : ∀ t ∈ ts, okS t) : okS (tupleText ts) := by
  unfold tupleText
  refine okS_app (okS_app (okS_of _) (okS_join (okS_of _) ts h)) ?_
  split
  · exact okS_of _
  · exact okS_of _
mutual
theorem shown_ok : ∀ {d : D}, d.flat = true → okS d.py.shown
  | .non, _ => okS_of _
  | .bl b, _ => by cases b <;> exact okS_of _
  | .int i, _ => okS_of _
  | .str x, h => okS_repr (okS_iff.mp h)
  | .tup xs, h => okS_tuple (showns_ok (d := xs) h)
  | .lst xs, h => okS_list (showns_ok (d := xs) h)
  | .dct _, h => by cases h
theorem showns_ok : ∀ {d : List D}, D.flats d = true → ∀ t ∈ PyData.shownAll (D.pys d), okS t
  | [], _ => fun t ht => by cases ht
  | x :: xs, h => by
    have h' : (x.flat && D.flats xs) = true := h
    rw [Bool.and_eq_true] at h'
    intro t ht
    rcases List.mem_cons.mp ht with rfl | ht
    · exact shown_ok h'.1
    · exact showns_ok h'.2 t ht
end
theorem fit_shown {k B : Nat} {d : D} (h : Nice k B d) : (D.str d.py.shown).fit = true := fit_str (okS_iff.mpr (shown_ok h.fl))
end Ev
set_option maxRecDepth 100000
set_option maxHeartbeats 0
namespace My
open Ev PySem PySem.Spec PyProof.Rows L2
/-! the row's defs, as data -/
abbrev PG : Program := (PySem.Challenge.rw_ruleplans_k57_marks_and_ways).prog
def top (i : Nat) : Stmt := PySem.Challenge.pw_ruleplans_k57_marks_and_ways.main.body.getD i (.Pass ⟨0, 0, 0, 0⟩)
abbrev dd (x : Str) (i : Nat) : He.DefD := ⟨(x, none), x, x, defArgs (top i), defBody (top i), defScope (top i), [], []⟩
def fn : List He.DefD := [dd (Str.ofString "is_whole") 1, dd (Str.ofString "many_inner") 5, dd (Str.ofString "inner_of") 6, dd (Str.ofString "unknowns_in") 8, dd (Str.ofString "rule_of") 9, dd (Str.ofString "is_marks") 15, dd (Str.ofString "mark_by") 16, dd (Str.ofString "mark_of") 17, dd (Str.ofString "way_of_rule") 18, dd (Str.ofString "way_of") 19, dd (Str.ofString "_law_tape") 21, dd (Str.ofString "_law_draw") 22, dd (Str.ofString "_law_names") 23, dd (Str.ofString "_law_signs") 24, dd (Str.ofString "_law_left") 25, dd (Str.ofString "_law_right") 26, dd (Str.ofString "_law_rules") 27, dd (Str.ofString "_law_leaf") 28, dd (Str.ofString "_law_plan") 29, dd (Str.ofString "_law_weight") 30, dd (Str.ofString "_law_unknowns") 31, dd (Str.ofString "_law_rule_way") 32, dd (Str.ofString "_law_way") 33, dd (Str.ofString "_law_marks") 34, dd (Str.ofString "_law_bent") 35, dd (Str.ofString "_law_is_marks") 36, dd (Str.ofString "_law_tree") 37, dd (Str.ofString "_law_opened") 38, dd (Str.ofString "_law_told_right") 39, dd (Str.ofString "_law_great_right") 40, dd (Str.ofString "law") 41]
def fa : List He.Fa := [.glo (Str.ofString "is_whole"), .glo (Str.ofString "many_inner"), .glo (Str.ofString "inner_of"), .glo (Str.ofString "unknowns_in"), .glo (Str.ofString "rule_of"), .glo (Str.ofString "is_marks"), .glo (Str.ofString "mark_by"), .glo (Str.ofString "mark_of"), .glo (Str.ofString "way_of_rule"), .glo (Str.ofString "way_of"), .glo (Str.ofString "_law_tape"), .glo (Str.ofString "_law_draw"), .glo (Str.ofString "_law_names"), .glo (Str.ofString "_law_signs"), .glo (Str.ofString "_law_left"), .glo (Str.ofString "_law_right"), .glo (Str.ofString "_law_rules"), .glo (Str.ofString "_law_leaf"), .glo (Str.ofString "_law_plan"), .glo (Str.ofString "_law_weight"), .glo (Str.ofString "_law_unknowns"), .glo (Str.ofString "_law_rule_way"), .glo (Str.ofString "_law_way"), .glo (Str.ofString "_law_marks"), .glo (Str.ofString "_law_bent"), .glo (Str.ofString "_law_is_marks"), .glo (Str.ofString "_law_tree"), .glo (Str.ofString "_law_opened"), .glo (Str.ofString "_law_told_right"), .glo (Str.ofString "_law_great_right"), .glo (Str.ofString "law"), .glo (Str.ofString "INNER"), .glo (Str.ofString "INNER_ALL"), .free (Str.ofString "bool"), .free (Str.ofString "dict"), .free (Str.ofString "int"), .free (Str.ofString "isinstance"), .free (Str.ofString "len"), .free (Str.ofString "list"), .free (Str.ofString "range"), .free (Str.ofString "repr"), .free (Str.ofString "set"), .free (Str.ofString "str"), .free (Str.ofString "sum"), .free (Str.ofString "tuple"), .free (Str.ofString "zip"), .str (Str.ofString "FALLS") (Str.ofString "falls"), .str (Str.ofString "KEEPS") (Str.ofString "keeps"), .str (Str.ofString "RISES") (Str.ofString "rises"), .int (Str.ofString "GREATEST_WEIGHT") 1000000000]
def tab_INNER : List (Str × Option D) := [((Str.ofString "stay"), some (.int 0)), ((Str.ofString "never"), some (.int 0)), ((Str.ofString "use"), some (.int 0)), ((Str.ofString "any"), some (.int 0)), ((Str.ofString "then"), some (.int 2)), ((Str.ofString "else"), some (.int 2)), ((Str.ofString "try"), some (.int 1)), ((Str.ofString "not"), some (.int 1)), ((Str.ofString "again"), some (.int 1)), ((Str.ofString "one"), none), ((Str.ofString "all"), none), ((Str.ofString "down"), none), ((Str.ofString "up"), none), ((Str.ofString "find"), none), ((Str.ofString "dig"), none)]
def tab_INNER_ALL : List (Str × Option D) := [((Str.ofString "stay"), none), ((Str.ofString "never"), none), ((Str.ofString "use"), none), ((Str.ofString "any"), none), ((Str.ofString "then"), none), ((Str.ofString "else"), none), ((Str.ofString "try"), none), ((Str.ofString "not"), none), ((Str.ofString "again"), none), ((Str.ofString "one"), some (.int 1)), ((Str.ofString "all"), some (.int 1)), ((Str.ofString "down"), some (.int 1)), ((Str.ofString "up"), some (.int 1)), ((Str.ofString "find"), some (.int 1)), ((Str.ofString "dig"), some (.int 1))]
def ts : List KTb := [(fun K => He.ga K (Str.ofString "INNER"), [(Str.ofString "stay"), (Str.ofString "never"), (Str.ofString "use"), (Str.ofString "any"), (Str.ofString "then"), (Str.ofString "else"), (Str.ofString "try"), (Str.ofString "not"), (Str.ofString "again")], tab_INNER), (fun K => He.ga K (Str.ofString "INNER_ALL"), [(Str.ofString "one"), (Str.ofString "all"), (Str.ofString "down"), (Str.ofString "up"), (Str.ofString "find"), (Str.ofString "dig")], tab_INNER_ALL)]
structure Hd (h : Heap) (K : PySem.W.Frag) (mg : Str → Option Value) (w : World) : Prop where
  kin : K.In h
  ns : h.Ns mainGlobals mg
  says : SaysE fa fn ts w K
def C0 (K : PySem.W.Frag) : Cn := ⟨K, fun _ => 0, fun _ => [], fun _ _ _ _ => False⟩
section
variable {h : Heap} {K : PySem.W.Frag} {mg : Str → Option Value} {w : World} {base : Heap}
theorem fr_bool (U : Hd h K mg w) : mg (Str.ofString "bool") = none := He.free_ok U.kin U.ns (U.says.d.fact 33 (f := .free (Str.ofString "bool")) rfl)
theorem fr_dict (U : Hd h K mg w) : mg (Str.ofString "dict") = none := He.free_ok U.kin U.ns (U.says.d.fact 34 (f := .free (Str.ofString "dict")) rfl)
theorem fr_int (U : Hd h K mg w) : mg (Str.ofString "int") = none := He.free_ok U.kin U.ns (U.says.d.fact 35 (f := .free (Str.ofString "int")) rfl)
theorem fr_isinstance (U : Hd h K mg w) : mg (Str.ofString "isinstance") = none := He.free_ok U.kin U.ns (U.says.d.fact 36 (f := .free (Str.ofString "isinstance")) rfl)
theorem fr_len (U : Hd h K mg w) : mg (Str.ofString "len") = none := He.free_ok U.kin U.ns (U.says.d.fact 37 (f := .free (Str.ofString "len")) rfl)
theorem fr_list (U : Hd h K mg w) : mg (Str.ofString "list") = none := He.free_ok U.kin U.ns (U.says.d.fact 38 (f := .free (Str.ofString "list")) rfl)
theorem fr_range (U : Hd h K mg w) : mg (Str.ofString "range") = none := He.free_ok U.kin U.ns (U.says.d.fact 39 (f := .free (Str.ofString "range")) rfl)
theorem fr_repr (U : Hd h K mg w) : mg (Str.ofString "repr") = none := He.free_ok U.kin U.ns (U.says.d.fact 40 (f := .free (Str.ofString "repr")) rfl)
theorem fr_set (U : Hd h K mg w) : mg (Str.ofString "set") = none := He.free_ok U.kin U.ns (U.says.d.fact 41 (f := .free (Str.ofString "set")) rfl)
theorem fr_str (U : Hd h K mg w) : mg (Str.ofString "str") = none := He.free_ok U.kin U.ns (U.says.d.fact 42 (f := .free (Str.ofString "str")) rfl)
theorem fr_sum (U : Hd h K mg w) : mg (Str.ofString "sum") = none := He.free_ok U.kin U.ns (U.says.d.fact 43 (f := .free (Str.ofString "sum")) rfl)
theorem fr_tuple (U : Hd h K mg w) : mg (Str.ofString "tuple") = none := He.free_ok U.kin U.ns (U.says.d.fact 44 (f := .free (Str.ofString "tuple")) rfl)
theorem fr_zip (U : Hd h K mg w) : mg (Str.ofString "zip") = none := He.free_ok U.kin U.ns (U.says.d.fact 45 (f := .free (Str.ofString "zip")) rfl)
theorem gl_is_whole (U : Hd h K mg w) : mg (Str.ofString "is_whole") = some (.ref (He.ga K (Str.ofString "is_whole"))) := He.glo_ok U.kin U.ns (U.says.d.fact 0 (f := .glo (Str.ofString "is_whole")) rfl)
theorem gl_many_inner (U : Hd h K mg w) : mg (Str.ofString "many_inner") = some (.ref (He.ga K (Str.ofString "many_inner"))) := He.glo_ok U.kin U.ns (U.says.d.fact 1 (f := .glo (Str.ofString "many_inner")) rfl)
theorem gl_inner_of (U : Hd h K mg w) : mg (Str.ofString "inner_of") = some (.ref (He.ga K (Str.ofString "inner_of"))) := He.glo_ok U.kin U.ns (U.says.d.fact 2 (f := .glo (Str.ofString "inner_of")) rfl)
theorem gl_unknowns_in (U : Hd h K mg w) : mg (Str.ofString "unknowns_in") = some (.ref (He.ga K (Str.ofString "unknowns_in"))) := He.glo_ok U.kin U.ns (U.says.d.fact 3 (f := .glo (Str.ofString "unknowns_in")) rfl)
theorem gl_rule_of (U : Hd h K mg w) : mg (Str.ofString "rule_of") = some (.ref (He.ga K (Str.ofString "rule_of"))) := He.glo_ok U.kin U.ns (U.says.d.fact 4 (f := .glo (Str.ofString "rule_of")) rfl)
theorem gl_is_marks (U : Hd h K mg w) : mg (Str.ofString "is_marks") = some (.ref (He.ga K (Str.ofString "is_marks"))) := He.glo_ok U.kin U.ns (U.says.d.fact 5 (f := .glo (Str.ofString "is_marks")) rfl)
theorem gl_mark_by (U : Hd h K mg w) : mg (Str.ofString "mark_by") = some (.ref (He.ga K (Str.ofString "mark_by"))) := He.glo_ok U.kin U.ns (U.says.d.fact 6 (f := .glo (Str.ofString "mark_by")) rfl)
theorem gl_mark_of (U : Hd h K mg w) : mg (Str.ofString "mark_of") = some (.ref (He.ga K (Str.ofString "mark_of"))) := He.glo_ok U.kin U.ns (U.says.d.fact 7 (f := .glo (Str.ofString "mark_of")) rfl)
theorem gl_way_of_rule (U : Hd h K mg w) : mg (Str.ofString "way_of_rule") = some (.ref (He.ga K (Str.ofString "way_of_rule"))) := He.glo_ok U.kin U.ns (U.says.d.fact 8 (f := .glo (Str.ofString "way_of_rule")) rfl)
theorem gl_way_of (U : Hd h K mg w) : mg (Str.ofString "way_of") = some (.ref (He.ga K (Str.ofString "way_of"))) := He.glo_ok U.kin U.ns (U.says.d.fact 9 (f := .glo (Str.ofString "way_of")) rfl)
theorem gl__law_tape (U : Hd h K mg w) : mg (Str.ofString "_law_tape") = some (.ref (He.ga K (Str.ofString "_law_tape"))) := He.glo_ok U.kin U.ns (U.says.d.fact 10 (f := .glo (Str.ofString "_law_tape")) rfl)
theorem gl__law_draw (U : Hd h K mg w) : mg (Str.ofString "_law_draw") = some (.ref (He.ga K (Str.ofString "_law_draw"))) := He.glo_ok U.kin U.ns (U.says.d.fact 11 (f := .glo (Str.ofString "_law_draw")) rfl)
theorem gl__law_names (U : Hd h K mg w) : mg (Str.ofString "_law_names") = some (.ref (He.ga K (Str.ofString "_law_names"))) := He.glo_ok U.kin U.ns (U.says.d.fact 12 (f := .glo (Str.ofString "_law_names")) rfl)
theorem gl__law_signs (U : Hd h K mg w) : mg (Str.ofString "_law_signs") = some (.ref (He.ga K (Str.ofString "_law_signs"))) := He.glo_ok U.kin U.ns (U.says.d.fact 13 (f := .glo (Str.ofString "_law_signs")) rfl)
theorem gl__law_left (U : Hd h K mg w) : mg (Str.ofString "_law_left") = some (.ref (He.ga K (Str.ofString "_law_left"))) := He.glo_ok U.kin U.ns (U.says.d.fact 14 (f := .glo (Str.ofString "_law_left")) rfl)
theorem gl__law_right (U : Hd h K mg w) : mg (Str.ofString "_law_right") = some (.ref (He.ga K (Str.ofString "_law_right"))) := He.glo_ok U.kin U.ns (U.says.d.fact 15 (f := .glo (Str.ofString "_law_right")) rfl)
theorem gl__law_rules (U : Hd h K mg w) : mg (Str.ofString "_law_rules") = some (.ref (He.ga K (Str.ofString "_law_rules"))) := He.glo_ok U.kin U.ns (U.says.d.fact 16 (f := .glo (Str.ofString "_law_rules")) rfl)
theorem gl__law_leaf (U : Hd h K mg w) : mg (Str.ofString "_law_leaf") = some (.ref (He.ga K (Str.ofString "_law_leaf"))) := He.glo_ok U.kin U.ns (U.says.d.fact 17 (f := .glo (Str.ofString "_law_leaf")) rfl)
theorem gl__law_plan (U : Hd h K mg w) : mg (Str.ofString "_law_plan") = some (.ref (He.ga K (Str.ofString "_law_plan"))) := He.glo_ok U.kin U.ns (U.says.d.fact 18 (f := .glo (Str.ofString "_law_plan")) rfl)
theorem gl__law_weight (U : Hd h K mg w) : mg (Str.ofString "_law_weight") = some (.ref (He.ga K (Str.ofString "_law_weight"))) := He.glo_ok U.kin U.ns (U.says.d.fact 19 (f := .glo (Str.ofString "_law_weight")) rfl)
theorem gl__law_unknowns (U : Hd h K mg w) : mg (Str.ofString "_law_unknowns") = some (.ref (He.ga K (Str.ofString "_law_unknowns"))) := He.glo_ok U.kin U.ns (U.says.d.fact 20 (f := .glo (Str.ofString "_law_unknowns")) rfl)
theorem gl__law_rule_way (U : Hd h K mg w) : mg (Str.ofString "_law_rule_way") = some (.ref (He.ga K (Str.ofString "_law_rule_way"))) := He.glo_ok U.kin U.ns (U.says.d.fact 21 (f := .glo (Str.ofString "_law_rule_way")) rfl)
theorem gl__law_way (U : Hd h K mg w) : mg (Str.ofString "_law_way") = some (.ref (He.ga K (Str.ofString "_law_way"))) := He.glo_ok U.kin U.ns (U.says.d.fact 22 (f := .glo (Str.ofString "_law_way")) rfl)
theorem gl__law_marks (U : Hd h K mg w) : mg (Str.ofString "_law_marks") = some (.ref (He.ga K (Str.ofString "_law_marks"))) := He.glo_ok U.kin U.ns (U.says.d.fact 23 (f := .glo (Str.ofString "_law_marks")) rfl)
theorem gl__law_bent (U : Hd h K mg w) : mg (Str.ofString "_law_bent") = some (.ref (He.ga K (Str.ofString "_law_bent"))) := He.glo_ok U.kin U.ns (U.says.d.fact 24 (f := .glo (Str.ofString "_law_bent")) rfl)
theorem gl__law_is_marks (U : Hd h K mg w) : mg (Str.ofString "_law_is_marks") = some (.ref (He.ga K (Str.ofString "_law_is_marks"))) := He.glo_ok U.kin U.ns (U.says.d.fact 25 (f := .glo (Str.ofString "_law_is_marks")) rfl)
theorem gl__law_tree (U : Hd h K mg w) : mg (Str.ofString "_law_tree") = some (.ref (He.ga K (Str.ofString "_law_tree"))) := He.glo_ok U.kin U.ns (U.says.d.fact 26 (f := .glo (Str.ofString "_law_tree")) rfl)
theorem gl__law_opened (U : Hd h K mg w) : mg (Str.ofString "_law_opened") = some (.ref (He.ga K (Str.ofString "_law_opened"))) := He.glo_ok U.kin U.ns (U.says.d.fact 27 (f := .glo (Str.ofString "_law_opened")) rfl)
theorem gl__law_told_right (U : Hd h K mg w) : mg (Str.ofString "_law_told_right") = some (.ref (He.ga K (Str.ofString "_law_told_right"))) := He.glo_ok U.kin U.ns (U.says.d.fact 28 (f := .glo (Str.ofString "_law_told_right")) rfl)
theorem gl__law_great_right (U : Hd h K mg w) : mg (Str.ofString "_law_great_right") = some (.ref (He.ga K (Str.ofString "_law_great_right"))) := He.glo_ok U.kin U.ns (U.says.d.fact 29 (f := .glo (Str.ofString "_law_great_right")) rfl)
theorem gl_law (U : Hd h K mg w) : mg (Str.ofString "law") = some (.ref (He.ga K (Str.ofString "law"))) := He.glo_ok U.kin U.ns (U.says.d.fact 30 (f := .glo (Str.ofString "law")) rfl)
theorem gl_INNER (U : Hd h K mg w) : mg (Str.ofString "INNER") = some (.ref (He.ga K (Str.ofString "INNER"))) := He.glo_ok U.kin U.ns (U.says.d.fact 31 (f := .glo (Str.ofString "INNER")) rfl)
theorem gl_INNER_ALL (U : Hd h K mg w) : mg (Str.ofString "INNER_ALL") = some (.ref (He.ga K (Str.ofString "INNER_ALL"))) := He.glo_ok U.kin U.ns (U.says.d.fact 32 (f := .glo (Str.ofString "INNER_ALL")) rfl)
theorem kt_INNER (U : Hd h K mg w) : KTab K w (He.ga K (Str.ofString "INNER")) tab_INNER := U.says.tab 0 (t := (fun K => He.ga K (Str.ofString "INNER"), [(Str.ofString "stay"), (Str.ofString "never"), (Str.ofString "use"), (Str.ofString "any"), (Str.ofString "then"), (Str.ofString "else"), (Str.ofString "try"), (Str.ofString "not"), (Str.ofString "again")], tab_INNER)) rfl
theorem kt_INNER_ALL (U : Hd h K mg w) : KTab K w (He.ga K (Str.ofString "INNER_ALL")) tab_INNER_ALL := U.says.tab 1 (t := (fun K => He.ga K (Str.ofString "INNER_ALL"), [(Str.ofString "one"), (Str.ofString "all"), (Str.ofString "down"), (Str.ofString "up"), (Str.ofString "find"), (Str.ofString "dig")], tab_INNER_ALL)) rfl
theorem co_FALLS (U : Hd h K mg w) : ∃ t, mg (Str.ofString "FALLS") = some (.str (Str.ofString "falls") t) := He.str_ok U.kin U.ns (U.says.d.fact 46 (f := .str (Str.ofString "FALLS") (Str.ofString "falls")) rfl)
theorem co_KEEPS (U : Hd h K mg w) : ∃ t, mg (Str.ofString "KEEPS") = some (.str (Str.ofString "keeps") t) := He.str_ok U.kin U.ns (U.says.d.fact 47 (f := .str (Str.ofString "KEEPS") (Str.ofString "keeps")) rfl)
theorem co_RISES (U : Hd h K mg w) : ∃ t, mg (Str.ofString "RISES") = some (.str (Str.ofString "rises") t) := He.str_ok U.kin U.ns (U.says.d.fact 48 (f := .str (Str.ofString "RISES") (Str.ofString "rises")) rfl)
theorem co_GREATEST_WEIGHT (U : Hd h K mg w) : ∃ t, mg (Str.ofString "GREATEST_WEIGHT") = some (.int 1000000000 t) := He.int_ok U.kin U.ns (U.says.d.fact 49 (f := .int (Str.ofString "GREATEST_WEIGHT") 1000000000) rfl)
/-! is_whole -/
def N_is_whole : List Str := [(Str.ofString "thing")]
theorem nd_is_whole : N_is_whole.Nodup := by decide +kernel
def m_is_whole : Ms := sSeq (sRet (mAnd (mInst .int (mVar 0)) (mNt (mInst .bool (mVar 0))))) (sNx)
def c_is_whole : List Val → M Val := bodyM 1 m_is_whole
theorem sc_is_whole : FnScope N_is_whole [(Str.ofString "thing")] (defScope (top 1)) := ⟨rfl, rfl, rfl, nd_is_whole, rfl, by decide +kernel, by decide +kernel⟩
theorem ok_is_whole (U : Hd h K mg w) : Ok PG w K mg base (C0 K) 61 (Str.ofString "is_whole") 1 c_is_whole := by
  obtain ⟨fd, F⟩ := U.says.d.def_ 0 (d := dd (Str.ofString "is_whole") 1) rfl
  refine Ok.of (k := 60) (N := N_is_whole) F (gl_is_whole U) sc_is_whole rfl (by omega) (fun _ _ _ _ _ _ us hl => match us, hl with | [_], _ => rfl) ?_
  rintro X Q ⟨cdv, A, outer, s, H, E, rfl, rfl⟩ B
  exact (ss_cons (ss_ret (s_and B.hK (r_inst B .int (fr_isinstance U) (fr_int U) (r_var 0)) (pe_one (s_nt B.hK (r_inst B .bool (fr_isinstance U) (fr_bool U) (r_var 0))))))
      ss_nil)
/-! many_inner -/
def N_many_inner : List Str := [(Str.ofString "word")]
theorem nd_many_inner : N_many_inner.Nodup := by decide +kernel
def m_many_inner : Ms := sSeq (sRet (mKget2 tab_INNER (mVar 0) (mKget1 tab_INNER_ALL (mVar 0)))) (sNx)
def c_many_inner : List Val → M Val := bodyM 1 m_many_inner
theorem sc_many_inner : FnScope N_many_inner [(Str.ofString "word")] (defScope (top 5)) := ⟨rfl, rfl, rfl, nd_many_inner, rfl, by decide +kernel, by decide +kernel⟩
theorem ok_many_inner (U : Hd h K mg w) : Ok PG w K mg base (C0 K) 61 (Str.ofString "many_inner") 1 c_many_inner := by
  obtain ⟨fd, F⟩ := U.says.d.def_ 1 (d := dd (Str.ofString "many_inner") 5) rfl
  refine Ok.of (k := 60) (N := N_many_inner) F (gl_many_inner U) sc_many_inner rfl (by omega) (fun _ _ _ _ _ _ us hl => match us, hl with | [_], _ => rfl) ?_
  rintro X Q ⟨cdv, A, outer, s, H, E, rfl, rfl⟩ B
  exact (ss_cons (ss_ret (r_kget2 (kt_INNER U) (gl_INNER U) (r_var 0) (r_kget1 (kt_INNER_ALL U) (gl_INNER_ALL U) (r_var 0))))
      ss_nil)
/-! inner_of -/
def N_inner_of : List Str := [(Str.ofString "plan")]
theorem nd_inner_of : N_inner_of.Nodup := by decide +kernel
def m_inner_of : Ms := sSeq (sRet (mSl (mVar 0) (some (mC (.int 1))) (some (mBin .add (mC (.int 1)) (mCal false (c_many_inner) (mCons (mIx (mVar 0) (mC (.int 0))) (mNil))))))) (sNx)
def c_inner_of : List Val → M Val := bodyM 1 m_inner_of
theorem sc_inner_of : FnScope N_inner_of [(Str.ofString "plan")] (defScope (top 6)) := ⟨rfl, rfl, rfl, nd_inner_of, rfl, by decide +kernel, by decide +kernel⟩
theorem ok_inner_of (U : Hd h K mg w) : Ok PG w K mg base (C0 K) 62 (Str.ofString "inner_of") 1 c_inner_of := by
  obtain ⟨fd, F⟩ := U.says.d.def_ 2 (d := dd (Str.ofString "inner_of") 6) rfl
  refine Ok.of (k := 61) (N := N_inner_of) F (gl_inner_of U) sc_inner_of rfl (by omega) (fun _ _ _ _ _ _ us hl => match us, hl with | [_], _ => rfl) ?_
  rintro X Q ⟨cdv, A, outer, s, H, E, rfl, rfl⟩ B
  exact (ss_cons (ss_ret (r_sl B (r_var 0) (o_some r_int) (o_some (r_bin B .add r_int (r_cal false B (ok_many_inner U) (by omega) (r_cons (r_ix B (r_var 0) r_int) s_nil) (len_cons len_nil))))))
      ss_nil)
/-! unknowns_in -/
def N_unknowns_in : List Str := [(Str.ofString "pattern"), (Str.ofString "found"), (Str.ofString "child")]
theorem nd_unknowns_in : N_unknowns_in.Nodup := by decide +kernel
def m_unknowns_in (self : List Val → M Val) : Ms := sSeq (sIf (kTr (mInst .str (mVar 0))) (sSeq (sRet (mLst false (mCons (mVar 0) (mNil)))) (sNx)) (sNx)) (sSeq (sAsg (.nm 1) (mLst true (mNil))) (sSeq (sFor (.nm 2) (mIt (mSl (mVar 0) (some (mC (.int 1))) (none))) (sSeq (sExp (mExt (mVar 1) (mCal false (self) (mCons (mVar 2) (mNil))))) (sNx))) (sSeq (sRet (mVar 1)) (sNx))))
def c_unknowns_in : Nat → List Val → M Val
  | 0 => fun _ => M.bad
  | n + 1 => bodyM 3 (m_unknowns_in (c_unknowns_in n))
theorem sc_unknowns_in : FnScope N_unknowns_in [(Str.ofString "pattern")] (defScope (top 8)) := ⟨rfl, rfl, rfl, nd_unknowns_in, rfl, by decide +kernel, by decide +kernel⟩
theorem ok_unknowns_in (U : Hd h K mg w) : ∀ n, Ok PG w K mg base (C0 K) (60 + n) (Str.ofString "unknowns_in") 1 (c_unknowns_in n)
  | 0 => by
    obtain ⟨fd, F⟩ := U.says.d.def_ 3 (d := dd (Str.ofString "unknowns_in") 8) rfl
    exact Ok.bad (ps := [(Str.ofString "pattern")]) rfl (F.bindsN (fun _ _ _ _ _ _ us hl => match us, hl with | [_], _ => rfl)) F.kp (gl_unknowns_in U)
  | j + 1 => by
    obtain ⟨fd, F⟩ := U.says.d.def_ 3 (d := dd (Str.ofString "unknowns_in") 8) rfl
    have IH : Ok PG w K mg base (C0 K) (60 + j) (Str.ofString "unknowns_in") 1 (c_unknowns_in j) := ok_unknowns_in U j
    refine Ok.of (k := 60 + j) (N := N_unknowns_in) F (gl_unknowns_in U) sc_unknowns_in rfl (by omega) (fun _ _ _ _ _ _ us hl => match us, hl with | [_], _ => rfl) ?_
    rintro X Q ⟨cdv, A, outer, s, H, E, rfl, rfl⟩ B
    exact (ss_cons (ss_if (t_val B (r_inst B .str (fr_isinstance U) (fr_str U) (r_var 0))) (ss_cons (ss_ret (s_lst (c := false) (r_cons (r_var 0) s_nil)))
      ss_nil) ss_nil)
      (ss_cons (r_asg (s_lst (c := true) s_nil) (r_nm 1 nd_unknowns_in))
      (ss_cons (r_for B (r_iseq B (r_sl B (r_var 0) (o_some r_int) o_none)) (r_nm 2 nd_unknowns_in) (ss_cons (r_exp (r_ext B (r_var 1) (r_cal false B (IH) (by omega) (r_cons (r_var 2) s_nil) (len_cons len_nil))))
      ss_nil))
      (ss_cons (ss_ret (r_var 1))
      ss_nil))))
/-! rule_of -/
def N_rule_of : List Str := [(Str.ofString "rules"), (Str.ofString "name"), (Str.ofString "one")]
theorem nd_rule_of : N_rule_of.Nodup := by decide +kernel
def m_rule_of : Ms := sSeq (sRet (mIx (mLc false [2] (.nm 2) (mIt (mVar 0)) (kCmp .eq (mIx (mVar 2) (mC (.int 0))) (mVar 1)) (mVar 2)) (mC (.int 0)))) (sNx)
def c_rule_of : List Val → M Val := bodyM 3 m_rule_of
theorem sc_rule_of : FnScope N_rule_of [(Str.ofString "rules"), (Str.ofString "name")] (defScope (top 9)) := ⟨rfl, rfl, rfl, nd_rule_of, rfl, by decide +kernel, by decide +kernel⟩
theorem ok_rule_of (U : Hd h K mg w) : Ok PG w K mg base (C0 K) 61 (Str.ofString "rule_of") 2 c_rule_of := by
  obtain ⟨fd, F⟩ := U.says.d.def_ 4 (d := dd (Str.ofString "rule_of") 9) rfl
  refine Ok.of (k := 60) (N := N_rule_of) F (gl_rule_of U) sc_rule_of rfl (by omega) (fun _ _ _ _ _ _ us hl => match us, hl with | [_, _], _ => rfl) ?_
  rintro X Q ⟨cdv, A, outer, s, H, E, rfl, rfl⟩ B
  exact (ss_cons (ss_ret (r_ix B (r_lc false [((Str.ofString "one"), 2)] B nd_rule_of (r_iseq B (r_var 0)) (fun s H D cl fp B1 => (r_nm 2 nd_rule_of)) (fun s H D cl fp B1 => (ts_one (t_cmp B1 .eq (r_ix B1 (r_var 2) r_int) (r_var 1)))) (fun s H D cl fp B1 => (r_var 2))) r_int))
      ss_nil)
/-! is_marks -/
def N_is_marks : List Str := [(Str.ofString "signs"), (Str.ofString "thing"), (Str.ofString "one"), (Str.ofString "name"), (Str.ofString "many")]
theorem nd_is_marks : N_is_marks.Nodup := by decide +kernel
def m_is_marks : Ms := sSeq (sIf (kOr (kNt (kTr (mInst .tuple (mVar 1)))) (kCmp .ne (mB1 lenV (mVar 1)) (mB1 lenV (mVar 0)))) (sSeq (sRet (mC (.bl false))) (sNx)) (sNx)) (sSeq (sFor (.tp ((.tp ((.nm 3) :: (.nm 4) :: [])) :: (.nm 2) :: [])) (mZip (mVar 0) (mVar 1)) (sSeq (sIf (kOr (kNt (kTr (mInst .tuple (mVar 2)))) (kOr (kCmp .ne (mB1 lenV (mVar 2)) (mC (.int 2))) (kOr (kNt (kTr (mInst .str (mIx (mVar 2) (mC (.int 0)))))) (kCmp .ne (mIx (mVar 2) (mC (.int 0))) (mVar 3))))) (sSeq (sRet (mC (.bl false))) (sNx)) (sNx)) (sSeq (sIf (kOr (kNt (kTr (mCal false (c_is_whole) (mCons (mIx (mVar 2) (mC (.int 1))) (mNil))))) (kNt (kChn .le .le (mC (.int 1)) (mIx (mVar 2) (mC (.int 1))) (mInt 1000000000)))) (sSeq (sRet (mC (.bl false))) (sNx)) (sNx)) (sNx)))) (sSeq (sRet (mC (.bl true))) (sNx)))
def c_is_marks : List Val → M Val := bodyM 5 m_is_marks
theorem sc_is_marks : FnScope N_is_marks [(Str.ofString "signs"), (Str.ofString "thing")] (defScope (top 15)) := ⟨rfl, rfl, rfl, nd_is_marks, rfl, by decide +kernel, by decide +kernel⟩
theorem ok_is_marks (U : Hd h K mg w) : Ok PG w K mg base (C0 K) 62 (Str.ofString "is_marks") 2 c_is_marks := by
  obtain ⟨fd, F⟩ := U.says.d.def_ 5 (d := dd (Str.ofString "is_marks") 15) rfl
  refine Ok.of (k := 61) (N := N_is_marks) F (gl_is_marks U) sc_is_marks rfl (by omega) (fun _ _ _ _ _ _ us hl => match us, hl with | [_, _], _ => rfl) ?_
  rintro X Q ⟨cdv, A, outer, s, H, E, rfl, rfl⟩ B
  exact (ss_cons (ss_if (w_or (k_nt (t_val B (r_inst B .tuple (fr_isinstance U) (fr_tuple U) (r_var 1)))) (w_one (t_cmp B .ne (b_len B (fr_len U) (r_var 1)) (b_len B (fr_len U) (r_var 0))))).pt (ss_cons (ss_ret r_bl)
      ss_nil) ss_nil)
      (ss_cons (r_for B (r_izip B (fr_zip U) (r_var 0) (r_var 1)) (r_gtp B (r_gcons (r_gtp B (r_gcons (r_nm 3 nd_is_marks) (r_gcons (r_nm 4 nd_is_marks) gs_nil))) (r_gcons (r_nm 2 nd_is_marks) gs_nil))) (ss_cons (ss_if (w_or (k_nt (t_val B (r_inst B .tuple (fr_isinstance U) (fr_tuple U) (r_var 2)))) (w_or (t_cmp B .ne (b_len B (fr_len U) (r_var 2)) r_int) (w_or (k_nt (t_val B (r_inst B .str (fr_isinstance U) (fr_str U) (r_ix B (r_var 2) r_int)))) (w_one (t_cmp B .ne (r_ix B (r_var 2) r_int) (r_var 3)))))).pt (ss_cons (ss_ret r_bl)
      ss_nil) ss_nil)
      (ss_cons (ss_if (w_or (k_nt (t_val B (r_cal false B (ok_is_whole U) (by omega) (r_cons (r_ix B (r_var 2) r_int) s_nil) (len_cons len_nil)))) (w_one (k_nt (t_chn B .le .le r_int (r_ix B (r_var 2) r_int) (r_gint (co_GREATEST_WEIGHT U)))))).pt (ss_cons (ss_ret r_bl)
      ss_nil) ss_nil)
      ss_nil)))
      (ss_cons (ss_ret r_bl)
      ss_nil)))
/-! mark_by -/
def N_mark_by : List Str := [(Str.ofString "weights"), (Str.ofString "pattern"), (Str.ofString "child")]
theorem nd_mark_by : N_mark_by.Nodup := by decide +kernel
def m_mark_by (self : List Val → M Val) : Ms := sSeq (sIf (kTr (mInst .str (mVar 1))) (sSeq (sRet (mC (.int 0))) (sNx)) (sNx)) (sSeq (sRet (mBin .add (mDix (mVar 0) (mIx (mVar 1) (mC (.int 0)))) (mB1 (fun x => biV .sum [x]) (mLc false [2] (.nm 2) (mIt (mSl (mVar 1) (some (mC (.int 1))) (none))) (kYes) (mCal false (self) (mCons (mVar 0) (mCons (mVar 2) (mNil)))))))) (sNx))
def c_mark_by : Nat → List Val → M Val
  | 0 => fun _ => M.bad
  | n + 1 => bodyM 3 (m_mark_by (c_mark_by n))
theorem sc_mark_by : FnScope N_mark_by [(Str.ofString "weights"), (Str.ofString "pattern")] (defScope (top 16)) := ⟨rfl, rfl, rfl, nd_mark_by, rfl, by decide +kernel, by decide +kernel⟩
theorem ok_mark_by (U : Hd h K mg w) : ∀ n, Ok PG w K mg base (C0 K) (60 + n) (Str.ofString "mark_by") 2 (c_mark_by n)
  | 0 => by
    obtain ⟨fd, F⟩ := U.says.d.def_ 6 (d := dd (Str.ofString "mark_by") 16) rfl
    exact Ok.bad (ps := [(Str.ofString "weights"), (Str.ofString "pattern")]) rfl (F.bindsN (fun _ _ _ _ _ _ us hl => match us, hl with | [_, _], _ => rfl)) F.kp (gl_mark_by U)
  | j + 1 => by
    obtain ⟨fd, F⟩ := U.says.d.def_ 6 (d := dd (Str.ofString "mark_by") 16) rfl
    have IH : Ok PG w K mg base (C0 K) (60 + j) (Str.ofString "mark_by") 2 (c_mark_by j) := ok_mark_by U j
    refine Ok.of (k := 60 + j) (N := N_mark_by) F (gl_mark_by U) sc_mark_by rfl (by omega) (fun _ _ _ _ _ _ us hl => match us, hl with | [_, _], _ => rfl) ?_
    rintro X Q ⟨cdv, A, outer, s, H, E, rfl, rfl⟩ B
    exact (ss_cons (ss_if (t_val B (r_inst B .str (fr_isinstance U) (fr_str U) (r_var 1))) (ss_cons (ss_ret r_int)
      ss_nil) ss_nil)
      (ss_cons (ss_ret (r_bin B .add (r_dix B (r_var 0) (r_ix B (r_var 1) r_int)) (b_sum B (fr_sum U) (r_lc false [((Str.ofString "child"), 2)] B nd_mark_by (r_iseq B (r_sl B (r_var 1) (o_some r_int) o_none)) (fun s H D cl fp B1 => (r_nm 2 nd_mark_by)) (fun s H D cl fp B1 => ts_nil) (fun s H D cl fp B1 => (r_cal false B1 (IH) (by omega) (r_cons (r_var 0) (r_cons (r_var 2) s_nil)) (len_cons (len_cons len_nil))))))))
      ss_nil))
/-! mark_of -/
def N_mark_of : List Str := [(Str.ofString "marks"), (Str.ofString "tree")]
theorem nd_mark_of : N_mark_of.Nodup := by decide +kernel
def m_mark_of : Ms := sSeq (sRet (mCal false (c_mark_by 12) (mCons (mB1 dictV (mVar 0)) (mCons (mVar 1) (mNil))))) (sNx)
def c_mark_of : List Val → M Val := bodyM 2 m_mark_of
theorem sc_mark_of : FnScope N_mark_of [(Str.ofString "marks"), (Str.ofString "tree")] (defScope (top 17)) := ⟨rfl, rfl, rfl, nd_mark_of, rfl, by decide +kernel, by decide +kernel⟩
theorem ok_mark_of (U : Hd h K mg w) : Ok PG w K mg base (C0 K) 73 (Str.ofString "mark_of") 2 c_mark_of := by
  obtain ⟨fd, F⟩ := U.says.d.def_ 7 (d := dd (Str.ofString "mark_of") 17) rfl
  refine Ok.of (k := 72) (N := N_mark_of) F (gl_mark_of U) sc_mark_of rfl (by omega) (fun _ _ _ _ _ _ us hl => match us, hl with | [_, _], _ => rfl) ?_
  rintro X Q ⟨cdv, A, outer, s, H, E, rfl, rfl⟩ B
  exact (ss_cons (ss_ret (r_cal false B (ok_mark_by U 12) (by omega) (r_cons (b_dict B (fr_dict U) (r_var 0)) (r_cons (r_var 1) s_nil)) (len_cons (len_cons len_nil))))
      ss_nil)
/-! way_of_rule -/
def N_way_of_rule : List Str := [(Str.ofString "marks"), (Str.ofString "rule"), (Str.ofString "some"), (Str.ofString "less"), (Str.ofString "name"), (Str.ofString "left"), (Str.ofString "right")]
theorem nd_way_of_rule : N_way_of_rule.Nodup := by decide +kernel
def m_way_of_rule : Ms := sSeq (sAsg (.tp ((.nm 4) :: (.nm 5) :: (.nm 6) :: [])) (mVar 1)) (sSeq (sAsg (.nm 2) (mCal false (c_unknowns_in 12) (mCons (mVar 6) (mNil)))) (sSeq (sAsg (.nm 3) (mBin .sub (mCal false (c_mark_of) (mCons (mVar 0) (mCons (mVar 5) (mNil)))) (mCal false (c_mark_of) (mCons (mVar 0) (mCons (mVar 6) (mNil)))))) (sSeq (sIf (kOr (kCmp .lt (mLenSet (mVar 2)) (mB1 lenV (mVar 2))) (kCmp .lt (mVar 3) (mC (.int 0)))) (sSeq (sRet (mStr (Str.ofString "rises"))) (sNx)) (sNx)) (sSeq (sRet (mIf (kCmp .gt (mVar 3) (mC (.int 0))) (mStr (Str.ofString "falls")) (mStr (Str.ofString "keeps")))) (sNx)))))
def c_way_of_rule : List Val → M Val := bodyM 7 m_way_of_rule
theorem sc_way_of_rule : FnScope N_way_of_rule [(Str.ofString "marks"), (Str.ofString "rule")] (defScope (top 18)) := ⟨rfl, rfl, rfl, nd_way_of_rule, rfl, by decide +kernel, by decide +kernel⟩
theorem ok_way_of_rule (U : Hd h K mg w) : Ok PG w K mg base (C0 K) 74 (Str.ofString "way_of_rule") 2 c_way_of_rule := by
  obtain ⟨fd, F⟩ := U.says.d.def_ 8 (d := dd (Str.ofString "way_of_rule") 18) rfl
  refine Ok.of (k := 73) (N := N_way_of_rule) F (gl_way_of_rule U) sc_way_of_rule rfl (by omega) (fun _ _ _ _ _ _ us hl => match us, hl with | [_, _], _ => rfl) ?_
  rintro X Q ⟨cdv, A, outer, s, H, E, rfl, rfl⟩ B
  exact (ss_cons (r_asg (r_var 1) (r_gtp B (r_gcons (r_nm 4 nd_way_of_rule) (r_gcons (r_nm 5 nd_way_of_rule) (r_gcons (r_nm 6 nd_way_of_rule) gs_nil)))))
      (ss_cons (r_asg (r_cal false B (ok_unknowns_in U 12) (by omega) (r_cons (r_var 6) s_nil) (len_cons len_nil)) (r_nm 2 nd_way_of_rule))
      (ss_cons (r_asg (r_bin B .sub (r_cal false B (ok_mark_of U) (by omega) (r_cons (r_var 0) (r_cons (r_var 5) s_nil)) (len_cons (len_cons len_nil))) (r_cal false B (ok_mark_of U) (by omega) (r_cons (r_var 0) (r_cons (r_var 6) s_nil)) (len_cons (len_cons len_nil)))) (r_nm 3 nd_way_of_rule))
      (ss_cons (ss_if (w_or (t_cmp B .lt (r_lset B (fr_len U) (fr_set U) (r_var 2)) (b_len B (fr_len U) (r_var 2))) (w_one (t_cmp B .lt (r_var 3) r_int))).pt (ss_cons (ss_ret (r_gstr (co_RISES U)))
      ss_nil) ss_nil)
      (ss_cons (ss_ret (s_if (t_cmp B .gt (r_var 3) r_int) (r_gstr (co_FALLS U)) (r_gstr (co_KEEPS U))))
      ss_nil)))))
/-! way_of -/
def N_way_of : List Str := [(Str.ofString "rules"), (Str.ofString "marks"), (Str.ofString "plan"), (Str.ofString "word"), (Str.ofString "ways"), (Str.ofString "one")]
theorem nd_way_of : N_way_of.Nodup := by decide +kernel
def m_way_of (self : List Val → M Val) : Ms := sSeq (sAsg (.nm 3) (mIx (mVar 2) (mC (.int 0)))) (sSeq (sIf (kCmp .eq (mVar 3) (mC (.str (Str.ofString "never")))) (sSeq (sRet (mStr (Str.ofString "falls"))) (sNx)) (sNx)) (sSeq (sIf (kCmp .eq (mVar 3) (mC (.str (Str.ofString "use")))) (sSeq (sRet (mCal false (c_way_of_rule) (mCons (mVar 1) (mCons (mCal false (c_rule_of) (mCons (mVar 0) (mCons (mIx (mVar 2) (mC (.int 1))) (mNil)))) (mNil))))) (sNx)) (sNx)) (sSeq (sIf (kOr (kCmp .eq (mVar 3) (mC (.str (Str.ofString "stay")))) (kCmp .eq (mVar 3) (mC (.str (Str.ofString "not"))))) (sSeq (sRet (mStr (Str.ofString "keeps"))) (sNx)) (sNx)) (sSeq (sAsg (.nm 4) (mLc false [5] (.nm 5) (mIt (mCal false (c_inner_of) (mCons (mVar 2) (mNil)))) (kYes) (mCal false (self) (mCons (mVar 0) (mCons (mVar 1) (mCons (mVar 5) (mNil))))))) (sSeq (sIf (kOr (kCmp .eq (mVar 3) (mC (.str (Str.ofString "any")))) (kCmp .isin (mStr (Str.ofString "rises")) (mVar 4))) (sSeq (sRet (mStr (Str.ofString "rises"))) (sNx)) (sNx)) (sSeq (sIf (kCmp .eq (mVar 3) (mC (.str (Str.ofString "then")))) (sSeq (sRet (mIf (kCmp .isin (mStr (Str.ofString "falls")) (mVar 4)) (mStr (Str.ofString "falls")) (mStr (Str.ofString "keeps")))) (sNx)) (sNx)) (sSeq (sIf (kCmp .eq (mVar 3) (mC (.str (Str.ofString "else")))) (sSeq (sRet (mIf (kCmp .isin (mStr (Str.ofString "keeps")) (mVar 4)) (mStr (Str.ofString "keeps")) (mStr (Str.ofString "falls")))) (sNx)) (sNx)) (sSeq (sRet (mIf (kCmp .isin (mVar 3) (mTup (mCons (mC (.str (Str.ofString "one"))) (mCons (mC (.str (Str.ofString "find"))) (mCons (mC (.str (Str.ofString "dig"))) (mNil)))))) (mIx (mVar 4) (mC (.int 0))) (mStr (Str.ofString "keeps")))) (sNx)))))))))
def c_way_of : Nat → List Val → M Val
  | 0 => fun _ => M.bad
  | n + 1 => bodyM 6 (m_way_of (c_way_of n))
theorem sc_way_of : FnScope N_way_of [(Str.ofString "rules"), (Str.ofString "marks"), (Str.ofString "plan")] (defScope (top 19)) := ⟨rfl, rfl, rfl, nd_way_of, rfl, by decide +kernel, by decide +kernel⟩
theorem ok_way_of (U : Hd h K mg w) : ∀ n, Ok PG w K mg base (C0 K) (74 + n) (Str.ofString "way_of") 3 (c_way_of n)
  | 0 => by
    obtain ⟨fd, F⟩ := U.says.d.def_ 9 (d := dd (Str.ofString "way_of") 19) rfl
    exact Ok.bad (ps := [(Str.ofString "rules"), (Str.ofString "marks"), (Str.ofString "plan")]) rfl (F.bindsN (fun _ _ _ _ _ _ us hl => match us, hl with | [_, _, _], _ => rfl)) F.kp (gl_way_of U)
  | j + 1 => by
    obtain ⟨fd, F⟩ := U.says.d.def_ 9 (d := dd (Str.ofString "way_of") 19) rfl
    have IH : Ok PG w K mg base (C0 K) (74 + j) (Str.ofString "way_of") 3 (c_way_of j) := ok_way_of U j
    refine Ok.of (k := 74 + j) (N := N_way_of) F (gl_way_of U) sc_way_of rfl (by omega) (fun _ _ _ _ _ _ us hl => match us, hl with | [_, _, _], _ => rfl) ?_
    rintro X Q ⟨cdv, A, outer, s, H, E, rfl, rfl⟩ B
    exact (ss_cons (r_asg (r_ix B (r_var 2) r_int) (r_nm 3 nd_way_of))
      (ss_cons (ss_if (t_cmp B .eq (r_var 3) r_str) (ss_cons (ss_ret (r_gstr (co_FALLS U)))
      ss_nil) ss_nil)
      (ss_cons (ss_if (t_cmp B .eq (r_var 3) r_str) (ss_cons (ss_ret (r_cal false B (ok_way_of_rule U) (by omega) (r_cons (r_var 1) (r_cons (r_cal false B (ok_rule_of U) (by omega) (r_cons (r_var 0) (r_cons (r_ix B (r_var 2) r_int) s_nil)) (len_cons (len_cons len_nil))) s_nil)) (len_cons (len_cons len_nil))))
      ss_nil) ss_nil)
      (ss_cons (ss_if (w_or (t_cmp B .eq (r_var 3) r_str) (w_one (t_cmp B .eq (r_var 3) r_str))).pt (ss_cons (ss_ret (r_gstr (co_KEEPS U)))
      ss_nil) ss_nil)
      (ss_cons (r_setLc 4 false [((Str.ofString "one"), 5)] B nd_way_of (r_iseq B (r_cal false B (ok_inner_of U) (by omega) (r_cons (r_var 2) s_nil) (len_cons len_nil))) (fun s H D cl fp B1 => (r_nm 5 nd_way_of)) (fun s H D cl fp B1 => ts_nil) (fun s H D cl fp B1 => (r_cal false B1 (IH) (by omega) (r_cons (r_var 0) (r_cons (r_var 1) (r_cons (r_var 5) s_nil))) (len_cons (len_cons (len_cons len_nil))))))
      (ss_cons (ss_if (w_or (t_cmp B .eq (r_var 3) r_str) (w_one (t_cmp B .isin (r_gstr (co_RISES U)) (r_var 4)))).pt (ss_cons (ss_ret (r_gstr (co_RISES U)))
      ss_nil) ss_nil)
      (ss_cons (ss_if (t_cmp B .eq (r_var 3) r_str) (ss_cons (ss_ret (s_if (t_cmp B .isin (r_gstr (co_FALLS U)) (r_var 4)) (r_gstr (co_FALLS U)) (r_gstr (co_KEEPS U))))
      ss_nil) ss_nil)
      (ss_cons (ss_if (t_cmp B .eq (r_var 3) r_str) (ss_cons (ss_ret (s_if (t_cmp B .isin (r_gstr (co_KEEPS U)) (r_var 4)) (r_gstr (co_KEEPS U)) (r_gstr (co_FALLS U))))
      ss_nil) ss_nil)
      (ss_cons (ss_ret (s_if (t_cmp B .isin (r_var 3) (s_tup (r_cons r_str (r_cons r_str (r_cons r_str s_nil))))) (r_ix B (r_var 4) r_int) (r_gstr (co_KEEPS U))))
      ss_nil)))))))))
/-! _law_tape -/
def N__law_tape : List Str := [(Str.ofString "_law_script")]
theorem nd__law_tape : N__law_tape.Nodup := by decide +kernel
def m__law_tape : Ms := sSeq (sRet (mLst true (mCons (mSl (mVar 0) (none) (some (mC (.int 63)))) (mCons (mC (.int 0)) (mCons (mC (.int 0)) (mNil)))))) (sNx)
def c__law_tape : List Val → M Val := bodyM 1 m__law_tape
theorem sc__law_tape : FnScope N__law_tape [(Str.ofString "_law_script")] (defScope (top 21)) := ⟨rfl, rfl, rfl, nd__law_tape, rfl, by decide +kernel, by decide +kernel⟩
theorem ok__law_tape (U : Hd h K mg w) : Ok PG w K mg base (C0 K) 61 (Str.ofString "_law_tape") 1 c__law_tape := by
  obtain ⟨fd, F⟩ := U.says.d.def_ 10 (d := dd (Str.ofString "_law_tape") 21) rfl
  refine Ok.of (k := 60) (N := N__law_tape) F (gl__law_tape U) sc__law_tape rfl (by omega) (fun _ _ _ _ _ _ us hl => match us, hl with | [_], _ => rfl) ?_
  rintro X Q ⟨cdv, A, outer, s, H, E, rfl, rfl⟩ B
  exact (ss_cons (ss_ret (s_lst (c := true) (r_cons (r_sl B (r_var 0) o_none (o_some r_int)) (r_cons r_int (r_cons r_int s_nil)))))
      ss_nil)
/-! _law_draw -/
def N__law_draw : List Str := [(Str.ofString "_law_tape_here"), (Str.ofString "_law_many"), (Str.ofString "_law_spot"), (Str.ofString "_law_cell"), (Str.ofString "_law_mixed"), (Str.ofString "_law_digit")]
theorem nd__law_draw : N__law_draw.Nodup := by decide +kernel
def m__law_draw : Ms := sSeq (sIf (kCmp .gt (mIx (mVar 0) (mC (.int 2))) (mC (.int 0))) (sSeq (sAsg (.nm 5) (mBin .mod (mIx (mVar 0) (mC (.int 2))) (mVar 1))) (sSeq (sPut (mVar 0) (mC (.int 2)) (mBin .fdiv (mIx (mVar 0) (mC (.int 2))) (mVar 1))) (sSeq (sRet (mVar 5)) (sNx)))) (sNx)) (sSeq (sAsg (.nm 2) (mIx (mVar 0) (mC (.int 1)))) (sSeq (sPut (mVar 0) (mC (.int 1)) (mBin .add (mVar 2) (mC (.int 1)))) (sSeq (sAsg (.nm 3) (mC (.int 0))) (sSeq (sIf (kCmp .gt (mB1 lenV (mIx (mVar 0) (mC (.int 0)))) (mC (.int 0))) (sSeq (sAsg (.nm 3) (mIx (mIx (mVar 0) (mC (.int 0))) (mBin .mod (mVar 2) (mB1 lenV (mIx (mVar 0) (mC (.int 0))))))) (sNx)) (sNx)) (sSeq (sIf (kAnd (kCmp .ge (mVar 3) (mBin .pow (mC (.int 10)) (mC (.int 18)))) (kCmp .lt (mVar 2) (mB1 lenV (mIx (mVar 0) (mC (.int 0)))))) (sSeq (sPut (mVar 0) (mC (.int 2)) (mBin .fdiv (mVar 3) (mVar 1))) (sSeq (sRet (mBin .mod (mVar 3) (mVar 1))) (sNx))) (sNx)) (sSeq (sAsg (.nm 4) (mBin .mod (mBin .mul (mBin .add (mBin .add (mBin .mod (mVar 3) (mC (.int 998117))) (mBin .mul (mBin .mul (mC (.int 37)) (mVar 2)) (mVar 2))) (mC (.int 13))) (mC (.int 40699))) (mC (.int 999979)))) (sSeq (sRet (mBin .mod (mBin .fdiv (mBin .mod (mBin .mul (mBin .mod (mBin .add (mBin .mul (mVar 4) (mC (.int 48271))) (mBin .mul (mVar 2) (mC (.int 6947)))) (mC (.int 999931))) (mC (.int 16811))) (mC (.int 524309))) (mC (.int 3))) (mVar 1))) (sNx))))))))
def c__law_draw : List Val → M Val := bodyM 6 m__law_draw
theorem sc__law_draw : FnScope N__law_draw [(Str.ofString "_law_tape_here"), (Str.ofString "_law_many")] (defScope (top 22)) := ⟨rfl, rfl, rfl, nd__law_draw, rfl, by decide +kernel, by decide +kernel⟩
theorem ok__law_draw (U : Hd h K mg w) : Ok PG w K mg base (C0 K) 61 (Str.ofString "_law_draw") 2 c__law_draw := by
  obtain ⟨fd, F⟩ := U.says.d.def_ 11 (d := dd (Str.ofString "_law_draw") 22) rfl
  refine Ok.of (k := 60) (N := N__law_draw) F (gl__law_draw U) sc__law_draw rfl (by omega) (fun _ _ _ _ _ _ us hl => match us, hl with | [_, _], _ => rfl) ?_
  rintro X Q ⟨cdv, A, outer, s, H, E, rfl, rfl⟩ B
  exact (ss_cons (ss_if (t_cmp B .gt (r_ix B (r_var 0) r_int) r_int) (ss_cons (r_asg (r_bin B .mod (r_ix B (r_var 0) r_int) (r_var 1)) (r_nm 5 nd__law_draw))
      (ss_cons (r_put (r_bin B .fdiv (r_ix B (r_var 0) r_int) (r_var 1)) (r_var 0) r_int)
      (ss_cons (ss_ret (r_var 5))
      ss_nil))) ss_nil)
      (ss_cons (r_asg (r_ix B (r_var 0) r_int) (r_nm 2 nd__law_draw))
      (ss_cons (r_put (r_bin B .add (r_var 2) r_int) (r_var 0) r_int)
      (ss_cons (r_asg r_int (r_nm 3 nd__law_draw))
      (ss_cons (ss_if (t_cmp B .gt (b_len B (fr_len U) (r_ix B (r_var 0) r_int)) r_int) (ss_cons (r_asg (r_ix B (r_ix B (r_var 0) r_int) (r_bin B .mod (r_var 2) (b_len B (fr_len U) (r_ix B (r_var 0) r_int)))) (r_nm 3 nd__law_draw))
      ss_nil) ss_nil)
      (ss_cons (ss_if (w_and (t_cmp B .ge (r_var 3) (r_bin B .pow r_int r_int)) (w_one (t_cmp B .lt (r_var 2) (b_len B (fr_len U) (r_ix B (r_var 0) r_int))))).pt (ss_cons (r_put (r_bin B .fdiv (r_var 3) (r_var 1)) (r_var 0) r_int)
      (ss_cons (ss_ret (r_bin B .mod (r_var 3) (r_var 1)))
      ss_nil)) ss_nil)
      (ss_cons (r_asg (r_bin B .mod (r_bin B .mul (r_bin B .add (r_bin B .add (r_bin B .mod (r_var 3) r_int) (r_bin B .mul (r_bin B .mul r_int (r_var 2)) (r_var 2))) r_int) r_int) r_int) (r_nm 4 nd__law_draw))
      (ss_cons (ss_ret (r_bin B .mod (r_bin B .fdiv (r_bin B .mod (r_bin B .mul (r_bin B .mod (r_bin B .add (r_bin B .mul (r_var 4) r_int) (r_bin B .mul (r_var 2) r_int)) r_int) r_int) r_int) r_int) (r_var 1)))
      ss_nil))))))))
/-! _law_names -/
def N__law_names : List Str := [(Str.ofString "_law_tape_here"), (Str.ofString "_law_many"), (Str.ofString "_law_some"), (Str.ofString "_law_first"), (Str.ofString "_law_step"), (Str.ofString "_law_k")]
theorem nd__law_names : N__law_names.Nodup := by decide +kernel
def m__law_names : Ms := sSeq (sAsg (.nm 2) (mLst false (mCons (mC (.str (Str.ofString "a"))) (mCons (mC (.str (Str.ofString "b"))) (mCons (mC (.str (Str.ofString "ab"))) (mCons (mC (.str (Str.ofString "stay"))) (mCons (mC (.str (Str.ofString "f"))) (mCons (mC (.str (Str.ofString "fa"))) (mCons (mC (.str (Str.ofString "use"))) (mCons (mC (.str (Str.ofString "c"))) (mCons (mC (.str (Str.ofString "again"))) (mCons (mC (.str (Str.ofString "g"))) (mCons (mC (.str (Str.ofString "one"))) (mCons (mC (.str (Str.ofString "abcdefgh"))) (mNil))))))))))))))) (sSeq (sAsg (.nm 3) (mCal false (c__law_draw) (mCons (mVar 0) (mCons (mC (.int 12)) (mNil))))) (sSeq (sAsg (.nm 4) (mIx (mLst false (mCons (mC (.int 1)) (mCons (mC (.int 5)) (mCons (mC (.int 7)) (mCons (mC (.int 11)) (mNil)))))) (mCal false (c__law_draw) (mCons (mVar 0) (mCons (mC (.int 4)) (mNil)))))) (sSeq (sRet (mLc false [5] (.nm 5) (mRng (mVar 1)) (kYes) (mIx (mVar 2) (mBin .mod (mBin .add (mVar 3) (mBin .mul (mVar 4) (mVar 5))) (mC (.int 12)))))) (sNx))))
def c__law_names : List Val → M Val := bodyM 6 m__law_names
theorem sc__law_names : FnScope N__law_names [(Str.ofString "_law_tape_here"), (Str.ofString "_law_many")] (defScope (top 23)) := ⟨rfl, rfl, rfl, nd__law_names, rfl, by decide +kernel, by decide +kernel⟩
theorem ok__law_names (U : Hd h K mg w) : Ok PG w K mg base (C0 K) 62 (Str.ofString "_law_names") 2 c__law_names := by
  obtain ⟨fd, F⟩ := U.says.d.def_ 12 (d := dd (Str.ofString "_law_names") 23) rfl
  refine Ok.of (k := 61) (N := N__law_names) F (gl__law_names U) sc__law_names rfl (by omega) (fun _ _ _ _ _ _ us hl => match us, hl with | [_, _], _ => rfl) ?_
  rintro X Q ⟨cdv, A, outer, s, H, E, rfl, rfl⟩ B
  exact (ss_cons (r_asg (s_lst (c := false) (r_cons r_str (r_cons r_str (r_cons r_str (r_cons r_str (r_cons r_str (r_cons r_str (r_cons r_str (r_cons r_str (r_cons r_str (r_cons r_str (r_cons r_str (r_cons r_str s_nil))))))))))))) (r_nm 2 nd__law_names))
      (ss_cons (r_asg (r_cal false B (ok__law_draw U) (by omega) (r_cons (r_var 0) (r_cons r_int s_nil)) (len_cons (len_cons len_nil))) (r_nm 3 nd__law_names))
      (ss_cons (r_asg (r_ix B (s_lst (c := false) (r_cons r_int (r_cons r_int (r_cons r_int (r_cons r_int s_nil))))) (r_cal false B (ok__law_draw U) (by omega) (r_cons (r_var 0) (r_cons r_int s_nil)) (len_cons (len_cons len_nil)))) (r_nm 4 nd__law_names))
      (ss_cons (ss_ret (r_lc false [((Str.ofString "_law_k"), 5)] B nd__law_names (r_irng (fr_range U) (r_var 1)) (fun s H D cl fp B1 => (r_nm 5 nd__law_names)) (fun s H D cl fp B1 => ts_nil) (fun s H D cl fp B1 => (r_ix B1 (r_var 2) (r_bin B1 .mod (r_bin B1 .add (r_var 3) (r_bin B1 .mul (r_var 4) (r_var 5))) r_int)))))
      ss_nil))))
/-! _law_signs -/
def N__law_signs : List Str := [(Str.ofString "_law_tape_here"), (Str.ofString "_law_names_here"), (Str.ofString "_law_sizes"), (Str.ofString "_law_name")]
theorem nd__law_signs : N__law_signs.Nodup := by decide +kernel
def m__law_signs : Ms := sSeq (sAsg (.nm 1) (mCal false (c__law_names) (mCons (mVar 0) (mCons (mIx (mLst false (mCons (mC (.int 2)) (mCons (mC (.int 3)) (mCons (mC (.int 3)) (mCons (mC (.int 4)) (mNil)))))) (mCal false (c__law_draw) (mCons (mVar 0) (mCons (mC (.int 4)) (mNil))))) (mNil))))) (sSeq (sAsg (.nm 2) (mLc true [3] (.nm 3) (mIt (mSl (mVar 1) (some (mC (.int 1))) (none))) (kYes) (mIx (mLst false (mCons (mC (.int 1)) (mCons (mC (.int 1)) (mCons (mC (.int 2)) (mCons (mC (.int 0)) (mNil)))))) (mCal false (c__law_draw) (mCons (mVar 0) (mCons (mC (.int 4)) (mNil))))))) (sSeq (sExp (mIns (mVar 2) (mCal false (c__law_draw) (mCons (mVar 0) (mCons (mB1 lenV (mVar 1)) (mNil)))) (mC (.int 0)))) (sSeq (sRet (mB1 tupV (mLzip (mVar 1) (mVar 2)))) (sNx))))
def c__law_signs : List Val → M Val := bodyM 4 m__law_signs
theorem sc__law_signs : FnScope N__law_signs [(Str.ofString "_law_tape_here")] (defScope (top 24)) := ⟨rfl, rfl, rfl, nd__law_signs, rfl, by decide +kernel, by decide +kernel⟩
theorem ok__law_signs (U : Hd h K mg w) : Ok PG w K mg base (C0 K) 63 (Str.ofString "_law_signs") 1 c__law_signs := by
  obtain ⟨fd, F⟩ := U.says.d.def_ 13 (d := dd (Str.ofString "_law_signs") 24) rfl
  refine Ok.of (k := 62) (N := N__law_signs) F (gl__law_signs U) sc__law_signs rfl (by omega) (fun _ _ _ _ _ _ us hl => match us, hl with | [_], _ => rfl) ?_
  rintro X Q ⟨cdv, A, outer, s, H, E, rfl, rfl⟩ B
  exact (ss_cons (r_asg (r_cal false B (ok__law_names U) (by omega) (r_cons (r_var 0) (r_cons (r_ix B (s_lst (c := false) (r_cons r_int (r_cons r_int (r_cons r_int (r_cons r_int s_nil))))) (r_cal false B (ok__law_draw U) (by omega) (r_cons (r_var 0) (r_cons r_int s_nil)) (len_cons (len_cons len_nil)))) s_nil)) (len_cons (len_cons len_nil))) (r_nm 1 nd__law_signs))
      (ss_cons (r_setLc 2 true [((Str.ofString "_law_name"), 3)] B nd__law_signs (r_iseq B (r_sl B (r_var 1) (o_some r_int) o_none)) (fun s H D cl fp B1 => (r_nm 3 nd__law_signs)) (fun s H D cl fp B1 => ts_nil) (fun s H D cl fp B1 => (r_ix B1 (s_lst (c := false) (r_cons r_int (r_cons r_int (r_cons r_int (r_cons r_int s_nil))))) (r_cal false B1 (ok__law_draw U) (by omega) (r_cons (r_var 0) (r_cons r_int s_nil)) (len_cons (len_cons len_nil))))))
      (ss_cons (r_exp (r_ins B (r_var 2) (r_cal false B (ok__law_draw U) (by omega) (r_cons (r_var 0) (r_cons (b_len B (fr_len U) (r_var 1)) s_nil)) (len_cons (len_cons len_nil))) r_int))
      (ss_cons (ss_ret (b_tuple B (fr_tuple U) (r_lzip B (fr_list U) (fr_zip U) (r_var 1) (r_var 2))))
      ss_nil))))
/-! _law_left -/
def N__law_left : List Str := [(Str.ofString "_law_tape_here"), (Str.ofString "_law_signs_here"), (Str.ofString "_law_deep"), (Str.ofString "_law_known"), (Str.ofString "_law_children"), (Str.ofString "_law_k"), (Str.ofString "_law_name"), (Str.ofString "_law_many")]
theorem nd__law_left : N__law_left.Nodup := by decide +kernel
def m__law_left (self : List Val → M Val) : Ms := sSeq (sAsg (.tp ((.nm 6) :: (.nm 7) :: [])) (mIx (mVar 1) (mCal false (c__law_draw) (mCons (mVar 0) (mCons (mB1 lenV (mVar 1)) (mNil)))))) (sSeq (sAsg (.nm 4) (mLst true (mNil))) (sSeq (sFor (.nm 5) (mRng (mVar 7)) (sSeq (sIf (kAnd (kCmp .gt (mVar 2) (mC (.int 0))) (kCmp .eq (mCal false (c__law_draw) (mCons (mVar 0) (mCons (mC (.int 3)) (mNil)))) (mC (.int 0)))) (sSeq (sExp (mApp (mVar 4) (mCal false (self) (mCons (mVar 0) (mCons (mVar 1) (mCons (mBin .sub (mVar 2) (mC (.int 1))) (mCons (mVar 3) (mNil)))))))) (sNx)) (sSeq (sExp (mApp (mVar 3) (mIx (mLst false (mCons (mC (.str (Str.ofString "?x"))) (mCons (mC (.str (Str.ofString "?y"))) (mCons (mC (.str (Str.ofString "?0"))) (mCons (mC (.str (Str.ofString "?z"))) (mCons (mC (.str (Str.ofString "?zz"))) (mCons (mC (.str (Str.ofString "?1"))) (mNil)))))))) (mB1 lenV (mVar 3))))) (sSeq (sExp (mApp (mVar 4) (mIx (mVar 3) (mNeg (mC (.int 1)))))) (sNx)))) (sNx))) (sSeq (sRet (mBin .add (mTup (mCons (mVar 6) (mNil))) (mB1 tupV (mVar 4)))) (sNx))))
def c__law_left : Nat → List Val → M Val
  | 0 => fun _ => M.bad
  | n + 1 => bodyM 8 (m__law_left (c__law_left n))
theorem sc__law_left : FnScope N__law_left [(Str.ofString "_law_tape_here"), (Str.ofString "_law_signs_here"), (Str.ofString "_law_deep"), (Str.ofString "_law_known")] (defScope (top 25)) := ⟨rfl, rfl, rfl, nd__law_left, rfl, by decide +kernel, by decide +kernel⟩
theorem ok__law_left (U : Hd h K mg w) : ∀ n, Ok PG w K mg base (C0 K) (61 + n) (Str.ofString "_law_left") 4 (c__law_left n)
  | 0 => by
    obtain ⟨fd, F⟩ := U.says.d.def_ 14 (d := dd (Str.ofString "_law_left") 25) rfl
    exact Ok.bad (ps := [(Str.ofString "_law_tape_here"), (Str.ofString "_law_signs_here"), (Str.ofString "_law_deep"), (Str.ofString "_law_known")]) rfl (F.bindsN (fun _ _ _ _ _ _ us hl => match us, hl with | [_, _, _, _], _ => rfl)) F.kp (gl__law_left U)
  | j + 1 => by
    obtain ⟨fd, F⟩ := U.says.d.def_ 14 (d := dd (Str.ofString "_law_left") 25) rfl
    have IH : Ok PG w K mg base (C0 K) (61 + j) (Str.ofString "_law_left") 4 (c__law_left j) := ok__law_left U j
    refine Ok.of (k := 61 + j) (N := N__law_left) F (gl__law_left U) sc__law_left rfl (by omega) (fun _ _ _ _ _ _ us hl => match us, hl with | [_, _, _, _], _ => rfl) ?_
    rintro X Q ⟨cdv, A, outer, s, H, E, rfl, rfl⟩ B
    exact (ss_cons (r_asg (r_ix B (r_var 1) (r_cal false B (ok__law_draw U) (by omega) (r_cons (r_var 0) (r_cons (b_len B (fr_len U) (r_var 1)) s_nil)) (len_cons (len_cons len_nil)))) (r_gtp B (r_gcons (r_nm 6 nd__law_left) (r_gcons (r_nm 7 nd__law_left) gs_nil))))
      (ss_cons (r_asg (s_lst (c := true) s_nil) (r_nm 4 nd__law_left))
      (ss_cons (r_for B (r_irng (fr_range U) (r_var 7)) (r_nm 5 nd__law_left) (ss_cons (ss_if (w_and (t_cmp B .gt (r_var 2) r_int) (w_one (t_cmp B .eq (r_cal false B (ok__law_draw U) (by omega) (r_cons (r_var 0) (r_cons r_int s_nil)) (len_cons (len_cons len_nil))) r_int))).pt (ss_cons (r_exp (r_app B (r_var 4) (r_cal false B (IH) (by omega) (r_cons (r_var 0) (r_cons (r_var 1) (r_cons (r_bin B .sub (r_var 2) r_int) (r_cons (r_var 3) s_nil)))) (len_cons (len_cons (len_cons (len_cons len_nil)))))))
      ss_nil) (ss_cons (r_exp (r_app B (r_var 3) (r_ix B (s_lst (c := false) (r_cons r_str (r_cons r_str (r_cons r_str (r_cons r_str (r_cons r_str (r_cons r_str s_nil))))))) (b_len B (fr_len U) (r_var 3)))))
      (ss_cons (r_exp (r_app B (r_var 4) (r_ix B (r_var 3) (s_neg r_int))))
      ss_nil)))
      ss_nil))
      (ss_cons (ss_ret (r_bin B .add (s_tup (r_cons (r_var 6) s_nil)) (b_tuple B (fr_tuple U) (r_var 4))))
      ss_nil))))
/-! _law_right -/
def N__law_right : List Str := [(Str.ofString "_law_tape_here"), (Str.ofString "_law_signs_here"), (Str.ofString "_law_deep"), (Str.ofString "_law_known"), (Str.ofString "_law_some"), (Str.ofString "_law_name"), (Str.ofString "_law_many"), (Str.ofString "_law_one"), (Str.ofString "_law_k")]
theorem nd__law_right : N__law_right.Nodup := by decide +kernel
def m__law_right (self : List Val → M Val) : Ms := sSeq (sIf (kAnd (kCmp .ne (mVar 3) (mLst false (mNil))) (kOr (kCmp .eq (mVar 2) (mC (.int 0))) (kCmp .gt (mCal false (c__law_draw) (mCons (mVar 0) (mCons (mC (.int 3)) (mNil)))) (mC (.int 0))))) (sSeq (sRet (mIx (mVar 3) (mCal false (c__law_draw) (mCons (mVar 0) (mCons (mB1 lenV (mVar 3)) (mNil)))))) (sNx)) (sNx)) (sSeq (sAsg (.nm 4) (mLc false [7] (.nm 7) (mIt (mVar 1)) (kOr (kCmp .gt (mVar 2) (mC (.int 0))) (kCmp .eq (mIx (mVar 7) (mC (.int 1))) (mC (.int 0)))) (mVar 7))) (sSeq (sAsg (.tp ((.nm 5) :: (.nm 6) :: [])) (mIx (mVar 4) (mCal false (c__law_draw) (mCons (mVar 0) (mCons (mB1 lenV (mVar 4)) (mNil)))))) (sSeq (sRet (mBin .add (mTup (mCons (mVar 5) (mNil))) (mB1 tupV (mLc false [8] (.nm 8) (mRng (mVar 6)) (kYes) (mCal false (self) (mCons (mVar 0) (mCons (mVar 1) (mCons (mBin .sub (mVar 2) (mC (.int 1))) (mCons (mVar 3) (mNil)))))))))) (sNx))))
def c__law_right : Nat → List Val → M Val
  | 0 => fun _ => M.bad
  | n + 1 => bodyM 9 (m__law_right (c__law_right n))
theorem sc__law_right : FnScope N__law_right [(Str.ofString "_law_tape_here"), (Str.ofString "_law_signs_here"), (Str.ofString "_law_deep"), (Str.ofString "_law_known")] (defScope (top 26)) := ⟨rfl, rfl, rfl, nd__law_right, rfl, by decide +kernel, by decide +kernel⟩
theorem ok__law_right (U : Hd h K mg w) : ∀ n, Ok PG w K mg base (C0 K) (61 + n) (Str.ofString "_law_right") 4 (c__law_right n)
  | 0 => by
    obtain ⟨fd, F⟩ := U.says.d.def_ 15 (d := dd (Str.ofString "_law_right") 26) rfl
    exact Ok.bad (ps := [(Str.ofString "_law_tape_here"), (Str.ofString "_law_signs_here"), (Str.ofString "_law_deep"), (Str.ofString "_law_known")]) rfl (F.bindsN (fun _ _ _ _ _ _ us hl => match us, hl with | [_, _, _, _], _ => rfl)) F.kp (gl__law_right U)
  | j + 1 => by
    obtain ⟨fd, F⟩ := U.says.d.def_ 15 (d := dd (Str.ofString "_law_right") 26) rfl
    have IH : Ok PG w K mg base (C0 K) (61 + j) (Str.ofString "_law_right") 4 (c__law_right j) := ok__law_right U j
    refine Ok.of (k := 61 + j) (N := N__law_right) F (gl__law_right U) sc__law_right rfl (by omega) (fun _ _ _ _ _ _ us hl => match us, hl with | [_, _, _, _], _ => rfl) ?_
    rintro X Q ⟨cdv, A, outer, s, H, E, rfl, rfl⟩ B
    exact (ss_cons (ss_if (w_and (t_cmp B .ne (r_var 3) (s_lst (c := false) s_nil)) (w_one (w_or (t_cmp B .eq (r_var 2) r_int) (w_one (t_cmp B .gt (r_cal false B (ok__law_draw U) (by omega) (r_cons (r_var 0) (r_cons r_int s_nil)) (len_cons (len_cons len_nil))) r_int))).pt)).pt (ss_cons (ss_ret (r_ix B (r_var 3) (r_cal false B (ok__law_draw U) (by omega) (r_cons (r_var 0) (r_cons (b_len B (fr_len U) (r_var 3)) s_nil)) (len_cons (len_cons len_nil)))))
      ss_nil) ss_nil)
      (ss_cons (r_setLc 4 false [((Str.ofString "_law_one"), 7)] B nd__law_right (r_iseq B (r_var 1)) (fun s H D cl fp B1 => (r_nm 7 nd__law_right)) (fun s H D cl fp B1 => (ts_one (w_or (t_cmp B1 .gt (r_var 2) r_int) (w_one (t_cmp B1 .eq (r_ix B1 (r_var 7) r_int) r_int))).pt)) (fun s H D cl fp B1 => (r_var 7)))
      (ss_cons (r_asg (r_ix B (r_var 4) (r_cal false B (ok__law_draw U) (by omega) (r_cons (r_var 0) (r_cons (b_len B (fr_len U) (r_var 4)) s_nil)) (len_cons (len_cons len_nil)))) (r_gtp B (r_gcons (r_nm 5 nd__law_right) (r_gcons (r_nm 6 nd__law_right) gs_nil))))
      (ss_cons (ss_ret (r_bin B .add (s_tup (r_cons (r_var 5) s_nil)) (b_tuple B (fr_tuple U) (r_lc false [((Str.ofString "_law_k"), 8)] B nd__law_right (r_irng (fr_range U) (r_var 6)) (fun s H D cl fp B1 => (r_nm 8 nd__law_right)) (fun s H D cl fp B1 => ts_nil) (fun s H D cl fp B1 => (r_cal false B1 (IH) (by omega) (r_cons (r_var 0) (r_cons (r_var 1) (r_cons (r_bin B1 .sub (r_var 2) r_int) (r_cons (r_var 3) s_nil)))) (len_cons (len_cons (len_cons (len_cons len_nil))))))))))
      ss_nil))))
/-! _law_rules -/
def N__law_rules : List Str := [(Str.ofString "_law_tape_here"), (Str.ofString "_law_signs_here"), (Str.ofString "_law_rules_here"), (Str.ofString "_law_name"), (Str.ofString "_law_known"), (Str.ofString "_law_left_here")]
theorem nd__law_rules : N__law_rules.Nodup := by decide +kernel
def m__law_rules : Ms := sSeq (sAsg (.nm 2) (mLst true (mNil))) (sSeq (sFor (.nm 3) (mIt (mCal false (c__law_names) (mCons (mVar 0) (mCons (mIx (mLst false (mCons (mC (.int 1)) (mCons (mC (.int 2)) (mCons (mC (.int 2)) (mCons (mC (.int 3)) (mCons (mC (.int 0)) (mNil))))))) (mCal false (c__law_draw) (mCons (mVar 0) (mCons (mC (.int 5)) (mNil))))) (mNil))))) (sSeq (sAsg (.nm 4) (mLst true (mNil))) (sSeq (sAsg (.nm 5) (mCal false (c__law_left 12) (mCons (mVar 0) (mCons (mVar 1) (mCons (mC (.int 1)) (mCons (mVar 4) (mNil))))))) (sSeq (sExp (mApp (mVar 2) (mTup (mCons (mVar 3) (mCons (mVar 5) (mCons (mCal false (c__law_right 12) (mCons (mVar 0) (mCons (mVar 1) (mCons (mC (.int 2)) (mCons (mVar 4) (mNil)))))) (mNil))))))) (sNx))))) (sSeq (sRet (mB1 tupV (mVar 2))) (sNx)))
def c__law_rules : List Val → M Val := bodyM 6 m__law_rules
theorem sc__law_rules : FnScope N__law_rules [(Str.ofString "_law_tape_here"), (Str.ofString "_law_signs_here")] (defScope (top 27)) := ⟨rfl, rfl, rfl, nd__law_rules, rfl, by decide +kernel, by decide +kernel⟩
theorem ok__law_rules (U : Hd h K mg w) : Ok PG w K mg base (C0 K) 74 (Str.ofString "_law_rules") 2 c__law_rules := by
  obtain ⟨fd, F⟩ := U.says.d.def_ 16 (d := dd (Str.ofString "_law_rules") 27) rfl
  refine Ok.of (k := 73) (N := N__law_rules) F (gl__law_rules U) sc__law_rules rfl (by omega) (fun _ _ _ _ _ _ us hl => match us, hl with | [_, _], _ => rfl) ?_
  rintro X Q ⟨cdv, A, outer, s, H, E, rfl, rfl⟩ B
  exact (ss_cons (r_asg (s_lst (c := true) s_nil) (r_nm 2 nd__law_rules))
      (ss_cons (r_for B (r_iseq B (r_cal false B (ok__law_names U) (by omega) (r_cons (r_var 0) (r_cons (r_ix B (s_lst (c := false) (r_cons r_int (r_cons r_int (r_cons r_int (r_cons r_int (r_cons r_int s_nil)))))) (r_cal false B (ok__law_draw U) (by omega) (r_cons (r_var 0) (r_cons r_int s_nil)) (len_cons (len_cons len_nil)))) s_nil)) (len_cons (len_cons len_nil)))) (r_nm 3 nd__law_rules) (ss_cons (r_asg (s_lst (c := true) s_nil) (r_nm 4 nd__law_rules))
      (ss_cons (r_asg (r_cal false B (ok__law_left U 12) (by omega) (r_cons (r_var 0) (r_cons (r_var 1) (r_cons r_int (r_cons (r_var 4) s_nil)))) (len_cons (len_cons (len_cons (len_cons len_nil))))) (r_nm 5 nd__law_rules))
      (ss_cons (r_exp (r_app B (r_var 2) (s_tup (r_cons (r_var 3) (r_cons (r_var 5) (r_cons (r_cal false B (ok__law_right U 12) (by omega) (r_cons (r_var 0) (r_cons (r_var 1) (r_cons r_int (r_cons (r_var 4) s_nil)))) (len_cons (len_cons (len_cons (len_cons len_nil))))) s_nil))))))
      ss_nil))))
      (ss_cons (ss_ret (b_tuple B (fr_tuple U) (r_var 2)))
      ss_nil)))
/-! _law_leaf -/
def N__law_leaf : List Str := [(Str.ofString "_law_tape_here"), (Str.ofString "_law_rules_here"), (Str.ofString "_law_way_here")]
theorem nd__law_leaf : N__law_leaf.Nodup := by decide +kernel
def m__law_leaf : Ms := sSeq (sAsg (.nm 2) (mCal false (c__law_draw) (mCons (mVar 0) (mCons (mC (.int 6)) (mNil))))) (sSeq (sIf (kOr (kCmp .lt (mVar 2) (mC (.int 2))) (kCmp .eq (mVar 1) (mTup (mNil)))) (sSeq (sRet (mTup (mCons (mIx (mLst false (mCons (mC (.str (Str.ofString "stay"))) (mCons (mC (.str (Str.ofString "never"))) (mNil)))) (mBin .mod (mVar 2) (mC (.int 2)))) (mNil)))) (sNx)) (sNx)) (sSeq (sRet (mTup (mCons (mC (.str (Str.ofString "use"))) (mCons (mIx (mIx (mVar 1) (mBin .mod (mVar 2) (mB1 lenV (mVar 1)))) (mC (.int 0))) (mNil))))) (sNx)))
def c__law_leaf : List Val → M Val := bodyM 3 m__law_leaf
theorem sc__law_leaf : FnScope N__law_leaf [(Str.ofString "_law_tape_here"), (Str.ofString "_law_rules_here")] (defScope (top 28)) := ⟨rfl, rfl, rfl, nd__law_leaf, rfl, by decide +kernel, by decide +kernel⟩
theorem ok__law_leaf (U : Hd h K mg w) : Ok PG w K mg base (C0 K) 62 (Str.ofString "_law_leaf") 2 c__law_leaf := by
  obtain ⟨fd, F⟩ := U.says.d.def_ 17 (d := dd (Str.ofString "_law_leaf") 28) rfl
  refine Ok.of (k := 61) (N := N__law_leaf) F (gl__law_leaf U) sc__law_leaf rfl (by omega) (fun _ _ _ _ _ _ us hl => match us, hl with | [_, _], _ => rfl) ?_
  rintro X Q ⟨cdv, A, outer, s, H, E, rfl, rfl⟩ B
  exact (ss_cons (r_asg (r_cal false B (ok__law_draw U) (by omega) (r_cons (r_var 0) (r_cons r_int s_nil)) (len_cons (len_cons len_nil))) (r_nm 2 nd__law_leaf))
      (ss_cons (ss_if (w_or (t_cmp B .lt (r_var 2) r_int) (w_one (t_cmp B .eq (r_var 1) (s_tup s_nil)))).pt (ss_cons (ss_ret (s_tup (r_cons (r_ix B (s_lst (c := false) (r_cons r_str (r_cons r_str s_nil))) (r_bin B .mod (r_var 2) r_int)) s_nil)))
      ss_nil) ss_nil)
      (ss_cons (ss_ret (s_tup (r_cons r_str (r_cons (r_ix B (r_ix B (r_var 1) (r_bin B .mod (r_var 2) (b_len B (fr_len U) (r_var 1)))) r_int) s_nil))))
      ss_nil)))
/-! _law_plan -/
def N__law_plan : List Str := [(Str.ofString "_law_tape_here"), (Str.ofString "_law_rules_here"), (Str.ofString "_law_most"), (Str.ofString "_law_way_here"), (Str.ofString "_law_first"), (Str.ofString "_law_one"), (Str.ofString "_law_word")]
theorem nd__law_plan : N__law_plan.Nodup := by decide +kernel
def m__law_plan (self : List Val → M Val) : Ms := sSeq (sAsg (.nm 3) (mCal false (c__law_draw) (mCons (mVar 0) (mCons (mC (.int 14)) (mNil))))) (sSeq (sIf (kOr (kCmp .eq (mVar 2) (mC (.int 1))) (kCmp .eq (mVar 3) (mC (.int 13)))) (sSeq (sRet (mCal false (c__law_leaf) (mCons (mVar 0) (mCons (mVar 1) (mNil))))) (sNx)) (sNx)) (sSeq (sIf (kOr (kCmp .lt (mVar 3) (mC (.int 9))) (kCmp .eq (mVar 2) (mC (.int 2)))) (sSeq (sAsg (.nm 6) (mIx (mLst false (mCons (mC (.str (Str.ofString "try"))) (mCons (mC (.str (Str.ofString "not"))) (mCons (mC (.str (Str.ofString "again"))) (mCons (mC (.str (Str.ofString "one"))) (mCons (mC (.str (Str.ofString "all"))) (mCons (mC (.str (Str.ofString "down"))) (mCons (mC (.str (Str.ofString "up"))) (mCons (mC (.str (Str.ofString "find"))) (mCons (mC (.str (Str.ofString "dig"))) (mNil))))))))))) (mBin .mod (mVar 3) (mC (.int 9))))) (sSeq (sRet (mTup (mCons (mVar 6) (mCons (mCal false (self) (mCons (mVar 0) (mCons (mVar 1) (mCons (mBin .sub (mVar 2) (mC (.int 1))) (mNil))))) (mNil))))) (sNx))) (sNx)) (sSeq (sAsg (.nm 4) (mBin .add (mC (.int 1)) (mCal false (c__law_draw) (mCons (mVar 0) (mCons (mBin .sub (mVar 2) (mC (.int 2))) (mNil)))))) (sSeq (sAsg (.nm 5) (mCal false (self) (mCons (mVar 0) (mCons (mVar 1) (mCons (mVar 4) (mNil)))))) (sSeq (sRet (mTup (mCons (mIx (mLst false (mCons (mC (.str (Str.ofString "then"))) (mCons (mC (.str (Str.ofString "else"))) (mNil)))) (mBin .mod (mVar 3) (mC (.int 2)))) (mCons (mVar 5) (mCons (mCal false (self) (mCons (mVar 0) (mCons (mVar 1) (mCons (mBin .sub (mBin .sub (mVar 2) (mC (.int 1))) (mVar 4)) (mNil))))) (mNil)))))) (sNx))))))
def c__law_plan : Nat → List Val → M Val
  | 0 => fun _ => M.bad
  | n + 1 => bodyM 7 (m__law_plan (c__law_plan n))
theorem sc__law_plan : FnScope N__law_plan [(Str.ofString "_law_tape_here"), (Str.ofString "_law_rules_here"), (Str.ofString "_law_most")] (defScope (top 29)) := ⟨rfl, rfl, rfl, nd__law_plan, rfl, by decide +kernel, by decide +kernel⟩
theorem ok__law_plan (U : Hd h K mg w) : ∀ n, Ok PG w K mg base (C0 K) (62 + n) (Str.ofString "_law_plan") 3 (c__law_plan n)
  | 0 => by
    obtain ⟨fd, F⟩ := U.says.d.def_ 18 (d := dd (Str.ofString "_law_plan") 29) rfl
    exact Ok.bad (ps := [(Str.ofString "_law_tape_here"), (Str.ofString "_law_rules_here"), (Str.ofString "_law_most")]) rfl (F.bindsN (fun _ _ _ _ _ _ us hl => match us, hl with | [_, _, _], _ => rfl)) F.kp (gl__law_plan U)
  | j + 1 => by
    obtain ⟨fd, F⟩ := U.says.d.def_ 18 (d := dd (Str.ofString "_law_plan") 29) rfl
    have IH : Ok PG w K mg base (C0 K) (62 + j) (Str.ofString "_law_plan") 3 (c__law_plan j) := ok__law_plan U j
    refine Ok.of (k := 62 + j) (N := N__law_plan) F (gl__law_plan U) sc__law_plan rfl (by omega) (fun _ _ _ _ _ _ us hl => match us, hl with | [_, _, _], _ => rfl) ?_
    rintro X Q ⟨cdv, A, outer, s, H, E, rfl, rfl⟩ B
    exact (ss_cons (r_asg (r_cal false B (ok__law_draw U) (by omega) (r_cons (r_var 0) (r_cons r_int s_nil)) (len_cons (len_cons len_nil))) (r_nm 3 nd__law_plan))
      (ss_cons (ss_if (w_or (t_cmp B .eq (r_var 2) r_int) (w_one (t_cmp B .eq (r_var 3) r_int))).pt (ss_cons (ss_ret (r_cal false B (ok__law_leaf U) (by omega) (r_cons (r_var 0) (r_cons (r_var 1) s_nil)) (len_cons (len_cons len_nil))))
      ss_nil) ss_nil)
      (ss_cons (ss_if (w_or (t_cmp B .lt (r_var 3) r_int) (w_one (t_cmp B .eq (r_var 2) r_int))).pt (ss_cons (r_asg (r_ix B (s_lst (c := false) (r_cons r_str (r_cons r_str (r_cons r_str (r_cons r_str (r_cons r_str (r_cons r_str (r_cons r_str (r_cons r_str (r_cons r_str s_nil)))))))))) (r_bin B .mod (r_var 3) r_int)) (r_nm 6 nd__law_plan))
      (ss_cons (ss_ret (s_tup (r_cons (r_var 6) (r_cons (r_cal false B (IH) (by omega) (r_cons (r_var 0) (r_cons (r_var 1) (r_cons (r_bin B .sub (r_var 2) r_int) s_nil))) (len_cons (len_cons (len_cons len_nil)))) s_nil))))
      ss_nil)) ss_nil)
      (ss_cons (r_asg (r_bin B .add r_int (r_cal false B (ok__law_draw U) (by omega) (r_cons (r_var 0) (r_cons (r_bin B .sub (r_var 2) r_int) s_nil)) (len_cons (len_cons len_nil)))) (r_nm 4 nd__law_plan))
      (ss_cons (r_asg (r_cal false B (IH) (by omega) (r_cons (r_var 0) (r_cons (r_var 1) (r_cons (r_var 4) s_nil))) (len_cons (len_cons (len_cons len_nil)))) (r_nm 5 nd__law_plan))
      (ss_cons (ss_ret (s_tup (r_cons (r_ix B (s_lst (c := false) (r_cons r_str (r_cons r_str s_nil))) (r_bin B .mod (r_var 3) r_int)) (r_cons (r_var 5) (r_cons (r_cal false B (IH) (by omega) (r_cons (r_var 0) (r_cons (r_var 1) (r_cons (r_bin B .sub (r_bin B .sub (r_var 2) r_int) (r_var 4)) s_nil))) (len_cons (len_cons (len_cons len_nil)))) s_nil)))))
      ss_nil))))))
/-! _law_weight -/
def N__law_weight : List Str := [(Str.ofString "_law_marks_here"), (Str.ofString "_law_side"), (Str.ofString "_law_child")]
theorem nd__law_weight : N__law_weight.Nodup := by decide +kernel
def m__law_weight (self : List Val → M Val) : Ms := sSeq (sIf (kTr (mInst .str (mVar 1))) (sSeq (sRet (mC (.int 0))) (sNx)) (sNx)) (sSeq (sRet (mBin .add (mDix (mB1 dictV (mVar 0)) (mIx (mVar 1) (mC (.int 0)))) (mB1 (fun x => biV .sum [x]) (mLc false [2] (.nm 2) (mIt (mSl (mVar 1) (some (mC (.int 1))) (none))) (kYes) (mCal false (self) (mCons (mVar 0) (mCons (mVar 2) (mNil)))))))) (sNx))
def c__law_weight : Nat → List Val → M Val
  | 0 => fun _ => M.bad
  | n + 1 => bodyM 3 (m__law_weight (c__law_weight n))
theorem sc__law_weight : FnScope N__law_weight [(Str.ofString "_law_marks_here"), (Str.ofString "_law_side")] (defScope (top 30)) := ⟨rfl, rfl, rfl, nd__law_weight, rfl, by decide +kernel, by decide +kernel⟩
theorem ok__law_weight (U : Hd h K mg w) : ∀ n, Ok PG w K mg base (C0 K) (60 + n) (Str.ofString "_law_weight") 2 (c__law_weight n)
  | 0 => by
    obtain ⟨fd, F⟩ := U.says.d.def_ 19 (d := dd (Str.ofString "_law_weight") 30) rfl
    exact Ok.bad (ps := [(Str.ofString "_law_marks_here"), (Str.ofString "_law_side")]) rfl (F.bindsN (fun _ _ _ _ _ _ us hl => match us, hl with | [_, _], _ => rfl)) F.kp (gl__law_weight U)
  | j + 1 => by
    obtain ⟨fd, F⟩ := U.says.d.def_ 19 (d := dd (Str.ofString "_law_weight") 30) rfl
    have IH : Ok PG w K mg base (C0 K) (60 + j) (Str.ofString "_law_weight") 2 (c__law_weight j) := ok__law_weight U j
    refine Ok.of (k := 60 + j) (N := N__law_weight) F (gl__law_weight U) sc__law_weight rfl (by omega) (fun _ _ _ _ _ _ us hl => match us, hl with | [_, _], _ => rfl) ?_
    rintro X Q ⟨cdv, A, outer, s, H, E, rfl, rfl⟩ B
    exact (ss_cons (ss_if (t_val B (r_inst B .str (fr_isinstance U) (fr_str U) (r_var 1))) (ss_cons (ss_ret r_int)
      ss_nil) ss_nil)
      (ss_cons (ss_ret (r_bin B .add (r_dix B (b_dict B (fr_dict U) (r_var 0)) (r_ix B (r_var 1) r_int)) (b_sum B (fr_sum U) (r_lc false [((Str.ofString "_law_child"), 2)] B nd__law_weight (r_iseq B (r_sl B (r_var 1) (o_some r_int) o_none)) (fun s H D cl fp B1 => (r_nm 2 nd__law_weight)) (fun s H D cl fp B1 => ts_nil) (fun s H D cl fp B1 => (r_cal false B1 (IH) (by omega) (r_cons (r_var 0) (r_cons (r_var 2) s_nil)) (len_cons (len_cons len_nil))))))))
      ss_nil))
/-! _law_unknowns -/
def N__law_unknowns : List Str := [(Str.ofString "_law_side"), (Str.ofString "_law_found"), (Str.ofString "_law_child")]
theorem nd__law_unknowns : N__law_unknowns.Nodup := by decide +kernel
def m__law_unknowns (self : List Val → M Val) : Ms := sSeq (sIf (kTr (mInst .str (mVar 0))) (sSeq (sRet (mLst false (mCons (mVar 0) (mNil)))) (sNx)) (sNx)) (sSeq (sAsg (.nm 1) (mLst false (mNil))) (sSeq (sFor (.nm 2) (mIt (mSl (mVar 0) (some (mC (.int 1))) (none))) (sSeq (sAsg (.nm 1) (mBin .add (mVar 1) (mCal false (self) (mCons (mVar 2) (mNil))))) (sNx))) (sSeq (sRet (mVar 1)) (sNx))))
def c__law_unknowns : Nat → List Val → M Val
  | 0 => fun _ => M.bad
  | n + 1 => bodyM 3 (m__law_unknowns (c__law_unknowns n))
theorem sc__law_unknowns : FnScope N__law_unknowns [(Str.ofString "_law_side")] (defScope (top 31)) := ⟨rfl, rfl, rfl, nd__law_unknowns, rfl, by decide +kernel, by decide +kernel⟩
theorem ok__law_unknowns (U : Hd h K mg w) : ∀ n, Ok PG w K mg base (C0 K) (60 + n) (Str.ofString "_law_unknowns") 1 (c__law_unknowns n)
  | 0 => by
    obtain ⟨fd, F⟩ := U.says.d.def_ 20 (d := dd (Str.ofString "_law_unknowns") 31) rfl
    exact Ok.bad (ps := [(Str.ofString "_law_side")]) rfl (F.bindsN (fun _ _ _ _ _ _ us hl => match us, hl with | [_], _ => rfl)) F.kp (gl__law_unknowns U)
  | j + 1 => by
    obtain ⟨fd, F⟩ := U.says.d.def_ 20 (d := dd (Str.ofString "_law_unknowns") 31) rfl
    have IH : Ok PG w K mg base (C0 K) (60 + j) (Str.ofString "_law_unknowns") 1 (c__law_unknowns j) := ok__law_unknowns U j
    refine Ok.of (k := 60 + j) (N := N__law_unknowns) F (gl__law_unknowns U) sc__law_unknowns rfl (by omega) (fun _ _ _ _ _ _ us hl => match us, hl with | [_], _ => rfl) ?_
    rintro X Q ⟨cdv, A, outer, s, H, E, rfl, rfl⟩ B
    exact (ss_cons (ss_if (t_val B (r_inst B .str (fr_isinstance U) (fr_str U) (r_var 0))) (ss_cons (ss_ret (s_lst (c := false) (r_cons (r_var 0) s_nil)))
      ss_nil) ss_nil)
      (ss_cons (r_asg (s_lst (c := false) s_nil) (r_nm 1 nd__law_unknowns))
      (ss_cons (r_for B (r_iseq B (r_sl B (r_var 0) (o_some r_int) o_none)) (r_nm 2 nd__law_unknowns) (ss_cons (r_asg (r_bin B .add (r_var 1) (r_cal false B (IH) (by omega) (r_cons (r_var 2) s_nil) (len_cons len_nil))) (r_nm 1 nd__law_unknowns))
      ss_nil))
      (ss_cons (ss_ret (r_var 1))
      ss_nil))))
/-! _law_rule_way -/
def N__law_rule_way : List Str := [(Str.ofString "_law_marks_here"), (Str.ofString "_law_rule"), (Str.ofString "_law_some"), (Str.ofString "_law_less"), (Str.ofString "_law_one")]
theorem nd__law_rule_way : N__law_rule_way.Nodup := by decide +kernel
def m__law_rule_way : Ms := sSeq (sAsg (.nm 2) (mCal false (c__law_unknowns 12) (mCons (mIx (mVar 1) (mC (.int 2))) (mNil)))) (sSeq (sIf (kCmp .ne (mLc false [4] (.nm 4) (mIt (mVar 2)) (kCmp .gt (mCnt (mVar 2) (mVar 4)) (mC (.int 1))) (mVar 4)) (mLst false (mNil))) (sSeq (sRet (mC (.str (Str.ofString "rises")))) (sNx)) (sNx)) (sSeq (sAsg (.nm 3) (mBin .sub (mCal false (c__law_weight 12) (mCons (mVar 0) (mCons (mIx (mVar 1) (mC (.int 1))) (mNil)))) (mCal false (c__law_weight 12) (mCons (mVar 0) (mCons (mIx (mVar 1) (mC (.int 2))) (mNil)))))) (sSeq (sRet (mIf (kCmp .lt (mVar 3) (mC (.int 0))) (mC (.str (Str.ofString "rises"))) (mIx (mLst false (mCons (mC (.str (Str.ofString "keeps"))) (mCons (mC (.str (Str.ofString "falls"))) (mNil)))) (mB1 (fun x => biV .int [x]) (mCmp .gt (mVar 3) (mC (.int 0))))))) (sNx))))
def c__law_rule_way : List Val → M Val := bodyM 5 m__law_rule_way
theorem sc__law_rule_way : FnScope N__law_rule_way [(Str.ofString "_law_marks_here"), (Str.ofString "_law_rule")] (defScope (top 32)) := ⟨rfl, rfl, rfl, nd__law_rule_way, rfl, by decide +kernel, by decide +kernel⟩
theorem ok__law_rule_way (U : Hd h K mg w) : Ok PG w K mg base (C0 K) 73 (Str.ofString "_law_rule_way") 2 c__law_rule_way := by
  obtain ⟨fd, F⟩ := U.says.d.def_ 21 (d := dd (Str.ofString "_law_rule_way") 32) rfl
  refine Ok.of (k := 72) (N := N__law_rule_way) F (gl__law_rule_way U) sc__law_rule_way rfl (by omega) (fun _ _ _ _ _ _ us hl => match us, hl with | [_, _], _ => rfl) ?_
  rintro X Q ⟨cdv, A, outer, s, H, E, rfl, rfl⟩ B
  exact (ss_cons (r_asg (r_cal false B (ok__law_unknowns U 12) (by omega) (r_cons (r_ix B (r_var 1) r_int) s_nil) (len_cons len_nil)) (r_nm 2 nd__law_rule_way))
      (ss_cons (ss_if (t_cmp B .ne (r_lc false [((Str.ofString "_law_one"), 4)] B nd__law_rule_way (r_iseq B (r_var 2)) (fun s H D cl fp B1 => (r_nm 4 nd__law_rule_way)) (fun s H D cl fp B1 => (ts_one (t_cmp B1 .gt (r_cnt B1 (r_var 2) (r_var 4)) r_int))) (fun s H D cl fp B1 => (r_var 4))) (s_lst (c := false) s_nil)) (ss_cons (ss_ret r_str)
      ss_nil) ss_nil)
      (ss_cons (r_asg (r_bin B .sub (r_cal false B (ok__law_weight U 12) (by omega) (r_cons (r_var 0) (r_cons (r_ix B (r_var 1) r_int) s_nil)) (len_cons (len_cons len_nil))) (r_cal false B (ok__law_weight U 12) (by omega) (r_cons (r_var 0) (r_cons (r_ix B (r_var 1) r_int) s_nil)) (len_cons (len_cons len_nil)))) (r_nm 3 nd__law_rule_way))
      (ss_cons (ss_ret (s_if (t_cmp B .lt (r_var 3) r_int) r_str (r_ix B (s_lst (c := false) (r_cons r_str (r_cons r_str s_nil))) (b_int B (fr_int U) (r_cmp B .gt (r_var 3) r_int)))))
      ss_nil))))
/-! _law_way -/
def N__law_way : List Str := [(Str.ofString "_law_rules_here"), (Str.ofString "_law_marks_here"), (Str.ofString "_law_plan_here"), (Str.ofString "_law_word"), (Str.ofString "_law_ways"), (Str.ofString "_law_one")]
theorem nd__law_way : N__law_way.Nodup := by decide +kernel
def m__law_way (self : List Val → M Val) : Ms := sSeq (sAsg (.nm 3) (mIx (mVar 2) (mC (.int 0)))) (sSeq (sIf (kCmp .isin (mVar 3) (mTup (mCons (mC (.str (Str.ofString "never"))) (mCons (mC (.str (Str.ofString "stay"))) (mCons (mC (.str (Str.ofString "not"))) (mCons (mC (.str (Str.ofString "any"))) (mNil))))))) (sSeq (sRet (mGet2 (mDsp [((.str (Str.ofString "never")), (.str (Str.ofString "falls"))), ((.str (Str.ofString "any")), (.str (Str.ofString "rises")))]) (mVar 3) (mC (.str (Str.ofString "keeps"))))) (sNx)) (sNx)) (sSeq (sIf (kCmp .eq (mVar 3) (mC (.str (Str.ofString "use")))) (sSeq (sRet (mCal false (c__law_rule_way) (mCons (mVar 1) (mCons (mIx (mLc false [5] (.nm 5) (mIt (mVar 0)) (kCmp .eq (mIx (mVar 5) (mC (.int 0))) (mIx (mVar 2) (mC (.int 1)))) (mVar 5)) (mC (.int 0))) (mNil))))) (sNx)) (sNx)) (sSeq (sAsg (.nm 4) (mLc false [5] (.nm 5) (mIt (mSl (mVar 2) (some (mC (.int 1))) (none))) (kYes) (mCal false (self) (mCons (mVar 0) (mCons (mVar 1) (mCons (mVar 5) (mNil))))))) (sSeq (sIf (kCmp .isin (mC (.str (Str.ofString "rises"))) (mVar 4)) (sSeq (sRet (mC (.str (Str.ofString "rises")))) (sNx)) (sNx)) (sSeq (sIf (kOr (kAnd (kCmp .eq (mVar 3) (mC (.str (Str.ofString "then")))) (kCmp .isin (mC (.str (Str.ofString "falls"))) (mVar 4))) (kAnd (kCmp .eq (mVar 3) (mC (.str (Str.ofString "else")))) (kCmp .eq (mVar 4) (mLst false (mCons (mC (.str (Str.ofString "falls"))) (mCons (mC (.str (Str.ofString "falls"))) (mNil))))))) (sSeq (sRet (mC (.str (Str.ofString "falls")))) (sNx)) (sNx)) (sSeq (sRet (mIf (kCmp .isin (mVar 3) (mTup (mCons (mC (.str (Str.ofString "one"))) (mCons (mC (.str (Str.ofString "find"))) (mCons (mC (.str (Str.ofString "dig"))) (mNil)))))) (mIx (mVar 4) (mC (.int 0))) (mC (.str (Str.ofString "keeps"))))) (sNx)))))))
def c__law_way : Nat → List Val → M Val
  | 0 => fun _ => M.bad
  | n + 1 => bodyM 6 (m__law_way (c__law_way n))
theorem sc__law_way : FnScope N__law_way [(Str.ofString "_law_rules_here"), (Str.ofString "_law_marks_here"), (Str.ofString "_law_plan_here")] (defScope (top 33)) := ⟨rfl, rfl, rfl, nd__law_way, rfl, by decide +kernel, by decide +kernel⟩
theorem ok__law_way (U : Hd h K mg w) : ∀ n, Ok PG w K mg base (C0 K) (73 + n) (Str.ofString "_law_way") 3 (c__law_way n)
  | 0 => by
    obtain ⟨fd, F⟩ := U.says.d.def_ 22 (d := dd (Str.ofString "_law_way") 33) rfl
    exact Ok.bad (ps := [(Str.ofString "_law_rules_here"), (Str.ofString "_law_marks_here"), (Str.ofString "_law_plan_here")]) rfl (F.bindsN (fun _ _ _ _ _ _ us hl => match us, hl with | [_, _, _], _ => rfl)) F.kp (gl__law_way U)
  | j + 1 => by
    obtain ⟨fd, F⟩ := U.says.d.def_ 22 (d := dd (Str.ofString "_law_way") 33) rfl
    have IH : Ok PG w K mg base (C0 K) (73 + j) (Str.ofString "_law_way") 3 (c__law_way j) := ok__law_way U j
    refine Ok.of (k := 73 + j) (N := N__law_way) F (gl__law_way U) sc__law_way rfl (by omega) (fun _ _ _ _ _ _ us hl => match us, hl with | [_, _, _], _ => rfl) ?_
    rintro X Q ⟨cdv, A, outer, s, H, E, rfl, rfl⟩ B
    exact (ss_cons (r_asg (r_ix B (r_var 2) r_int) (r_nm 3 nd__law_way))
      (ss_cons (ss_if (t_cmp B .isin (r_var 3) (s_tup (r_cons r_str (r_cons r_str (r_cons r_str (r_cons r_str s_nil)))))) (ss_cons (ss_ret (r_get2 B (s_dsp (m := [((.str (Str.ofString "never")), (.str (Str.ofString "falls"))), ((.str (Str.ofString "any")), (.str (Str.ofString "rises")))]) (pps_cons pe_str pe_str (pps_cons pe_str pe_str pps_nil)) rfl (by decide +kernel) (by decide) (by rfl) (by rfl) (by decide) (by decide)) (r_var 3) r_str))
      ss_nil) ss_nil)
      (ss_cons (ss_if (t_cmp B .eq (r_var 3) r_str) (ss_cons (ss_ret (r_cal false B (ok__law_rule_way U) (by omega) (r_cons (r_var 1) (r_cons (r_ix B (r_lc false [((Str.ofString "_law_one"), 5)] B nd__law_way (r_iseq B (r_var 0)) (fun s H D cl fp B1 => (r_nm 5 nd__law_way)) (fun s H D cl fp B1 => (ts_one (t_cmp B1 .eq (r_ix B1 (r_var 5) r_int) (r_ix B1 (r_var 2) r_int)))) (fun s H D cl fp B1 => (r_var 5))) r_int) s_nil)) (len_cons (len_cons len_nil))))
      ss_nil) ss_nil)
      (ss_cons (r_setLc 4 false [((Str.ofString "_law_one"), 5)] B nd__law_way (r_iseq B (r_sl B (r_var 2) (o_some r_int) o_none)) (fun s H D cl fp B1 => (r_nm 5 nd__law_way)) (fun s H D cl fp B1 => ts_nil) (fun s H D cl fp B1 => (r_cal false B1 (IH) (by omega) (r_cons (r_var 0) (r_cons (r_var 1) (r_cons (r_var 5) s_nil))) (len_cons (len_cons (len_cons len_nil))))))
      (ss_cons (ss_if (t_cmp B .isin r_str (r_var 4)) (ss_cons (ss_ret r_str)
      ss_nil) ss_nil)
      (ss_cons (ss_if (w_or (w_and (t_cmp B .eq (r_var 3) r_str) (w_one (t_cmp B .isin r_str (r_var 4)))).pt (w_one (w_and (t_cmp B .eq (r_var 3) r_str) (w_one (t_cmp B .eq (r_var 4) (s_lst (c := false) (r_cons r_str (r_cons r_str s_nil)))))).pt)).pt (ss_cons (ss_ret r_str)
      ss_nil) ss_nil)
      (ss_cons (ss_ret (s_if (t_cmp B .isin (r_var 3) (s_tup (r_cons r_str (r_cons r_str (r_cons r_str s_nil))))) (r_ix B (r_var 4) r_int) r_str))
      ss_nil)))))))
/-! _law_marks -/
def N__law_marks : List Str := [(Str.ofString "_law_tape_here"), (Str.ofString "_law_signs_here"), (Str.ofString "_law_some"), (Str.ofString "_law_name"), (Str.ofString "_law_many")]
theorem nd__law_marks : N__law_marks.Nodup := by decide +kernel
def m__law_marks : Ms := sSeq (sAsg (.nm 2) (mLst false (mCons (mC (.int 1)) (mCons (mC (.int 1)) (mCons (mC (.int 2)) (mCons (mC (.int 3)) (mCons (mC (.int 5)) (mCons (mBin .pow (mC (.int 10)) (mC (.int 9))) (mCons (mBin .sub (mBin .pow (mC (.int 10)) (mC (.int 9))) (mC (.int 1))) (mCons (mC (.int 2)) (mNil))))))))))) (sSeq (sRet (mB1 tupV (mLc false [3, 4] (.tp ((.nm 3) :: (.nm 4) :: [])) (mIt (mVar 1)) (kYes) (mTup (mCons (mVar 3) (mCons (mIx (mVar 2) (mCal false (c__law_draw) (mCons (mVar 0) (mCons (mC (.int 8)) (mNil))))) (mNil))))))) (sNx))
def c__law_marks : List Val → M Val := bodyM 5 m__law_marks
theorem sc__law_marks : FnScope N__law_marks [(Str.ofString "_law_tape_here"), (Str.ofString "_law_signs_here")] (defScope (top 34)) := ⟨rfl, rfl, rfl, nd__law_marks, rfl, by decide +kernel, by decide +kernel⟩
theorem ok__law_marks (U : Hd h K mg w) : Ok PG w K mg base (C0 K) 62 (Str.ofString "_law_marks") 2 c__law_marks := by
  obtain ⟨fd, F⟩ := U.says.d.def_ 23 (d := dd (Str.ofString "_law_marks") 34) rfl
  refine Ok.of (k := 61) (N := N__law_marks) F (gl__law_marks U) sc__law_marks rfl (by omega) (fun _ _ _ _ _ _ us hl => match us, hl with | [_, _], _ => rfl) ?_
  rintro X Q ⟨cdv, A, outer, s, H, E, rfl, rfl⟩ B
  exact (ss_cons (r_asg (s_lst (c := false) (r_cons r_int (r_cons r_int (r_cons r_int (r_cons r_int (r_cons r_int (r_cons (r_bin B .pow r_int r_int) (r_cons (r_bin B .sub (r_bin B .pow r_int r_int) r_int) (r_cons r_int s_nil))))))))) (r_nm 2 nd__law_marks))
      (ss_cons (ss_ret (b_tuple B (fr_tuple U) (r_lc false [((Str.ofString "_law_name"), 3), ((Str.ofString "_law_many"), 4)] B nd__law_marks (r_iseq B (r_var 1)) (fun s H D cl fp B1 => (r_gtp B1 (r_gcons (r_nm 3 nd__law_marks) (r_gcons (r_nm 4 nd__law_marks) gs_nil)))) (fun s H D cl fp B1 => ts_nil) (fun s H D cl fp B1 => (s_tup (r_cons (r_var 3) (r_cons (r_ix B1 (r_var 2) (r_cal false B1 (ok__law_draw U) (by omega) (r_cons (r_var 0) (r_cons r_int s_nil)) (len_cons (len_cons len_nil)))) s_nil)))))))
      ss_nil))
/-! _law_bent -/
def N__law_bent : List Str := [(Str.ofString "_law_tape_here"), (Str.ofString "_law_signs_here"), (Str.ofString "_law_marks_here"), (Str.ofString "_law_at"), (Str.ofString "_law_odd"), (Str.ofString "_law_one"), (Str.ofString "_law_way_here"), (Str.ofString "_law_name"), (Str.ofString "_law_weight_here")]
theorem nd__law_bent : N__law_bent.Nodup := by decide +kernel
def m__law_bent : Ms := sSeq (sAsg (.nm 3) (mCal false (c__law_draw) (mCons (mVar 0) (mCons (mB1 lenV (mVar 2)) (mNil))))) (sSeq (sAsg (.tp ((.nm 7) :: (.nm 8) :: [])) (mIx (mVar 2) (mVar 3))) (sSeq (sAsg (.nm 4) (mLst false (mCons (mTup (mCons (mVar 7) (mCons (mC (.int 0)) (mNil)))) (mCons (mTup (mCons (mVar 7) (mCons (mNeg (mC (.int 1))) (mNil)))) (mCons (mTup (mCons (mVar 7) (mCons (mC (.bl true)) (mNil)))) (mCons (mTup (mCons (mVar 7) (mCons (mBin .add (mBin .pow (mC (.int 10)) (mC (.int 9))) (mC (.int 1))) (mNil)))) (mCons (mTup (mCons (mVar 7) (mCons (mC .non) (mNil)))) (mCons (mLst false (mCons (mVar 7) (mCons (mVar 8) (mNil)))) (mCons (mTup (mCons (mVar 7) (mNil))) (mCons (mVar 7) (mNil))))))))))) (sSeq (sAsg (.nm 4) (mBin .add (mVar 4) (mLst false (mCons (mTup (mCons (mVar 7) (mCons (mVar 8) (mCons (mC (.int 1)) (mNil))))) (mCons (mTup (mCons (mC (.str (Str.ofString "other"))) (mCons (mVar 8) (mNil)))) (mCons (mTup (mCons (mVar 8) (mCons (mVar 7) (mNil)))) (mCons (mTup (mCons (mVar 7) (mCons (mC (.str (Str.ofString "1"))) (mNil)))) (mCons (mTup (mCons (mC .non) (mCons (mVar 8) (mNil)))) (mCons (mTup (mCons (mVar 7) (mCons (mBin .pow (mC (.int 10)) (mC (.int 9))) (mNil)))) (mNil)))))))))) (sSeq (sAsg (.nm 5) (mIx (mVar 4) (mCal false (c__law_draw) (mCons (mVar 0) (mCons (mC (.int 14)) (mNil)))))) (sSeq (sAsg (.nm 6) (mCal false (c__law_draw) (mCons (mVar 0) (mCons (mC (.int 7)) (mNil))))) (sSeq (sIf (kCmp .lt (mVar 6) (mC (.int 3))) (sSeq (sRet (mBin .add (mBin .add (mSl (mVar 2) (none) (some (mVar 3))) (mTup (mCons (mVar 5) (mNil)))) (mSl (mVar 2) (some (mBin .add (mVar 3) (mC (.int 1)))) (none)))) (sNx)) (sNx)) (sSeq (sRet (mIx (mLst false (mCons (mRev (mVar 2)) (mCons (mB1 (fun x => biV (.list false) [x]) (mVar 2)) (mCons (mBin .add (mSl (mVar 2) (none) (some (mVar 3))) (mSl (mVar 2) (some (mBin .add (mVar 3) (mC (.int 1)))) (none))) (mCons (mBin .add (mVar 2) (mTup (mCons (mIx (mVar 2) (mVar 3)) (mNil)))) (mNil)))))) (mBin .sub (mVar 6) (mC (.int 3))))) (sNx))))))))
def c__law_bent : List Val → M Val := bodyM 9 m__law_bent
theorem sc__law_bent : FnScope N__law_bent [(Str.ofString "_law_tape_here"), (Str.ofString "_law_signs_here"), (Str.ofString "_law_marks_here")] (defScope (top 35)) := ⟨rfl, rfl, rfl, nd__law_bent, rfl, by decide +kernel, by decide +kernel⟩
theorem ok__law_bent (U : Hd h K mg w) : Ok PG w K mg base (C0 K) 62 (Str.ofString "_law_bent") 3 c__law_bent := by
  obtain ⟨fd, F⟩ := U.says.d.def_ 24 (d := dd (Str.ofString "_law_bent") 35) rfl
  refine Ok.of (k := 61) (N := N__law_bent) F (gl__law_bent U) sc__law_bent rfl (by omega) (fun _ _ _ _ _ _ us hl => match us, hl with | [_, _, _], _ => rfl) ?_
  rintro X Q ⟨cdv, A, outer, s, H, E, rfl, rfl⟩ B
  exact (ss_cons (r_asg (r_cal false B (ok__law_draw U) (by omega) (r_cons (r_var 0) (r_cons (b_len B (fr_len U) (r_var 2)) s_nil)) (len_cons (len_cons len_nil))) (r_nm 3 nd__law_bent))
      (ss_cons (r_asg (r_ix B (r_var 2) (r_var 3)) (r_gtp B (r_gcons (r_nm 7 nd__law_bent) (r_gcons (r_nm 8 nd__law_bent) gs_nil))))
      (ss_cons (r_asg (s_lst (c := false) (r_cons (s_tup (r_cons (r_var 7) (r_cons r_int s_nil))) (r_cons (s_tup (r_cons (r_var 7) (r_cons (s_neg r_int) s_nil))) (r_cons (s_tup (r_cons (r_var 7) (r_cons r_bl s_nil))) (r_cons (s_tup (r_cons (r_var 7) (r_cons (r_bin B .add (r_bin B .pow r_int r_int) r_int) s_nil))) (r_cons (s_tup (r_cons (r_var 7) (r_cons r_non s_nil))) (r_cons (s_lst (c := false) (r_cons (r_var 7) (r_cons (r_var 8) s_nil))) (r_cons (s_tup (r_cons (r_var 7) s_nil)) (r_cons (r_var 7) s_nil))))))))) (r_nm 4 nd__law_bent))
      (ss_cons (r_asg (r_bin B .add (r_var 4) (s_lst (c := false) (r_cons (s_tup (r_cons (r_var 7) (r_cons (r_var 8) (r_cons r_int s_nil)))) (r_cons (s_tup (r_cons r_str (r_cons (r_var 8) s_nil))) (r_cons (s_tup (r_cons (r_var 8) (r_cons (r_var 7) s_nil))) (r_cons (s_tup (r_cons (r_var 7) (r_cons r_str s_nil))) (r_cons (s_tup (r_cons r_non (r_cons (r_var 8) s_nil))) (r_cons (s_tup (r_cons (r_var 7) (r_cons (r_bin B .pow r_int r_int) s_nil))) s_nil)))))))) (r_nm 4 nd__law_bent))
      (ss_cons (r_asg (r_ix B (r_var 4) (r_cal false B (ok__law_draw U) (by omega) (r_cons (r_var 0) (r_cons r_int s_nil)) (len_cons (len_cons len_nil)))) (r_nm 5 nd__law_bent))
      (ss_cons (r_asg (r_cal false B (ok__law_draw U) (by omega) (r_cons (r_var 0) (r_cons r_int s_nil)) (len_cons (len_cons len_nil))) (r_nm 6 nd__law_bent))
      (ss_cons (ss_if (t_cmp B .lt (r_var 6) r_int) (ss_cons (ss_ret (r_bin B .add (r_bin B .add (r_sl B (r_var 2) o_none (o_some (r_var 3))) (s_tup (r_cons (r_var 5) s_nil))) (r_sl B (r_var 2) (o_some (r_bin B .add (r_var 3) r_int)) o_none)))
      ss_nil) ss_nil)
      (ss_cons (ss_ret (r_ix B (s_lst (c := false) (r_cons (r_rev B (r_var 2)) (r_cons (b_list false B (fr_list U) (r_var 2)) (r_cons (r_bin B .add (r_sl B (r_var 2) o_none (o_some (r_var 3))) (r_sl B (r_var 2) (o_some (r_bin B .add (r_var 3) r_int)) o_none)) (r_cons (r_bin B .add (r_var 2) (s_tup (r_cons (r_ix B (r_var 2) (r_var 3)) s_nil))) s_nil))))) (r_bin B .sub (r_var 6) r_int)))
      ss_nil))))))))
/-! _law_is_marks -/
def N__law_is_marks : List Str := [(Str.ofString "_law_signs_here"), (Str.ofString "_law_thing"), (Str.ofString "_law_k"), (Str.ofString "_law_one")]
theorem nd__law_is_marks : N__law_is_marks.Nodup := by decide +kernel
def m__law_is_marks : Ms := sSeq (sIf (kOr (kNt (kTr (mInst .tuple (mVar 1)))) (kCmp .ne (mB1 lenV (mVar 1)) (mB1 lenV (mVar 0)))) (sSeq (sRet (mC (.bl false))) (sNx)) (sNx)) (sSeq (sFor (.nm 2) (mRng (mB1 lenV (mVar 0))) (sSeq (sAsg (.nm 3) (mIx (mVar 1) (mVar 2))) (sSeq (sIf (kOr (kNt (kTr (mInst .tuple (mVar 3)))) (kOr (kCmp .ne (mB1 lenV (mVar 3)) (mC (.int 2))) (kCmp .ne (mB1 (fun x => biV .repr [x]) (mIx (mVar 3) (mC (.int 0)))) (mB1 (fun x => biV .repr [x]) (mIx (mIx (mVar 0) (mVar 2)) (mC (.int 0))))))) (sSeq (sRet (mC (.bl false))) (sNx)) (sNx)) (sSeq (sIf (kOr (kTr (mInst .bool (mIx (mVar 3) (mC (.int 1))))) (kOr (kNt (kTr (mInst .int (mIx (mVar 3) (mC (.int 1)))))) (kNt (kChn .lt .lt (mC (.int 0)) (mIx (mVar 3) (mC (.int 1))) (mBin .add (mBin .pow (mC (.int 10)) (mC (.int 9))) (mC (.int 1))))))) (sSeq (sRet (mC (.bl false))) (sNx)) (sNx)) (sNx))))) (sSeq (sRet (mC (.bl true))) (sNx)))
def c__law_is_marks : List Val → M Val := bodyM 4 m__law_is_marks
theorem sc__law_is_marks : FnScope N__law_is_marks [(Str.ofString "_law_signs_here"), (Str.ofString "_law_thing")] (defScope (top 36)) := ⟨rfl, rfl, rfl, nd__law_is_marks, rfl, by decide +kernel, by decide +kernel⟩
theorem ok__law_is_marks (U : Hd h K mg w) : Ok PG w K mg base (C0 K) 61 (Str.ofString "_law_is_marks") 2 c__law_is_marks := by
  obtain ⟨fd, F⟩ := U.says.d.def_ 25 (d := dd (Str.ofString "_law_is_marks") 36) rfl
  refine Ok.of (k := 60) (N := N__law_is_marks) F (gl__law_is_marks U) sc__law_is_marks rfl (by omega) (fun _ _ _ _ _ _ us hl => match us, hl with | [_, _], _ => rfl) ?_
  rintro X Q ⟨cdv, A, outer, s, H, E, rfl, rfl⟩ B
  exact (ss_cons (ss_if (w_or (k_nt (t_val B (r_inst B .tuple (fr_isinstance U) (fr_tuple U) (r_var 1)))) (w_one (t_cmp B .ne (b_len B (fr_len U) (r_var 1)) (b_len B (fr_len U) (r_var 0))))).pt (ss_cons (ss_ret r_bl)
      ss_nil) ss_nil)
      (ss_cons (r_for B (r_irng (fr_range U) (b_len B (fr_len U) (r_var 0))) (r_nm 2 nd__law_is_marks) (ss_cons (r_asg (r_ix B (r_var 1) (r_var 2)) (r_nm 3 nd__law_is_marks))
      (ss_cons (ss_if (w_or (k_nt (t_val B (r_inst B .tuple (fr_isinstance U) (fr_tuple U) (r_var 3)))) (w_or (t_cmp B .ne (b_len B (fr_len U) (r_var 3)) r_int) (w_one (t_cmp B .ne (b_repr B (fr_repr U) (r_ix B (r_var 3) r_int)) (b_repr B (fr_repr U) (r_ix B (r_ix B (r_var 0) (r_var 2)) r_int)))))).pt (ss_cons (ss_ret r_bl)
      ss_nil) ss_nil)
      (ss_cons (ss_if (w_or (t_val B (r_inst B .bool (fr_isinstance U) (fr_bool U) (r_ix B (r_var 3) r_int))) (w_or (k_nt (t_val B (r_inst B .int (fr_isinstance U) (fr_int U) (r_ix B (r_var 3) r_int)))) (w_one (k_nt (t_chn B .lt .lt r_int (r_ix B (r_var 3) r_int) (r_bin B .add (r_bin B .pow r_int r_int) r_int)))))).pt (ss_cons (ss_ret r_bl)
      ss_nil) ss_nil)
      ss_nil))))
      (ss_cons (ss_ret r_bl)
      ss_nil)))
/-! _law_tree -/
def N__law_tree : List Str := [(Str.ofString "_law_tape_here"), (Str.ofString "_law_signs_here"), (Str.ofString "_law_deep"), (Str.ofString "_law_some"), (Str.ofString "_law_name"), (Str.ofString "_law_many"), (Str.ofString "_law_one"), (Str.ofString "_law_k")]
theorem nd__law_tree : N__law_tree.Nodup := by decide +kernel
def m__law_tree (self : List Val → M Val) : Ms := sSeq (sAsg (.nm 3) (mLc false [6] (.nm 6) (mIt (mVar 1)) (kOr (kCmp .gt (mVar 2) (mC (.int 0))) (kCmp .eq (mIx (mVar 6) (mC (.int 1))) (mC (.int 0)))) (mVar 6))) (sSeq (sAsg (.tp ((.nm 4) :: (.nm 5) :: [])) (mIx (mVar 3) (mCal false (c__law_draw) (mCons (mVar 0) (mCons (mB1 lenV (mVar 3)) (mNil)))))) (sSeq (sRet (mBin .add (mTup (mCons (mVar 4) (mNil))) (mB1 tupV (mLc false [7] (.nm 7) (mRng (mVar 5)) (kYes) (mCal false (self) (mCons (mVar 0) (mCons (mVar 1) (mCons (mBin .sub (mVar 2) (mC (.int 1))) (mNil))))))))) (sNx)))
def c__law_tree : Nat → List Val → M Val
  | 0 => fun _ => M.bad
  | n + 1 => bodyM 8 (m__law_tree (c__law_tree n))
theorem sc__law_tree : FnScope N__law_tree [(Str.ofString "_law_tape_here"), (Str.ofString "_law_signs_here"), (Str.ofString "_law_deep")] (defScope (top 37)) := ⟨rfl, rfl, rfl, nd__law_tree, rfl, by decide +kernel, by decide +kernel⟩
theorem ok__law_tree (U : Hd h K mg w) : ∀ n, Ok PG w K mg base (C0 K) (61 + n) (Str.ofString "_law_tree") 3 (c__law_tree n)
  | 0 => by
    obtain ⟨fd, F⟩ := U.says.d.def_ 26 (d := dd (Str.ofString "_law_tree") 37) rfl
    exact Ok.bad (ps := [(Str.ofString "_law_tape_here"), (Str.ofString "_law_signs_here"), (Str.ofString "_law_deep")]) rfl (F.bindsN (fun _ _ _ _ _ _ us hl => match us, hl with | [_, _, _], _ => rfl)) F.kp (gl__law_tree U)
  | j + 1 => by
    obtain ⟨fd, F⟩ := U.says.d.def_ 26 (d := dd (Str.ofString "_law_tree") 37) rfl
    have IH : Ok PG w K mg base (C0 K) (61 + j) (Str.ofString "_law_tree") 3 (c__law_tree j) := ok__law_tree U j
    refine Ok.of (k := 61 + j) (N := N__law_tree) F (gl__law_tree U) sc__law_tree rfl (by omega) (fun _ _ _ _ _ _ us hl => match us, hl with | [_, _, _], _ => rfl) ?_
    rintro X Q ⟨cdv, A, outer, s, H, E, rfl, rfl⟩ B
    exact (ss_cons (r_setLc 3 false [((Str.ofString "_law_one"), 6)] B nd__law_tree (r_iseq B (r_var 1)) (fun s H D cl fp B1 => (r_nm 6 nd__law_tree)) (fun s H D cl fp B1 => (ts_one (w_or (t_cmp B1 .gt (r_var 2) r_int) (w_one (t_cmp B1 .eq (r_ix B1 (r_var 6) r_int) r_int))).pt)) (fun s H D cl fp B1 => (r_var 6)))
      (ss_cons (r_asg (r_ix B (r_var 3) (r_cal false B (ok__law_draw U) (by omega) (r_cons (r_var 0) (r_cons (b_len B (fr_len U) (r_var 3)) s_nil)) (len_cons (len_cons len_nil)))) (r_gtp B (r_gcons (r_nm 4 nd__law_tree) (r_gcons (r_nm 5 nd__law_tree) gs_nil))))
      (ss_cons (ss_ret (r_bin B .add (s_tup (r_cons (r_var 4) s_nil)) (b_tuple B (fr_tuple U) (r_lc false [((Str.ofString "_law_k"), 7)] B nd__law_tree (r_irng (fr_range U) (r_var 5)) (fun s H D cl fp B1 => (r_nm 7 nd__law_tree)) (fun s H D cl fp B1 => ts_nil) (fun s H D cl fp B1 => (r_cal false B1 (IH) (by omega) (r_cons (r_var 0) (r_cons (r_var 1) (r_cons (r_bin B1 .sub (r_var 2) r_int) s_nil))) (len_cons (len_cons (len_cons len_nil)))))))))
      ss_nil)))
/-! _law_opened -/
def N__law_opened : List Str := [(Str.ofString "_law_tape_here"), (Str.ofString "_law_plan_here"), (Str.ofString "_law_one")]
theorem nd__law_opened : N__law_opened.Nodup := by decide +kernel
def m__law_opened (self : List Val → M Val) : Ms := sSeq (sIf (kCmp .isin (mIx (mVar 1) (mC (.int 0))) (mTup (mCons (mC (.str (Str.ofString "stay"))) (mCons (mC (.str (Str.ofString "never"))) (mCons (mC (.str (Str.ofString "use"))) (mNil)))))) (sSeq (sRet (mIf (kCmp .eq (mCal false (c__law_draw) (mCons (mVar 0) (mCons (mC (.int 3)) (mNil)))) (mC (.int 0))) (mTup (mCons (mC (.str (Str.ofString "any"))) (mCons (mC (.str (Str.ofString "x"))) (mNil)))) (mVar 1))) (sNx)) (sNx)) (sSeq (sRet (mBin .add (mSl (mVar 1) (none) (some (mC (.int 1)))) (mB1 tupV (mLc false [2] (.nm 2) (mIt (mSl (mVar 1) (some (mC (.int 1))) (none))) (kYes) (mCal false (self) (mCons (mVar 0) (mCons (mVar 2) (mNil)))))))) (sNx))
def c__law_opened : Nat → List Val → M Val
  | 0 => fun _ => M.bad
  | n + 1 => bodyM 3 (m__law_opened (c__law_opened n))
theorem sc__law_opened : FnScope N__law_opened [(Str.ofString "_law_tape_here"), (Str.ofString "_law_plan_here")] (defScope (top 38)) := ⟨rfl, rfl, rfl, nd__law_opened, rfl, by decide +kernel, by decide +kernel⟩
theorem ok__law_opened (U : Hd h K mg w) : ∀ n, Ok PG w K mg base (C0 K) (61 + n) (Str.ofString "_law_opened") 2 (c__law_opened n)
  | 0 => by
    obtain ⟨fd, F⟩ := U.says.d.def_ 27 (d := dd (Str.ofString "_law_opened") 38) rfl
    exact Ok.bad (ps := [(Str.ofString "_law_tape_here"), (Str.ofString "_law_plan_here")]) rfl (F.bindsN (fun _ _ _ _ _ _ us hl => match us, hl with | [_, _], _ => rfl)) F.kp (gl__law_opened U)
  | j + 1 => by
    obtain ⟨fd, F⟩ := U.says.d.def_ 27 (d := dd (Str.ofString "_law_opened") 38) rfl
    have IH : Ok PG w K mg base (C0 K) (61 + j) (Str.ofString "_law_opened") 2 (c__law_opened j) := ok__law_opened U j
    refine Ok.of (k := 61 + j) (N := N__law_opened) F (gl__law_opened U) sc__law_opened rfl (by omega) (fun _ _ _ _ _ _ us hl => match us, hl with | [_, _], _ => rfl) ?_
    rintro X Q ⟨cdv, A, outer, s, H, E, rfl, rfl⟩ B
    exact (ss_cons (ss_if (t_cmp B .isin (r_ix B (r_var 1) r_int) (s_tup (r_cons r_str (r_cons r_str (r_cons r_str s_nil))))) (ss_cons (ss_ret (s_if (t_cmp B .eq (r_cal false B (ok__law_draw U) (by omega) (r_cons (r_var 0) (r_cons r_int s_nil)) (len_cons (len_cons len_nil))) r_int) (s_tup (r_cons r_str (r_cons r_str s_nil))) (r_var 1)))
      ss_nil) ss_nil)
      (ss_cons (ss_ret (r_bin B .add (r_sl B (r_var 1) o_none (o_some r_int)) (b_tuple B (fr_tuple U) (r_lc false [((Str.ofString "_law_one"), 2)] B nd__law_opened (r_iseq B (r_sl B (r_var 1) (o_some r_int) o_none)) (fun s H D cl fp B1 => (r_nm 2 nd__law_opened)) (fun s H D cl fp B1 => ts_nil) (fun s H D cl fp B1 => (r_cal false B1 (IH) (by omega) (r_cons (r_var 0) (r_cons (r_var 2) s_nil)) (len_cons (len_cons len_nil))))))))
      ss_nil))
/-! _law_told_right -/
def N__law_told_right : List Str := [(Str.ofString "_law_signs_here"), (Str.ofString "_law_thing"), (Str.ofString "_law_before"), (Str.ofString "_law_found")]
theorem nd__law_told_right : N__law_told_right.Nodup := by decide +kernel
def m__law_told_right : Ms := sSeq (sAsg (.nm 2) (mB1 (fun x => biV .repr [x]) (mTup (mCons (mVar 0) (mCons (mVar 1) (mNil)))))) (sSeq (sAsg (.nm 3) (mCal false (c_is_marks) (mCons (mVar 0) (mCons (mVar 1) (mNil))))) (sSeq (sRet (mAnd (mCmp .eq (mB1 (fun x => biV .repr [x]) (mVar 3)) (mB1 (fun x => biV .repr [x]) (mCal false (c__law_is_marks) (mCons (mVar 0) (mCons (mVar 1) (mNil)))))) (mCmp .eq (mB1 (fun x => biV .repr [x]) (mTup (mCons (mVar 0) (mCons (mVar 1) (mNil))))) (mVar 2)))) (sNx)))
def c__law_told_right : List Val → M Val := bodyM 4 m__law_told_right
theorem sc__law_told_right : FnScope N__law_told_right [(Str.ofString "_law_signs_here"), (Str.ofString "_law_thing")] (defScope (top 39)) := ⟨rfl, rfl, rfl, nd__law_told_right, rfl, by decide +kernel, by decide +kernel⟩
theorem ok__law_told_right (U : Hd h K mg w) : Ok PG w K mg base (C0 K) 63 (Str.ofString "_law_told_right") 2 c__law_told_right := by
  obtain ⟨fd, F⟩ := U.says.d.def_ 28 (d := dd (Str.ofString "_law_told_right") 39) rfl
  refine Ok.of (k := 62) (N := N__law_told_right) F (gl__law_told_right U) sc__law_told_right rfl (by omega) (fun _ _ _ _ _ _ us hl => match us, hl with | [_, _], _ => rfl) ?_
  rintro X Q ⟨cdv, A, outer, s, H, E, rfl, rfl⟩ B
  exact (ss_cons (r_asg (b_repr B (fr_repr U) (s_tup (r_cons (r_var 0) (r_cons (r_var 1) s_nil)))) (r_nm 2 nd__law_told_right))
      (ss_cons (r_asg (r_cal false B (ok_is_marks U) (by omega) (r_cons (r_var 0) (r_cons (r_var 1) s_nil)) (len_cons (len_cons len_nil))) (r_nm 3 nd__law_told_right))
      (ss_cons (ss_ret (s_and B.hK (r_cmp B .eq (b_repr B (fr_repr U) (r_var 3)) (b_repr B (fr_repr U) (r_cal false B (ok__law_is_marks U) (by omega) (r_cons (r_var 0) (r_cons (r_var 1) s_nil)) (len_cons (len_cons len_nil))))) (pe_one (r_cmp B .eq (b_repr B (fr_repr U) (s_tup (r_cons (r_var 0) (r_cons (r_var 1) s_nil)))) (r_var 2)))))
      ss_nil)))
/-! _law_great_right -/
def N__law_great_right : List Str := [(Str.ofString "_law_signs_here"), (Str.ofString "_law_chains"), (Str.ofString "_law_k"), (Str.ofString "_law_one"), (Str.ofString "_law_tree_here"), (Str.ofString "_law_marks_here")]
theorem nd__law_great_right : N__law_great_right.Nodup := by decide +kernel
def m__law_great_right : Ms := sSeq (sAsg (.nm 0) (mTup (mCons (mTup (mCons (mC (.str (Str.ofString "a"))) (mCons (mC (.int 0)) (mNil)))) (mCons (mTup (mCons (mC (.str (Str.ofString "f"))) (mCons (mC (.int 1)) (mNil)))) (mCons (mTup (mCons (mC (.str (Str.ofString "g"))) (mCons (mC (.int 3)) (mNil)))) (mNil)))))) (sSeq (sAsg (.nm 1) (mLst true (mCons (mTup (mCons (mC (.str (Str.ofString "a"))) (mNil))) (mNil)))) (sSeq (sFor (.nm 2) (mRng (mC (.int 6))) (sSeq (sExp (mApp (mVar 1) (mTup (mCons (mC (.str (Str.ofString "f"))) (mCons (mIx (mVar 1) (mNeg (mC (.int 1)))) (mNil)))))) (sNx))) (sSeq (sAsg (.nm 3) (mTup (mCons (mC (.str (Str.ofString "g"))) (mCons (mIx (mVar 1) (mC (.int 5))) (mCons (mIx (mVar 1) (mC (.int 3))) (mCons (mIx (mVar 1) (mC (.int 1))) (mNil))))))) (sSeq (sAsg (.nm 4) (mTup (mCons (mC (.str (Str.ofString "g"))) (mCons (mVar 3) (mCons (mVar 3) (mCons (mTup (mCons (mC (.str (Str.ofString "g"))) (mCons (mIx (mVar 1) (mC (.int 6))) (mCons (mIx (mVar 1) (mC (.int 3))) (mCons (mIx (mVar 1) (mC (.int 0))) (mNil)))))) (mNil))))))) (sSeq (sAsg (.nm 5) (mTup (mCons (mTup (mCons (mC (.str (Str.ofString "a"))) (mCons (mC (.int 3)) (mNil)))) (mCons (mTup (mCons (mC (.str (Str.ofString "f"))) (mCons (mBin .pow (mC (.int 10)) (mC (.int 9))) (mNil)))) (mCons (mTup (mCons (mC (.str (Str.ofString "g"))) (mCons (mC (.int 7)) (mNil)))) (mNil)))))) (sSeq (sRet (mAnd (mCmp .is_ (mCal false (c_is_marks) (mCons (mVar 0) (mCons (mVar 5) (mNil)))) (mC (.bl true))) (mCmp .eq (mB1 (fun x => biV .repr [x]) (mCal false (c_mark_of) (mCons (mVar 5) (mCons (mVar 4) (mNil))))) (mB1 (fun x => biV .repr [x]) (mBin .add (mBin .mul (mC (.int 27)) (mBin .pow (mC (.int 10)) (mC (.int 9)))) (mC (.int 55))))))) (sNx)))))))
def c__law_great_right : List Val → M Val := bodyM 6 m__law_great_right
theorem sc__law_great_right : FnScope N__law_great_right [] (defScope (top 40)) := ⟨rfl, rfl, rfl, nd__law_great_right, rfl, by decide +kernel, by decide +kernel⟩
theorem ok__law_great_right (U : Hd h K mg w) : Ok PG w K mg base (C0 K) 74 (Str.ofString "_law_great_right") 0 c__law_great_right := by
  obtain ⟨fd, F⟩ := U.says.d.def_ 29 (d := dd (Str.ofString "_law_great_right") 40) rfl
  refine Ok.of (k := 73) (N := N__law_great_right) F (gl__law_great_right U) sc__law_great_right rfl (by omega) (fun _ _ _ _ _ _ us hl => match us, hl with | [], _ => rfl) ?_
  rintro X Q ⟨cdv, A, outer, s, H, E, rfl, rfl⟩ B
  exact (ss_cons (r_asg (s_tup (r_cons (s_tup (r_cons r_str (r_cons r_int s_nil))) (r_cons (s_tup (r_cons r_str (r_cons r_int s_nil))) (r_cons (s_tup (r_cons r_str (r_cons r_int s_nil))) s_nil)))) (r_nm 0 nd__law_great_right))
      (ss_cons (r_asg (s_lst (c := true) (r_cons (s_tup (r_cons r_str s_nil)) s_nil)) (r_nm 1 nd__law_great_right))
      (ss_cons (r_for B (r_irng (fr_range U) r_int) (r_nm 2 nd__law_great_right) (ss_cons (r_exp (r_app B (r_var 1) (s_tup (r_cons r_str (r_cons (r_ix B (r_var 1) (s_neg r_int)) s_nil)))))
      ss_nil))
      (ss_cons (r_asg (s_tup (r_cons r_str (r_cons (r_ix B (r_var 1) r_int) (r_cons (r_ix B (r_var 1) r_int) (r_cons (r_ix B (r_var 1) r_int) s_nil))))) (r_nm 3 nd__law_great_right))
      (ss_cons (r_asg (s_tup (r_cons r_str (r_cons (r_var 3) (r_cons (r_var 3) (r_cons (s_tup (r_cons r_str (r_cons (r_ix B (r_var 1) r_int) (r_cons (r_ix B (r_var 1) r_int) (r_cons (r_ix B (r_var 1) r_int) s_nil))))) s_nil))))) (r_nm 4 nd__law_great_right))
      (ss_cons (r_asg (s_tup (r_cons (s_tup (r_cons r_str (r_cons r_int s_nil))) (r_cons (s_tup (r_cons r_str (r_cons (r_bin B .pow r_int r_int) s_nil))) (r_cons (s_tup (r_cons r_str (r_cons r_int s_nil))) s_nil)))) (r_nm 5 nd__law_great_right))
      (ss_cons (ss_ret (s_and B.hK (r_cmp B .is_ (r_cal false B (ok_is_marks U) (by omega) (r_cons (r_var 0) (r_cons (r_var 5) s_nil)) (len_cons (len_cons len_nil))) r_bl) (pe_one (r_cmp B .eq (b_repr B (fr_repr U) (r_cal false B (ok_mark_of U) (by omega) (r_cons (r_var 5) (r_cons (r_var 4) s_nil)) (len_cons (len_cons len_nil)))) (b_repr B (fr_repr U) (r_bin B .add (r_bin B .mul r_int (r_bin B .pow r_int r_int)) r_int))))))
      ss_nil)))))))
/-! law -/
def N_law : List Str := [(Str.ofString "_law_script"), (Str.ofString "_law_tape_here"), (Str.ofString "_law_signs_here"), (Str.ofString "_law_rules_here"), (Str.ofString "_law_turn"), (Str.ofString "_law_marks_here"), (Str.ofString "_law_thing"), (Str.ofString "_law_tree_here"), (Str.ofString "_law_plan_here"), (Str.ofString "_law_part"), (Str.ofString "_law_one"), (Str.ofString "_law_k")]
theorem nd_law : N_law.Nodup := by decide +kernel
def m_law : Ms := sSeq (sAsg (.nm 1) (mCal true (c__law_tape) (mCons (mVar 0) (mNil)))) (sSeq (sAsg (.nm 2) (mCal false (c__law_signs) (mCons (mVar 1) (mNil)))) (sSeq (sAsg (.nm 3) (mCal false (c__law_rules) (mCons (mVar 1) (mCons (mVar 2) (mNil))))) (sSeq (sFor (.nm 4) (mRng (mC (.int 3))) (sSeq (sAsg (.nm 5) (mCal false (c__law_marks) (mCons (mVar 1) (mCons (mVar 2) (mNil))))) (sSeq (sFor (.nm 6) (mIt (mBin .add (mBin .add (mLst false (mCons (mVar 5) (mNil))) (mLc false [11] (.nm 11) (mRng (mC (.int 5))) (kYes) (mCal false (c__law_bent) (mCons (mVar 1) (mCons (mVar 2) (mCons (mVar 5) (mNil))))))) (mLst false (mCons (mC .non) (mCons (mTup (mNil)) (mCons (mC (.str (Str.ofString "marks"))) (mNil))))))) (sSeq (sIf (kNt (kTr (mCal false (c__law_told_right) (mCons (mVar 2) (mCons (mVar 6) (mNil)))))) (sSeq (sRet (mC (.bl false))) (sNx)) (sNx)) (sNx))) (sSeq (sAsg (.nm 7) (mCal false (c__law_tree 12) (mCons (mVar 1) (mCons (mVar 2) (mCons (mC (.int 4)) (mNil)))))) (sSeq (sIf (kCmp .ne (mB1 (fun x => biV .repr [x]) (mCal false (c_mark_of) (mCons (mVar 5) (mCons (mVar 7) (mNil))))) (mB1 (fun x => biV .repr [x]) (mCal false (c__law_weight 12) (mCons (mVar 5) (mCons (mVar 7) (mNil)))))) (sSeq (sRet (mC (.bl false))) (sNx)) (sNx)) (sSeq (sAsg (.nm 8) (mCal false (c__law_plan 12) (mCons (mVar 1) (mCons (mVar 3) (mCons (mBin .add (mC (.int 1)) (mCal false (c__law_draw) (mCons (mVar 1) (mCons (mC (.int 8)) (mNil))))) (mNil)))))) (sSeq (sIf (kCmp .eq (mCal false (c__law_draw) (mCons (mVar 1) (mCons (mC (.int 2)) (mNil)))) (mC (.int 0))) (sSeq (sAsg (.nm 8) (mCal false (c__law_opened 12) (mCons (mVar 1) (mCons (mVar 8) (mNil))))) (sNx)) (sNx)) (sSeq (sFor (.nm 9) (mIt (mBin .add (mLst false (mCons (mVar 8) (mNil))) (mLc false [10] (.nm 10) (mIt (mSl (mVar 8) (some (mC (.int 1))) (none))) (kTr (mInst .tuple (mVar 10))) (mVar 10)))) (sSeq (sIf (kCmp .ne (mCal false (c_way_of 12) (mCons (mVar 3) (mCons (mVar 5) (mCons (mVar 9) (mNil))))) (mCal false (c__law_way 12) (mCons (mVar 3) (mCons (mVar 5) (mCons (mVar 9) (mNil)))))) (sSeq (sRet (mC (.bl false))) (sNx)) (sNx)) (sNx))) (sNx))))))))) (sSeq (sRet (mCal false (c__law_great_right) mNil)) (sNx)))))
def c_law : List Val → M Val := bodyM 12 m_law
theorem sc_law : FnScope N_law [(Str.ofString "_law_script")] (defScope (top 41)) := ⟨rfl, rfl, rfl, nd_law, rfl, by decide +kernel, by decide +kernel⟩
theorem fn_law (U : Hd h K mg w) {fd : FuncData} (F : FunD K "law" "law" (defArgs (top 41)) (defBody (top 41)) (defScope (top 41)) [] [] (He.ga K "law") fd) : FnG PG w K mg base CX0 87 (He.ga K "law") fd [(Str.ofString "_law_script")] (spM (C0 K) false 1 c_law) := by
  refine FnG.body (k := 86) (N := N_law) F sc_law rfl (by omega) ?_
  rintro X Q ⟨cdv, A, outer, s, H, E, rfl, rfl⟩ B
  exact (ss_cons (r_asg (r_cal true B (ok__law_tape U) (by omega) (r_cons (r_var 0) s_nil) (len_cons len_nil)) (r_nm 1 nd_law))
      (ss_cons (r_asg (r_cal false B (ok__law_signs U) (by omega) (r_cons (r_var 1) s_nil) (len_cons len_nil)) (r_nm 2 nd_law))
      (ss_cons (r_asg (r_cal false B (ok__law_rules U) (by omega) (r_cons (r_var 1) (r_cons (r_var 2) s_nil)) (len_cons (len_cons len_nil))) (r_nm 3 nd_law))
      (ss_cons (r_for B (r_irng (fr_range U) r_int) (r_nm 4 nd_law) (ss_cons (r_asg (r_cal false B (ok__law_marks U) (by omega) (r_cons (r_var 1) (r_cons (r_var 2) s_nil)) (len_cons (len_cons len_nil))) (r_nm 5 nd_law))
      (ss_cons (r_for B (r_iseq B (r_bin B .add (r_bin B .add (s_lst (c := false) (r_cons (r_var 5) s_nil)) (r_lc false [((Str.ofString "_law_k"), 11)] B nd_law (r_irng (fr_range U) r_int) (fun s H D cl fp B1 => (r_nm 11 nd_law)) (fun s H D cl fp B1 => ts_nil) (fun s H D cl fp B1 => (r_cal false B1 (ok__law_bent U) (by omega) (r_cons (r_var 1) (r_cons (r_var 2) (r_cons (r_var 5) s_nil))) (len_cons (len_cons (len_cons len_nil))))))) (s_lst (c := false) (r_cons r_non (r_cons (s_tup s_nil) (r_cons r_str s_nil)))))) (r_nm 6 nd_law) (ss_cons (ss_if (k_nt (t_val B (r_cal false B (ok__law_told_right U) (by omega) (r_cons (r_var 2) (r_cons (r_var 6) s_nil)) (len_cons (len_cons len_nil))))) (ss_cons (ss_ret r_bl)
      ss_nil) ss_nil)
      ss_nil))
      (ss_cons (r_asg (r_cal false B (ok__law_tree U 12) (by omega) (r_cons (r_var 1) (r_cons (r_var 2) (r_cons r_int s_nil))) (len_cons (len_cons (len_cons len_nil)))) (r_nm 7 nd_law))
      (ss_cons (ss_if (t_cmp B .ne (b_repr B (fr_repr U) (r_cal false B (ok_mark_of U) (by omega) (r_cons (r_var 5) (r_cons (r_var 7) s_nil)) (len_cons (len_cons len_nil)))) (b_repr B (fr_repr U) (r_cal false B (ok__law_weight U 12) (by omega) (r_cons (r_var 5) (r_cons (r_var 7) s_nil)) (len_cons (len_cons len_nil))))) (ss_cons (ss_ret r_bl)
      ss_nil) ss_nil)
      (ss_cons (r_asg (r_cal false B (ok__law_plan U 12) (by omega) (r_cons (r_var 1) (r_cons (r_var 3) (r_cons (r_bin B .add r_int (r_cal false B (ok__law_draw U) (by omega) (r_cons (r_var 1) (r_cons r_int s_nil)) (len_cons (len_cons len_nil)))) s_nil))) (len_cons (len_cons (len_cons len_nil)))) (r_nm 8 nd_law))
      (ss_cons (ss_if (t_cmp B .eq (r_cal false B (ok__law_draw U) (by omega) (r_cons (r_var 1) (r_cons r_int s_nil)) (len_cons (len_cons len_nil))) r_int) (ss_cons (r_asg (r_cal false B (ok__law_opened U 12) (by omega) (r_cons (r_var 1) (r_cons (r_var 8) s_nil)) (len_cons (len_cons len_nil))) (r_nm 8 nd_law))
      ss_nil) ss_nil)
      (ss_cons (r_for B (r_iseq B (r_bin B .add (s_lst (c := false) (r_cons (r_var 8) s_nil)) (r_lc false [((Str.ofString "_law_one"), 10)] B nd_law (r_iseq B (r_sl B (r_var 8) (o_some r_int) o_none)) (fun s H D cl fp B1 => (r_nm 10 nd_law)) (fun s H D cl fp B1 => (ts_one (t_val B1 (r_inst B1 .tuple (fr_isinstance U) (fr_tuple U) (r_var 10))))) (fun s H D cl fp B1 => (r_var 10))))) (r_nm 9 nd_law) (ss_cons (ss_if (t_cmp B .ne (r_cal false B (ok_way_of U 12) (by omega) (r_cons (r_var 3) (r_cons (r_var 5) (r_cons (r_var 9) s_nil))) (len_cons (len_cons (len_cons len_nil)))) (r_cal false B (ok__law_way U 12) (by omega) (r_cons (r_var 3) (r_cons (r_var 5) (r_cons (r_var 9) s_nil))) (len_cons (len_cons (len_cons len_nil))))) (ss_cons (ss_ret r_bl)
      ss_nil) ss_nil)
      ss_nil))
      ss_nil))))))))
      (ss_cons (ss_ret (r_cal0 false B (ok__law_great_right U) (by omega)))
      ss_nil)))))
end
end My
set_option maxRecDepth 100000
set_option maxHeartbeats 8000000
namespace My
open Ev PySem

/-! the tape -/
def tape (L : List Int) (p r : Int) : Cell := .lst [.d (.lst (L.map .int)), .d (.int p), .d (.int r)]
/-- a tape of which at most B have been drawn -/
def TapeOk (B : Nat) (c : Cell) : Prop := ∃ L p r, c = tape L p r ∧ 0 ≤ p ∧ p ≤ (B : Int)
theorem TapeOk.mono {B B' : Nat} {c : Cell} (h : TapeOk B c) (hb : B ≤ B') : TapeOk B' c := by
  obtain ⟨L, p, r, e, h1, h2⟩ := h
  exact ⟨L, p, r, e, h1, by omega⟩
theorem TapeOk.cl {B : Nat} {c : Cell} (h : TapeOk B c) : c.cl = true := by
  obtain ⟨L, p, r, rfl, _⟩ := h
  rfl
section
variable {L : List Int} {p r : Int} {s : Store} {R : Val → Store → Prop}
theorem tp2 : W (ixV (.loc 0) (.d (.int 2))) [tape L p r] R ↔ R (.d (.int r)) [tape L p r] := Iff.rfl
theorem tp1 : W (ixV (.loc 0) (.d (.int 1))) [tape L p r] R ↔ R (.d (.int p)) [tape L p r] := Iff.rfl
theorem tp0 : W (ixV (.loc 0) (.d (.int 0))) [tape L p r] R ↔ R (.d (.lst (L.map .int))) [tape L p r] := Iff.rfl
theorem tw2 {x : Int} {Q : Unit → Store → Prop} : W (putV (.loc 0) (.d (.int 2)) (.d (.int x))) [tape L p r] Q ↔ Q () [tape L p x] := Iff.rfl
theorem tw1 {x : Int} {Q : Unit → Store → Prop} : W (putV (.loc 0) (.d (.int 1)) (.d (.int x))) [tape L p r] Q ↔ Q () [tape L x r] := Iff.rfl
end
theorem fmod_range {i n : Int} (hn : 0 < n) : 0 ≤ i.fmod n ∧ i.fmod n < n := ⟨Int.fmod_nonneg_of_pos i hn, Int.fmod_lt_of_pos i hn⟩
theorem mulOk_l {i j : Int} (h : i.natAbs < 2 ^ 64) : mulOk i j = true := by
  unfold mulOk
  simp [h]
/-- a draw -/
theorem w_draw {B : Nat} {c : Cell} {n : Int} (h : TapeOk B c) (hB : B < 2 ^ 40) (h0 : 0 < n) (h1 : n < 2 ^ 30) :
    W (c__law_draw [.loc 0, .d (.int n)]) [c] fun v s => ∃ k c', v = .d (.int k) ∧ s = [c'] ∧ 0 ≤ k ∧ k < n ∧ TapeOk (B + 1) c' := by
  obtain ⟨L, p, r, rfl, hp, hpB⟩ := h
  have nn : n ≠ 0 := by omega
  have na : n.natAbs < 1073741824 := by omega
  have fin : ∀ (i : Int) (c : Cell), TapeOk (B + 1) c → (∃ k c', Val.d (D.int (i.fmod n)) = Val.d (D.int k) ∧ [c] = [c'] ∧ 0 ≤ k ∧ k < n ∧ TapeOk (B + 1) c') := fun i c hc => ⟨_, c, rfl, rfl, (fmod_range h0).1, (fmod_range h0).2, hc⟩
  have t0 : ∀ r, TapeOk (B + 1) (tape L p r) := fun r => ⟨L, p, r, rfl, hp, by omega⟩
  have t1 : ∀ r, TapeOk (B + 1) (tape L (p + 1) r) := fun r => ⟨L, p + 1, r, rfl, by omega, by omega⟩
  have m1 : mulOk 37 p = true := mulOk_l (by decide)
  have m2 : mulOk (37 * p) p = true := mulOk_l (by omega)
  have m3 : mulOk p 6947 = true := mulOk_l (by omega)
  have mr : ∀ i j : Int, j.natAbs < 2 ^ 64 → mulOk i j = true := fun i j h => by unfold mulOk; simp [h]
  have m4 : ∀ i, mulOk i 40699 = true := fun i => mr i _ (by decide)
  have m5 : ∀ i, mulOk i 48271 = true := fun i => mr i _ (by decide)
  have m6 : ∀ i, mulOk i 16811 = true := fun i => mr i _ (by decide)
  have c1 : (998117 : Int) ≠ 0 := by decide
  have c2 : (999979 : Int) ≠ 0 := by decide
  have c3 : (999931 : Int) ≠ 0 := by decide
  have c4 : (524309 : Int) ≠ 0 := by decide
  have c5 : (3 : Int) ≠ 0 ∧ Int.natAbs 3 < 1073741824 := by decide
  have c6 : (0 : Int) ≤ 18 ∧ (18 : Int) ≤ 1000000 ∧ Int.natAbs 10 < 2 ^ 64 := by decide
  unfold c__law_draw
  rw [W_body]
  unfold m__law_draw
  try simp only [WS_seq, WS_if, WS_nm, WS_tp, WS_ret, WS_exp, WS_put, WS_nx, W_kcmp, W_mcmp, W_ix, W_dix, W_var, W_C, W_Str, W_Int, W_Dsp, W_bin, W_ktr, W_knt, W_kand, W_kor, W_mnt, W_mand, W_mor, W_mif, W_kchn, W_neg, W_inst, W_it, W_rng, W_zip, W_tup, W_lst, W_rev, W_pt0, W_pt1, W_sl, W_lset, W_cnt, W_lzip, W_app, W_ext, W_ins, W_get2, W_kg2, W_kg1, W_B1, W_B2, W_cal, W_cons, W_nil, V_gt, V_lt, V_le, V_ge, V_mod, V_fdiv, V_add, V_sub, V_mul, V_pow, V_int, V_lenL, V_lenT, List.map_cons, List.map_nil, List.cons_append, List.nil_append, List.length_cons, List.length_nil, List.replicate, List.getElem?_cons_zero, List.getElem?_cons_succ, Option.some.injEq, exists_eq_left', List.set_cons_zero, List.set_cons_succ, Nat.reduceAdd, Nat.reduceLT, Nat.reduceSub, true_and, Nat.zero_lt_succ, List.length_map, decide_eq_true_eq,  tp2, tp1, tp0, tw1, tw2]
  by_cases hr : 0 < r
  · rw [if_pos hr]
    exact ⟨nn, ⟨nn, na⟩, fin _ _ (t0 _)⟩
  · rw [if_neg hr]
    by_cases hl : (0 : Int) < (L.length : Nat)
    · rw [if_pos hl]
      refine ⟨by omega, ?_⟩
      have hf := fmod_range (i := p) hl
      obtain ⟨x, hx⟩ : ∃ x, L[(p.fmod (L.length : Nat)).toNat]? = some x := ⟨_, List.getElem?_eq_getElem (by omega)⟩
      rw [V_ixL (atI_nat hf.1 (by rw [List.getElem?_map, hx]; rfl))]
      try simp only [WS_seq, WS_if, WS_nm, WS_tp, WS_ret, WS_exp, WS_put, WS_nx, W_kcmp, W_mcmp, W_ix, W_dix, W_var, W_C, W_Str, W_Int, W_Dsp, W_bin, W_ktr, W_knt, W_kand, W_kor, W_mnt, W_mand, W_mor, W_mif, W_kchn, W_neg, W_inst, W_it, W_rng, W_zip, W_tup, W_lst, W_rev, W_pt0, W_pt1, W_sl, W_lset, W_cnt, W_lzip, W_app, W_ext, W_ins, W_get2, W_kg2, W_kg1, W_B1, W_B2, W_cal, W_cons, W_nil, V_gt, V_lt, V_le, V_ge, V_mod, V_fdiv, V_add, V_sub, V_mul, V_pow, V_int, V_lenL, V_lenT, List.map_cons, List.map_nil, List.cons_append, List.nil_append, List.length_cons, List.length_nil, List.replicate, List.getElem?_cons_zero, List.getElem?_cons_succ, Option.some.injEq, exists_eq_left', List.set_cons_zero, List.set_cons_succ, Nat.reduceAdd, Nat.reduceLT, Nat.reduceSub, true_and, Nat.zero_lt_succ, List.length_map, decide_eq_true_eq,  tp2, tp1, tp0, tw1, tw2]
      refine ⟨c6, ?_⟩
      split
      · split
        · exact ⟨⟨nn, na⟩, nn, fin _ _ (t1 _)⟩
        · exact ⟨c1, m1, m2, m4 _, c2, m5 _, m3, c3, m6 _, c4, c5, nn, fin _ _ (t1 _)⟩
      · rw [if_neg Bool.false_ne_true]
        exact ⟨c1, m1, m2, m4 _, c2, m5 _, m3, c3, m6 _, c4, c5, nn, fin _ _ (t1 _)⟩
    · rw [if_neg hl]
      refine ⟨c6, ?_⟩
      split
      · split
        · exact ⟨⟨nn, na⟩, nn, fin _ _ (t1 _)⟩
        · exact ⟨c1, m1, m2, m4 _, c2, m5 _, m3, c3, m6 _, c4, c5, nn, fin _ _ (t1 _)⟩
      · rw [if_neg Bool.false_ne_true]
        exact ⟨c1, m1, m2, m4 _, c2, m5 _, m3, c3, m6 _, c4, c5, nn, fin _ _ (t1 _)⟩

theorem call_draw {B : Nat} {c : Cell} {n : Int} {s : Store} {t : Nat} {R : Val → Store → Prop} (hs : s[t]? = some c) (h : TapeOk B c) (hB : B < 2 ^ 40) (h0 : 0 < n) (h1 : n < 2 ^ 30) (k : ∀ (k : Int) (c' : Cell), 0 ≤ k → k < n → TapeOk (B + 1) c' → R (.d (.int k)) (s.set t c')) :
    W (subV false c__law_draw [.loc t, .d (.int n)]) s R := by
  refine W_sub1 [.int n] hs h.cl ((w_draw h hB h0 h1).mono fun v s' ⟨i, c', e1, e2, g0, g1, ok⟩ => ?_)
  exact ⟨.int i, c', [], .inl e1, e2, ok.cl, k i c' g0 g1 ok⟩
/-! names -/
def nms : List Str := [Str.ofString "a", Str.ofString "b", Str.ofString "ab", Str.ofString "stay", Str.ofString "f", Str.ofString "fa", Str.ofString "use", Str.ofString "c", Str.ofString "again", Str.ofString "g", Str.ofString "one", Str.ofString "abcdefgh"]
theorem W_lstD {ds : List D} {s : Store} {R : Val → Store → Prop} (h : ds.length ≤ lineLen) (r : R (.d (.lst ds)) s) : W (if (ds.map Val.d).length ≤ lineLen then mkList false (ds.map .d) else M.bad) s R := by
  rw [if_pos (by rw [List.length_map]; exact h), W_mk]
  exact r
theorem w_names {B : Nat} {c : Cell} {n : Nat} (h : TapeOk B c) (hB : B + 2 < 2 ^ 40) (hn : n ≤ 12) :
    W (c__law_names [.loc 0, .d (.int n)]) [c] fun v s => ∃ (xs : List Str) (c' : Cell), v = .d (.lst (xs.map .str)) ∧ s = [c'] ∧ xs.length = n ∧ (∀ x ∈ xs, x ∈ nms) ∧ TapeOk (B + 2) c' := by
  unfold c__law_names
  rw [W_body]
  unfold m__law_names
  try simp only [WS_seq, WS_if, WS_nm, WS_tp, WS_ret, WS_exp, WS_put, WS_nx, W_kcmp, W_mcmp, W_ix, W_dix, W_var, W_C, W_Str, W_Int, W_Dsp, W_bin, W_ktr, W_knt, W_kand, W_kor, W_mnt, W_mand, W_mor, W_mif, W_kchn, W_neg, W_inst, W_it, W_rng, W_zip, W_tup, W_lst, W_rev, W_pt0, W_pt1, W_sl, W_lset, W_cnt, W_lzip, W_app, W_ext, W_ins, W_get2, W_kg2, W_kg1, W_B1, W_B2, W_cal, W_cons, W_nil, V_gt, V_lt, V_le, V_ge, V_mod, V_fdiv, V_add, V_sub, V_mul, V_pow, V_int, V_lenL, V_lenT, List.map_cons, List.map_nil, List.cons_append, List.nil_append, List.length_cons, List.length_nil, List.replicate, List.getElem?_cons_zero, List.getElem?_cons_succ, Option.some.injEq, exists_eq_left', List.set_cons_zero, List.set_cons_succ, Nat.reduceAdd, Nat.reduceLT, Nat.reduceSub, true_and, Nat.zero_lt_succ, List.length_map, decide_eq_true_eq]
  refine W_lstD (ds := nms.map .str) (by decide) ?_
  try simp only [WS_seq, WS_if, WS_nm, WS_tp, WS_ret, WS_exp, WS_put, WS_nx, W_kcmp, W_mcmp, W_ix, W_dix, W_var, W_C, W_Str, W_Int, W_Dsp, W_bin, W_ktr, W_knt, W_kand, W_kor, W_mnt, W_mand, W_mor, W_mif, W_kchn, W_neg, W_inst, W_it, W_rng, W_zip, W_tup, W_lst, W_rev, W_pt0, W_pt1, W_sl, W_lset, W_cnt, W_lzip, W_app, W_ext, W_ins, W_get2, W_kg2, W_kg1, W_B1, W_B2, W_cal, W_cons, W_nil, V_gt, V_lt, V_le, V_ge, V_mod, V_fdiv, V_add, V_sub, V_mul, V_pow, V_int, V_lenL, V_lenT, List.map_cons, List.map_nil, List.cons_append, List.nil_append, List.length_cons, List.length_nil, List.replicate, List.getElem?_cons_zero, List.getElem?_cons_succ, Option.some.injEq, exists_eq_left', List.set_cons_zero, List.set_cons_succ, Nat.reduceAdd, Nat.reduceLT, Nat.reduceSub, true_and, Nat.zero_lt_succ, List.length_map, decide_eq_true_eq]
  refine call_draw rfl h (by omega) (by decide) (by decide) fun k1 c1 g1 g2 t1 => ?_
  try simp only [WS_seq, WS_if, WS_nm, WS_tp, WS_ret, WS_exp, WS_put, WS_nx, W_kcmp, W_mcmp, W_ix, W_dix, W_var, W_C, W_Str, W_Int, W_Dsp, W_bin, W_ktr, W_knt, W_kand, W_kor, W_mnt, W_mand, W_mor, W_mif, W_kchn, W_neg, W_inst, W_it, W_rng, W_zip, W_tup, W_lst, W_rev, W_pt0, W_pt1, W_sl, W_lset, W_cnt, W_lzip, W_app, W_ext, W_ins, W_get2, W_kg2, W_kg1, W_B1, W_B2, W_cal, W_cons, W_nil, V_gt, V_lt, V_le, V_ge, V_mod, V_fdiv, V_add, V_sub, V_mul, V_pow, V_int, V_lenL, V_lenT, List.map_cons, List.map_nil, List.cons_append, List.nil_append, List.length_cons, List.length_nil, List.replicate, List.getElem?_cons_zero, List.getElem?_cons_succ, Option.some.injEq, exists_eq_left', List.set_cons_zero, List.set_cons_succ, Nat.reduceAdd, Nat.reduceLT, Nat.reduceSub, true_and, Nat.zero_lt_succ, List.length_map, decide_eq_true_eq]
  refine W_lstD (ds := [.int 1, .int 5, .int 7, .int 11]) (by decide) ?_
  try simp only [WS_seq, WS_if, WS_nm, WS_tp, WS_ret, WS_exp, WS_put, WS_nx, W_kcmp, W_mcmp, W_ix, W_dix, W_var, W_C, W_Str, W_Int, W_Dsp, W_bin, W_ktr, W_knt, W_kand, W_kor, W_mnt, W_mand, W_mor, W_mif, W_kchn, W_neg, W_inst, W_it, W_rng, W_zip, W_tup, W_lst, W_rev, W_pt0, W_pt1, W_sl, W_lset, W_cnt, W_lzip, W_app, W_ext, W_ins, W_get2, W_kg2, W_kg1, W_B1, W_B2, W_cal, W_cons, W_nil, V_gt, V_lt, V_le, V_ge, V_mod, V_fdiv, V_add, V_sub, V_mul, V_pow, V_int, V_lenL, V_lenT, List.map_cons, List.map_nil, List.cons_append, List.nil_append, List.length_cons, List.length_nil, List.replicate, List.getElem?_cons_zero, List.getElem?_cons_succ, Option.some.injEq, exists_eq_left', List.set_cons_zero, List.set_cons_succ, Nat.reduceAdd, Nat.reduceLT, Nat.reduceSub, true_and, Nat.zero_lt_succ, List.length_map, decide_eq_true_eq]
  refine call_draw rfl t1 (by omega) (by decide) (by decide) fun k2 c2 g3 g4 t2 => ?_
  obtain ⟨st, hst⟩ : ∃ st, L2.atI [D.int 1, .int 5, .int 7, .int 11] k2 = some (.int st) ∧ 0 ≤ st ∧ st ≤ 11 := by
    have hk : k2 = 0 ∨ k2 = 1 ∨ k2 = 2 ∨ k2 = 3 := by omega
    rcases hk with rfl | rfl | rfl | rfl
    · exact ⟨1, rfl, by decide, by decide⟩
    · exact ⟨5, rfl, by decide, by decide⟩
    · exact ⟨7, rfl, by decide, by decide⟩
    · exact ⟨11, rfl, by decide, by decide⟩
  rw [V_ixL hst.1]
  try simp only [WS_seq, WS_if, WS_nm, WS_tp, WS_ret, WS_exp, WS_put, WS_nx, W_kcmp, W_mcmp, W_ix, W_dix, W_var, W_C, W_Str, W_Int, W_Dsp, W_bin, W_ktr, W_knt, W_kand, W_kor, W_mnt, W_mand, W_mor, W_mif, W_kchn, W_neg, W_inst, W_it, W_rng, W_zip, W_tup, W_lst, W_rev, W_pt0, W_pt1, W_sl, W_lset, W_cnt, W_lzip, W_app, W_ext, W_ins, W_get2, W_kg2, W_kg1, W_B1, W_B2, W_cal, W_cons, W_nil, V_gt, V_lt, V_le, V_ge, V_mod, V_fdiv, V_add, V_sub, V_mul, V_pow, V_int, V_lenL, V_lenT, List.map_cons, List.map_nil, List.cons_append, List.nil_append, List.length_cons, List.length_nil, List.replicate, List.getElem?_cons_zero, List.getElem?_cons_succ, Option.some.injEq, exists_eq_left', List.set_cons_zero, List.set_cons_succ, Nat.reduceAdd, Nat.reduceLT, Nat.reduceSub, true_and, Nat.zero_lt_succ, List.length_map, decide_eq_true_eq]
  refine W_lc ?_
  try simp only [WS_seq, WS_if, WS_nm, WS_tp, WS_ret, WS_exp, WS_put, WS_nx, W_kcmp, W_mcmp, W_ix, W_dix, W_var, W_C, W_Str, W_Int, W_Dsp, W_bin, W_ktr, W_knt, W_kand, W_kor, W_mnt, W_mand, W_mor, W_mif, W_kchn, W_neg, W_inst, W_it, W_rng, W_zip, W_tup, W_lst, W_rev, W_pt0, W_pt1, W_sl, W_lset, W_cnt, W_lzip, W_app, W_ext, W_ins, W_get2, W_kg2, W_kg1, W_B1, W_B2, W_cal, W_cons, W_nil, V_gt, V_lt, V_le, V_ge, V_mod, V_fdiv, V_add, V_sub, V_mul, V_pow, V_int, V_lenL, V_lenT, List.map_cons, List.map_nil, List.cons_append, List.nil_append, List.length_cons, List.length_nil, List.replicate, List.getElem?_cons_zero, List.getElem?_cons_succ, Option.some.injEq, exists_eq_left', List.set_cons_zero, List.set_cons_succ, Nat.reduceAdd, Nat.reduceLT, Nat.reduceSub, true_and, Nat.zero_lt_succ, List.length_map, decide_eq_true_eq]
  show W (if ((n : Nat) : Int).natAbs < 2 ^ 62 then M.pure (Ev.upTo ((n : Nat) : Int).toNat) else M.bad) _ _
  rw [W_ite, if_pos (by omega), W_pure, Int.toNat_natCast]
  have ul : (Ev.upTo n).length = n := by simp [Ev.upTo]
  refine ⟨by rw [ul]; unfold lineLen; omega, fun i ys s => s = [c2] ∧ ∃ xs : List Str, ys = xs.map (fun x => Val.d (.str x)) ∧ xs.length = i ∧ ∀ x ∈ xs, x ∈ nms, ⟨rfl, [], rfl, rfl, fun _ z => by cases z⟩, ?_, ?_⟩
  · rintro i v ys s hv ⟨rfl, xs, rfl, hl, hm⟩
    have hi : i < n := by rw [← ul]; exact (List.getElem?_eq_some_iff.mp hv).1
    have ev : v = .d (.int (i : Int)) := by
      simp only [Ev.upTo, List.getElem?_map, List.getElem?_range hi] at hv
      exact (Option.some.inj hv).symm
    subst ev
    refine ⟨_, rfl, ?_⟩
    show W (M.pure true) _ _
    rw [W_pure, if_pos rfl]
    try simp only [WS_seq, WS_if, WS_nm, WS_tp, WS_ret, WS_exp, WS_put, WS_nx, W_kcmp, W_mcmp, W_ix, W_dix, W_var, W_C, W_Str, W_Int, W_Dsp, W_bin, W_ktr, W_knt, W_kand, W_kor, W_mnt, W_mand, W_mor, W_mif, W_kchn, W_neg, W_inst, W_it, W_rng, W_zip, W_tup, W_lst, W_rev, W_pt0, W_pt1, W_sl, W_lset, W_cnt, W_lzip, W_app, W_ext, W_ins, W_get2, W_kg2, W_kg1, W_B1, W_B2, W_cal, W_cons, W_nil, V_gt, V_lt, V_le, V_ge, V_mod, V_fdiv, V_add, V_sub, V_mul, V_pow, V_int, V_lenL, V_lenT, List.map_cons, List.map_nil, List.cons_append, List.nil_append, List.length_cons, List.length_nil, List.replicate, List.getElem?_cons_zero, List.getElem?_cons_succ, Option.some.injEq, exists_eq_left', List.set_cons_zero, List.set_cons_succ, Nat.reduceAdd, Nat.reduceLT, Nat.reduceSub, true_and, Nat.zero_lt_succ, List.length_map, decide_eq_true_eq,  wipeE]
    have hf := fmod_range (i := k1 + st * (i : Int)) (show (0 : Int) < 12 by decide)
    refine ⟨mulOk_l (by omega), by decide, ?_⟩
    obtain ⟨x, hx, mx⟩ : ∃ x, nms[((k1 + st * (i : Int)).fmod 12).toNat]? = some x ∧ x ∈ nms := by
      have lt : ((k1 + st * (i : Int)).fmod 12).toNat < nms.length := by
        show _ < 12
        omega
      exact ⟨nms[((k1 + st * (i : Int)).fmod 12).toNat], List.getElem?_eq_getElem lt, List.getElem_mem lt⟩
    rw [V_ixL (atI_nat hf.1 (by rw [List.getElem?_map, hx]; rfl))]
    exact ⟨rfl, xs ++ [x], by simp, by simp [hl], fun y hy => by
      rcases List.mem_append.mp hy with z | z
      · exact hm y z
      · simp at z; rw [z]; exact mx⟩
  · rintro ys s ⟨rfl, xs, rfl, hl, hm⟩
    have e : xs.map (fun x => Val.d (.str x)) = (xs.map D.str).map .d := by rw [List.map_map]; rfl
    rw [e, W_mk]
    exact ⟨xs, c2, rfl, rfl, by rw [hl, ul], hm, t2⟩

theorem call_names {B : Nat} {c : Cell} {n : Nat} {s : Store} {t : Nat} {R : Val → Store → Prop} (hs : s[t]? = some c) (h : TapeOk B c) (hB : B + 2 < 2 ^ 40) (hn : n ≤ 12) (k : ∀ (xs : List Str) (c' : Cell), xs.length = n → (∀ x ∈ xs, x ∈ nms) → TapeOk (B + 2) c' → R (.d (.lst (xs.map .str))) (s.set t c')) :
    W (subV false c__law_names [.loc t, .d (.int n)]) s R := by
  refine W_sub1 [.int n] hs h.cl ((w_names h hB hn).mono fun v s' ⟨xs, c', e1, e2, g0, g1, ok⟩ => ?_)
  exact ⟨_, c', [], .inl e1, e2, ok.cl, k xs c' g0 g1 ok⟩
/-! signs -/
def sgD (sg : List (Str × Nat)) : D := .tup (sg.map fun p => .tup [.str p.1, .int p.2])
structure SgOk (sg : List (Str × Nat)) : Prop where
  lo : 2 ≤ sg.length
  hi : sg.length ≤ 4
  nm : ∀ p ∈ sg, p.1 ∈ nms
  ar : ∀ p ∈ sg, p.2 ≤ 2
  leaf : ∃ p ∈ sg, p.2 = 0
theorem tupUp_zip : ∀ (xs : List Str) (zs : List Nat), tupUp (xs.map .str) (zs.map fun (z : Nat) => .int (z : Int)) = (xs.zip zs).map fun p => .tup [.str p.1, .int p.2]
  | [], zs => rfl
  | x :: xs, [] => rfl
  | x :: xs, z :: zs => by
    show D.tup [.str x, .int z] :: tupUp (xs.map .str) (zs.map fun (z : Nat) => .int (z : Int)) = _
    rw [tupUp_zip xs zs]
    rfl
/-- one of a few written whole numbers -/
theorem pick_ints {ns : List Int} {k : Int} {s : Store} {R : Val → Store → Prop} (h0 : 0 ≤ k) (h1 : k < ns.length) (r : ∀ x ∈ ns, R (.d (.int x)) s) : W (ixV (.d (.lst (ns.map .int))) (.d (.int k))) s R := by
  have lt : k.toNat < ns.length := by omega
  rw [V_ixL (atI_nat h0 (by rw [List.getElem?_map, List.getElem?_eq_getElem lt]; rfl))]
  exact r _ (List.getElem_mem lt)
theorem w_signs {B : Nat} {c : Cell} (h : TapeOk B c) (hB : B + 10 < 2 ^ 40) :
    W (c__law_signs [.loc 0]) [c] fun v s => ∃ (sg : List (Str × Nat)) (c' : Cell) (g : Store), v = .d (sgD sg) ∧ s = c' :: g ∧ SgOk sg ∧ TapeOk (B + 10) c' := by
  unfold c__law_signs
  rw [W_body]
  unfold m__law_signs
  try simp only [WS_seq, WS_if, WS_nm, WS_tp, WS_ret, WS_exp, WS_put, WS_nx, W_kcmp, W_mcmp, W_ix, W_dix, W_var, W_C, W_Str, W_Int, W_Dsp, W_bin, W_ktr, W_knt, W_kand, W_kor, W_mnt, W_mand, W_mor, W_mif, W_kchn, W_neg, W_inst, W_it, W_rng, W_zip, W_tup, W_lst, W_rev, W_pt0, W_pt1, W_sl, W_lset, W_cnt, W_lzip, W_app, W_ext, W_ins, W_get2, W_kg2, W_kg1, W_B1, W_B2, W_cal, W_cons, W_nil, V_gt, V_lt, V_le, V_ge, V_mod, V_fdiv, V_add, V_sub, V_mul, V_pow, V_int, V_lenL, V_lenT, List.map_cons, List.map_nil, List.cons_append, List.nil_append, List.length_cons, List.length_nil, List.replicate, List.getElem?_cons_zero, List.getElem?_cons_succ, Option.some.injEq, exists_eq_left', List.set_cons_zero, List.set_cons_succ, Nat.reduceAdd, Nat.reduceLT, Nat.reduceSub, true_and, Nat.zero_lt_succ, List.length_map, decide_eq_true_eq]
  refine W_lstD (ds := [.int 2, .int 3, .int 3, .int 4]) (by decide) ?_
  refine call_draw rfl h (by omega) (by decide) (by decide) fun k1 c1 g1 g2 t1 => ?_
  refine pick_ints (ns := [2, 3, 3, 4]) g1 g2 fun m hm => ?_
  obtain ⟨n, rfl, n2, n4⟩ : ∃ n : Nat, m = n ∧ 2 ≤ n ∧ n ≤ 4 := by
    simp at hm
    rcases hm with rfl | rfl | rfl
    · exact ⟨2, rfl, by decide, by decide⟩
    · exact ⟨3, rfl, by decide, by decide⟩
    · exact ⟨4, rfl, by decide, by decide⟩
  try simp only [WS_seq, WS_if, WS_nm, WS_tp, WS_ret, WS_exp, WS_put, WS_nx, W_kcmp, W_mcmp, W_ix, W_dix, W_var, W_C, W_Str, W_Int, W_Dsp, W_bin, W_ktr, W_knt, W_kand, W_kor, W_mnt, W_mand, W_mor, W_mif, W_kchn, W_neg, W_inst, W_it, W_rng, W_zip, W_tup, W_lst, W_rev, W_pt0, W_pt1, W_sl, W_lset, W_cnt, W_lzip, W_app, W_ext, W_ins, W_get2, W_kg2, W_kg1, W_B1, W_B2, W_cal, W_cons, W_nil, V_gt, V_lt, V_le, V_ge, V_mod, V_fdiv, V_add, V_sub, V_mul, V_pow, V_int, V_lenL, V_lenT, List.map_cons, List.map_nil, List.cons_append, List.nil_append, List.length_cons, List.length_nil, List.replicate, List.getElem?_cons_zero, List.getElem?_cons_succ, Option.some.injEq, exists_eq_left', List.set_cons_zero, List.set_cons_succ, Nat.reduceAdd, Nat.reduceLT, Nat.reduceSub, true_and, Nat.zero_lt_succ, List.length_map, decide_eq_true_eq]
  refine call_names rfl t1 (by omega) (by omega) fun xs c2 hl hm t2 => ?_
  try simp only [WS_seq, WS_if, WS_nm, WS_tp, WS_ret, WS_exp, WS_put, WS_nx, W_kcmp, W_mcmp, W_ix, W_dix, W_var, W_C, W_Str, W_Int, W_Dsp, W_bin, W_ktr, W_knt, W_kand, W_kor, W_mnt, W_mand, W_mor, W_mif, W_kchn, W_neg, W_inst, W_it, W_rng, W_zip, W_tup, W_lst, W_rev, W_pt0, W_pt1, W_sl, W_lset, W_cnt, W_lzip, W_app, W_ext, W_ins, W_get2, W_kg2, W_kg1, W_B1, W_B2, W_cal, W_cons, W_nil, V_gt, V_lt, V_le, V_ge, V_mod, V_fdiv, V_add, V_sub, V_mul, V_pow, V_int, V_lenL, V_lenT, List.map_cons, List.map_nil, List.cons_append, List.nil_append, List.length_cons, List.length_nil, List.replicate, List.getElem?_cons_zero, List.getElem?_cons_succ, Option.some.injEq, exists_eq_left', List.set_cons_zero, List.set_cons_succ, Nat.reduceAdd, Nat.reduceLT, Nat.reduceSub, true_and, Nat.zero_lt_succ, List.length_map, decide_eq_true_eq]
  refine W_lc ?_
  try simp only [WS_seq, WS_if, WS_nm, WS_tp, WS_ret, WS_exp, WS_put, WS_nx, W_kcmp, W_mcmp, W_ix, W_dix, W_var, W_C, W_Str, W_Int, W_Dsp, W_bin, W_ktr, W_knt, W_kand, W_kor, W_mnt, W_mand, W_mor, W_mif, W_kchn, W_neg, W_inst, W_it, W_rng, W_zip, W_tup, W_lst, W_rev, W_pt0, W_pt1, W_sl, W_lset, W_cnt, W_lzip, W_app, W_ext, W_ins, W_get2, W_kg2, W_kg1, W_B1, W_B2, W_cal, W_cons, W_nil, V_gt, V_lt, V_le, V_ge, V_mod, V_fdiv, V_add, V_sub, V_mul, V_pow, V_int, V_lenL, V_lenT, List.map_cons, List.map_nil, List.cons_append, List.nil_append, List.length_cons, List.length_nil, List.replicate, List.getElem?_cons_zero, List.getElem?_cons_succ, Option.some.injEq, exists_eq_left', List.set_cons_zero, List.set_cons_succ, Nat.reduceAdd, Nat.reduceLT, Nat.reduceSub, true_and, Nat.zero_lt_succ, List.length_map, decide_eq_true_eq,  V_slL, V_ivL, cut_one]
  have dl : ((List.map D.str xs).drop 1).length = n - 1 := by simp [hl]
  refine ⟨by rw [dl]; unfold lineLen; omega, fun i ys s => ∃ ci zs, s = [ci] ∧ TapeOk (B + 3 + i) ci ∧ ys = (zs.map fun z : Nat => D.int (z : Int)).map Val.d ∧ zs.length = i ∧ ∀ z ∈ zs, z ≤ 2, ⟨c2, [], rfl, t2, rfl, rfl, fun _ z => by cases z⟩, ?_, ?_⟩
  · rintro i v ys s hv ⟨ci, zs, rfl, ti, rfl, lz, mz⟩
    have hi : i < n - 1 := by
      have := (List.getElem?_eq_some_iff.mp hv).1
      simp [hl] at this
      omega
    refine ⟨_, rfl, ?_⟩
    show W (M.pure true) _ _
    rw [W_pure, if_pos rfl]
    try simp only [WS_seq, WS_if, WS_nm, WS_tp, WS_ret, WS_exp, WS_put, WS_nx, W_kcmp, W_mcmp, W_ix, W_dix, W_var, W_C, W_Str, W_Int, W_Dsp, W_bin, W_ktr, W_knt, W_kand, W_kor, W_mnt, W_mand, W_mor, W_mif, W_kchn, W_neg, W_inst, W_it, W_rng, W_zip, W_tup, W_lst, W_rev, W_pt0, W_pt1, W_sl, W_lset, W_cnt, W_lzip, W_app, W_ext, W_ins, W_get2, W_kg2, W_kg1, W_B1, W_B2, W_cal, W_cons, W_nil, V_gt, V_lt, V_le, V_ge, V_mod, V_fdiv, V_add, V_sub, V_mul, V_pow, V_int, V_lenL, V_lenT, List.map_cons, List.map_nil, List.cons_append, List.nil_append, List.length_cons, List.length_nil, List.replicate, List.getElem?_cons_zero, List.getElem?_cons_succ, Option.some.injEq, exists_eq_left', List.set_cons_zero, List.set_cons_succ, Nat.reduceAdd, Nat.reduceLT, Nat.reduceSub, true_and, Nat.zero_lt_succ, List.length_map, decide_eq_true_eq,  wipeE]
    refine W_lstD (ds := [.int 1, .int 1, .int 2, .int 0]) (by decide) ?_
    refine call_draw rfl ti (by omega) (by decide) (by decide) fun k2 c3 g3 g4 t3 => ?_
    refine pick_ints (ns := [1, 1, 2, 0]) g3 g4 fun m hm => ?_
    obtain ⟨z, rfl, z2⟩ : ∃ z : Nat, m = z ∧ z ≤ 2 := by
      simp at hm
      rcases hm with rfl | rfl | rfl
      · exact ⟨1, rfl, by decide⟩
      · exact ⟨2, rfl, by decide⟩
      · exact ⟨0, rfl, by decide⟩
    refine ⟨c3, zs ++ [z], rfl, t3, by simp, by simp [lz], fun y hy => ?_⟩
    rcases List.mem_append.mp hy with q | q
    · exact mz y q
    · simp at q; omega
  · rintro ys s ⟨c3, zs, rfl, t3, rfl, lz, mz⟩
    rw [W_mkT]
    have dl' : (List.map Val.d (List.drop 1 (List.map D.str xs))).length = n - 1 := by rw [List.length_map, dl]
    first | rw [dl'] at lz t3 | rw [dl] at lz t3
    try simp only [WS_seq, WS_if, WS_nm, WS_tp, WS_ret, WS_exp, WS_put, WS_nx, W_kcmp, W_mcmp, W_ix, W_dix, W_var, W_C, W_Str, W_Int, W_Dsp, W_bin, W_ktr, W_knt, W_kand, W_kor, W_mnt, W_mand, W_mor, W_mif, W_kchn, W_neg, W_inst, W_it, W_rng, W_zip, W_tup, W_lst, W_rev, W_pt0, W_pt1, W_sl, W_lset, W_cnt, W_lzip, W_app, W_ext, W_ins, W_get2, W_kg2, W_kg1, W_B1, W_B2, W_cal, W_cons, W_nil, V_gt, V_lt, V_le, V_ge, V_mod, V_fdiv, V_add, V_sub, V_mul, V_pow, V_int, V_lenL, V_lenT, List.map_cons, List.map_nil, List.cons_append, List.nil_append, List.length_cons, List.length_nil, List.replicate, List.getElem?_cons_zero, List.getElem?_cons_succ, Option.some.injEq, exists_eq_left', List.set_cons_zero, List.set_cons_succ, Nat.reduceAdd, Nat.reduceLT, Nat.reduceSub, true_and, Nat.zero_lt_succ, List.length_map, decide_eq_true_eq]
    rw [W_isL (vs := (zs.map fun z : Nat => D.int (z : Int)).map Val.d) rfl]
    try simp only [WS_seq, WS_if, WS_nm, WS_tp, WS_ret, WS_exp, WS_put, WS_nx, W_kcmp, W_mcmp, W_ix, W_dix, W_var, W_C, W_Str, W_Int, W_Dsp, W_bin, W_ktr, W_knt, W_kand, W_kor, W_mnt, W_mand, W_mor, W_mif, W_kchn, W_neg, W_inst, W_it, W_rng, W_zip, W_tup, W_lst, W_rev, W_pt0, W_pt1, W_sl, W_lset, W_cnt, W_lzip, W_app, W_ext, W_ins, W_get2, W_kg2, W_kg1, W_B1, W_B2, W_cal, W_cons, W_nil, V_gt, V_lt, V_le, V_ge, V_mod, V_fdiv, V_add, V_sub, V_mul, V_pow, V_int, V_lenL, V_lenT, List.map_cons, List.map_nil, List.cons_append, List.nil_append, List.length_cons, List.length_nil, List.replicate, List.getElem?_cons_zero, List.getElem?_cons_succ, Option.some.injEq, exists_eq_left', List.set_cons_zero, List.set_cons_succ, Nat.reduceAdd, Nat.reduceLT, Nat.reduceSub, true_and, Nat.zero_lt_succ, List.length_map, decide_eq_true_eq]
    refine call_draw rfl t3 (by omega) (by rw [hl]; omega) (by rw [hl]; omega) fun k3 c4 g5 g6 t4 => ?_
    rw [W_insL (vs := (zs.map fun z : Nat => D.int (z : Int)).map Val.d) rfl ⟨by rw [List.length_map, List.length_map, lz]; unfold lineLen; omega, g5, by omega⟩]
    try simp only [WS_seq, WS_if, WS_nm, WS_tp, WS_ret, WS_exp, WS_put, WS_nx, W_kcmp, W_mcmp, W_ix, W_dix, W_var, W_C, W_Str, W_Int, W_Dsp, W_bin, W_ktr, W_knt, W_kand, W_kor, W_mnt, W_mand, W_mor, W_mif, W_kchn, W_neg, W_inst, W_it, W_rng, W_zip, W_tup, W_lst, W_rev, W_pt0, W_pt1, W_sl, W_lset, W_cnt, W_lzip, W_app, W_ext, W_ins, W_get2, W_kg2, W_kg1, W_B1, W_B2, W_cal, W_cons, W_nil, V_gt, V_lt, V_le, V_ge, V_mod, V_fdiv, V_add, V_sub, V_mul, V_pow, V_int, V_lenL, V_lenT, List.map_cons, List.map_nil, List.cons_append, List.nil_append, List.length_cons, List.length_nil, List.replicate, List.getElem?_cons_zero, List.getElem?_cons_succ, Option.some.injEq, exists_eq_left', List.set_cons_zero, List.set_cons_succ, Nat.reduceAdd, Nat.reduceLT, Nat.reduceSub, true_and, Nat.zero_lt_succ, List.length_map, decide_eq_true_eq]
    have e : ((zs.map fun z : Nat => D.int (z : Int)).map Val.d).take k3.toNat ++ [Val.d (.int 0)] ++ ((zs.map fun z : Nat => D.int (z : Int)).map Val.d).drop k3.toNat = ((zs.take k3.toNat ++ [0] ++ zs.drop k3.toNat).map fun z : Nat => D.int (z : Int)).map Val.d := by
      simp only [List.map_append, List.map_take, List.map_drop]
      rfl
    rw [e]
    rw [V_lzip (es := (zs.take k3.toNat ++ [0] ++ zs.drop k3.toNat).map fun z : Nat => D.int (z : Int)) (by rw [List.length_map, hl]; unfold lineLen; omega) rfl, V_tupL, tupUp_zip]
    have zl : (zs.take k3.toNat ++ [0] ++ zs.drop k3.toNat).length = n := by
      simp only [List.length_append, List.length_take, List.length_drop, List.length_cons, List.length_nil]
      omega
    have mem : ∀ z ∈ zs.take k3.toNat ++ [0] ++ zs.drop k3.toNat, z ≤ 2 := fun z hz => by
      rcases List.mem_append.mp hz with q | q
      · rcases List.mem_append.mp q with q | q
        · exact mz z (List.mem_of_mem_take q)
        · simp at q; omega
      · exact mz z (List.mem_of_mem_drop q)
    refine ⟨xs.zip (zs.take k3.toNat ++ [0] ++ zs.drop k3.toNat), c4, _, rfl, rfl, ⟨by rw [List.length_zip, zl, hl]; omega, by rw [List.length_zip, zl, hl]; omega, fun p hp => hm _ (List.of_mem_zip (a := p.1) (b := p.2) hp).1, fun p hp => mem _ (List.of_mem_zip (a := p.1) (b := p.2) hp).2, ?_⟩, t4.mono (by omega)⟩
    obtain ⟨j, hj⟩ : ∃ j, (zs.take k3.toNat ++ [0] ++ zs.drop k3.toNat)[j]? = some 0 := List.mem_iff_getElem?.mp (by simp)
    have jl := (List.getElem?_eq_some_iff.mp hj).1
    rw [zl, ← hl] at jl
    exact ⟨(xs[j], 0), List.mem_iff_getElem?.mpr ⟨j, by rw [List.getElem?_zip_eq_some]; exact ⟨List.getElem?_eq_getElem jl, hj⟩⟩, rfl⟩

theorem call_signs {B : Nat} {c : Cell} {s : Store} {t : Nat} {R : Val → Store → Prop} (hs : s[t]? = some c) (h : TapeOk B c) (hB : B + 10 < 2 ^ 40) (k : ∀ (sg : List (Str × Nat)) (c' : Cell), SgOk sg → TapeOk (B + 10) c' → R (.d (sgD sg)) (s.set t c')) : W (subV false c__law_signs [.loc t]) s R := by
  refine W_sub1 [] hs h.cl ((w_signs h hB).mono fun v s' ⟨sg, c', g, e1, e2, ok, tk⟩ => ?_)
  exact ⟨_, c', g, .inl e1, e2, tk.cl, k sg c' ok tk⟩
/-! patterns -/
def unks : List Str := [Str.ofString "?x", Str.ofString "?y", Str.ofString "?0", Str.ofString "?z", Str.ofString "?zz", Str.ofString "?1"]
def PatOk (N : List Str) : Nat → D → Prop
  | 0, d => ∃ x ∈ unks, d = .str x
  | k + 1, d => (∃ x ∈ unks, d = .str x) ∨ ∃ x ds, d = .tup (.str x :: ds) ∧ x ∈ N ∧ ds.length ≤ 2 ∧ ∀ e ∈ ds, PatOk N k e
theorem PatOk.unk {N : List Str} {x : Str} (h : x ∈ unks) : ∀ k, PatOk N k (.str x)
  | 0 => ⟨x, h, rfl⟩
  | k + 1 => .inl ⟨x, h, rfl⟩
theorem PatOk.up {N : List Str} : ∀ {k : Nat} {d : D}, PatOk N k d → PatOk N (k + 1) d
  | 0, d, h => .inl h
  | k + 1, d, h => by
    rcases h with h | ⟨x, ds, e, hx, hl, hd⟩
    · exact .inl h
    · exact .inr ⟨x, ds, e, hx, hl, fun e he => (hd e he).up⟩
/-- the unknowns met -/
def known (ks : List Str) : Cell := .lst ((ks.map D.str).map Val.d)
theorem known_cl (ks : List Str) : (known ks).cl = true := by
  show ((ks.map D.str).map Val.d).all Val.cl = true
  rw [List.all_map, List.all_eq_true]
  exact fun _ _ => rfl
/-- a sign drawn -/
theorem pick_sign {sg : List (Str × Nat)} {k : Int} {s : Store} {R : Val → Store → Prop} (h0 : 0 ≤ k) (h1 : k < sg.length) (r : ∀ p ∈ sg, R (.d (.tup [.str p.1, .int p.2])) s) : W (ixV (.d (sgD sg)) (.d (.int k))) s R := by
  have lt : k.toNat < sg.length := by omega
  unfold sgD
  rw [V_ixT (atI_nat h0 (by rw [List.getElem?_map, List.getElem?_eq_getElem lt]; rfl))]
  exact r _ (List.getElem_mem lt)
theorem V_lenSg {sg : List (Str × Nat)} {s : Store} {R : Val → Store → Prop} : W (lenV (.d (sgD sg))) s R ↔ R (.d (.int (sg.length : Nat))) s := by
  unfold sgD
  rw [V_lenT, List.length_map]
theorem W_rngN {n : Nat} {s : Store} {R : List Val → Store → Prop} (h : n < 2 ^ 62) (r : R (Ev.upTo n) s) : W (rngV (.d (.int (n : Int)))) s R := by
  show W (if ((n : Nat) : Int).natAbs < 2 ^ 62 then M.pure (Ev.upTo ((n : Nat) : Int).toNat) else M.bad) _ _
  rw [W_ite, if_pos (by omega), W_pure, Int.toNat_natCast]
  exact r
theorem up_len (n : Nat) : (Ev.upTo n).length = n := by simp [Ev.upTo]
theorem up_at {n i : Nat} {v : Val} (h : (Ev.upTo n)[i]? = some v) : i < n ∧ v = .d (.int (i : Int)) := by
  have hi : i < n := by rw [← up_len n]; exact (List.getElem?_eq_some_iff.mp h).1
  refine ⟨hi, ?_⟩
  simp only [Ev.upTo, List.getElem?_map, List.getElem?_range hi] at h
  exact (Option.some.inj h).symm
theorem last_at (xs : List D) (x : D) : L2.atI ((xs ++ [x]).map Val.d) (-1) = some (.d x) := by
  unfold L2.atI L2.ixN
  have h : -((((xs ++ [x]).map Val.d).length : Nat) : Int) ≤ -1 := by simp; omega
  rw [if_neg (by decide), if_pos h]
  simp only [List.map_append, List.length_append, List.length_map, List.length_cons, List.length_nil, List.map_cons, List.map_nil, Option.bind_some]
  have e : (-1 + ((xs.length + (0 + 1) : Nat) : Int)).toNat = xs.length := by omega
  rw [e]
  simp
theorem V_ixLoc {s : Store} {j : Nat} {vs : List Val} {k : Int} {x : Val} {R : Val → Store → Prop} (h : s[j]? = some (.lst vs)) (hx : L2.atI vs k = some x) : W (ixV (.loc j) (.d (.int k))) s R ↔ R x s := by
  show W (seqV (.loc j) >>= fun vs => M.of (L2.atI vs k)) s R ↔ _
  rw [W_bind, W_seqL h, hx]
  exact Iff.rfl
theorem V_lenLoc {s : Store} {j : Nat} {vs : List Val} {R : Val → Store → Prop} (h : s[j]? = some (.lst vs)) : W (lenV (.loc j)) s R ↔ R (.d (.int (vs.length : Nat))) s := by
  show W (seqV (.loc j) >>= fun vs => M.pure (.d (.int vs.length))) s R ↔ _
  rw [W_bind, W_seqL h]
  exact Iff.rfl
/-- a left side's loop is a turn: an unknown more -/
theorem w_left0 {sg : List (Str × Nat)} (hsg : SgOk sg) {f B : Nat} {c : Cell} {ks : List Str} (h : TapeOk B c) (hB : B + 100 < 2 ^ 40) (hu : ∀ x ∈ ks, x ∈ unks) (hk : ks.length ≤ 4) :
    W (c__law_left (f + 1) [.loc 0, .d (sgD sg), .d (.int 0), .loc 1]) [c, known ks] fun v s => ∃ p c' ks' g, v = .d p ∧ s = c' :: known ks' :: g ∧ PatOk (sg.map (·.1)) 1 p ∧ TapeOk (B + 1) c' ∧ (∀ x ∈ ks', x ∈ unks) ∧ ks'.length ≤ ks.length + 2 := by
  show W (bodyM 8 (m__law_left (c__law_left f)) _) _ _
  rw [W_body]
  unfold m__law_left
  try simp only [WS_seq, WS_if, WS_nm, WS_tp, WS_ret, WS_exp, WS_put, WS_nx, W_kcmp, W_mcmp, W_ix, W_dix, W_var, W_C, W_Str, W_Int, W_Dsp, W_bin, W_ktr, W_knt, W_kand, W_kor, W_mnt, W_mand, W_mor, W_mif, W_kchn, W_neg, W_inst, W_it, W_rng, W_zip, W_tup, W_lst, W_rev, W_pt0, W_pt1, W_sl, W_lset, W_cnt, W_lzip, W_app, W_ext, W_ins, W_get2, W_kg2, W_kg1, W_B1, W_B2, W_cal, W_cons, W_nil, V_gt, V_lt, V_le, V_ge, V_mod, V_fdiv, V_add, V_sub, V_mul, V_pow, V_int, V_lenL, V_lenT, List.map_cons, List.map_nil, List.cons_append, List.nil_append, List.length_cons, List.length_nil, List.replicate, List.getElem?_cons_zero, List.getElem?_cons_succ, Option.some.injEq, exists_eq_left', List.set_cons_zero, List.set_cons_succ, Nat.reduceAdd, Nat.reduceLT, Nat.reduceSub, true_and, Nat.zero_lt_succ, List.length_map, decide_eq_true_eq,  V_lenSg]
  refine call_draw rfl h (by omega) (by have := hsg.lo; omega) (by have := hsg.hi; omega) fun k1 c1 g1 g2 t1 => ?_
  refine pick_sign g1 g2 fun p hp => ?_
  refine ⟨_, rfl, ?_⟩
  try simp only [WS_seq, WS_if, WS_nm, WS_tp, WS_ret, WS_exp, WS_put, WS_nx, W_kcmp, W_mcmp, W_ix, W_dix, W_var, W_C, W_Str, W_Int, W_Dsp, W_bin, W_ktr, W_knt, W_kand, W_kor, W_mnt, W_mand, W_mor, W_mif, W_kchn, W_neg, W_inst, W_it, W_rng, W_zip, W_tup, W_lst, W_rev, W_pt0, W_pt1, W_sl, W_lset, W_cnt, W_lzip, W_app, W_ext, W_ins, W_get2, W_kg2, W_kg1, W_B1, W_B2, W_cal, W_cons, W_nil, V_gt, V_lt, V_le, V_ge, V_mod, V_fdiv, V_add, V_sub, V_mul, V_pow, V_int, V_lenL, V_lenT, List.map_cons, List.map_nil, List.cons_append, List.nil_append, List.length_cons, List.length_nil, List.replicate, List.getElem?_cons_zero, List.getElem?_cons_succ, Option.some.injEq, exists_eq_left', List.set_cons_zero, List.set_cons_succ, Nat.reduceAdd, Nat.reduceLT, Nat.reduceSub, true_and, Nat.zero_lt_succ, List.length_map, decide_eq_true_eq]
  rw [if_pos (by decide)]
  rw [W_mkT]
  try simp only [WS_seq, WS_if, WS_nm, WS_tp, WS_ret, WS_exp, WS_put, WS_nx, W_kcmp, W_mcmp, W_ix, W_dix, W_var, W_C, W_Str, W_Int, W_Dsp, W_bin, W_ktr, W_knt, W_kand, W_kor, W_mnt, W_mand, W_mor, W_mif, W_kchn, W_neg, W_inst, W_it, W_rng, W_zip, W_tup, W_lst, W_rev, W_pt0, W_pt1, W_sl, W_lset, W_cnt, W_lzip, W_app, W_ext, W_ins, W_get2, W_kg2, W_kg1, W_B1, W_B2, W_cal, W_cons, W_nil, V_gt, V_lt, V_le, V_ge, V_mod, V_fdiv, V_add, V_sub, V_mul, V_pow, V_int, V_lenL, V_lenT, List.map_cons, List.map_nil, List.cons_append, List.nil_append, List.length_cons, List.length_nil, List.replicate, List.getElem?_cons_zero, List.getElem?_cons_succ, Option.some.injEq, exists_eq_left', List.set_cons_zero, List.set_cons_succ, Nat.reduceAdd, Nat.reduceLT, Nat.reduceSub, true_and, Nat.zero_lt_succ, List.length_map, decide_eq_true_eq]
  refine WS_for ?_
  try simp only [WS_seq, WS_if, WS_nm, WS_tp, WS_ret, WS_exp, WS_put, WS_nx, W_kcmp, W_mcmp, W_ix, W_dix, W_var, W_C, W_Str, W_Int, W_Dsp, W_bin, W_ktr, W_knt, W_kand, W_kor, W_mnt, W_mand, W_mor, W_mif, W_kchn, W_neg, W_inst, W_it, W_rng, W_zip, W_tup, W_lst, W_rev, W_pt0, W_pt1, W_sl, W_lset, W_cnt, W_lzip, W_app, W_ext, W_ins, W_get2, W_kg2, W_kg1, W_B1, W_B2, W_cal, W_cons, W_nil, V_gt, V_lt, V_le, V_ge, V_mod, V_fdiv, V_add, V_sub, V_mul, V_pow, V_int, V_lenL, V_lenT, List.map_cons, List.map_nil, List.cons_append, List.nil_append, List.length_cons, List.length_nil, List.replicate, List.getElem?_cons_zero, List.getElem?_cons_succ, Option.some.injEq, exists_eq_left', List.set_cons_zero, List.set_cons_succ, Nat.reduceAdd, Nat.reduceLT, Nat.reduceSub, true_and, Nat.zero_lt_succ, List.length_map, decide_eq_true_eq]
  have ha := hsg.ar p hp
  refine W_rngN (by omega) ⟨fun i ρ s => ∃ ks' cs o, s = [c1, known ks', .lst (cs.map Val.d)] ∧ ρ = [some (.loc 0), some (.d (sgD sg)), some (.d (.int 0)), some (.loc 1), some (.loc 2), o, some (.d (.str p.1)), some (.d (.int (p.2 : Int)))] ∧ cs.length = i ∧ (∀ e ∈ cs, PatOk (sg.map (·.1)) 0 e) ∧ (∀ x ∈ ks', x ∈ unks) ∧ ks'.length = ks.length + i,
    ⟨ks, [], none, rfl, rfl, rfl, fun _ z => (by cases z), hu, rfl⟩, ?_, ?_⟩
  · rintro i v ρ s hv ⟨ks', cs, o, rfl, rfl, lc, mc, mu, lk⟩
    obtain ⟨hi, rfl⟩ := up_at hv
    refine ⟨_, rfl, ?_⟩
    try simp only [WS_seq, WS_if, WS_nm, WS_tp, WS_ret, WS_exp, WS_put, WS_nx, W_kcmp, W_mcmp, W_ix, W_dix, W_var, W_C, W_Str, W_Int, W_Dsp, W_bin, W_ktr, W_knt, W_kand, W_kor, W_mnt, W_mand, W_mor, W_mif, W_kchn, W_neg, W_inst, W_it, W_rng, W_zip, W_tup, W_lst, W_rev, W_pt0, W_pt1, W_sl, W_lset, W_cnt, W_lzip, W_app, W_ext, W_ins, W_get2, W_kg2, W_kg1, W_B1, W_B2, W_cal, W_cons, W_nil, V_gt, V_lt, V_le, V_ge, V_mod, V_fdiv, V_add, V_sub, V_mul, V_pow, V_int, V_lenL, V_lenT, List.map_cons, List.map_nil, List.cons_append, List.nil_append, List.length_cons, List.length_nil, List.replicate, List.getElem?_cons_zero, List.getElem?_cons_succ, Option.some.injEq, exists_eq_left', List.set_cons_zero, List.set_cons_succ, Nat.reduceAdd, Nat.reduceLT, Nat.reduceSub, true_and, Nat.zero_lt_succ, List.length_map, decide_eq_true_eq]
    rw [if_neg (by decide), if_neg (by decide)]
    try simp only [WS_seq, WS_if, WS_nm, WS_tp, WS_ret, WS_exp, WS_put, WS_nx, W_kcmp, W_mcmp, W_ix, W_dix, W_var, W_C, W_Str, W_Int, W_Dsp, W_bin, W_ktr, W_knt, W_kand, W_kor, W_mnt, W_mand, W_mor, W_mif, W_kchn, W_neg, W_inst, W_it, W_rng, W_zip, W_tup, W_lst, W_rev, W_pt0, W_pt1, W_sl, W_lset, W_cnt, W_lzip, W_app, W_ext, W_ins, W_get2, W_kg2, W_kg1, W_B1, W_B2, W_cal, W_cons, W_nil, V_gt, V_lt, V_le, V_ge, V_mod, V_fdiv, V_add, V_sub, V_mul, V_pow, V_int, V_lenL, V_lenT, List.map_cons, List.map_nil, List.cons_append, List.nil_append, List.length_cons, List.length_nil, List.replicate, List.getElem?_cons_zero, List.getElem?_cons_succ, Option.some.injEq, exists_eq_left', List.set_cons_zero, List.set_cons_succ, Nat.reduceAdd, Nat.reduceLT, Nat.reduceSub, true_and, Nat.zero_lt_succ, List.length_map, decide_eq_true_eq]
    rw [W_isL (vs := (ks'.map D.str).map Val.d) rfl]
    refine W_lstD (ds := unks.map .str) (by decide) ?_
    rw [V_lenLoc (vs := (ks'.map D.str).map Val.d) rfl]
    simp only [List.length_map]
    obtain ⟨x, hx, mx⟩ : ∃ x, unks[ks'.length]? = some x ∧ x ∈ unks := by
      have lt : ks'.length < unks.length := by
        show _ < 6
        omega
      exact ⟨unks[ks'.length], List.getElem?_eq_getElem lt, List.getElem_mem lt⟩
    rw [V_ixL (x := .str x) (atI_nat (by omega) (by rw [Int.toNat_natCast, List.getElem?_map, hx]; rfl))]
    rw [W_appL (vs := (ks'.map D.str).map Val.d) rfl (by rw [List.length_map, List.length_map]; unfold lineLen; omega)]
    simp only [List.set_cons_succ, List.set_cons_zero]
    rw [W_isL (vs := cs.map Val.d) rfl]
    have e1 : (ks'.map D.str).map Val.d ++ [Val.d (.str x)] = ((ks' ++ [x]).map D.str).map Val.d := by simp
    rw [e1]
    rw [V_ixLoc (x := .d (.str x)) (vs := ((ks' ++ [x]).map D.str).map Val.d) rfl (by
      have q := last_at (ks'.map D.str) (.str x)
      simp only [List.map_append, List.map_cons, List.map_nil] at q ⊢
      exact q)]
    rw [W_appL (vs := cs.map Val.d) rfl (by rw [List.length_map, lc]; unfold lineLen; omega)]
    simp only [List.set_cons_succ, List.set_cons_zero]
    refine ⟨ks' ++ [x], cs ++ [.str x], _, by rw [show (cs ++ [D.str x]).map Val.d = cs.map Val.d ++ [.d (.str x)] from by simp]; rfl, rfl, by simp [lc], fun e he => ?_, fun y hy => ?_, by simp [lk]; omega⟩
    · rcases List.mem_append.mp he with q | q
      · exact mc e q
      · simp at q; exact ⟨x, mx, q⟩
    · rcases List.mem_append.mp hy with q | q
      · exact mu y q
      · simp at q; rw [q]; exact mx
  · rintro ρ s ⟨ks', cs, o, rfl, rfl, lc, mc, mu, lk⟩
    rw [up_len] at lc lk
    try simp only [WS_seq, WS_if, WS_nm, WS_tp, WS_ret, WS_exp, WS_put, WS_nx, W_kcmp, W_mcmp, W_ix, W_dix, W_var, W_C, W_Str, W_Int, W_Dsp, W_bin, W_ktr, W_knt, W_kand, W_kor, W_mnt, W_mand, W_mor, W_mif, W_kchn, W_neg, W_inst, W_it, W_rng, W_zip, W_tup, W_lst, W_rev, W_pt0, W_pt1, W_sl, W_lset, W_cnt, W_lzip, W_app, W_ext, W_ins, W_get2, W_kg2, W_kg1, W_B1, W_B2, W_cal, W_cons, W_nil, V_gt, V_lt, V_le, V_ge, V_mod, V_fdiv, V_add, V_sub, V_mul, V_pow, V_int, V_lenL, V_lenT, List.map_cons, List.map_nil, List.cons_append, List.nil_append, List.length_cons, List.length_nil, List.replicate, List.getElem?_cons_zero, List.getElem?_cons_succ, Option.some.injEq, exists_eq_left', List.set_cons_zero, List.set_cons_succ, Nat.reduceAdd, Nat.reduceLT, Nat.reduceSub, true_and, Nat.zero_lt_succ, List.length_map, decide_eq_true_eq]
    refine (W_datas (ds := [.str p.1])).mpr ?_
    rw [if_pos (by show 1 ≤ lineLen; decide), W_pure, V_tupLoc (es := cs) rfl]
    show W (if ([D.str p.1] : List D).length + cs.length ≤ lineLen then M.pure (Val.d (.tup ([D.str p.1] ++ cs))) else M.bad) _ _
    rw [if_pos (by show 1 + cs.length ≤ lineLen; unfold lineLen; omega)]
    exact ⟨_, c1, ks', _, rfl, rfl, .inr ⟨p.1, cs, rfl, List.mem_map.mpr ⟨p, hp, rfl⟩, by omega, mc⟩, t1, mu, by omega⟩
end My
set_option maxRecDepth 100000
set_option maxHeartbeats 8000000
namespace My
open Ev PySem

/-- a left side: children or unknowns -/
theorem w_left1 {sg : List (Str × Nat)} (hsg : SgOk sg) {f B : Nat} {c : Cell} (h : TapeOk B c) (hB : B + 200 < 2 ^ 40) :
    W (c__law_left (f + 2) [.loc 0, .d (sgD sg), .d (.int 1), .loc 1]) [c, known []] fun v s => ∃ p c' ks' g, v = .d p ∧ s = c' :: known ks' :: g ∧ PatOk (sg.map (·.1)) 2 p ∧ TapeOk (B + 5) c' ∧ (∀ x ∈ ks', x ∈ unks) ∧ ks'.length ≤ 4 := by
  show W (bodyM 8 (m__law_left (c__law_left (f + 1))) _) _ _
  rw [W_body]
  unfold m__law_left
  try simp only [WS_seq, WS_if, WS_nm, WS_tp, WS_ret, WS_exp, WS_put, WS_nx, W_kcmp, W_mcmp, W_ix, W_dix, W_var, W_C, W_Str, W_Int, W_Dsp, W_bin, W_ktr, W_knt, W_kand, W_kor, W_mnt, W_mand, W_mor, W_mif, W_kchn, W_neg, W_inst, W_it, W_rng, W_zip, W_tup, W_lst, W_rev, W_pt0, W_pt1, W_sl, W_lset, W_cnt, W_lzip, W_app, W_ext, W_ins, W_get2, W_kg2, W_kg1, W_B1, W_B2, W_cal, W_cons, W_nil, V_gt, V_lt, V_le, V_ge, V_mod, V_fdiv, V_add, V_sub, V_mul, V_pow, V_int, V_lenL, V_lenT, List.map_cons, List.map_nil, List.cons_append, List.nil_append, List.length_cons, List.length_nil, List.replicate, List.getElem?_cons_zero, List.getElem?_cons_succ, Option.some.injEq, exists_eq_left', List.set_cons_zero, List.set_cons_succ, Nat.reduceAdd, Nat.reduceLT, Nat.reduceSub, true_and, Nat.zero_lt_succ, List.length_map, decide_eq_true_eq,  V_lenSg]
  refine call_draw rfl h (by omega) (by have := hsg.lo; omega) (by have := hsg.hi; omega) fun k1 c1 g1 g2 t1 => ?_
  refine pick_sign g1 g2 fun p hp => ?_
  refine ⟨_, rfl, ?_⟩
  try simp only [WS_seq, WS_if, WS_nm, WS_tp, WS_ret, WS_exp, WS_put, WS_nx, W_kcmp, W_mcmp, W_ix, W_dix, W_var, W_C, W_Str, W_Int, W_Dsp, W_bin, W_ktr, W_knt, W_kand, W_kor, W_mnt, W_mand, W_mor, W_mif, W_kchn, W_neg, W_inst, W_it, W_rng, W_zip, W_tup, W_lst, W_rev, W_pt0, W_pt1, W_sl, W_lset, W_cnt, W_lzip, W_app, W_ext, W_ins, W_get2, W_kg2, W_kg1, W_B1, W_B2, W_cal, W_cons, W_nil, V_gt, V_lt, V_le, V_ge, V_mod, V_fdiv, V_add, V_sub, V_mul, V_pow, V_int, V_lenL, V_lenT, List.map_cons, List.map_nil, List.cons_append, List.nil_append, List.length_cons, List.length_nil, List.replicate, List.getElem?_cons_zero, List.getElem?_cons_succ, Option.some.injEq, exists_eq_left', List.set_cons_zero, List.set_cons_succ, Nat.reduceAdd, Nat.reduceLT, Nat.reduceSub, true_and, Nat.zero_lt_succ, List.length_map, decide_eq_true_eq]
  rw [if_pos (by decide)]
  rw [W_mkT]
  try simp only [WS_seq, WS_if, WS_nm, WS_tp, WS_ret, WS_exp, WS_put, WS_nx, W_kcmp, W_mcmp, W_ix, W_dix, W_var, W_C, W_Str, W_Int, W_Dsp, W_bin, W_ktr, W_knt, W_kand, W_kor, W_mnt, W_mand, W_mor, W_mif, W_kchn, W_neg, W_inst, W_it, W_rng, W_zip, W_tup, W_lst, W_rev, W_pt0, W_pt1, W_sl, W_lset, W_cnt, W_lzip, W_app, W_ext, W_ins, W_get2, W_kg2, W_kg1, W_B1, W_B2, W_cal, W_cons, W_nil, V_gt, V_lt, V_le, V_ge, V_mod, V_fdiv, V_add, V_sub, V_mul, V_pow, V_int, V_lenL, V_lenT, List.map_cons, List.map_nil, List.cons_append, List.nil_append, List.length_cons, List.length_nil, List.replicate, List.getElem?_cons_zero, List.getElem?_cons_succ, Option.some.injEq, exists_eq_left', List.set_cons_zero, List.set_cons_succ, Nat.reduceAdd, Nat.reduceLT, Nat.reduceSub, true_and, Nat.zero_lt_succ, List.length_map, decide_eq_true_eq]
  refine WS_for ?_
  try simp only [WS_seq, WS_if, WS_nm, WS_tp, WS_ret, WS_exp, WS_put, WS_nx, W_kcmp, W_mcmp, W_ix, W_dix, W_var, W_C, W_Str, W_Int, W_Dsp, W_bin, W_ktr, W_knt, W_kand, W_kor, W_mnt, W_mand, W_mor, W_mif, W_kchn, W_neg, W_inst, W_it, W_rng, W_zip, W_tup, W_lst, W_rev, W_pt0, W_pt1, W_sl, W_lset, W_cnt, W_lzip, W_app, W_ext, W_ins, W_get2, W_kg2, W_kg1, W_B1, W_B2, W_cal, W_cons, W_nil, V_gt, V_lt, V_le, V_ge, V_mod, V_fdiv, V_add, V_sub, V_mul, V_pow, V_int, V_lenL, V_lenT, List.map_cons, List.map_nil, List.cons_append, List.nil_append, List.length_cons, List.length_nil, List.replicate, List.getElem?_cons_zero, List.getElem?_cons_succ, Option.some.injEq, exists_eq_left', List.set_cons_zero, List.set_cons_succ, Nat.reduceAdd, Nat.reduceLT, Nat.reduceSub, true_and, Nat.zero_lt_succ, List.length_map, decide_eq_true_eq]
  have ha := hsg.ar p hp
  refine W_rngN (by omega) ⟨fun i ρ s => ∃ ci ks' cs o, s = [ci, known ks', .lst (cs.map Val.d)] ∧ TapeOk (B + 1 + 2 * i) ci ∧ ρ = [some (.loc 0), some (.d (sgD sg)), some (.d (.int 1)), some (.loc 1), some (.loc 2), o, some (.d (.str p.1)), some (.d (.int (p.2 : Int)))] ∧ cs.length = i ∧ (∀ e ∈ cs, PatOk (sg.map (·.1)) 1 e) ∧ (∀ x ∈ ks', x ∈ unks) ∧ ks'.length ≤ 2 * i,
    ⟨c1, [], [], none, rfl, t1, rfl, rfl, fun _ z => (by cases z), fun _ z => (by cases z), by simp⟩, ?_, ?_⟩
  · rintro i v ρ s hv ⟨ci, ks', cs, o, rfl, ti, rfl, lc, mc, mu, lk⟩
    obtain ⟨hi, rfl⟩ := up_at hv
    refine ⟨_, rfl, ?_⟩
    try simp only [WS_seq, WS_if, WS_nm, WS_tp, WS_ret, WS_exp, WS_put, WS_nx, W_kcmp, W_mcmp, W_ix, W_dix, W_var, W_C, W_Str, W_Int, W_Dsp, W_bin, W_ktr, W_knt, W_kand, W_kor, W_mnt, W_mand, W_mor, W_mif, W_kchn, W_neg, W_inst, W_it, W_rng, W_zip, W_tup, W_lst, W_rev, W_pt0, W_pt1, W_sl, W_lset, W_cnt, W_lzip, W_app, W_ext, W_ins, W_get2, W_kg2, W_kg1, W_B1, W_B2, W_cal, W_cons, W_nil, V_gt, V_lt, V_le, V_ge, V_mod, V_fdiv, V_add, V_sub, V_mul, V_pow, V_int, V_lenL, V_lenT, List.map_cons, List.map_nil, List.cons_append, List.nil_append, List.length_cons, List.length_nil, List.replicate, List.getElem?_cons_zero, List.getElem?_cons_succ, Option.some.injEq, exists_eq_left', List.set_cons_zero, List.set_cons_succ, Nat.reduceAdd, Nat.reduceLT, Nat.reduceSub, true_and, Nat.zero_lt_succ, List.length_map, decide_eq_true_eq]
    rw [if_pos (by decide)]
    try simp only [WS_seq, WS_if, WS_nm, WS_tp, WS_ret, WS_exp, WS_put, WS_nx, W_kcmp, W_mcmp, W_ix, W_dix, W_var, W_C, W_Str, W_Int, W_Dsp, W_bin, W_ktr, W_knt, W_kand, W_kor, W_mnt, W_mand, W_mor, W_mif, W_kchn, W_neg, W_inst, W_it, W_rng, W_zip, W_tup, W_lst, W_rev, W_pt0, W_pt1, W_sl, W_lset, W_cnt, W_lzip, W_app, W_ext, W_ins, W_get2, W_kg2, W_kg1, W_B1, W_B2, W_cal, W_cons, W_nil, V_gt, V_lt, V_le, V_ge, V_mod, V_fdiv, V_add, V_sub, V_mul, V_pow, V_int, V_lenL, V_lenT, List.map_cons, List.map_nil, List.cons_append, List.nil_append, List.length_cons, List.length_nil, List.replicate, List.getElem?_cons_zero, List.getElem?_cons_succ, Option.some.injEq, exists_eq_left', List.set_cons_zero, List.set_cons_succ, Nat.reduceAdd, Nat.reduceLT, Nat.reduceSub, true_and, Nat.zero_lt_succ, List.length_map, decide_eq_true_eq]
    refine call_draw rfl ti (by omega) (by decide) (by decide) fun k2 c2 g3 g4 t2 => ?_
    try simp only [WS_seq, WS_if, WS_nm, WS_tp, WS_ret, WS_exp, WS_put, WS_nx, W_kcmp, W_mcmp, W_ix, W_dix, W_var, W_C, W_Str, W_Int, W_Dsp, W_bin, W_ktr, W_knt, W_kand, W_kor, W_mnt, W_mand, W_mor, W_mif, W_kchn, W_neg, W_inst, W_it, W_rng, W_zip, W_tup, W_lst, W_rev, W_pt0, W_pt1, W_sl, W_lset, W_cnt, W_lzip, W_app, W_ext, W_ins, W_get2, W_kg2, W_kg1, W_B1, W_B2, W_cal, W_cons, W_nil, V_gt, V_lt, V_le, V_ge, V_mod, V_fdiv, V_add, V_sub, V_mul, V_pow, V_int, V_lenL, V_lenT, List.map_cons, List.map_nil, List.cons_append, List.nil_append, List.length_cons, List.length_nil, List.replicate, List.getElem?_cons_zero, List.getElem?_cons_succ, Option.some.injEq, exists_eq_left', List.set_cons_zero, List.set_cons_succ, Nat.reduceAdd, Nat.reduceLT, Nat.reduceSub, true_and, Nat.zero_lt_succ, List.length_map, decide_eq_true_eq]
    refine (V_eq fit_int fit_int).mpr ?_
    split
    · try simp only [WS_seq, WS_if, WS_nm, WS_tp, WS_ret, WS_exp, WS_put, WS_nx, W_kcmp, W_mcmp, W_ix, W_dix, W_var, W_C, W_Str, W_Int, W_Dsp, W_bin, W_ktr, W_knt, W_kand, W_kor, W_mnt, W_mand, W_mor, W_mif, W_kchn, W_neg, W_inst, W_it, W_rng, W_zip, W_tup, W_lst, W_rev, W_pt0, W_pt1, W_sl, W_lset, W_cnt, W_lzip, W_app, W_ext, W_ins, W_get2, W_kg2, W_kg1, W_B1, W_B2, W_cal, W_cons, W_nil, V_gt, V_lt, V_le, V_ge, V_mod, V_fdiv, V_add, V_sub, V_mul, V_pow, V_int, V_lenL, V_lenT, List.map_cons, List.map_nil, List.cons_append, List.nil_append, List.length_cons, List.length_nil, List.replicate, List.getElem?_cons_zero, List.getElem?_cons_succ, Option.some.injEq, exists_eq_left', List.set_cons_zero, List.set_cons_succ, Nat.reduceAdd, Nat.reduceLT, Nat.reduceSub, true_and, Nat.zero_lt_succ, List.length_map, decide_eq_true_eq]
      rw [W_isL (vs := cs.map Val.d) rfl]
      refine W_sub2 (t := 0) (u := 1) (c := c2) (e := known ks') (sgD sg) (.int 0) rfl rfl (by decide) t2.cl (known_cl _) ?_
      refine (w_left0 hsg (f := f) t2 (by omega) mu (by omega)).mono fun v s' ⟨q, c3, ks2, g, e1, e2, pq, t3, mu2, lk2⟩ => ?_
      refine ⟨q, c3, known ks2, g, .inl e1, e2, t3.cl, known_cl _, ?_⟩
      try simp only [WS_seq, WS_if, WS_nm, WS_tp, WS_ret, WS_exp, WS_put, WS_nx, W_kcmp, W_mcmp, W_ix, W_dix, W_var, W_C, W_Str, W_Int, W_Dsp, W_bin, W_ktr, W_knt, W_kand, W_kor, W_mnt, W_mand, W_mor, W_mif, W_kchn, W_neg, W_inst, W_it, W_rng, W_zip, W_tup, W_lst, W_rev, W_pt0, W_pt1, W_sl, W_lset, W_cnt, W_lzip, W_app, W_ext, W_ins, W_get2, W_kg2, W_kg1, W_B1, W_B2, W_cal, W_cons, W_nil, V_gt, V_lt, V_le, V_ge, V_mod, V_fdiv, V_add, V_sub, V_mul, V_pow, V_int, V_lenL, V_lenT, List.map_cons, List.map_nil, List.cons_append, List.nil_append, List.length_cons, List.length_nil, List.replicate, List.getElem?_cons_zero, List.getElem?_cons_succ, Option.some.injEq, exists_eq_left', List.set_cons_zero, List.set_cons_succ, Nat.reduceAdd, Nat.reduceLT, Nat.reduceSub, true_and, Nat.zero_lt_succ, List.length_map, decide_eq_true_eq]
      rw [W_appL (vs := cs.map Val.d) rfl (by rw [List.length_map, lc]; unfold lineLen; omega)]
      try simp only [WS_seq, WS_if, WS_nm, WS_tp, WS_ret, WS_exp, WS_put, WS_nx, W_kcmp, W_mcmp, W_ix, W_dix, W_var, W_C, W_Str, W_Int, W_Dsp, W_bin, W_ktr, W_knt, W_kand, W_kor, W_mnt, W_mand, W_mor, W_mif, W_kchn, W_neg, W_inst, W_it, W_rng, W_zip, W_tup, W_lst, W_rev, W_pt0, W_pt1, W_sl, W_lset, W_cnt, W_lzip, W_app, W_ext, W_ins, W_get2, W_kg2, W_kg1, W_B1, W_B2, W_cal, W_cons, W_nil, V_gt, V_lt, V_le, V_ge, V_mod, V_fdiv, V_add, V_sub, V_mul, V_pow, V_int, V_lenL, V_lenT, List.map_cons, List.map_nil, List.cons_append, List.nil_append, List.length_cons, List.length_nil, List.replicate, List.getElem?_cons_zero, List.getElem?_cons_succ, Option.some.injEq, exists_eq_left', List.set_cons_zero, List.set_cons_succ, Nat.reduceAdd, Nat.reduceLT, Nat.reduceSub, true_and, Nat.zero_lt_succ, List.length_map, decide_eq_true_eq]
      refine ⟨c3, ks2, cs ++ [q], _, by rw [show (cs ++ [q]).map Val.d = cs.map Val.d ++ [.d q] from by simp], t3.mono (by omega), rfl, by simp [lc], fun e he => ?_, mu2, by omega⟩
      rcases List.mem_append.mp he with z | z
      · exact mc e z
      · simp at z; rw [z]; exact pq
    · try simp only [WS_seq, WS_if, WS_nm, WS_tp, WS_ret, WS_exp, WS_put, WS_nx, W_kcmp, W_mcmp, W_ix, W_dix, W_var, W_C, W_Str, W_Int, W_Dsp, W_bin, W_ktr, W_knt, W_kand, W_kor, W_mnt, W_mand, W_mor, W_mif, W_kchn, W_neg, W_inst, W_it, W_rng, W_zip, W_tup, W_lst, W_rev, W_pt0, W_pt1, W_sl, W_lset, W_cnt, W_lzip, W_app, W_ext, W_ins, W_get2, W_kg2, W_kg1, W_B1, W_B2, W_cal, W_cons, W_nil, V_gt, V_lt, V_le, V_ge, V_mod, V_fdiv, V_add, V_sub, V_mul, V_pow, V_int, V_lenL, V_lenT, List.map_cons, List.map_nil, List.cons_append, List.nil_append, List.length_cons, List.length_nil, List.replicate, List.getElem?_cons_zero, List.getElem?_cons_succ, Option.some.injEq, exists_eq_left', List.set_cons_zero, List.set_cons_succ, Nat.reduceAdd, Nat.reduceLT, Nat.reduceSub, true_and, Nat.zero_lt_succ, List.length_map, decide_eq_true_eq]
      rw [W_isL (vs := (ks'.map D.str).map Val.d) rfl]
      refine W_lstD (ds := unks.map .str) (by decide) ?_
      rw [V_lenLoc (vs := (ks'.map D.str).map Val.d) rfl]
      simp only [List.length_map]
      obtain ⟨x, hx, mx⟩ : ∃ x, unks[ks'.length]? = some x ∧ x ∈ unks := by
        have lt : ks'.length < unks.length := by
          show _ < 6
          omega
        exact ⟨unks[ks'.length], List.getElem?_eq_getElem lt, List.getElem_mem lt⟩
      rw [V_ixL (x := .str x) (atI_nat (by omega) (by rw [Int.toNat_natCast, List.getElem?_map, hx]; rfl))]
      rw [W_appL (vs := (ks'.map D.str).map Val.d) rfl (by rw [List.length_map, List.length_map]; unfold lineLen; omega)]
      simp only [List.set_cons_succ, List.set_cons_zero]
      rw [W_isL (vs := cs.map Val.d) rfl]
      have e1 : (ks'.map D.str).map Val.d ++ [Val.d (.str x)] = ((ks' ++ [x]).map D.str).map Val.d := by simp
      rw [e1]
      rw [V_ixLoc (x := .d (.str x)) (vs := ((ks' ++ [x]).map D.str).map Val.d) rfl (by
        have q := last_at (ks'.map D.str) (.str x)
        simp only [List.map_append, List.map_cons, List.map_nil] at q ⊢
        exact q)]
      rw [W_appL (vs := cs.map Val.d) rfl (by rw [List.length_map, lc]; unfold lineLen; omega)]
      simp only [List.set_cons_succ, List.set_cons_zero]
      refine ⟨c2, ks' ++ [x], cs ++ [.str x], _, by rw [show (cs ++ [D.str x]).map Val.d = cs.map Val.d ++ [.d (.str x)] from by simp]; rfl, t2.mono (by omega), rfl, by simp [lc], fun e he => ?_, fun y hy => ?_, by simp; omega⟩
      · rcases List.mem_append.mp he with q | q
        · exact mc e q
        · simp at q; rw [q]; exact .unk mx 1
      · rcases List.mem_append.mp hy with q | q
        · exact mu y q
        · simp at q; rw [q]; exact mx
  · rintro ρ s ⟨ci, ks', cs, o, rfl, ti, rfl, lc, mc, mu, lk⟩
    rw [up_len] at lc lk ti
    try simp only [WS_seq, WS_if, WS_nm, WS_tp, WS_ret, WS_exp, WS_put, WS_nx, W_kcmp, W_mcmp, W_ix, W_dix, W_var, W_C, W_Str, W_Int, W_Dsp, W_bin, W_ktr, W_knt, W_kand, W_kor, W_mnt, W_mand, W_mor, W_mif, W_kchn, W_neg, W_inst, W_it, W_rng, W_zip, W_tup, W_lst, W_rev, W_pt0, W_pt1, W_sl, W_lset, W_cnt, W_lzip, W_app, W_ext, W_ins, W_get2, W_kg2, W_kg1, W_B1, W_B2, W_cal, W_cons, W_nil, V_gt, V_lt, V_le, V_ge, V_mod, V_fdiv, V_add, V_sub, V_mul, V_pow, V_int, V_lenL, V_lenT, List.map_cons, List.map_nil, List.cons_append, List.nil_append, List.length_cons, List.length_nil, List.replicate, List.getElem?_cons_zero, List.getElem?_cons_succ, Option.some.injEq, exists_eq_left', List.set_cons_zero, List.set_cons_succ, Nat.reduceAdd, Nat.reduceLT, Nat.reduceSub, true_and, Nat.zero_lt_succ, List.length_map, decide_eq_true_eq]
    refine (W_datas (ds := [.str p.1])).mpr ?_
    rw [if_pos (by show 1 ≤ lineLen; decide), W_pure, V_tupLoc (es := cs) rfl]
    show W (if ([D.str p.1] : List D).length + cs.length ≤ lineLen then M.pure (Val.d (.tup ([D.str p.1] ++ cs))) else M.bad) _ _
    rw [if_pos (by show 1 + cs.length ≤ lineLen; unfold lineLen; omega)]
    exact ⟨_, ci, ks', _, rfl, rfl, .inr ⟨p.1, cs, rfl, List.mem_map.mpr ⟨p, hp, rfl⟩, by omega, mc⟩, ti.mono (by omega), mu, by omega⟩

theorem W_dataLoc {s : Store} {j : Nat} {es : List D} {Q : D → Store → Prop} (h : s[j]? = some (.lst (es.map .d))) : W (dataV (.loc j)) s Q ↔ Q (.lst es) s := by
  have e : ∀ R : Cell → Store → Prop, W (cellAt j) s R ↔ R (.lst (es.map .d)) s := fun R => by
    unfold W cellAt
    rw [h]
  show W (cellAt j >>= fun c => match c with
    | .lst vs => datas vs >>= fun xs => M.pure (.lst xs)
    | _ => M.bad) s Q ↔ _
  rw [W_bind, e]
  show W (datas (es.map .d) >>= fun xs => M.pure (.lst xs)) s Q ↔ _
  rw [W_bind, W_datas]
  exact Iff.rfl
theorem V_neLoc {s : Store} {j : Nat} {es : List D} {b : D} {T : Bool → Store → Prop} (h : s[j]? = some (.lst (es.map .d))) (ha : (D.lst es).fit = true) (hb : b.fit = true) : W (cmpV .ne (.loc j) (.d b)) s T ↔ T (!deq (.lst es) b) s := by
  show W (eqV (.loc j) (.d b) >>= fun b => M.pure (!b)) s T ↔ _
  rw [W_bind]
  show W (dataV (.loc j) >>= fun x => dataV (.d b) >>= fun y => if x.fit ∧ y.fit then M.pure (deq x y) else M.bad) s _ ↔ _
  rw [W_bind, W_dataLoc h, W_bind]
  show W (if (D.lst es).fit ∧ b.fit then M.pure (deq (.lst es) b) else M.bad) s _ ↔ _
  rw [W_ite, if_pos ⟨ha, hb⟩, W_pure]
  exact Iff.rfl
theorem strOk_mem {N : List Str} (h : N.all PyData.strOk = true) {x : Str} (hx : x ∈ N) : PyData.strOk x = true := List.all_eq_true.mp h x hx
theorem unks_ok : unks.all PyData.strOk = true := by decide +kernel
theorem nms_ok : nms.all PyData.strOk = true := by decide +kernel
theorem fit_strs {ks : List Str} (h : ∀ x ∈ ks, PyData.strOk x = true) : (D.lst (ks.map .str)).fit = true := by
  have f : ∀ ks : List Str, (∀ x ∈ ks, PyData.strOk x = true) → D.flats (ks.map .str) = true := fun ks => by
    induction ks with
    | nil => intro _; rfl
    | cons k ks ih =>
      intro h
      show (PyData.strOk k && D.flats (ks.map .str)) = true
      rw [h k (List.mem_cons_self ..), ih fun x hx => h x (List.mem_cons_of_mem _ hx)]
      rfl
  have d : ∀ ks : List Str, D.depths (ks.map .str) ≤ 0 := fun ks => by
    induction ks with
    | nil => exact Nat.le_refl _
    | cons k ks ih =>
      show max 0 (D.depths (ks.map .str)) ≤ 0
      exact Nat.max_le.mpr ⟨Nat.le_refl _, ih⟩
  unfold D.fit
  rw [Bool.and_eq_true]
  exact ⟨f ks h, by
    rw [decide_eq_true_eq]
    show D.depths (ks.map .str) + 1 ≤ mostDepth
    have := d ks
    have z : 1 ≤ mostDepth := by decide
    omega⟩
end My
set_option maxRecDepth 100000
set_option maxHeartbeats 8000000
namespace My
open Ev PySem

def sgI (p : Str × Nat) : D := .tup [.str p.1, .int p.2]
theorem sgD_eq (sg : List (Str × Nat)) : sgD sg = .tup (sg.map sgI) := rfl
/-- one of a list of signs -/
theorem pick_sgL {L : List (Str × Nat)} {k : Int} {s : Store} {R : Val → Store → Prop} (h0 : 0 ≤ k) (h1 : k < L.length) (r : ∀ p ∈ L, R (.d (.tup [.str p.1, .int p.2])) s) : W (ixV (.d (.lst (L.map sgI))) (.d (.int k))) s R := by
  have lt : k.toNat < L.length := by omega
  rw [V_ixL (atI_nat h0 (by rw [List.getElem?_map, List.getElem?_eq_getElem lt]; rfl))]
  exact r _ (List.getElem_mem lt)
def bud : Nat → Nat
  | 0 => 2
  | n + 1 => 2 + 2 * bud n
/-- the signs that may stand: all, or those without children -/
def fits (deep : Nat) (p : Str × Nat) : Bool := decide (0 < deep) || decide (p.2 = 0)
theorem fits_some {sg : List (Str × Nat)} (h : SgOk sg) (d : Nat) : 0 < (sg.filter (fits d)).length := by
  obtain ⟨p, hp, e⟩ := h.leaf
  exact List.length_pos_of_mem (List.mem_filter.mpr ⟨hp, by unfold fits; simp [e]⟩)
/-- the comprehension of such signs -/
theorem w_some {sg : List (Str × Nat)} (hsg : SgOk sg) {d : Nat} {ix : List Nat} {x dp : Nat} {ρ : Ev.Env} {s : Store} {R : Val → Store → Prop} (hx : x < (wipeE ρ ix).length) (hd : (wipeE ρ ix)[dp]? = some (some (Val.d (.int (d : Int))))) (hdx : dp ≠ x) (hv : ρ[1]? = some (some (Val.d (sgD sg)))) (r : R (.d (.lst ((sg.filter (fits d)).map sgI))) s) :
    W (mLc false ix (.nm x) (mIt (mVar 1)) (kOr (kCmp .gt (mVar dp) (mC (.int 0))) (kCmp .eq (mIx (mVar x) (mC (.int 1))) (mC (.int 0)))) (mVar x) ρ) s R := by
  refine W_lc ?_
  rw [W_it, W_var]
  refine ⟨_, hv, ?_⟩
  rw [sgD_eq, V_ivT]
  refine ⟨by rw [List.length_map, List.length_map]; have := hsg.hi; unfold lineLen; omega, fun i ys s' => s' = s ∧ ys = (((sg.take i).filter (fits d)).map sgI).map Val.d, ⟨rfl, rfl⟩, ?_, ?_⟩
  · rintro i v ys s' hi ⟨rfl, rfl⟩
    rw [List.getElem?_map, List.getElem?_map] at hi
    cases e : sg[i]? with
    | none => rw [e] at hi; cases hi
    | some p =>
      rw [e] at hi
      cases hi
      have tk : ((sg.take (i + 1)).filter (fits d)).map sgI = ((sg.take i).filter (fits d)).map sgI ++ if fits d p then [sgI p] else [] := by
        rw [List.take_succ, e, List.filter_append, List.map_append]
        cases q : fits d p <;> simp [q, List.filter]
      have g1 : ((wipeE ρ ix).set x (some (Val.d (sgI p))))[dp]? = some (some (.d (.int (d : Int)))) := by
        rw [List.getElem?_set_ne (Ne.symm hdx), hd]
      have g2 : ((wipeE ρ ix).set x (some (Val.d (sgI p))))[x]? = some (some (Val.d (sgI p))) := by
        rw [List.getElem?_set_self hx]
      refine ⟨_, if_pos hx, ?_⟩
      have c1 : W (kOr (kCmp .gt (mVar dp) (mC (.int 0))) (kCmp .eq (mIx (mVar x) (mC (.int 1))) (mC (.int 0))) ((wipeE ρ ix).set x (some (Val.d (sgI p))))) s' fun b s => b = fits d p ∧ s = s' := by
        rw [W_kor, W_kcmp, W_var]
        refine ⟨_, g1, ?_⟩
        try simp only [WS_seq, WS_if, WS_nm, WS_tp, WS_ret, WS_exp, WS_put, WS_nx, W_kcmp, W_mcmp, W_ix, W_dix, W_var, W_C, W_Str, W_Int, W_Dsp, W_bin, W_ktr, W_knt, W_kand, W_kor, W_mnt, W_mand, W_mor, W_mif, W_kchn, W_neg, W_inst, W_it, W_rng, W_zip, W_tup, W_lst, W_rev, W_pt0, W_pt1, W_sl, W_lset, W_cnt, W_lzip, W_app, W_ext, W_ins, W_get2, W_kg2, W_kg1, W_B1, W_B2, W_cal, W_cons, W_nil, V_gt, V_lt, V_le, V_ge, V_mod, V_fdiv, V_add, V_sub, V_mul, V_pow, V_int, V_lenL, V_lenT, List.map_cons, List.map_nil, List.cons_append, List.nil_append, List.length_cons, List.length_nil, List.replicate, List.getElem?_cons_zero, List.getElem?_cons_succ, Option.some.injEq, exists_eq_left', List.set_cons_zero, List.set_cons_succ, Nat.reduceAdd, Nat.reduceLT, Nat.reduceSub, true_and, Nat.zero_lt_succ, List.length_map, decide_eq_true_eq]
        by_cases hd0 : (0 : Int) < (d : Int)
        · rw [if_pos (by simpa using hd0)]
          refine ⟨?_, by trivial⟩
          unfold fits
          rw [decide_eq_true (by omega : 0 < d), Bool.true_or]
        · rw [if_neg (by simpa using hd0)]
          refine ⟨_, g2, ?_⟩
          unfold sgI
          rw [V_ixT (x := .int p.2) rfl]
          refine (V_eq fit_int fit_int).mpr ⟨?_, by trivial⟩
          unfold fits
          rw [decide_eq_false (by omega : ¬ 0 < d), Bool.false_or]
          show ((p.2 : Int) == 0) = _
          rw [Bool.eq_iff_iff]
          simp
      refine c1.mono fun b s2 ⟨e1, e2⟩ => ?_
      subst e2
      cases b with
      | true =>
        rw [if_pos rfl, W_var]
        refine ⟨_, g2, rfl, ?_⟩
        rw [tk, ← e1, if_pos rfl, List.map_append]
        rfl
      | false =>
        rw [if_neg Bool.false_ne_true]
        refine ⟨rfl, ?_⟩
        rw [tk, ← e1, if_neg Bool.false_ne_true, List.append_nil]
  · rintro ys s' ⟨rfl, rfl⟩
    rw [W_mk]
    have e : sg.take ((sg.map sgI).map Val.d).length = sg := by
      rw [List.length_map, List.length_map, List.take_length]
    rw [e]
    exact r

theorem w_rcond {ks : List Str} (hu : ∀ x ∈ ks, x ∈ unks) {d : Nat} {B : Nat} {c : Cell} (h : TapeOk B c) (hB : B + 200 < 2 ^ 40) {ρ : Ev.Env} (h0 : ρ[0]? = some (some (Val.loc 0))) (h2 : ρ[2]? = some (some (Val.d (.int (d : Int))))) (h3 : ρ[3]? = some (some (Val.loc 1))) :
    W (kAnd (kCmp .ne (mVar 3) (mLst false (mNil))) (kOr (kCmp .eq (mVar 2) (mC (.int 0))) (kCmp .gt (mCal false (c__law_draw) (mCons (mVar 0) (mCons (mC (.int 3)) (mNil)))) (mC (.int 0)))) ρ) [c, known ks] fun b s => ∃ c', s = [c', known ks] ∧ TapeOk (B + 1) c' ∧ (b = true → ks ≠ []) := by
  rw [W_kand, W_kcmp, W_var]
  refine ⟨_, h3, ?_⟩
  try simp only [WS_seq, WS_if, WS_nm, WS_tp, WS_ret, WS_exp, WS_put, WS_nx, W_kcmp, W_mcmp, W_ix, W_dix, W_var, W_C, W_Str, W_Int, W_Dsp, W_bin, W_ktr, W_knt, W_kand, W_kor, W_mnt, W_mand, W_mor, W_mif, W_kchn, W_neg, W_inst, W_it, W_rng, W_zip, W_tup, W_lst, W_rev, W_pt0, W_pt1, W_sl, W_lset, W_cnt, W_lzip, W_app, W_ext, W_ins, W_get2, W_kg2, W_kg1, W_B1, W_B2, W_cal, W_cons, W_nil, V_gt, V_lt, V_le, V_ge, V_mod, V_fdiv, V_add, V_sub, V_mul, V_pow, V_int, V_lenL, V_lenT, List.map_cons, List.map_nil, List.cons_append, List.nil_append, List.length_cons, List.length_nil, List.replicate, List.getElem?_cons_zero, List.getElem?_cons_succ, Option.some.injEq, exists_eq_left', List.set_cons_zero, List.set_cons_succ, Nat.reduceAdd, Nat.reduceLT, Nat.reduceSub, true_and, Nat.zero_lt_succ, List.length_map, decide_eq_true_eq]
  rw [if_pos (by decide)]
  refine (W_mk (ds := [])).mpr ?_
  rw [V_neLoc (es := ks.map D.str) rfl (fit_strs fun x hx => strOk_mem unks_ok (hu x hx)) (by decide)]
  have kq : (!deq (.lst (ks.map D.str)) (.lst [])) = decide (ks ≠ []) := by
    cases ks <;> rfl
  rw [kq]
  by_cases hk : ks = []
  · rw [if_neg (by simp [hk])]
    exact ⟨c, rfl, h.mono (by omega), fun z => by cases z⟩
  · rw [if_pos (by simp [hk])]
    refine ⟨_, h2, ?_⟩
    refine (V_eq fit_int fit_int).mpr ?_
    split
    · exact ⟨c, rfl, h.mono (by omega), fun _ => hk⟩
    · refine ⟨_, h0, ?_⟩
      try simp only [WS_seq, WS_if, WS_nm, WS_tp, WS_ret, WS_exp, WS_put, WS_nx, W_kcmp, W_mcmp, W_ix, W_dix, W_var, W_C, W_Str, W_Int, W_Dsp, W_bin, W_ktr, W_knt, W_kand, W_kor, W_mnt, W_mand, W_mor, W_mif, W_kchn, W_neg, W_inst, W_it, W_rng, W_zip, W_tup, W_lst, W_rev, W_pt0, W_pt1, W_sl, W_lset, W_cnt, W_lzip, W_app, W_ext, W_ins, W_get2, W_kg2, W_kg1, W_B1, W_B2, W_cal, W_cons, W_nil, V_gt, V_lt, V_le, V_ge, V_mod, V_fdiv, V_add, V_sub, V_mul, V_pow, V_int, V_lenL, V_lenT, List.map_cons, List.map_nil, List.cons_append, List.nil_append, List.length_cons, List.length_nil, List.replicate, List.getElem?_cons_zero, List.getElem?_cons_succ, Option.some.injEq, exists_eq_left', List.set_cons_zero, List.set_cons_succ, Nat.reduceAdd, Nat.reduceLT, Nat.reduceSub, true_and, Nat.zero_lt_succ, List.length_map, decide_eq_true_eq]
      refine call_draw rfl h (by omega) (by decide) (by decide) fun k2 c2 g3 g4 t2 => ?_
      try simp only [WS_seq, WS_if, WS_nm, WS_tp, WS_ret, WS_exp, WS_put, WS_nx, W_kcmp, W_mcmp, W_ix, W_dix, W_var, W_C, W_Str, W_Int, W_Dsp, W_bin, W_ktr, W_knt, W_kand, W_kor, W_mnt, W_mand, W_mor, W_mif, W_kchn, W_neg, W_inst, W_it, W_rng, W_zip, W_tup, W_lst, W_rev, W_pt0, W_pt1, W_sl, W_lset, W_cnt, W_lzip, W_app, W_ext, W_ins, W_get2, W_kg2, W_kg1, W_B1, W_B2, W_cal, W_cons, W_nil, V_gt, V_lt, V_le, V_ge, V_mod, V_fdiv, V_add, V_sub, V_mul, V_pow, V_int, V_lenL, V_lenT, List.map_cons, List.map_nil, List.cons_append, List.nil_append, List.length_cons, List.length_nil, List.replicate, List.getElem?_cons_zero, List.getElem?_cons_succ, Option.some.injEq, exists_eq_left', List.set_cons_zero, List.set_cons_succ, Nat.reduceAdd, Nat.reduceLT, Nat.reduceSub, true_and, Nat.zero_lt_succ, List.length_map, decide_eq_true_eq]
      exact ⟨c2, rfl, t2, fun _ => hk⟩

theorem w_rstep {sg : List (Str × Nat)} (hsg : SgOk sg) {ks : List Str} (hu : ∀ x ∈ ks, x ∈ unks) (hk : ks.length ≤ 4) {d b : Nat} {self : List Val → M Val} (H : Nat) (hb : b ≤ 20)
    (rec : 0 < d → ∀ {B : Nat} {c : Cell}, TapeOk B c → B + H < 2 ^ 40 → W (self [.loc 0, .d (sgD sg), .d (.int ((d : Int) - 1)), .loc 1]) [c, known ks] fun v s => ∃ p c' g, v = .d p ∧ s = c' :: known ks :: g ∧ PatOk (sg.map (·.1)) d p ∧ TapeOk (B + b) c') {B : Nat} {c : Cell} (h : TapeOk B c) (hB : B + (H + 300) < 2 ^ 40) :
    W (bodyM 9 (m__law_right self) [.loc 0, .d (sgD sg), .d (.int d), .loc 1]) [c, known ks] fun v s => ∃ p c' g, v = .d p ∧ s = c' :: known ks :: g ∧ PatOk (sg.map (·.1)) (d + 1) p ∧ TapeOk (B + (2 + 2 * b)) c' := by
  rw [W_body]
  unfold m__law_right
  rw [WS_seq, WS_if]
  refine (w_rcond hu (d := _) h (by omega) rfl rfl rfl).mono ?_
  rintro b s ⟨c1, rfl, t1, hb'⟩
  cases b with
  | true =>
    have kp : 0 < ks.length := List.length_pos_iff.mpr (hb' rfl)
    rw [if_pos rfl]
    try simp only [WS_seq, WS_if, WS_nm, WS_tp, WS_ret, WS_exp, WS_put, WS_nx, W_kcmp, W_mcmp, W_ix, W_dix, W_var, W_C, W_Str, W_Int, W_Dsp, W_bin, W_ktr, W_knt, W_kand, W_kor, W_mnt, W_mand, W_mor, W_mif, W_kchn, W_neg, W_inst, W_it, W_rng, W_zip, W_tup, W_lst, W_rev, W_pt0, W_pt1, W_sl, W_lset, W_cnt, W_lzip, W_app, W_ext, W_ins, W_get2, W_kg2, W_kg1, W_B1, W_B2, W_cal, W_cons, W_nil, V_gt, V_lt, V_le, V_ge, V_mod, V_fdiv, V_add, V_sub, V_mul, V_pow, V_int, V_lenL, V_lenT, List.map_cons, List.map_nil, List.cons_append, List.nil_append, List.length_cons, List.length_nil, List.replicate, List.getElem?_cons_zero, List.getElem?_cons_succ, Option.some.injEq, exists_eq_left', List.set_cons_zero, List.set_cons_succ, Nat.reduceAdd, Nat.reduceLT, Nat.reduceSub, true_and, Nat.zero_lt_succ, List.length_map, decide_eq_true_eq]
    rw [V_lenLoc (vs := (ks.map D.str).map Val.d) rfl]
    simp only [List.length_map]
    refine call_draw rfl t1 (by omega) (by omega) (by omega) fun k2 c2 g3 g4 t2 => ?_
    have lt : k2.toNat < ks.length := by omega
    have at' : L2.atI ((ks.map D.str).map Val.d) k2 = some (.d (.str ks[k2.toNat])) := by
      rw [List.map_map]
      unfold L2.atI L2.ixN
      rw [if_pos g3, if_pos (by rw [List.length_map]; omega)]
      simp only [Option.bind_some]
      rw [List.getElem?_map, List.getElem?_eq_getElem lt]
      rfl
    rw [V_ixLoc (vs := (ks.map D.str).map Val.d) rfl at']
    exact ⟨_, c2, [], rfl, rfl, .unk (hu _ (List.getElem_mem lt)) _, t2.mono (by omega)⟩
  | false =>
    rw [if_neg Bool.false_ne_true, WS_nx]
    simp only
    rw [WS_seq, WS_nm]
    refine w_some hsg (d := d) (show 7 < 9 from by decide) rfl (by decide) rfl ?_
    refine ⟨by show 4 < 9; decide, ?_⟩
    try simp only [WS_seq, WS_if, WS_nm, WS_tp, WS_ret, WS_exp, WS_put, WS_nx, W_kcmp, W_mcmp, W_ix, W_dix, W_var, W_C, W_Str, W_Int, W_Dsp, W_bin, W_ktr, W_knt, W_kand, W_kor, W_mnt, W_mand, W_mor, W_mif, W_kchn, W_neg, W_inst, W_it, W_rng, W_zip, W_tup, W_lst, W_rev, W_pt0, W_pt1, W_sl, W_lset, W_cnt, W_lzip, W_app, W_ext, W_ins, W_get2, W_kg2, W_kg1, W_B1, W_B2, W_cal, W_cons, W_nil, V_gt, V_lt, V_le, V_ge, V_mod, V_fdiv, V_add, V_sub, V_mul, V_pow, V_int, V_lenL, V_lenT, List.map_cons, List.map_nil, List.cons_append, List.nil_append, List.length_cons, List.length_nil, List.replicate, List.getElem?_cons_zero, List.getElem?_cons_succ, Option.some.injEq, exists_eq_left', List.set_cons_zero, List.set_cons_succ, Nat.reduceAdd, Nat.reduceLT, Nat.reduceSub, true_and, Nat.zero_lt_succ, List.length_map, decide_eq_true_eq]
    refine call_draw rfl t1 (by omega) (by have := fits_some hsg d; omega) (by have := hsg.hi; have := List.length_filter_le (fits d) sg; omega) fun k2 c2 g3 g4 t2 => ?_
    refine pick_sgL g3 g4 fun p hp => ?_
    refine ⟨_, rfl, ?_⟩
    try simp only [WS_seq, WS_if, WS_nm, WS_tp, WS_ret, WS_exp, WS_put, WS_nx, W_kcmp, W_mcmp, W_ix, W_dix, W_var, W_C, W_Str, W_Int, W_Dsp, W_bin, W_ktr, W_knt, W_kand, W_kor, W_mnt, W_mand, W_mor, W_mif, W_kchn, W_neg, W_inst, W_it, W_rng, W_zip, W_tup, W_lst, W_rev, W_pt0, W_pt1, W_sl, W_lset, W_cnt, W_lzip, W_app, W_ext, W_ins, W_get2, W_kg2, W_kg1, W_B1, W_B2, W_cal, W_cons, W_nil, V_gt, V_lt, V_le, V_ge, V_mod, V_fdiv, V_add, V_sub, V_mul, V_pow, V_int, V_lenL, V_lenT, List.map_cons, List.map_nil, List.cons_append, List.nil_append, List.length_cons, List.length_nil, List.replicate, List.getElem?_cons_zero, List.getElem?_cons_succ, Option.some.injEq, exists_eq_left', List.set_cons_zero, List.set_cons_succ, Nat.reduceAdd, Nat.reduceLT, Nat.reduceSub, true_and, Nat.zero_lt_succ, List.length_map, decide_eq_true_eq]
    refine (W_datas (ds := [.str p.1])).mpr ?_
    rw [if_pos (by show 1 ≤ lineLen; decide), W_pure]
    have hp' := List.mem_filter.mp hp
    have ha := hsg.ar p hp'.1
    refine W_lc ?_
    try simp only [WS_seq, WS_if, WS_nm, WS_tp, WS_ret, WS_exp, WS_put, WS_nx, W_kcmp, W_mcmp, W_ix, W_dix, W_var, W_C, W_Str, W_Int, W_Dsp, W_bin, W_ktr, W_knt, W_kand, W_kor, W_mnt, W_mand, W_mor, W_mif, W_kchn, W_neg, W_inst, W_it, W_rng, W_zip, W_tup, W_lst, W_rev, W_pt0, W_pt1, W_sl, W_lset, W_cnt, W_lzip, W_app, W_ext, W_ins, W_get2, W_kg2, W_kg1, W_B1, W_B2, W_cal, W_cons, W_nil, V_gt, V_lt, V_le, V_ge, V_mod, V_fdiv, V_add, V_sub, V_mul, V_pow, V_int, V_lenL, V_lenT, List.map_cons, List.map_nil, List.cons_append, List.nil_append, List.length_cons, List.length_nil, List.replicate, List.getElem?_cons_zero, List.getElem?_cons_succ, Option.some.injEq, exists_eq_left', List.set_cons_zero, List.set_cons_succ, Nat.reduceAdd, Nat.reduceLT, Nat.reduceSub, true_and, Nat.zero_lt_succ, List.length_map, decide_eq_true_eq]
    refine W_rngN (by omega) ⟨by rw [up_len]; unfold lineLen; omega, fun i ys s => ∃ ci cs, s = [ci, known ks] ∧ TapeOk (B + 2 + i * b) ci ∧ ys = cs.map Val.d ∧ cs.length = i ∧ ∀ e ∈ cs, PatOk (sg.map (·.1)) d e, ⟨c2, [], rfl, by simpa using t2, rfl, rfl, fun _ z => (by cases z)⟩, ?_, ?_⟩
    · rintro i v ys s hv ⟨ci, cs, rfl, ti, rfl, lc, mc⟩
      obtain ⟨hi, rfl⟩ := up_at hv
      have d0 : 0 < d := by
        rcases Nat.eq_zero_or_pos d with z | z
        · have q := hp'.2
          rw [z] at q
          unfold fits at q
          simp at q
          omega
        · exact z
      refine ⟨_, rfl, ?_⟩
      show W (M.pure true) _ _
      rw [W_pure, if_pos rfl]
      try simp only [WS_seq, WS_if, WS_nm, WS_tp, WS_ret, WS_exp, WS_put, WS_nx, W_kcmp, W_mcmp, W_ix, W_dix, W_var, W_C, W_Str, W_Int, W_Dsp, W_bin, W_ktr, W_knt, W_kand, W_kor, W_mnt, W_mand, W_mor, W_mif, W_kchn, W_neg, W_inst, W_it, W_rng, W_zip, W_tup, W_lst, W_rev, W_pt0, W_pt1, W_sl, W_lset, W_cnt, W_lzip, W_app, W_ext, W_ins, W_get2, W_kg2, W_kg1, W_B1, W_B2, W_cal, W_cons, W_nil, V_gt, V_lt, V_le, V_ge, V_mod, V_fdiv, V_add, V_sub, V_mul, V_pow, V_int, V_lenL, V_lenT, List.map_cons, List.map_nil, List.cons_append, List.nil_append, List.length_cons, List.length_nil, List.replicate, List.getElem?_cons_zero, List.getElem?_cons_succ, Option.some.injEq, exists_eq_left', List.set_cons_zero, List.set_cons_succ, Nat.reduceAdd, Nat.reduceLT, Nat.reduceSub, true_and, Nat.zero_lt_succ, List.length_map, decide_eq_true_eq,  wipeE]
      have ib : i * b ≤ 1 * 20 := Nat.mul_le_mul (by omega) hb
      refine W_sub2 (t := 0) (u := 1) (c := ci) (e := known ks) (sgD sg) (.int ((d : Int) - 1)) rfl rfl (by decide) ti.cl (known_cl _) ?_
      refine (rec d0 ti (by omega)).mono fun v s' ⟨q, c3, g, e1, e2, pq, t3⟩ => ?_
      refine ⟨q, c3, known ks, g, .inl e1, e2, t3.cl, known_cl _, ?_⟩
      refine ⟨c3, cs ++ [q], rfl, t3.mono (by rw [Nat.add_mul]; omega), by simp, by simp [lc], fun e he => ?_⟩
      rcases List.mem_append.mp he with z | z
      · exact mc e z
      · simp at z; rw [z]; exact pq
    · rintro ys s ⟨ci, cs, rfl, ti, rfl, lc, mc⟩
      rw [up_len] at lc ti
      rw [W_mk, V_tupL]
      show W (if ([D.str p.1] : List D).length + cs.length ≤ lineLen then M.pure (Val.d (.tup ([D.str p.1] ++ cs))) else M.bad) _ _
      rw [if_pos (by show 1 + cs.length ≤ lineLen; unfold lineLen; omega)]
      have ib : p.2 * b ≤ 2 * b := Nat.mul_le_mul ha (Nat.le_refl _)
      exact ⟨_, ci, [], rfl, rfl, .inr ⟨p.1, cs, rfl, List.mem_map.mpr ⟨p, hp'.1, rfl⟩, by omega, mc⟩, ti.mono (by omega)⟩
theorem w_right {sg : List (Str × Nat)} (hsg : SgOk sg) {ks : List Str} (hu : ∀ x ∈ ks, x ∈ unks) (hk : ks.length ≤ 4) {f B : Nat} {c : Cell} (h : TapeOk B c) (hB : B + 2000 < 2 ^ 40) :
    W (c__law_right (f + 3) [.loc 0, .d (sgD sg), .d (.int 2), .loc 1]) [c, known ks] fun v s => ∃ p c' g, v = .d p ∧ s = c' :: known ks :: g ∧ PatOk (sg.map (·.1)) 3 p ∧ TapeOk (B + 14) c' :=
  w_rstep hsg hu hk (d := 2) (b := 6) 800 (by decide) (fun _ {B c} h hB => w_rstep hsg hu hk (d := 1) (b := 2) 500 (by decide) (fun _ {B c} h hB => w_rstep hsg hu hk (d := 0) (b := 0) 200 (by decide) (fun z => by cases z) h (by omega)) h (by omega)) h (by omega)
end My
set_option maxRecDepth 100000
set_option maxHeartbeats 8000000
namespace My
open Ev PySem

/-! rules -/
def RuleOk (N : List Str) (d : D) : Prop := ∃ n l r, d = .tup [.str n, l, r] ∧ n ∈ nms ∧ PatOk N 2 l ∧ PatOk N 3 r
def RulesOk (N : List Str) (rs : List D) : Prop := rs.length ≤ 3 ∧ ∀ r ∈ rs, RuleOk N r
theorem at_end {s : Store} {c : Cell} {n : Nat} (h : s.length = n) : (s ++ [c])[n]? = some c := by
  subst h
  simp
theorem w_rules {sg : List (Str × Nat)} (hsg : SgOk sg) {B : Nat} {c : Cell} (h : TapeOk B c) (hB : B + 3000 < 2 ^ 40) :
    W (c__law_rules [.loc 0, .d (sgD sg)]) [c] fun v s => ∃ rs c' g, v = .d (.tup rs) ∧ s = c' :: g ∧ RulesOk (sg.map (·.1)) rs ∧ TapeOk (B + 100) c' := by
  unfold c__law_rules
  rw [W_body]
  unfold m__law_rules
  try simp only [WS_seq, WS_if, WS_nm, WS_tp, WS_ret, WS_exp, WS_put, WS_nx, W_kcmp, W_mcmp, W_ix, W_dix, W_var, W_C, W_Str, W_Int, W_Dsp, W_bin, W_ktr, W_knt, W_kand, W_kor, W_mnt, W_mand, W_mor, W_mif, W_kchn, W_neg, W_inst, W_it, W_rng, W_zip, W_tup, W_lst, W_rev, W_pt0, W_pt1, W_sl, W_lset, W_cnt, W_lzip, W_app, W_ext, W_ins, W_get2, W_kg2, W_kg1, W_B1, W_B2, W_cal, W_cons, W_nil, V_gt, V_lt, V_le, V_ge, V_mod, V_fdiv, V_add, V_sub, V_mul, V_pow, V_int, V_lenL, V_lenT, List.map_cons, List.map_nil, List.cons_append, List.nil_append, List.length_cons, List.length_nil, List.replicate, List.getElem?_cons_zero, List.getElem?_cons_succ, Option.some.injEq, exists_eq_left', List.set_cons_zero, List.set_cons_succ, Nat.reduceAdd, Nat.reduceLT, Nat.reduceSub, true_and, Nat.zero_lt_succ, List.length_map, decide_eq_true_eq]
  rw [if_pos (by decide), W_mkT]
  try simp only [WS_seq, WS_if, WS_nm, WS_tp, WS_ret, WS_exp, WS_put, WS_nx, W_kcmp, W_mcmp, W_ix, W_dix, W_var, W_C, W_Str, W_Int, W_Dsp, W_bin, W_ktr, W_knt, W_kand, W_kor, W_mnt, W_mand, W_mor, W_mif, W_kchn, W_neg, W_inst, W_it, W_rng, W_zip, W_tup, W_lst, W_rev, W_pt0, W_pt1, W_sl, W_lset, W_cnt, W_lzip, W_app, W_ext, W_ins, W_get2, W_kg2, W_kg1, W_B1, W_B2, W_cal, W_cons, W_nil, V_gt, V_lt, V_le, V_ge, V_mod, V_fdiv, V_add, V_sub, V_mul, V_pow, V_int, V_lenL, V_lenT, List.map_cons, List.map_nil, List.cons_append, List.nil_append, List.length_cons, List.length_nil, List.replicate, List.getElem?_cons_zero, List.getElem?_cons_succ, Option.some.injEq, exists_eq_left', List.set_cons_zero, List.set_cons_succ, Nat.reduceAdd, Nat.reduceLT, Nat.reduceSub, true_and, Nat.zero_lt_succ, List.length_map, decide_eq_true_eq]
  refine WS_for ?_
  try simp only [WS_seq, WS_if, WS_nm, WS_tp, WS_ret, WS_exp, WS_put, WS_nx, W_kcmp, W_mcmp, W_ix, W_dix, W_var, W_C, W_Str, W_Int, W_Dsp, W_bin, W_ktr, W_knt, W_kand, W_kor, W_mnt, W_mand, W_mor, W_mif, W_kchn, W_neg, W_inst, W_it, W_rng, W_zip, W_tup, W_lst, W_rev, W_pt0, W_pt1, W_sl, W_lset, W_cnt, W_lzip, W_app, W_ext, W_ins, W_get2, W_kg2, W_kg1, W_B1, W_B2, W_cal, W_cons, W_nil, V_gt, V_lt, V_le, V_ge, V_mod, V_fdiv, V_add, V_sub, V_mul, V_pow, V_int, V_lenL, V_lenT, List.map_cons, List.map_nil, List.cons_append, List.nil_append, List.length_cons, List.length_nil, List.replicate, List.getElem?_cons_zero, List.getElem?_cons_succ, Option.some.injEq, exists_eq_left', List.set_cons_zero, List.set_cons_succ, Nat.reduceAdd, Nat.reduceLT, Nat.reduceSub, true_and, Nat.zero_lt_succ, List.length_map, decide_eq_true_eq]
  refine W_lstD (ds := [.int 1, .int 2, .int 2, .int 3, .int 0]) (by decide) ?_
  refine call_draw rfl h (by omega) (by decide) (by decide) fun k1 c1 g1 g2 t1 => ?_
  refine pick_ints (ns := [1, 2, 2, 3, 0]) g1 g2 fun m hm => ?_
  obtain ⟨n, rfl, n3⟩ : ∃ n : Nat, m = n ∧ n ≤ 3 := by
    simp at hm
    rcases hm with rfl | rfl | rfl | rfl
    · exact ⟨1, rfl, by decide⟩
    · exact ⟨2, rfl, by decide⟩
    · exact ⟨3, rfl, by decide⟩
    · exact ⟨0, rfl, by decide⟩
  refine call_names rfl t1 (by omega) (by omega) fun xs c2 hl hm t2 => ?_
  try simp only [WS_seq, WS_if, WS_nm, WS_tp, WS_ret, WS_exp, WS_put, WS_nx, W_kcmp, W_mcmp, W_ix, W_dix, W_var, W_C, W_Str, W_Int, W_Dsp, W_bin, W_ktr, W_knt, W_kand, W_kor, W_mnt, W_mand, W_mor, W_mif, W_kchn, W_neg, W_inst, W_it, W_rng, W_zip, W_tup, W_lst, W_rev, W_pt0, W_pt1, W_sl, W_lset, W_cnt, W_lzip, W_app, W_ext, W_ins, W_get2, W_kg2, W_kg1, W_B1, W_B2, W_cal, W_cons, W_nil, V_gt, V_lt, V_le, V_ge, V_mod, V_fdiv, V_add, V_sub, V_mul, V_pow, V_int, V_lenL, V_lenT, List.map_cons, List.map_nil, List.cons_append, List.nil_append, List.length_cons, List.length_nil, List.replicate, List.getElem?_cons_zero, List.getElem?_cons_succ, Option.some.injEq, exists_eq_left', List.set_cons_zero, List.set_cons_succ, Nat.reduceAdd, Nat.reduceLT, Nat.reduceSub, true_and, Nat.zero_lt_succ, List.length_map, decide_eq_true_eq,  V_ivL]
  refine ⟨fun i ρ s => ∃ ci rs g o3 o4 o5, s = ci :: .lst (rs.map Val.d) :: g ∧ TapeOk (B + 3 + i * 19) ci ∧ ρ = [some (.loc 0), some (.d (sgD sg)), some (.loc 1), o3, o4, o5] ∧ rs.length = i ∧ (∀ r ∈ rs, RuleOk (sg.map (·.1)) r),
    ⟨c2, [], [], none, none, none, rfl, t2, rfl, rfl, fun _ z => (by cases z)⟩, ?_, ?_⟩
  · rintro i v ρ s hv ⟨ci, rs, g, o3, o4, o5, rfl, ti, rfl, lr, mr⟩
    have hi : i < n := by
      have := (List.getElem?_eq_some_iff.mp hv).1
      simpa [hl] using this
    obtain ⟨x, rfl, mx⟩ : ∃ x, v = .d (.str x) ∧ x ∈ nms := by
      rw [List.map_map, List.getElem?_map] at hv
      cases e : xs[i]? with
      | none => rw [e] at hv; cases hv
      | some x => rw [e] at hv; cases hv; exact ⟨x, rfl, hm x (List.mem_of_getElem? e)⟩
    refine ⟨_, rfl, ?_⟩
    try simp only [WS_seq, WS_if, WS_nm, WS_tp, WS_ret, WS_exp, WS_put, WS_nx, W_kcmp, W_mcmp, W_ix, W_dix, W_var, W_C, W_Str, W_Int, W_Dsp, W_bin, W_ktr, W_knt, W_kand, W_kor, W_mnt, W_mand, W_mor, W_mif, W_kchn, W_neg, W_inst, W_it, W_rng, W_zip, W_tup, W_lst, W_rev, W_pt0, W_pt1, W_sl, W_lset, W_cnt, W_lzip, W_app, W_ext, W_ins, W_get2, W_kg2, W_kg1, W_B1, W_B2, W_cal, W_cons, W_nil, V_gt, V_lt, V_le, V_ge, V_mod, V_fdiv, V_add, V_sub, V_mul, V_pow, V_int, V_lenL, V_lenT, List.map_cons, List.map_nil, List.cons_append, List.nil_append, List.length_cons, List.length_nil, List.replicate, List.getElem?_cons_zero, List.getElem?_cons_succ, Option.some.injEq, exists_eq_left', List.set_cons_zero, List.set_cons_succ, Nat.reduceAdd, Nat.reduceLT, Nat.reduceSub, true_and, Nat.zero_lt_succ, List.length_map, decide_eq_true_eq]
    rw [if_pos (by decide), W_mkT]
    try simp only [WS_seq, WS_if, WS_nm, WS_tp, WS_ret, WS_exp, WS_put, WS_nx, W_kcmp, W_mcmp, W_ix, W_dix, W_var, W_C, W_Str, W_Int, W_Dsp, W_bin, W_ktr, W_knt, W_kand, W_kor, W_mnt, W_mand, W_mor, W_mif, W_kchn, W_neg, W_inst, W_it, W_rng, W_zip, W_tup, W_lst, W_rev, W_pt0, W_pt1, W_sl, W_lset, W_cnt, W_lzip, W_app, W_ext, W_ins, W_get2, W_kg2, W_kg1, W_B1, W_B2, W_cal, W_cons, W_nil, V_gt, V_lt, V_le, V_ge, V_mod, V_fdiv, V_add, V_sub, V_mul, V_pow, V_int, V_lenL, V_lenT, List.map_cons, List.map_nil, List.cons_append, List.nil_append, List.length_cons, List.length_nil, List.replicate, List.getElem?_cons_zero, List.getElem?_cons_succ, Option.some.injEq, exists_eq_left', List.set_cons_zero, List.set_cons_succ, Nat.reduceAdd, Nat.reduceLT, Nat.reduceSub, true_and, Nat.zero_lt_succ, List.length_map, decide_eq_true_eq]
    have iB : i * 19 ≤ 2 * 19 := Nat.mul_le_mul (by omega) (Nat.le_refl _)
    refine W_sub2 (t := 0) (u := (ci :: .lst (rs.map Val.d) :: g).length) (c := ci) (e := known []) (sgD sg) (.int 1) rfl (by rw [← List.cons_append, ← List.cons_append]; exact at_end rfl) (by simp) ti.cl (known_cl _) ?_
    refine (w_left1 hsg (f := 10) ti (by omega)).mono fun v s' ⟨l, c3, ks, g3, e1, e2, pl, t3, hu, lk⟩ => ?_
    refine ⟨l, c3, known ks, g3, .inl e1, e2, t3.cl, known_cl _, ?_⟩
    have e3 : ((ci :: Cell.lst (rs.map Val.d) :: (g ++ [Cell.lst []])).set 0 c3).set (ci :: Cell.lst (rs.map Val.d) :: g).length (known ks) = c3 :: .lst (rs.map Val.d) :: (g ++ [known ks]) := by simp
    rw [e3, W_isL (vs := rs.map Val.d) rfl]
    refine W_sub2 (t := 0) (u := g.length + 1 + 1) (c := c3) (e := known ks) (sgD sg) (.int 2) rfl (by rw [← List.cons_append, ← List.cons_append]; exact at_end rfl) (by simp) t3.cl (known_cl _) ?_
    refine (w_right hsg hu lk (f := 9) t3 (by omega)).mono fun v s' ⟨r, c4, g4, e5, e6, pr, t4⟩ => ?_
    refine ⟨r, c4, known ks, g4, .inl e5, e6, t4.cl, known_cl _, ?_⟩
    have e4 : ((c3 :: Cell.lst (rs.map Val.d) :: (g ++ [known ks])).set 0 c4).set (g.length + 1 + 1) (known ks) = c4 :: .lst (rs.map Val.d) :: (g ++ [known ks]) := by simp
    rw [e4]
    refine (W_datas (ds := [.str x, l, r])).mpr ?_
    rw [if_pos (by show 3 ≤ lineLen; decide), W_pure]
    rw [W_appL (vs := rs.map Val.d) rfl (by rw [List.length_map, lr]; unfold lineLen; omega)]
    refine ⟨c4, rs ++ [.tup [.str x, l, r]], g ++ [known ks], _, _, _, ?_, t4.mono (by omega), rfl, by simp [lr], fun q hq => ?_⟩
    · simp
    · rcases List.mem_append.mp hq with z | z
      · exact mr q z
      · simp at z
        exact ⟨x, l, r, z, mx, pl, pr⟩
  · rintro ρ s ⟨ci, rs, g, o3, o4, o5, rfl, ti, rfl, lr, mr⟩
    simp only [List.length_map, hl] at lr ti
    try simp only [WS_seq, WS_if, WS_nm, WS_tp, WS_ret, WS_exp, WS_put, WS_nx, W_kcmp, W_mcmp, W_ix, W_dix, W_var, W_C, W_Str, W_Int, W_Dsp, W_bin, W_ktr, W_knt, W_kand, W_kor, W_mnt, W_mand, W_mor, W_mif, W_kchn, W_neg, W_inst, W_it, W_rng, W_zip, W_tup, W_lst, W_rev, W_pt0, W_pt1, W_sl, W_lset, W_cnt, W_lzip, W_app, W_ext, W_ins, W_get2, W_kg2, W_kg1, W_B1, W_B2, W_cal, W_cons, W_nil, V_gt, V_lt, V_le, V_ge, V_mod, V_fdiv, V_add, V_sub, V_mul, V_pow, V_int, V_lenL, V_lenT, List.map_cons, List.map_nil, List.cons_append, List.nil_append, List.length_cons, List.length_nil, List.replicate, List.getElem?_cons_zero, List.getElem?_cons_succ, Option.some.injEq, exists_eq_left', List.set_cons_zero, List.set_cons_succ, Nat.reduceAdd, Nat.reduceLT, Nat.reduceSub, true_and, Nat.zero_lt_succ, List.length_map, decide_eq_true_eq]
    rw [V_tupLoc (es := rs) rfl]
    exact ⟨rs, ci, _, rfl, rfl, ⟨by omega, mr⟩, ti.mono (by omega)⟩

theorem call_rules {sg : List (Str × Nat)} (hsg : SgOk sg) {B : Nat} {c : Cell} {s : Store} {t : Nat} {R : Val → Store → Prop} (hs : s[t]? = some c) (h : TapeOk B c) (hB : B + 3000 < 2 ^ 40) (k : ∀ (rs : List D) (c' : Cell), RulesOk (sg.map (·.1)) rs → TapeOk (B + 100) c' → R (.d (.tup rs)) (s.set t c')) : W (subV false c__law_rules [.loc t, .d (sgD sg)]) s R := by
  refine W_sub1 [sgD sg] hs h.cl ((w_rules hsg h hB).mono fun v s' ⟨rs, c', g, e1, e2, ok, tk⟩ => ?_)
  exact ⟨_, c', g, .inl e1, e2, tk.cl, k rs c' ok tk⟩

/-! plans -/
def ws1 : List Str := [Str.ofString "try", Str.ofString "not", Str.ofString "again", Str.ofString "one", Str.ofString "all", Str.ofString "down", Str.ofString "up", Str.ofString "find", Str.ofString "dig"]
def ws2 : List Str := [Str.ofString "then", Str.ofString "else"]
def ws0 : List Str := [Str.ofString "stay", Str.ofString "never"]
def PlanOk (rs : List D) (op : Bool) : Nat → D → Prop
  | 0, _ => False
  | k + 1, d => (∃ w ∈ ws0, d = .tup [.str w]) ∨ (op = true ∧ d = .tup [.str (Str.ofString "any"), .str (Str.ofString "x")]) ∨ (∃ n l r, .tup [.str n, l, r] ∈ rs ∧ d = .tup [.str (Str.ofString "use"), .str n]) ∨ (∃ w ∈ ws1, ∃ e, d = .tup [.str w, e] ∧ PlanOk rs op k e) ∨ (∃ w ∈ ws2, ∃ a b, d = .tup [.str w, a, b] ∧ PlanOk rs op k a ∧ PlanOk rs op k b)
theorem PlanOk.up {rs : List D} {op : Bool} : ∀ {k : Nat} {d : D}, PlanOk rs op k d → PlanOk rs op (k + 1) d
  | 0, _, h => h.elim
  | k + 1, d, h => by
    rcases h with h | h | h | ⟨w, hw, e, he, hp⟩ | ⟨w, hw, a, b, he, ha, hb⟩
    · exact .inl h
    · exact .inr (.inl h)
    · exact .inr (.inr (.inl h))
    · exact .inr (.inr (.inr (.inl ⟨w, hw, e, he, hp.up⟩)))
    · exact .inr (.inr (.inr (.inr ⟨w, hw, a, b, he, ha.up, hb.up⟩)))
theorem PlanOk.le {rs : List D} {op : Bool} {k m : Nat} {d : D} (h : PlanOk rs op k d) (hk : k ≤ m) : PlanOk rs op m d := by
  induction hk with
  | refl => exact h
  | step _ ih => exact ih.up
theorem pick_strs {ns : List Str} {k : Int} {s : Store} {R : Val → Store → Prop} (h0 : 0 ≤ k) (h1 : k < ns.length) (r : ∀ x ∈ ns, R (.d (.str x)) s) : W (ixV (.d (.lst (ns.map .str))) (.d (.int k))) s R := by
  have lt : k.toNat < ns.length := by omega
  rw [V_ixL (atI_nat h0 (by rw [List.getElem?_map, List.getElem?_eq_getElem lt]; rfl))]
  exact r _ (List.getElem_mem lt)
theorem w_leaf {N : List Str} {rs : List D} (hr : RulesOk N rs) (hfit : (D.tup rs).fit = true) {B : Nat} {c : Cell} (h : TapeOk B c) (hB : B + 10 < 2 ^ 40) (k : Nat) :
    W (c__law_leaf [.loc 0, .d (.tup rs)]) [c] fun v s => ∃ p c' g, v = .d p ∧ s = c' :: g ∧ PlanOk rs false (k + 1) p ∧ TapeOk (B + 1) c' := by
  unfold c__law_leaf
  rw [W_body]
  unfold m__law_leaf
  try simp only [WS_seq, WS_if, WS_nm, WS_tp, WS_ret, WS_exp, WS_put, WS_nx, W_kcmp, W_mcmp, W_ix, W_dix, W_var, W_C, W_Str, W_Int, W_Dsp, W_bin, W_ktr, W_knt, W_kand, W_kor, W_mnt, W_mand, W_mor, W_mif, W_kchn, W_neg, W_inst, W_it, W_rng, W_zip, W_tup, W_lst, W_rev, W_pt0, W_pt1, W_sl, W_lset, W_cnt, W_lzip, W_app, W_ext, W_ins, W_get2, W_kg2, W_kg1, W_B1, W_B2, W_cal, W_cons, W_nil, V_gt, V_lt, V_le, V_ge, V_mod, V_fdiv, V_add, V_sub, V_mul, V_pow, V_int, V_lenL, V_lenT, List.map_cons, List.map_nil, List.cons_append, List.nil_append, List.length_cons, List.length_nil, List.replicate, List.getElem?_cons_zero, List.getElem?_cons_succ, Option.some.injEq, exists_eq_left', List.set_cons_zero, List.set_cons_succ, Nat.reduceAdd, Nat.reduceLT, Nat.reduceSub, true_and, Nat.zero_lt_succ, List.length_map, decide_eq_true_eq]
  refine call_draw rfl h (by omega) (by decide) (by decide) fun k1 c1 g1 g2 t1 => ?_
  try simp only [WS_seq, WS_if, WS_nm, WS_tp, WS_ret, WS_exp, WS_put, WS_nx, W_kcmp, W_mcmp, W_ix, W_dix, W_var, W_C, W_Str, W_Int, W_Dsp, W_bin, W_ktr, W_knt, W_kand, W_kor, W_mnt, W_mand, W_mor, W_mif, W_kchn, W_neg, W_inst, W_it, W_rng, W_zip, W_tup, W_lst, W_rev, W_pt0, W_pt1, W_sl, W_lset, W_cnt, W_lzip, W_app, W_ext, W_ins, W_get2, W_kg2, W_kg1, W_B1, W_B2, W_cal, W_cons, W_nil, V_gt, V_lt, V_le, V_ge, V_mod, V_fdiv, V_add, V_sub, V_mul, V_pow, V_int, V_lenL, V_lenT, List.map_cons, List.map_nil, List.cons_append, List.nil_append, List.length_cons, List.length_nil, List.replicate, List.getElem?_cons_zero, List.getElem?_cons_succ, Option.some.injEq, exists_eq_left', List.set_cons_zero, List.set_cons_succ, Nat.reduceAdd, Nat.reduceLT, Nat.reduceSub, true_and, Nat.zero_lt_succ, List.length_map, decide_eq_true_eq]
  have lit : ∀ c2, TapeOk (B + 1) c2 → W (if 2 ≤ lineLen then mkList false [Val.d (.str (Str.ofString "stay")), Val.d (.str (Str.ofString "never"))] else M.bad) [c2] fun x s1 => (2 : Int) ≠ 0 ∧ W (ixV x (.d (.int (k1.fmod 2)))) s1 fun v s1 => W (datas [v]) s1 fun xs s2 => W (if xs.length ≤ lineLen then M.pure (Val.d (.tup xs)) else M.bad) s2 fun v s' => ∃ p c' g, v = Val.d p ∧ s' = c' :: g ∧ PlanOk rs false (k + 1) p ∧ TapeOk (B + 1) c' := fun c2 t2 => by
    refine W_lstD (ds := ws0.map .str) (by decide) ⟨by decide, ?_⟩
    have hf := fmod_range (i := k1) (show (0 : Int) < 2 by decide)
    refine pick_strs hf.1 hf.2 fun x hx => ?_
    refine (W_datas (ds := [.str x])).mpr ?_
    rw [if_pos (by show 1 ≤ lineLen; decide), W_pure]
    exact ⟨_, c2, [], rfl, rfl, .inl ⟨x, hx, rfl⟩, t2⟩
  split
  · rw [if_pos trivial]
    exact lit c1 t1
  · refine (W_datas (ds := [])).mpr ?_
    rw [if_pos (by show 0 ≤ lineLen; decide), W_pure]
    refine (V_eq hfit (by decide)).mpr ?_
    split
    · exact lit c1 t1
    · rename_i hne
      have rl : 0 < rs.length := by
        cases rs with
        | nil => exact absurd rfl hne
        | cons r rs => simp
      have hf := fmod_range (i := k1) (show (0 : Int) < (rs.length : Nat) by omega)
      refine ⟨by omega, ?_⟩
      have lt : (k1.fmod (rs.length : Nat)).toNat < rs.length := by omega
      rw [V_ixT (atI_nat hf.1 (List.getElem?_eq_getElem lt))]
      obtain ⟨n, l, r, e, mn, pl, pr⟩ := hr.2 _ (List.getElem_mem lt)
      have me : D.tup [.str n, l, r] ∈ rs := by
        rw [← e]
        exact List.getElem_mem lt
      rw [e, V_ixT (x := .str n) rfl]
      refine (W_datas (ds := [.str (Str.ofString "use"), .str n])).mpr ?_
      rw [if_pos (by show 2 ≤ lineLen; decide), W_pure]
      exact ⟨_, c1, [], rfl, rfl, .inr (.inr (.inl ⟨n, l, r, me, rfl⟩)), t1⟩
end My
set_option maxRecDepth 100000
set_option maxHeartbeats 8000000
namespace My
open Ev PySem

theorem w_plan {N : List Str} {rs : List D} (hr : RulesOk N rs) (hfit : (D.tup rs).fit = true) : ∀ (f m : Nat), 1 ≤ m → m ≤ f → m ≤ 8 → ∀ (B : Nat) (c : Cell), TapeOk B c → B + 10 * m + 100 < 2 ^ 40 →
    W (c__law_plan f [.loc 0, .d (.tup rs), .d (.int (m : Int))]) [c] fun v s => ∃ p c' g, v = .d p ∧ s = c' :: g ∧ PlanOk rs false m p ∧ TapeOk (B + 3 * m) c'
  | 0, m, h1, h2, _ => absurd h2 (by omega)
  | f + 1, m, h1, h2, h8 => by
    intro B c h hB
    have call : ∀ (k : Nat) (B : Nat) (c : Cell) (s : Store) (R : Val → Store → Prop), 1 ≤ k → k < m → TapeOk B c → B + 10 * k + 100 < 2 ^ 40 → s[0]? = some c → (∀ p c', PlanOk rs false k p → TapeOk (B + 3 * k) c' → R (.d p) (s.set 0 c')) → W (subV false (c__law_plan f) [.loc 0, .d (.tup rs), .d (.int (k : Int))]) s R := fun k B c s R k1 k2 tk hb hs r => by
      refine W_sub1 [.tup rs, .int (k : Int)] hs tk.cl ((w_plan hr hfit f k k1 (by omega) (by omega) B c tk hb).mono fun v s' ⟨p, c', g, e1, e2, ok, t3⟩ => ?_)
      exact ⟨_, c', g, .inl e1, e2, t3.cl, r p c' ok t3⟩
    show W (bodyM 7 (m__law_plan (c__law_plan f)) _) _ _
    rw [W_body]
    unfold m__law_plan
    rw [WS_seq, WS_nm]
    try simp only [W_kcmp, W_mcmp, W_ix, W_dix, W_var, W_C, W_Str, W_Int, W_Dsp, W_bin, W_ktr, W_knt, W_mnt, W_mand, W_mor, W_mif, W_kchn, W_neg, W_inst, W_it, W_rng, W_zip, W_tup, W_lst, W_rev, W_pt0, W_pt1, W_sl, W_lset, W_cnt, W_lzip, W_app, W_ext, W_ins, W_get2, W_kg2, W_kg1, W_B1, W_B2, W_cal, W_cons, W_nil, V_gt, V_lt, V_le, V_ge, V_mod, V_fdiv, V_add, V_sub, V_mul, V_pow, V_int, V_lenL, V_lenT, List.map_cons, List.map_nil, List.cons_append, List.nil_append, List.length_cons, List.length_nil, List.replicate, List.getElem?_cons_zero, List.getElem?_cons_succ, Option.some.injEq, exists_eq_left', List.set_cons_zero, List.set_cons_succ, Nat.reduceAdd, Nat.reduceLT, Nat.reduceSub, true_and, Nat.zero_lt_succ, List.length_map]
    refine call_draw rfl h (by omega) (by decide) (by decide) fun k1 c1 g1 g2 t1 => ?_
    try simp only [W_kcmp, W_mcmp, W_ix, W_dix, W_var, W_C, W_Str, W_Int, W_Dsp, W_bin, W_ktr, W_knt, W_mnt, W_mand, W_mor, W_mif, W_kchn, W_neg, W_inst, W_it, W_rng, W_zip, W_tup, W_lst, W_rev, W_pt0, W_pt1, W_sl, W_lset, W_cnt, W_lzip, W_app, W_ext, W_ins, W_get2, W_kg2, W_kg1, W_B1, W_B2, W_cal, W_cons, W_nil, V_gt, V_lt, V_le, V_ge, V_mod, V_fdiv, V_add, V_sub, V_mul, V_pow, V_int, V_lenL, V_lenT, List.map_cons, List.map_nil, List.cons_append, List.nil_append, List.length_cons, List.length_nil, List.replicate, List.getElem?_cons_zero, List.getElem?_cons_succ, Option.some.injEq, exists_eq_left', List.set_cons_zero, List.set_cons_succ, Nat.reduceAdd, Nat.reduceLT, Nat.reduceSub, true_and, Nat.zero_lt_succ, List.length_map]
    rw [WS_seq]
    refine WS_ifb (Wb_or (Wb_eq rfl) fun _ => Wb_eq rfl) (fun _ => ?_) (fun h0 => ?_)
    · try simp only [WS_seq, WS_if, WS_nm, WS_tp, WS_ret, WS_exp, WS_put, WS_nx, W_kcmp, W_mcmp, W_ix, W_dix, W_var, W_C, W_Str, W_Int, W_Dsp, W_bin, W_ktr, W_knt, W_kand, W_kor, W_mnt, W_mand, W_mor, W_mif, W_kchn, W_neg, W_inst, W_it, W_rng, W_zip, W_tup, W_lst, W_rev, W_pt0, W_pt1, W_sl, W_lset, W_cnt, W_lzip, W_app, W_ext, W_ins, W_get2, W_kg2, W_kg1, W_B1, W_B2, W_cal, W_cons, W_nil, V_gt, V_lt, V_le, V_ge, V_mod, V_fdiv, V_add, V_sub, V_mul, V_pow, V_int, V_lenL, V_lenT, List.map_cons, List.map_nil, List.cons_append, List.nil_append, List.length_cons, List.length_nil, List.replicate, List.getElem?_cons_zero, List.getElem?_cons_succ, Option.some.injEq, exists_eq_left', List.set_cons_zero, List.set_cons_succ, Nat.reduceAdd, Nat.reduceLT, Nat.reduceSub, true_and, Nat.zero_lt_succ, List.length_map, decide_eq_true_eq]
      refine W_sub1 [.tup rs] rfl t1.cl ((w_leaf hr hfit t1 (by omega) (m - 1)).mono fun v s' ⟨p, c', g, e1, e2, ok, t3⟩ => ?_)
      refine ⟨p, c', g, .inl e1, e2, t3.cl, p, c', [], rfl, rfl, ?_, t3.mono (by omega)⟩
      have e : m - 1 + 1 = m := by omega
      rw [e] at ok
      exact ok
    · have m1 : m ≠ 1 := fun z => by subst z; simp at h0
      rw [WS_nx]
      simp only
      rw [WS_seq]
      refine WS_ifb (Wb_or (Wb_lt rfl) fun _ => Wb_eq rfl) (fun _ => ?_) (fun h3 => ?_)
      · try simp only [WS_seq, WS_if, WS_nm, WS_tp, WS_ret, WS_exp, WS_put, WS_nx, W_kcmp, W_mcmp, W_ix, W_dix, W_var, W_C, W_Str, W_Int, W_Dsp, W_bin, W_ktr, W_knt, W_kand, W_kor, W_mnt, W_mand, W_mor, W_mif, W_kchn, W_neg, W_inst, W_it, W_rng, W_zip, W_tup, W_lst, W_rev, W_pt0, W_pt1, W_sl, W_lset, W_cnt, W_lzip, W_app, W_ext, W_ins, W_get2, W_kg2, W_kg1, W_B1, W_B2, W_cal, W_cons, W_nil, V_gt, V_lt, V_le, V_ge, V_mod, V_fdiv, V_add, V_sub, V_mul, V_pow, V_int, V_lenL, V_lenT, List.map_cons, List.map_nil, List.cons_append, List.nil_append, List.length_cons, List.length_nil, List.replicate, List.getElem?_cons_zero, List.getElem?_cons_succ, Option.some.injEq, exists_eq_left', List.set_cons_zero, List.set_cons_succ, Nat.reduceAdd, Nat.reduceLT, Nat.reduceSub, true_and, Nat.zero_lt_succ, List.length_map, decide_eq_true_eq]
        refine W_lstD (ds := ws1.map .str) (by decide) ⟨by decide, ?_⟩
        have hf := fmod_range (i := k1) (show (0 : Int) < 9 by decide)
        refine pick_strs hf.1 hf.2 fun x hx => ?_
        have em : (m : Int) - 1 = ((m - 1 : Nat) : Int) := by omega
        rw [em]
        refine call (m - 1) (B + 1) c1 _ _ (by omega) (by omega) t1 (by omega) rfl fun p c' ok t3 => ?_
        refine (W_datas (ds := [.str x, p])).mpr ?_
        rw [if_pos (by show 2 ≤ lineLen; decide), W_pure]
        refine ⟨_, c', [], rfl, rfl, ?_, t3.mono (by omega)⟩
        have e : m - 1 + 1 = m := by omega
        rw [← e]
        exact .inr (.inr (.inr (.inl ⟨x, hx, p, rfl, ok⟩)))
      · have m2 : m ≠ 2 := fun z => by subst z; simp at h3
        rw [WS_nx]
        try simp only [WS_seq, WS_if, WS_nm, WS_tp, WS_ret, WS_exp, WS_put, WS_nx, W_kcmp, W_mcmp, W_ix, W_dix, W_var, W_C, W_Str, W_Int, W_Dsp, W_bin, W_ktr, W_knt, W_kand, W_kor, W_mnt, W_mand, W_mor, W_mif, W_kchn, W_neg, W_inst, W_it, W_rng, W_zip, W_tup, W_lst, W_rev, W_pt0, W_pt1, W_sl, W_lset, W_cnt, W_lzip, W_app, W_ext, W_ins, W_get2, W_kg2, W_kg1, W_B1, W_B2, W_cal, W_cons, W_nil, V_gt, V_lt, V_le, V_ge, V_mod, V_fdiv, V_add, V_sub, V_mul, V_pow, V_int, V_lenL, V_lenT, List.map_cons, List.map_nil, List.cons_append, List.nil_append, List.length_cons, List.length_nil, List.replicate, List.getElem?_cons_zero, List.getElem?_cons_succ, Option.some.injEq, exists_eq_left', List.set_cons_zero, List.set_cons_succ, Nat.reduceAdd, Nat.reduceLT, Nat.reduceSub, true_and, Nat.zero_lt_succ, List.length_map, decide_eq_true_eq]
        refine call_draw rfl t1 (by omega) (by omega) (by omega) fun k2 c2 g3 g4 t2 => ?_
        obtain ⟨j, rfl⟩ : ∃ j : Nat, k2 = j := ⟨k2.toNat, by omega⟩
        try simp only [WS_seq, WS_if, WS_nm, WS_tp, WS_ret, WS_exp, WS_put, WS_nx, W_kcmp, W_mcmp, W_ix, W_dix, W_var, W_C, W_Str, W_Int, W_Dsp, W_bin, W_ktr, W_knt, W_kand, W_kor, W_mnt, W_mand, W_mor, W_mif, W_kchn, W_neg, W_inst, W_it, W_rng, W_zip, W_tup, W_lst, W_rev, W_pt0, W_pt1, W_sl, W_lset, W_cnt, W_lzip, W_app, W_ext, W_ins, W_get2, W_kg2, W_kg1, W_B1, W_B2, W_cal, W_cons, W_nil, V_gt, V_lt, V_le, V_ge, V_mod, V_fdiv, V_add, V_sub, V_mul, V_pow, V_int, V_lenL, V_lenT, List.map_cons, List.map_nil, List.cons_append, List.nil_append, List.length_cons, List.length_nil, List.replicate, List.getElem?_cons_zero, List.getElem?_cons_succ, Option.some.injEq, exists_eq_left', List.set_cons_zero, List.set_cons_succ, Nat.reduceAdd, Nat.reduceLT, Nat.reduceSub, true_and, Nat.zero_lt_succ, List.length_map, decide_eq_true_eq]
        have e1 : (1 : Int) + (j : Int) = ((1 + j : Nat) : Int) := by omega
        rw [e1]
        refine call (1 + j) (B + 2) c2 _ _ (by omega) (by omega) t2 (by omega) rfl fun p c3 ok t3 => ?_
        refine W_lstD (ds := ws2.map .str) (by decide) ⟨by decide, ?_⟩
        have hf := fmod_range (i := k1) (show (0 : Int) < 2 by decide)
        refine pick_strs hf.1 hf.2 fun x hx => ?_
        try simp only [WS_seq, WS_if, WS_nm, WS_tp, WS_ret, WS_exp, WS_put, WS_nx, W_kcmp, W_mcmp, W_ix, W_dix, W_var, W_C, W_Str, W_Int, W_Dsp, W_bin, W_ktr, W_knt, W_kand, W_kor, W_mnt, W_mand, W_mor, W_mif, W_kchn, W_neg, W_inst, W_it, W_rng, W_zip, W_tup, W_lst, W_rev, W_pt0, W_pt1, W_sl, W_lset, W_cnt, W_lzip, W_app, W_ext, W_ins, W_get2, W_kg2, W_kg1, W_B1, W_B2, W_cal, W_cons, W_nil, V_gt, V_lt, V_le, V_ge, V_mod, V_fdiv, V_add, V_sub, V_mul, V_pow, V_int, V_lenL, V_lenT, List.map_cons, List.map_nil, List.cons_append, List.nil_append, List.length_cons, List.length_nil, List.replicate, List.getElem?_cons_zero, List.getElem?_cons_succ, Option.some.injEq, exists_eq_left', List.set_cons_zero, List.set_cons_succ, Nat.reduceAdd, Nat.reduceLT, Nat.reduceSub, true_and, Nat.zero_lt_succ, List.length_map, decide_eq_true_eq]
        have e2 : (m : Int) - 1 - ((1 + j : Nat) : Int) = ((m - 1 - (1 + j) : Nat) : Int) := by omega
        rw [e2]
        refine call (m - 1 - (1 + j)) (B + 2 + 3 * (1 + j)) c3 _ _ (by omega) (by omega) t3 (by omega) rfl fun q c4 ok2 t4 => ?_
        refine (W_datas (ds := [.str x, p, q])).mpr ?_
        rw [if_pos (by show 3 ≤ lineLen; decide), W_pure]
        refine ⟨_, c4, [], rfl, rfl, ?_, t4.mono (by omega)⟩
        have e : m - 1 + 1 = m := by omega
        rw [← e]
        exact .inr (.inr (.inr (.inr ⟨x, hx, p, q, rfl, ok.le (by omega), ok2.le (by omega)⟩)))
end My
set_option maxRecDepth 100000
set_option maxHeartbeats 8000000
namespace My
open Ev PySem

/-! trees -/
def budT (b : Nat) : Nat := 1 + 2 * b
theorem w_tstep {sg : List (Str × Nat)} (hsg : SgOk sg) {d b : Nat} {self : List Val → M Val} (H : Nat) (hb : b ≤ 100)
    (rec : 0 < d → ∀ (B : Nat) (c : Cell), TapeOk B c → B + H < 2 ^ 40 → W (self [.loc 0, .d (sgD sg), .d (.int ((d : Int) - 1))]) [c] fun v s => ∃ p c' g, v = .d p ∧ s = c' :: g ∧ PatOk (sg.map (·.1)) d p ∧ TapeOk (B + b) c') {B : Nat} {c : Cell} (h : TapeOk B c) (hB : B + (H + 300) < 2 ^ 40) :
    W (bodyM 8 (m__law_tree self) [.loc 0, .d (sgD sg), .d (.int d)]) [c] fun v s => ∃ p c' g, v = .d p ∧ s = c' :: g ∧ PatOk (sg.map (·.1)) (d + 1) p ∧ TapeOk (B + (1 + 2 * b)) c' := by
  rw [W_body]
  unfold m__law_tree
  rw [WS_seq, WS_nm]
  refine w_some hsg (d := d) (show 6 < 8 from by decide) rfl (by decide) rfl ?_
  refine ⟨by show 3 < 8; decide, ?_⟩
  try simp only [WS_seq, WS_if, WS_nm, WS_tp, WS_ret, WS_exp, WS_put, WS_nx, W_kcmp, W_mcmp, W_ix, W_dix, W_var, W_C, W_Str, W_Int, W_Dsp, W_bin, W_ktr, W_knt, W_kand, W_kor, W_mnt, W_mand, W_mor, W_mif, W_kchn, W_neg, W_inst, W_it, W_rng, W_zip, W_tup, W_lst, W_rev, W_pt0, W_pt1, W_sl, W_lset, W_cnt, W_lzip, W_app, W_ext, W_ins, W_get2, W_kg2, W_kg1, W_B1, W_B2, W_cal, W_cons, W_nil, V_gt, V_lt, V_le, V_ge, V_mod, V_fdiv, V_add, V_sub, V_mul, V_pow, V_int, V_lenL, V_lenT, List.map_cons, List.map_nil, List.cons_append, List.nil_append, List.length_cons, List.length_nil, List.replicate, List.getElem?_cons_zero, List.getElem?_cons_succ, Option.some.injEq, exists_eq_left', List.set_cons_zero, List.set_cons_succ, Nat.reduceAdd, Nat.reduceLT, Nat.reduceSub, true_and, Nat.zero_lt_succ, List.length_map, decide_eq_true_eq]
  refine call_draw rfl h (by omega) (by have := fits_some hsg d; omega) (by have := hsg.hi; have := List.length_filter_le (fits d) sg; omega) fun k2 c2 g3 g4 t2 => ?_
  refine pick_sgL g3 g4 fun p hp => ?_
  refine ⟨_, rfl, ?_⟩
  try simp only [WS_seq, WS_if, WS_nm, WS_tp, WS_ret, WS_exp, WS_put, WS_nx, W_kcmp, W_mcmp, W_ix, W_dix, W_var, W_C, W_Str, W_Int, W_Dsp, W_bin, W_ktr, W_knt, W_kand, W_kor, W_mnt, W_mand, W_mor, W_mif, W_kchn, W_neg, W_inst, W_it, W_rng, W_zip, W_tup, W_lst, W_rev, W_pt0, W_pt1, W_sl, W_lset, W_cnt, W_lzip, W_app, W_ext, W_ins, W_get2, W_kg2, W_kg1, W_B1, W_B2, W_cal, W_cons, W_nil, V_gt, V_lt, V_le, V_ge, V_mod, V_fdiv, V_add, V_sub, V_mul, V_pow, V_int, V_lenL, V_lenT, List.map_cons, List.map_nil, List.cons_append, List.nil_append, List.length_cons, List.length_nil, List.replicate, List.getElem?_cons_zero, List.getElem?_cons_succ, Option.some.injEq, exists_eq_left', List.set_cons_zero, List.set_cons_succ, Nat.reduceAdd, Nat.reduceLT, Nat.reduceSub, true_and, Nat.zero_lt_succ, List.length_map, decide_eq_true_eq]
  refine (W_datas (ds := [.str p.1])).mpr ?_
  rw [if_pos (by show 1 ≤ lineLen; decide), W_pure]
  have hp' := List.mem_filter.mp hp
  have ha := hsg.ar p hp'.1
  refine W_lc ?_
  try simp only [WS_seq, WS_if, WS_nm, WS_tp, WS_ret, WS_exp, WS_put, WS_nx, W_kcmp, W_mcmp, W_ix, W_dix, W_var, W_C, W_Str, W_Int, W_Dsp, W_bin, W_ktr, W_knt, W_kand, W_kor, W_mnt, W_mand, W_mor, W_mif, W_kchn, W_neg, W_inst, W_it, W_rng, W_zip, W_tup, W_lst, W_rev, W_pt0, W_pt1, W_sl, W_lset, W_cnt, W_lzip, W_app, W_ext, W_ins, W_get2, W_kg2, W_kg1, W_B1, W_B2, W_cal, W_cons, W_nil, V_gt, V_lt, V_le, V_ge, V_mod, V_fdiv, V_add, V_sub, V_mul, V_pow, V_int, V_lenL, V_lenT, List.map_cons, List.map_nil, List.cons_append, List.nil_append, List.length_cons, List.length_nil, List.replicate, List.getElem?_cons_zero, List.getElem?_cons_succ, Option.some.injEq, exists_eq_left', List.set_cons_zero, List.set_cons_succ, Nat.reduceAdd, Nat.reduceLT, Nat.reduceSub, true_and, Nat.zero_lt_succ, List.length_map, decide_eq_true_eq]
  refine W_rngN (by omega) ⟨by rw [up_len]; unfold lineLen; omega, fun i ys s => ∃ ci cs g, s = ci :: g ∧ TapeOk (B + 1 + i * b) ci ∧ ys = cs.map Val.d ∧ cs.length = i ∧ ∀ e ∈ cs, PatOk (sg.map (·.1)) d e, ⟨c2, [], [], rfl, by simpa using t2, rfl, rfl, fun _ z => (by cases z)⟩, ?_, ?_⟩
  · rintro i v ys s hv ⟨ci, cs, g, rfl, ti, rfl, lc, mc⟩
    obtain ⟨hi, rfl⟩ := up_at hv
    have d0 : 0 < d := by
      rcases Nat.eq_zero_or_pos d with z | z
      · have q := hp'.2
        rw [z] at q
        unfold fits at q
        simp at q
        omega
      · exact z
    refine ⟨_, rfl, ?_⟩
    show W (M.pure true) _ _
    rw [W_pure, if_pos rfl]
    try simp only [WS_seq, WS_if, WS_nm, WS_tp, WS_ret, WS_exp, WS_put, WS_nx, W_kcmp, W_mcmp, W_ix, W_dix, W_var, W_C, W_Str, W_Int, W_Dsp, W_bin, W_ktr, W_knt, W_kand, W_kor, W_mnt, W_mand, W_mor, W_mif, W_kchn, W_neg, W_inst, W_it, W_rng, W_zip, W_tup, W_lst, W_rev, W_pt0, W_pt1, W_sl, W_lset, W_cnt, W_lzip, W_app, W_ext, W_ins, W_get2, W_kg2, W_kg1, W_B1, W_B2, W_cal, W_cons, W_nil, V_gt, V_lt, V_le, V_ge, V_mod, V_fdiv, V_add, V_sub, V_mul, V_pow, V_int, V_lenL, V_lenT, List.map_cons, List.map_nil, List.cons_append, List.nil_append, List.length_cons, List.length_nil, List.replicate, List.getElem?_cons_zero, List.getElem?_cons_succ, Option.some.injEq, exists_eq_left', List.set_cons_zero, List.set_cons_succ, Nat.reduceAdd, Nat.reduceLT, Nat.reduceSub, true_and, Nat.zero_lt_succ, List.length_map, decide_eq_true_eq,  wipeE]
    have ib : i * b ≤ 1 * 100 := Nat.mul_le_mul (by omega) hb
    refine W_sub1 (t := 0) (c := ci) [sgD sg, .int ((d : Int) - 1)] rfl ti.cl ?_
    refine (rec d0 _ _ ti (by omega)).mono fun v s' ⟨q, c3, g', e1, e2, pq, t3⟩ => ?_
    refine ⟨q, c3, g', .inl e1, e2, t3.cl, ?_⟩
    refine ⟨c3, cs ++ [q], g, rfl, t3.mono (by rw [Nat.add_mul]; omega), by simp, by simp [lc], fun e he => ?_⟩
    rcases List.mem_append.mp he with z | z
    · exact mc e z
    · simp at z; rw [z]; exact pq
  · rintro ys s ⟨ci, cs, g, rfl, ti, rfl, lc, mc⟩
    rw [up_len] at lc ti
    rw [W_mk, V_tupL]
    show W (if ([D.str p.1] : List D).length + cs.length ≤ lineLen then M.pure (Val.d (.tup ([D.str p.1] ++ cs))) else M.bad) _ _
    rw [if_pos (by show 1 + cs.length ≤ lineLen; unfold lineLen; omega)]
    have ib : p.2 * b ≤ 2 * b := Nat.mul_le_mul ha (Nat.le_refl _)
    exact ⟨_, ci, g, rfl, rfl, .inr ⟨p.1, cs, rfl, List.mem_map.mpr ⟨p, hp'.1, rfl⟩, by omega, mc⟩, ti.mono (by omega)⟩
theorem w_tree {sg : List (Str × Nat)} (hsg : SgOk sg) {f B : Nat} {c : Cell} (h : TapeOk B c) (hB : B + 2000 < 2 ^ 40) :
    W (c__law_tree (f + 5) [.loc 0, .d (sgD sg), .d (.int 4)]) [c] fun v s => ∃ p c' g, v = .d p ∧ s = c' :: g ∧ PatOk (sg.map (·.1)) 5 p ∧ TapeOk (B + 31) c' :=
  w_tstep hsg (d := 4) (b := 15) 1500 (by decide) (fun _ B c h hB => w_tstep hsg (d := 3) (b := 7) 1200 (by decide) (fun _ B c h hB => w_tstep hsg (d := 2) (b := 3) 900 (by decide) (fun _ B c h hB => w_tstep hsg (d := 1) (b := 1) 600 (by decide) (fun _ B c h hB => w_tstep hsg (d := 0) (b := 0) 300 (by decide) (fun z => by cases z) h (by omega)) h (by omega)) h (by omega)) h (by omega)) h (by omega)
end My
set_option maxRecDepth 100000
set_option maxHeartbeats 8000000
namespace My
open Ev PySem

/-! marks -/
def wts : List Int := [1, 1, 2, 3, 5, 10 ^ 9, 10 ^ 9 - 1, 2]
def mkI (p : Str × Int) : D := .tup [.str p.1, .int p.2]
def mkD (mk : List (Str × Int)) : D := .tup (mk.map mkI)
structure MkOk (sg : List (Str × Nat)) (mk : List (Str × Int)) : Prop where
  nm : mk.map (·.1) = sg.map (·.1)
  wt : ∀ p ∈ mk, p.2 ∈ wts
theorem MkOk.len {sg : List (Str × Nat)} {mk : List (Str × Int)} (h : MkOk sg mk) : mk.length = sg.length := by
  have := congrArg List.length h.nm
  simpa using this
theorem w_marks {sg : List (Str × Nat)} (hsg : SgOk sg) {B : Nat} {c : Cell} (h : TapeOk B c) (hB : B + 2000 < 2 ^ 40) :
    W (c__law_marks [.loc 0, .d (sgD sg)]) [c] fun v s => ∃ mk c' g, v = .d (mkD mk) ∧ s = c' :: g ∧ MkOk sg mk ∧ TapeOk (B + 4) c' := by
  have c9 : ((0 : Int) ≤ 9 ∧ (9 : Int) ≤ 1000000 ∧ Int.natAbs 10 < 2 ^ 64) := by decide
  unfold c__law_marks
  rw [W_body]
  unfold m__law_marks
  try simp only [WS_seq, WS_if, WS_nm, WS_tp, WS_ret, WS_exp, WS_put, WS_nx, W_kcmp, W_mcmp, W_ix, W_dix, W_var, W_C, W_Str, W_Int, W_Dsp, W_bin, W_ktr, W_knt, W_kand, W_kor, W_mnt, W_mand, W_mor, W_mif, W_kchn, W_neg, W_inst, W_it, W_rng, W_zip, W_tup, W_lst, W_rev, W_pt0, W_pt1, W_sl, W_lset, W_cnt, W_lzip, W_app, W_ext, W_ins, W_get2, W_kg2, W_kg1, W_B1, W_B2, W_cal, W_cons, W_nil, V_gt, V_lt, V_le, V_ge, V_mod, V_fdiv, V_add, V_sub, V_mul, V_pow, V_int, V_lenL, V_lenT, List.map_cons, List.map_nil, List.cons_append, List.nil_append, List.length_cons, List.length_nil, List.replicate, List.getElem?_cons_zero, List.getElem?_cons_succ, Option.some.injEq, exists_eq_left', List.set_cons_zero, List.set_cons_succ, Nat.reduceAdd, Nat.reduceLT, Nat.reduceSub, true_and, Nat.zero_lt_succ, List.length_map, decide_eq_true_eq]
  refine ⟨c9, c9, ?_⟩
  refine W_lstD (ds := wts.map .int) (by decide) ?_
  try simp only [WS_seq, WS_if, WS_nm, WS_tp, WS_ret, WS_exp, WS_put, WS_nx, W_kcmp, W_mcmp, W_ix, W_dix, W_var, W_C, W_Str, W_Int, W_Dsp, W_bin, W_ktr, W_knt, W_kand, W_kor, W_mnt, W_mand, W_mor, W_mif, W_kchn, W_neg, W_inst, W_it, W_rng, W_zip, W_tup, W_lst, W_rev, W_pt0, W_pt1, W_sl, W_lset, W_cnt, W_lzip, W_app, W_ext, W_ins, W_get2, W_kg2, W_kg1, W_B1, W_B2, W_cal, W_cons, W_nil, V_gt, V_lt, V_le, V_ge, V_mod, V_fdiv, V_add, V_sub, V_mul, V_pow, V_int, V_lenL, V_lenT, List.map_cons, List.map_nil, List.cons_append, List.nil_append, List.length_cons, List.length_nil, List.replicate, List.getElem?_cons_zero, List.getElem?_cons_succ, Option.some.injEq, exists_eq_left', List.set_cons_zero, List.set_cons_succ, Nat.reduceAdd, Nat.reduceLT, Nat.reduceSub, true_and, Nat.zero_lt_succ, List.length_map, decide_eq_true_eq]
  refine W_lc ?_
  try simp only [WS_seq, WS_if, WS_nm, WS_tp, WS_ret, WS_exp, WS_put, WS_nx, W_kcmp, W_mcmp, W_ix, W_dix, W_var, W_C, W_Str, W_Int, W_Dsp, W_bin, W_ktr, W_knt, W_kand, W_kor, W_mnt, W_mand, W_mor, W_mif, W_kchn, W_neg, W_inst, W_it, W_rng, W_zip, W_tup, W_lst, W_rev, W_pt0, W_pt1, W_sl, W_lset, W_cnt, W_lzip, W_app, W_ext, W_ins, W_get2, W_kg2, W_kg1, W_B1, W_B2, W_cal, W_cons, W_nil, V_gt, V_lt, V_le, V_ge, V_mod, V_fdiv, V_add, V_sub, V_mul, V_pow, V_int, V_lenL, V_lenT, List.map_cons, List.map_nil, List.cons_append, List.nil_append, List.length_cons, List.length_nil, List.replicate, List.getElem?_cons_zero, List.getElem?_cons_succ, Option.some.injEq, exists_eq_left', List.set_cons_zero, List.set_cons_succ, Nat.reduceAdd, Nat.reduceLT, Nat.reduceSub, true_and, Nat.zero_lt_succ, List.length_map, decide_eq_true_eq]
  rw [sgD_eq, V_ivT]
  have hl := hsg.hi
  refine ⟨by rw [List.length_map, List.length_map]; unfold lineLen; omega, fun i ys s => ∃ ci mk, s = [ci] ∧ TapeOk (B + i) ci ∧ ys = (mk.map mkI).map Val.d ∧ mk.map (·.1) = (sg.take i).map (·.1) ∧ ∀ p ∈ mk, p.2 ∈ wts, ⟨c, [], rfl, h, rfl, rfl, fun _ z => by cases z⟩, ?_, ?_⟩
  · rintro i v ys s hv ⟨ci, mk, rfl, ti, rfl, nm, wt⟩
    rw [List.getElem?_map, List.getElem?_map] at hv
    cases e : sg[i]? with
    | none => rw [e] at hv; cases hv
    | some p =>
      rw [e] at hv
      cases hv
      have il := (List.getElem?_eq_some_iff.mp e).1
      refine ⟨_, rfl, ?_⟩
      show W (M.pure true) _ _
      rw [W_pure, if_pos rfl]
      try simp only [WS_seq, WS_if, WS_nm, WS_tp, WS_ret, WS_exp, WS_put, WS_nx, W_kcmp, W_mcmp, W_ix, W_dix, W_var, W_C, W_Str, W_Int, W_Dsp, W_bin, W_ktr, W_knt, W_kand, W_kor, W_mnt, W_mand, W_mor, W_mif, W_kchn, W_neg, W_inst, W_it, W_rng, W_zip, W_tup, W_lst, W_rev, W_pt0, W_pt1, W_sl, W_lset, W_cnt, W_lzip, W_app, W_ext, W_ins, W_get2, W_kg2, W_kg1, W_B1, W_B2, W_cal, W_cons, W_nil, V_gt, V_lt, V_le, V_ge, V_mod, V_fdiv, V_add, V_sub, V_mul, V_pow, V_int, V_lenL, V_lenT, List.map_cons, List.map_nil, List.cons_append, List.nil_append, List.length_cons, List.length_nil, List.replicate, List.getElem?_cons_zero, List.getElem?_cons_succ, Option.some.injEq, exists_eq_left', List.set_cons_zero, List.set_cons_succ, Nat.reduceAdd, Nat.reduceLT, Nat.reduceSub, true_and, Nat.zero_lt_succ, List.length_map, decide_eq_true_eq,  wipeE]
      refine call_draw rfl ti (by omega) (by decide) (by decide) fun k2 c3 g3 g4 t3 => ?_
      refine pick_ints (ns := wts) g3 g4 fun m hm => ?_
      refine (W_datas (ds := [.str p.1, .int m])).mpr ?_
      rw [if_pos (by show 2 ≤ lineLen; decide), W_pure]
      refine ⟨c3, mk ++ [(p.1, m)], rfl, t3, by simp [mkI], by rw [List.take_succ, e]; simp [nm], fun q hq => ?_⟩
      rcases List.mem_append.mp hq with z | z
      · exact wt q z
      · simp at z; rw [z]; exact hm
  · rintro ys s ⟨ci, mk, rfl, ti, rfl, nm, wt⟩
    simp only [List.length_map] at nm ti
    rw [List.take_length] at nm
    rw [W_mk, V_tupL]
    exact ⟨mk, ci, [], rfl, rfl, ⟨nm, wt⟩, ti.mono (by omega)⟩
theorem call_marks {sg : List (Str × Nat)} (hsg : SgOk sg) {B : Nat} {c : Cell} {s : Store} {t : Nat} {R : Val → Store → Prop} (hs : s[t]? = some c) (h : TapeOk B c) (hB : B + 2000 < 2 ^ 40) (k : ∀ (mk : List (Str × Int)) (c' : Cell), MkOk sg mk → TapeOk (B + 4) c' → R (.d (mkD mk)) (s.set t c')) : W (subV false c__law_marks [.loc t, .d (sgD sg)]) s R := by
  refine W_sub1 [sgD sg] hs h.cl ((w_marks hsg h hB).mono fun v s' ⟨mk, c', g, e1, e2, ok, tk⟩ => ?_)
  exact ⟨_, c', g, .inl e1, e2, tk.cl, k mk c' ok tk⟩

/-! bent marks -/
def atoms : List D := nms.map .str ++ [.str (Str.ofString "other"), .str (Str.ofString "1"), .non, .bl true] ++ (wts ++ [0, -1, 10 ^ 9 + 1]).map .int
def ElOk (d : D) : Prop := (∃ ys, d = .tup ys ∧ ys.length ≤ 3 ∧ ∀ y ∈ ys, y ∈ atoms) ∨ (∃ x ∈ nms, d = .str x) ∨ (∃ ys, d = .lst ys ∧ ys.length ≤ 3 ∧ ∀ y ∈ ys, y ∈ atoms)
def ThOk (d : D) : Prop := d = .non ∨ d = .str (Str.ofString "marks") ∨ ∃ xs, (d = .tup xs ∨ d = .lst xs) ∧ xs.length ≤ 9 ∧ ∀ x ∈ xs, ElOk x
theorem pick_all {ds : List D} {P : D → Prop} (hP : ∀ d ∈ ds, P d) {k : Int} {s : Store} {R : Val → Store → Prop} (h0 : 0 ≤ k) (h1 : k < ds.length) (r : ∀ x, P x → R (.d x) s) : W (ixV (.d (.lst ds)) (.d (.int k))) s R := by
  have lt : k.toNat < ds.length := by omega
  rw [V_ixL (atI_nat h0 (List.getElem?_eq_getElem lt))]
  exact r _ (hP _ (List.getElem_mem lt))
theorem V_addL {a b : List D} {s : Store} {R : Val → Store → Prop} (h : a.length + b.length ≤ lineLen) (r : R (.d (.lst (a ++ b))) s) : W (binV .add (.d (.lst a)) (.d (.lst b))) s R := by
  show W (listV (.d (.lst a)) >>= fun x => listV (.d (.lst b)) >>= fun y => if x.length + y.length ≤ lineLen then mkList false (x ++ y) else M.bad) s R
  rw [W_bind, W_listD, W_bind, W_listD, if_pos (by rw [List.length_map, List.length_map]; exact h), ← List.map_append, W_mk]
  exact r
theorem V_addT {a b : List D} {s : Store} {R : Val → Store → Prop} (h : a.length + b.length ≤ lineLen) (r : R (.d (.tup (a ++ b))) s) : W (binV .add (.d (.tup a)) (.d (.tup b))) s R := by
  show W (if a.length + b.length ≤ lineLen then M.pure (.d (.tup (a ++ b))) else M.bad) s R
  rw [if_pos h]
  exact r
theorem V_revT {a : List D} {s : Store} {R : Val → Store → Prop} (r : R (.d (.tup a.reverse)) s) : W (revV (.d (.tup a))) s R := r
theorem V_listT {a : List D} {s : Store} {R : Val → Store → Prop} (r : R (.d (.lst a)) s) : W (biV (.list false) [.d (.tup a)]) s R := by
  show W (seqV (.d (.tup a)) >>= fun vs => mkList false vs) s R
  rw [W_bind]
  show W (mkList false (a.map .d)) s R
  rw [W_mk]
  exact r
theorem mem_cut {α : Type} {xs : List α} {lo hi : Option Int} {x : α} (h : x ∈ cut xs lo hi) : x ∈ xs := List.mem_of_mem_drop (List.mem_of_mem_take h)
theorem len_cut {α : Type} (xs : List α) (lo hi : Option Int) : (cut xs lo hi).length ≤ xs.length := by
  unfold cut
  rw [List.length_take, List.length_drop]
  omega
theorem nms_atoms {x : Str} (h : x ∈ nms) : D.str x ∈ atoms := List.mem_append_left _ (List.mem_append_left _ (List.mem_map.mpr ⟨x, h, rfl⟩))
theorem wts_atoms {x : Int} (h : x ∈ wts) : D.int x ∈ atoms := List.mem_append_right _ (List.mem_map.mpr ⟨x, List.mem_append_left _ h, rfl⟩)
theorem mk_el {sg : List (Str × Nat)} (hsg : SgOk sg) {mk : List (Str × Int)} (h : MkOk sg mk) {p : Str × Int} (hp : p ∈ mk) : p.1 ∈ nms ∧ ElOk (mkI p) := by
  have hn : p.1 ∈ nms := by
    have : p.1 ∈ sg.map (·.1) := by rw [← h.nm]; exact List.mem_map.mpr ⟨p, hp, rfl⟩
    obtain ⟨q, hq, e⟩ := List.mem_map.mp this
    rw [← e]; exact hsg.nm q hq
  refine ⟨hn, .inl ⟨_, rfl, by show 2 ≤ 3; decide, fun y hy => ?_⟩⟩
  simp at hy
  rcases hy with rfl | rfl
  · exact nms_atoms hn
  · exact wts_atoms (h.wt p hp)
theorem ThOk.tup {xs : List D} (hl : xs.length ≤ 9) (h : ∀ x ∈ xs, ElOk x) : ThOk (.tup xs) := .inr (.inr ⟨xs, .inl rfl, hl, h⟩)
theorem ThOk.lst {xs : List D} (hl : xs.length ≤ 9) (h : ∀ x ∈ xs, ElOk x) : ThOk (.lst xs) := .inr (.inr ⟨xs, .inr rfl, hl, h⟩)
theorem w_bent {sg : List (Str × Nat)} (hsg : SgOk sg) {mk : List (Str × Int)} (hmk : MkOk sg mk) {B : Nat} {c : Cell} (h : TapeOk B c) (hB : B + 2000 < 2 ^ 40) :
    W (c__law_bent [.loc 0, .d (sgD sg), .d (mkD mk)]) [c] fun v s => ∃ d c' g, v = .d d ∧ s = c' :: g ∧ ThOk d ∧ TapeOk (B + 3) c' := by
  have ml := hmk.len
  have lo := hsg.lo
  have hi := hsg.hi
  unfold c__law_bent
  rw [W_body]
  unfold m__law_bent mkD
  try simp only [WS_seq, WS_if, WS_nm, WS_tp, WS_ret, WS_exp, WS_put, WS_nx, W_kcmp, W_mcmp, W_ix, W_dix, W_var, W_C, W_Str, W_Int, W_Dsp, W_bin, W_ktr, W_knt, W_kand, W_kor, W_mnt, W_mand, W_mor, W_mif, W_kchn, W_neg, W_inst, W_it, W_rng, W_zip, W_tup, W_lst, W_rev, W_pt0, W_pt1, W_sl, W_lset, W_cnt, W_lzip, W_app, W_ext, W_ins, W_get2, W_kg2, W_kg1, W_B1, W_B2, W_cal, W_cons, W_nil, V_gt, V_lt, V_le, V_ge, V_mod, V_fdiv, V_add, V_sub, V_mul, V_int, V_lenL, V_lenT, List.map_cons, List.map_nil, List.cons_append, List.nil_append, List.length_cons, List.length_nil, List.replicate, List.getElem?_cons_zero, List.getElem?_cons_succ, Option.some.injEq, exists_eq_left', List.set_cons_zero, List.set_cons_succ, Nat.reduceAdd, Nat.reduceLT, Nat.reduceSub, true_and, Nat.zero_lt_succ, List.length_map, decide_eq_true_eq, V_d0, V_d1, W_mkF, V_pow9, V_pow18, lineLen, Nat.reduceLeDiff, if_true, if_false, W_pure, V_ix0, V_ix1, V_ix2, V_ixL0, V_ixL1]
  refine call_draw rfl h (by omega) (by omega) (by omega) fun k1 c1 g1 g2 t1 => ?_
  have lt : k1.toNat < mk.length := by omega
  obtain ⟨p, ep⟩ : ∃ p, mk[k1.toNat]? = some p := ⟨_, List.getElem?_eq_getElem lt⟩
  have hp := List.mem_of_getElem? ep
  obtain ⟨hn, hel⟩ := mk_el hsg hmk hp
  have hw := hmk.wt p hp
  have at1 : L2.atI (mk.map mkI) k1 = some (mkI p) := atI_nat g1 (by rw [List.getElem?_map, ep]; rfl)
  try simp only [WS_seq, WS_if, WS_nm, WS_tp, WS_ret, WS_exp, WS_put, WS_nx, W_kcmp, W_mcmp, W_ix, W_dix, W_var, W_C, W_Str, W_Int, W_Dsp, W_bin, W_ktr, W_knt, W_kand, W_kor, W_mnt, W_mand, W_mor, W_mif, W_kchn, W_neg, W_inst, W_it, W_rng, W_zip, W_tup, W_lst, W_rev, W_pt0, W_pt1, W_sl, W_lset, W_cnt, W_lzip, W_app, W_ext, W_ins, W_get2, W_kg2, W_kg1, W_B1, W_B2, W_cal, W_cons, W_nil, V_gt, V_lt, V_le, V_ge, V_mod, V_fdiv, V_add, V_sub, V_mul, V_int, V_lenL, V_lenT, List.map_cons, List.map_nil, List.cons_append, List.nil_append, List.length_cons, List.length_nil, List.replicate, List.getElem?_cons_zero, List.getElem?_cons_succ, Option.some.injEq, exists_eq_left', List.set_cons_zero, List.set_cons_succ, Nat.reduceAdd, Nat.reduceLT, Nat.reduceSub, true_and, Nat.zero_lt_succ, List.length_map, decide_eq_true_eq, V_d0, V_d1, W_mkF, V_pow9, V_pow18, lineLen, Nat.reduceLeDiff, if_true, if_false, W_pure, V_ix0, V_ix1, V_ix2, V_ixL0, V_ixL1]
  rw [V_ixT at1]
  refine ⟨_, rfl, ?_⟩
  try simp only [WS_seq, WS_if, WS_nm, WS_tp, WS_ret, WS_exp, WS_put, WS_nx, W_kcmp, W_mcmp, W_ix, W_dix, W_var, W_C, W_Str, W_Int, W_Dsp, W_bin, W_ktr, W_knt, W_kand, W_kor, W_mnt, W_mand, W_mor, W_mif, W_kchn, W_neg, W_inst, W_it, W_rng, W_zip, W_tup, W_lst, W_rev, W_pt0, W_pt1, W_sl, W_lset, W_cnt, W_lzip, W_app, W_ext, W_ins, W_get2, W_kg2, W_kg1, W_B1, W_B2, W_cal, W_cons, W_nil, V_gt, V_lt, V_le, V_ge, V_mod, V_fdiv, V_add, V_sub, V_mul, V_int, V_lenL, V_lenT, List.map_cons, List.map_nil, List.cons_append, List.nil_append, List.length_cons, List.length_nil, List.replicate, List.getElem?_cons_zero, List.getElem?_cons_succ, Option.some.injEq, exists_eq_left', List.set_cons_zero, List.set_cons_succ, Nat.reduceAdd, Nat.reduceLT, Nat.reduceSub, true_and, Nat.zero_lt_succ, List.length_map, decide_eq_true_eq, V_d0, V_d1, W_mkF, V_pow9, V_pow18, lineLen, Nat.reduceLeDiff, if_true, if_false, W_pure, V_ix0, V_ix1, V_ix2, V_ixL0, V_ixL1]
  refine V_addL (by show 14 ≤ lineLen; decide) ?_
  try simp only [WS_seq, WS_if, WS_nm, WS_tp, WS_ret, WS_exp, WS_put, WS_nx, W_kcmp, W_mcmp, W_ix, W_dix, W_var, W_C, W_Str, W_Int, W_Dsp, W_bin, W_ktr, W_knt, W_kand, W_kor, W_mnt, W_mand, W_mor, W_mif, W_kchn, W_neg, W_inst, W_it, W_rng, W_zip, W_tup, W_lst, W_rev, W_pt0, W_pt1, W_sl, W_lset, W_cnt, W_lzip, W_app, W_ext, W_ins, W_get2, W_kg2, W_kg1, W_B1, W_B2, W_cal, W_cons, W_nil, V_gt, V_lt, V_le, V_ge, V_mod, V_fdiv, V_add, V_sub, V_mul, V_int, V_lenL, V_lenT, List.map_cons, List.map_nil, List.cons_append, List.nil_append, List.length_cons, List.length_nil, List.replicate, List.getElem?_cons_zero, List.getElem?_cons_succ, Option.some.injEq, exists_eq_left', List.set_cons_zero, List.set_cons_succ, Nat.reduceAdd, Nat.reduceLT, Nat.reduceSub, true_and, Nat.zero_lt_succ, List.length_map, decide_eq_true_eq, V_d0, V_d1, W_mkF, V_pow9, V_pow18, lineLen, Nat.reduceLeDiff, if_true, if_false, W_pure, V_ix0, V_ix1, V_ix2, V_ixL0, V_ixL1]
  have aN := nms_atoms hn
  have aW := wts_atoms hw
  have T1 : ∀ a, a ∈ atoms → ElOk (.tup [a]) := fun a ha => .inl ⟨_, rfl, by show 1 ≤ 3; decide, fun y hy => by simp at hy; rw [hy]; exact ha⟩
  have T2 : ∀ a b, a ∈ atoms → b ∈ atoms → ElOk (.tup [a, b]) := fun a b ha hb => .inl ⟨_, rfl, by show 2 ≤ 3; decide, fun y hy => by
    simp at hy
    rcases hy with rfl | rfl
    · exact ha
    · exact hb⟩
  have T3 : ∀ a b c, a ∈ atoms → b ∈ atoms → c ∈ atoms → ElOk (.tup [a, b, c]) := fun a b c ha hb hc => .inl ⟨_, rfl, by show 3 ≤ 3; decide, fun y hy => by
    simp at hy
    rcases hy with rfl | rfl | rfl
    · exact ha
    · exact hb
    · exact hc⟩
  have L2' : ∀ a b, a ∈ atoms → b ∈ atoms → ElOk (.lst [a, b]) := fun a b ha hb => .inr (.inr ⟨_, rfl, by show 2 ≤ 3; decide, fun y hy => by
    simp at hy
    rcases hy with rfl | rfl
    · exact ha
    · exact hb⟩)
  have els : ∀ d ∈ [D.tup [D.str p.fst, D.int 0], D.tup [D.str p.fst, D.int (-1)], D.tup [D.str p.fst, D.bl true], D.tup [D.str p.fst, D.int (1000000000 + 1)], D.tup [D.str p.fst, D.non], D.lst [D.str p.fst, D.int p.snd], D.tup [D.str p.fst], D.str p.fst] ++
      [D.tup [D.str p.fst, D.int p.snd, D.int 1], D.tup [D.str (Str.ofString "other"), D.int p.snd], D.tup [D.int p.snd, D.str p.fst], D.tup [D.str p.fst, D.str (Str.ofString "1")], D.tup [D.non, D.int p.snd], D.tup [D.str p.fst, D.int 1000000000]], ElOk d := by
    intro d hd
    simp only [List.cons_append, List.nil_append, List.mem_cons, List.not_mem_nil, or_false] at hd
    rcases hd with rfl | rfl | rfl | rfl | rfl | rfl | rfl | rfl | rfl | rfl | rfl | rfl | rfl | rfl
    · exact T2 _ _ aN (by simp [atoms])
    · exact T2 _ _ aN (by simp [atoms])
    · exact T2 _ _ aN (by simp [atoms])
    · exact T2 _ _ aN (by simp [atoms])
    · exact T2 _ _ aN (by simp [atoms])
    · exact L2' _ _ aN aW
    · exact T1 _ aN
    · exact .inr (.inl ⟨_, hn, rfl⟩)
    · exact T3 _ _ _ aN aW (by simp [atoms, wts])
    · exact T2 _ _ (by simp [atoms]) aW
    · exact T2 _ _ aW aN
    · exact T2 _ _ aN (by simp [atoms])
    · exact T2 _ _ (by simp [atoms]) aW
    · exact T2 _ _ aN (by simp [atoms, wts])
  refine call_draw rfl t1 (by omega) (by decide) (by decide) fun k2 c2 g3 g4 t2 => ?_
  refine pick_all els g3 g4 fun o ho => ?_
  try simp only [WS_seq, WS_if, WS_nm, WS_tp, WS_ret, WS_exp, WS_put, WS_nx, W_kcmp, W_mcmp, W_ix, W_dix, W_var, W_C, W_Str, W_Int, W_Dsp, W_bin, W_ktr, W_knt, W_kand, W_kor, W_mnt, W_mand, W_mor, W_mif, W_kchn, W_neg, W_inst, W_it, W_rng, W_zip, W_tup, W_lst, W_rev, W_pt0, W_pt1, W_sl, W_lset, W_cnt, W_lzip, W_app, W_ext, W_ins, W_get2, W_kg2, W_kg1, W_B1, W_B2, W_cal, W_cons, W_nil, V_gt, V_lt, V_le, V_ge, V_mod, V_fdiv, V_add, V_sub, V_mul, V_int, V_lenL, V_lenT, List.map_cons, List.map_nil, List.cons_append, List.nil_append, List.length_cons, List.length_nil, List.replicate, List.getElem?_cons_zero, List.getElem?_cons_succ, Option.some.injEq, exists_eq_left', List.set_cons_zero, List.set_cons_succ, Nat.reduceAdd, Nat.reduceLT, Nat.reduceSub, true_and, Nat.zero_lt_succ, List.length_map, decide_eq_true_eq, V_d0, V_d1, W_mkF, V_pow9, V_pow18, lineLen, Nat.reduceLeDiff, if_true, if_false, W_pure, V_ix0, V_ix1, V_ix2, V_ixL0, V_ixL1]
  refine call_draw rfl t2 (by omega) (by decide) (by decide) fun k3 c3 g5 g6 t3 => ?_
  have mks : ∀ x ∈ mk.map mkI, ElOk x := fun x hx => by
    obtain ⟨q, hq, rfl⟩ := List.mem_map.mp hx
    exact (mk_el hsg hmk hq).2
  have lm : (mk.map mkI).length ≤ 4 := by rw [List.length_map]; omega
  generalize mk.map mkI = xs at *
  have lc1 := len_cut xs none (some k1)
  have lc2 := len_cut xs (some (k1 + 1)) none
  try simp only [WS_seq, WS_if, WS_nm, WS_tp, WS_ret, WS_exp, WS_put, WS_nx, W_kcmp, W_mcmp, W_ix, W_dix, W_var, W_C, W_Str, W_Int, W_Dsp, W_bin, W_ktr, W_knt, W_kand, W_kor, W_mnt, W_mand, W_mor, W_mif, W_kchn, W_neg, W_inst, W_it, W_rng, W_zip, W_tup, W_lst, W_rev, W_pt0, W_pt1, W_sl, W_lset, W_cnt, W_lzip, W_app, W_ext, W_ins, W_get2, W_kg2, W_kg1, W_B1, W_B2, W_cal, W_cons, W_nil, V_gt, V_lt, V_le, V_ge, V_mod, V_fdiv, V_add, V_sub, V_mul, V_int, V_lenL, V_lenT, List.map_cons, List.map_nil, List.cons_append, List.nil_append, List.length_cons, List.length_nil, List.replicate, List.getElem?_cons_zero, List.getElem?_cons_succ, Option.some.injEq, exists_eq_left', List.set_cons_zero, List.set_cons_succ, Nat.reduceAdd, Nat.reduceLT, Nat.reduceSub, true_and, Nat.zero_lt_succ, List.length_map, decide_eq_true_eq, V_d0, V_d1, W_mkF, V_pow9, V_pow18, lineLen, Nat.reduceLeDiff, if_true, if_false, W_pure, V_ix0, V_ix1, V_ix2, V_ixL0, V_ixL1]
  by_cases h3 : k3 < 3
  · rw [if_pos (by simpa using h3)]
    try simp only [WS_seq, WS_if, WS_nm, WS_tp, WS_ret, WS_exp, WS_put, WS_nx, W_kcmp, W_mcmp, W_ix, W_dix, W_var, W_C, W_Str, W_Int, W_Dsp, W_bin, W_ktr, W_knt, W_kand, W_kor, W_mnt, W_mand, W_mor, W_mif, W_kchn, W_neg, W_inst, W_it, W_rng, W_zip, W_tup, W_lst, W_rev, W_pt0, W_pt1, W_sl, W_lset, W_cnt, W_lzip, W_app, W_ext, W_ins, W_get2, W_kg2, W_kg1, W_B1, W_B2, W_cal, W_cons, W_nil, V_gt, V_lt, V_le, V_ge, V_mod, V_fdiv, V_add, V_sub, V_mul, V_int, V_lenL, V_lenT, List.map_cons, List.map_nil, List.cons_append, List.nil_append, List.length_cons, List.length_nil, List.replicate, List.getElem?_cons_zero, List.getElem?_cons_succ, Option.some.injEq, exists_eq_left', List.set_cons_zero, List.set_cons_succ, Nat.reduceAdd, Nat.reduceLT, Nat.reduceSub, true_and, Nat.zero_lt_succ, List.length_map, decide_eq_true_eq, V_d0, V_d1, W_mkF, V_pow9, V_pow18, lineLen, Nat.reduceLeDiff, if_true, if_false, W_pure, V_ix0, V_ix1, V_ix2, V_ixL0, V_ixL1,  V_slT]
    refine V_addT (by show _ + 1 ≤ lineLen; unfold lineLen; omega) ?_
    refine V_addT (by simp only [List.length_append, List.length_cons, List.length_nil]; unfold lineLen; omega) ?_
    refine ⟨_, c3, [], rfl, rfl, .tup (by simp only [List.length_append, List.length_cons, List.length_nil]; omega) fun x hx => ?_, t3⟩
    rcases List.mem_append.mp hx with z | z
    · rcases List.mem_append.mp z with z | z
      · exact mks x (mem_cut z)
      · simp at z; rw [z]; exact ho
    · exact mks x (mem_cut z)
  · rw [if_neg (by simpa using h3)]
    refine V_revT (V_listT ?_)
    try simp only [WS_seq, WS_if, WS_nm, WS_tp, WS_ret, WS_exp, WS_put, WS_nx, W_kcmp, W_mcmp, W_ix, W_dix, W_var, W_C, W_Str, W_Int, W_Dsp, W_bin, W_ktr, W_knt, W_kand, W_kor, W_mnt, W_mand, W_mor, W_mif, W_kchn, W_neg, W_inst, W_it, W_rng, W_zip, W_tup, W_lst, W_rev, W_pt0, W_pt1, W_sl, W_lset, W_cnt, W_lzip, W_app, W_ext, W_ins, W_get2, W_kg2, W_kg1, W_B1, W_B2, W_cal, W_cons, W_nil, V_gt, V_lt, V_le, V_ge, V_mod, V_fdiv, V_add, V_sub, V_mul, V_int, V_lenL, V_lenT, List.map_cons, List.map_nil, List.cons_append, List.nil_append, List.length_cons, List.length_nil, List.replicate, List.getElem?_cons_zero, List.getElem?_cons_succ, Option.some.injEq, exists_eq_left', List.set_cons_zero, List.set_cons_succ, Nat.reduceAdd, Nat.reduceLT, Nat.reduceSub, true_and, Nat.zero_lt_succ, List.length_map, decide_eq_true_eq, V_d0, V_d1, W_mkF, V_pow9, V_pow18, lineLen, Nat.reduceLeDiff, if_true, if_false, W_pure, V_ix0, V_ix1, V_ix2, V_ixL0, V_ixL1,  V_slT]
    refine V_addT (by unfold lineLen; omega) ?_
    rw [V_ixT at1]
    try simp only [WS_seq, WS_if, WS_nm, WS_tp, WS_ret, WS_exp, WS_put, WS_nx, W_kcmp, W_mcmp, W_ix, W_dix, W_var, W_C, W_Str, W_Int, W_Dsp, W_bin, W_ktr, W_knt, W_kand, W_kor, W_mnt, W_mand, W_mor, W_mif, W_kchn, W_neg, W_inst, W_it, W_rng, W_zip, W_tup, W_lst, W_rev, W_pt0, W_pt1, W_sl, W_lset, W_cnt, W_lzip, W_app, W_ext, W_ins, W_get2, W_kg2, W_kg1, W_B1, W_B2, W_cal, W_cons, W_nil, V_gt, V_lt, V_le, V_ge, V_mod, V_fdiv, V_add, V_sub, V_mul, V_int, V_lenL, V_lenT, List.map_cons, List.map_nil, List.cons_append, List.nil_append, List.length_cons, List.length_nil, List.replicate, List.getElem?_cons_zero, List.getElem?_cons_succ, Option.some.injEq, exists_eq_left', List.set_cons_zero, List.set_cons_succ, Nat.reduceAdd, Nat.reduceLT, Nat.reduceSub, true_and, Nat.zero_lt_succ, List.length_map, decide_eq_true_eq, V_d0, V_d1, W_mkF, V_pow9, V_pow18, lineLen, Nat.reduceLeDiff, if_true, if_false, W_pure, V_ix0, V_ix1, V_ix2, V_ixL0, V_ixL1]
    refine V_addT (by show _ + 1 ≤ lineLen; unfold lineLen; omega) ?_
    try simp only [WS_seq, WS_if, WS_nm, WS_tp, WS_ret, WS_exp, WS_put, WS_nx, W_kcmp, W_mcmp, W_ix, W_dix, W_var, W_C, W_Str, W_Int, W_Dsp, W_bin, W_ktr, W_knt, W_kand, W_kor, W_mnt, W_mand, W_mor, W_mif, W_kchn, W_neg, W_inst, W_it, W_rng, W_zip, W_tup, W_lst, W_rev, W_pt0, W_pt1, W_sl, W_lset, W_cnt, W_lzip, W_app, W_ext, W_ins, W_get2, W_kg2, W_kg1, W_B1, W_B2, W_cal, W_cons, W_nil, V_gt, V_lt, V_le, V_ge, V_mod, V_fdiv, V_add, V_sub, V_mul, V_int, V_lenL, V_lenT, List.map_cons, List.map_nil, List.cons_append, List.nil_append, List.length_cons, List.length_nil, List.replicate, List.getElem?_cons_zero, List.getElem?_cons_succ, Option.some.injEq, exists_eq_left', List.set_cons_zero, List.set_cons_succ, Nat.reduceAdd, Nat.reduceLT, Nat.reduceSub, true_and, Nat.zero_lt_succ, List.length_map, decide_eq_true_eq, V_d0, V_d1, W_mkF, V_pow9, V_pow18, lineLen, Nat.reduceLeDiff, if_true, if_false, W_pure, V_ix0, V_ix1, V_ix2, V_ixL0, V_ixL1]
    have ths : ∀ d ∈ [D.tup xs.reverse, .lst xs, .tup (cut xs none (some k1) ++ cut xs (some (k1 + 1)) none), .tup (xs ++ [mkI p])], ThOk d := by
      intro d hd
      simp only [List.mem_cons, List.not_mem_nil, or_false] at hd
      rcases hd with rfl | rfl | rfl | rfl
      · exact .tup (by rw [List.length_reverse]; omega) fun x hx => mks x (List.mem_reverse.mp hx)
      · exact .lst (by omega) mks
      · refine .tup (by rw [List.length_append]; omega) fun x hx => ?_
        rcases List.mem_append.mp hx with z | z
        · exact mks x (mem_cut z)
        · exact mks x (mem_cut z)
      · refine .tup (by simp; omega) fun x hx => ?_
        rcases List.mem_append.mp hx with z | z
        · exact mks x z
        · simp at z; rw [z]; exact hel
    refine pick_all ths (by omega) (by show k3 - 3 < 4; omega) fun d hd => ?_
    exact ⟨d, c3, [], rfl, rfl, hd, t3⟩
theorem call_bent {sg : List (Str × Nat)} (hsg : SgOk sg) {mk : List (Str × Int)} (hmk : MkOk sg mk) {B : Nat} {c : Cell} {s : Store} {t : Nat} {R : Val → Store → Prop} (hs : s[t]? = some c) (h : TapeOk B c) (hB : B + 2000 < 2 ^ 40) (k : ∀ (d : D) (c' : Cell), ThOk d → TapeOk (B + 3) c' → R (.d d) (s.set t c')) : W (subV false c__law_bent [.loc t, .d (sgD sg), .d (mkD mk)]) s R := by
  refine W_sub1 [sgD sg, mkD mk] hs h.cl ((w_bent hsg hmk h hB).mono fun v s' ⟨d, c', g, e1, e2, ok, tk⟩ => ?_)
  exact ⟨_, c', g, .inl e1, e2, tk.cl, k d c' ok tk⟩
end My
set_option maxRecDepth 100000
set_option maxHeartbeats 8000000
namespace My
open Ev PySem

/-! the dict of marks -/
theorem deq_str_eq {q : D} {y : Str} (h : deq q (.str y) = true) : q = .str y := by
  cases q <;> simp [deq] at h
  rw [h]
theorem dget_dput {m : List (D × D)} {x y : Str} {v : D} : dget (dput m (.str y) v) (.str x) = if x = y then some v else dget m (.str x) := by
  induction m with
  | nil =>
    show (if deq (.str y) (.str x) = true then some v else none) = _
    rw [deq_str]
    by_cases e : x = y
    · subst e; simp
    · rw [if_neg (by simpa using Ne.symm e), if_neg e]; rfl
  | cons p m ih =>
    obtain ⟨q, u⟩ := p
    show dget (if deq q (.str y) = true then (q, v) :: m else (q, u) :: dput m (.str y) v) (.str x) = _
    by_cases h : deq q (.str y) = true
    · rw [if_pos h]
      have eq := deq_str_eq h
      subst eq
      show (if deq (.str y) (.str x) = true then some v else dget m (.str x)) = if x = y then some v else (if deq (.str y) (.str x) = true then some u else dget m (.str x))
      rw [deq_str]
      by_cases e : x = y
      · subst e; simp
      · rw [if_neg (by simpa using Ne.symm e), if_neg e, if_neg (by simpa using Ne.symm e)]
    · rw [if_neg h]
      show (if deq q (.str x) = true then some u else dget (dput m (.str y) v) (.str x)) = if x = y then some v else (if deq q (.str x) = true then some u else dget m (.str x))
      rw [ih]
      by_cases h2 : deq q (.str x) = true
      · rw [if_pos h2, if_pos h2]
        have : x ≠ y := fun e => by subst e; exact h h2
        rw [if_neg this]
      · rw [if_neg h2, if_neg h2]
def WM (m : List (D × D)) (x : Str) : Prop := ∃ w : Int, dget m (.str x) = some (.int w) ∧ 1 ≤ w ∧ w ≤ 1000000000
def mkM (mk : List (Str × Int)) : List (D × D) := mk.foldl (fun acc p => dput acc (.str p.1) (.int p.2)) []
theorem mkM_ok {x : Str} : ∀ (mk : List (Str × Int)) (acc : List (D × D)), (∀ p ∈ mk, 1 ≤ p.2 ∧ p.2 ≤ 1000000000) → (x ∈ mk.map (·.1) ∨ WM acc x) → WM (mk.foldl (fun acc p => dput acc (.str p.1) (.int p.2)) acc) x
  | [], acc, _, h => by
    rcases h with h | h
    · cases h
    · exact h
  | p :: mk, acc, hw, h => by
    have hp := hw p (List.mem_cons_self ..)
    refine mkM_ok mk _ (fun q hq => hw q (List.mem_cons_of_mem _ hq)) ?_
    by_cases e : x = p.1
    · refine .inr ⟨p.2, ?_, hp⟩
      rw [dget_dput, if_pos e]
    · rcases h with h | ⟨w, h1, h2⟩
      · rw [List.map_cons, List.mem_cons] at h
        rcases h with h | h
        · exact absurd h e
        · exact .inl h
      · refine .inr ⟨w, ?_, h2⟩
        rw [dget_dput, if_neg e, h1]
theorem prs_mk : ∀ mk : List (Str × Int), prsOf (mk.map mkI) = some (mk.map fun p => (D.str p.1, D.int p.2))
  | [] => rfl
  | p :: mk => by
    show (match keyOf (.str p.1), prsOf (mk.map mkI) with
      | some _, some m => some ((D.str p.1, D.int p.2) :: m)
      | _, _ => none) = _
    rw [prs_mk mk]
    rfl
theorem W_dictMk {mk : List (Str × Int)} {s : Store} {R : Val → Store → Prop} (r : R (.d (.dct (mkM mk))) s) : W (dictV (.d (mkD mk))) s R := by
  show W (dmk (mk.map mkI)) s R
  unfold dmk
  rw [prs_mk]
  have e : dmake (mk.map fun p => (D.str p.1, D.int p.2)) = mkM mk := by
    unfold dmake mkM
    rw [List.foldl_map]
  show R (.d (.dct (dmake _))) s
  rw [e]
  exact r
theorem V_dix {m : List (D × D)} {x : Str} {y : D} {s : Store} {R : Val → Store → Prop} (h : dget m (.str x) = some y) (r : R (.d y) s) : W (dixV (.d (.dct m)) (.d (.str x))) s R := by
  show W (match dget m (.str x) with
    | some y => M.pure (.d y)
    | none => M.bad) s R
  rw [h]
  exact r
theorem V_get {m : List (D × D)} {x : Str} {y : D} {s : Store} {R : Val → Store → Prop} (r : R (.d ((dget m (.str x)).getD y)) s) : W (getV (.d (.dct m)) (.d (.str x)) (.d y)) s R := by
  show W (match dget m (.str x) with
    | some y => M.pure (.d y)
    | none => M.pure (.d y)) s R
  cases e : dget m (.str x) with
  | none => rw [e] at r; exact r
  | some z => rw [e] at r; exact r

/-! weights -/
def BW : Nat → Int
  | 0 => 1000000000
  | k + 1 => 3 * BW k
theorem BW_ge : ∀ k, 1000000000 ≤ BW k
  | 0 => by decide
  | k + 1 => by
    have := BW_ge k
    show 1000000000 ≤ 3 * BW k
    omega
theorem tl_cut (x : D) (ds : List D) : cut (x :: ds) (some 1) none = ds := cut_one _
theorem wt_ok {N : List Str} {m : List (D × D)} (hm : ∀ x ∈ N, WM m x) : ∀ (k : Nat) (p : D), PatOk N k p → ∃ i : Int, (0 ≤ i ∧ i ≤ BW k) ∧ (∀ f, k < f → Ret (c_mark_by f) [.dct m, p] (.int i)) ∧ ∀ d : D, (∀ (s : Store) (R : Val → Store → Prop), R (.d (.dct m)) s → W (dictV (.d d)) s R) → ∀ f, k < f → Ret (c__law_weight f) [d, p] (.int i) := by
  have leaf : ∀ (x : Str) (k : Nat), ∃ i : Int, (0 ≤ i ∧ i ≤ BW k) ∧ (∀ f, k < f → Ret (c_mark_by f) [.dct m, .str x] (.int i)) ∧ ∀ d : D, (∀ (s : Store) (R : Val → Store → Prop), R (.d (.dct m)) s → W (dictV (.d d)) s R) → ∀ f, k < f → Ret (c__law_weight f) [d, .str x] (.int i) := fun x k => by
    refine ⟨0, ⟨Int.le_refl _, by have := BW_ge k; omega⟩, fun f hf => ?_, fun d hd f hf => ?_⟩
    · obtain ⟨g, rfl⟩ : ∃ g, f = g + 1 := ⟨f - 1, by omega⟩
      refine Ret.body (n := 3) (a := m_mark_by (c_mark_by g)) ?_
      unfold m_mark_by
      rw [WS_seq]
      refine WS_ifb (Wb_inst (K_var rfl)) (fun _ => ?_) (fun h => nomatch (show true = false from h))
      try simp only [WS_seq, WS_if, WS_nm, WS_tp, WS_ret, WS_exp, WS_put, WS_nx, W_kcmp, W_mcmp, W_ix, W_dix, W_var, W_C, W_Str, W_Int, W_Dsp, W_bin, W_ktr, W_knt, W_kand, W_kor, W_mnt, W_mand, W_mor, W_mif, W_kchn, W_neg, W_inst, W_it, W_rng, W_zip, W_tup, W_lst, W_rev, W_pt0, W_pt1, W_sl, W_lset, W_cnt, W_lzip, W_app, W_ext, W_ins, W_get2, W_kg2, W_kg1, W_B1, W_B2, W_cal, W_cons, W_nil, V_gt, V_lt, V_le, V_ge, V_mod, V_fdiv, V_add, V_sub, V_mul, V_pow, V_int, V_lenL, V_lenT, List.map_cons, List.map_nil, List.cons_append, List.nil_append, List.length_cons, List.length_nil, List.replicate, List.getElem?_cons_zero, List.getElem?_cons_succ, Option.some.injEq, exists_eq_left', List.set_cons_zero, List.set_cons_succ, Nat.reduceAdd, Nat.reduceLT, Nat.reduceSub, true_and, Nat.zero_lt_succ, List.length_map, decide_eq_true_eq]
      exact Fz.dat
    · obtain ⟨g, rfl⟩ : ∃ g, f = g + 1 := ⟨f - 1, by omega⟩
      refine Ret.body (n := 3) (a := m__law_weight (c__law_weight g)) ?_
      unfold m__law_weight
      rw [WS_seq]
      refine WS_ifb (Wb_inst (K_var rfl)) (fun _ => ?_) (fun h => nomatch (show true = false from h))
      try simp only [WS_seq, WS_if, WS_nm, WS_tp, WS_ret, WS_exp, WS_put, WS_nx, W_kcmp, W_mcmp, W_ix, W_dix, W_var, W_C, W_Str, W_Int, W_Dsp, W_bin, W_ktr, W_knt, W_kand, W_kor, W_mnt, W_mand, W_mor, W_mif, W_kchn, W_neg, W_inst, W_it, W_rng, W_zip, W_tup, W_lst, W_rev, W_pt0, W_pt1, W_sl, W_lset, W_cnt, W_lzip, W_app, W_ext, W_ins, W_get2, W_kg2, W_kg1, W_B1, W_B2, W_cal, W_cons, W_nil, V_gt, V_lt, V_le, V_ge, V_mod, V_fdiv, V_add, V_sub, V_mul, V_pow, V_int, V_lenL, V_lenT, List.map_cons, List.map_nil, List.cons_append, List.nil_append, List.length_cons, List.length_nil, List.replicate, List.getElem?_cons_zero, List.getElem?_cons_succ, Option.some.injEq, exists_eq_left', List.set_cons_zero, List.set_cons_succ, Nat.reduceAdd, Nat.reduceLT, Nat.reduceSub, true_and, Nat.zero_lt_succ, List.length_map, decide_eq_true_eq]
      exact Fz.dat
  intro k
  induction k with
  | zero =>
    rintro p ⟨x, _, rfl⟩
    exact leaf x 0
  | succ k ih =>
    rintro p (⟨x, _, rfl⟩ | ⟨x, ds, rfl, hx, hl, hd⟩)
    · exact leaf x (k + 1)
    · obtain ⟨is, il, hp⟩ := choose_list fun e he => ih e (hd e he)
      obtain ⟨w, hw, w1, w2⟩ := hm x hx
      have bnd : ∀ i ∈ is, 0 ≤ i ∧ i ≤ BW k := fun i hi => by
        obtain ⟨j, hj⟩ := List.mem_iff_getElem?.mp hi
        have jl := (List.getElem?_eq_some_iff.mp hj).1
        exact (hp j ds[j] i (List.getElem?_eq_getElem (by omega)) hj).1
      have sb := sum_bound bnd
      have ge := BW_ge k
      have s2 : (is.length : Int) * BW k ≤ 2 * BW k := Int.mul_le_mul_of_nonneg_right (by omega) (by omega)
      have lz : ds.length ≤ lineLen := by unfold lineLen; omega
      refine ⟨w + is.sum, ⟨by omega, by show _ ≤ 3 * BW k; omega⟩, fun f hf => ?_, fun d hdd f hf => ?_⟩
      · obtain ⟨g, rfl⟩ : ∃ g, f = g + 1 := ⟨f - 1, by omega⟩
        refine Ret.body (n := 3) (a := m_mark_by (c_mark_by g)) ?_
        unfold m_mark_by
        rw [WS_seq]
        refine WS_ifb (Wb_inst (K_var rfl)) (fun h => nomatch (show false = true from h)) (fun _ => ?_)
        rw [WS_nx]
        try simp only [WS_seq, WS_if, WS_nm, WS_tp, WS_ret, WS_exp, WS_put, WS_nx, W_kcmp, W_mcmp, W_ix, W_dix, W_var, W_C, W_Str, W_Int, W_Dsp, W_bin, W_ktr, W_knt, W_kand, W_kor, W_mnt, W_mand, W_mor, W_mif, W_kchn, W_neg, W_inst, W_it, W_rng, W_zip, W_tup, W_lst, W_rev, W_pt0, W_pt1, W_sl, W_lset, W_cnt, W_lzip, W_app, W_ext, W_ins, W_get2, W_kg2, W_kg1, W_B1, W_B2, W_cal, W_cons, W_nil, V_gt, V_lt, V_le, V_ge, V_mod, V_fdiv, V_add, V_sub, V_mul, V_pow, V_int, V_lenL, V_lenT, List.map_cons, List.map_nil, List.cons_append, List.nil_append, List.length_cons, List.length_nil, List.replicate, List.getElem?_cons_zero, List.getElem?_cons_succ, Option.some.injEq, exists_eq_left', List.set_cons_zero, List.set_cons_succ, Nat.reduceAdd, Nat.reduceLT, Nat.reduceSub, true_and, Nat.zero_lt_succ, List.length_map, decide_eq_true_eq]
        rw [V_ixT at_0]
        refine V_dix hw ?_
        refine W_lcD ds (is.map .int) (fun Q q => ?_) lz (by show 2 < 3; decide) (by rw [List.length_map, il]) (fun i e y he hy => ?_) ?_
        · try simp only [WS_seq, WS_if, WS_nm, WS_tp, WS_ret, WS_exp, WS_put, WS_nx, W_kcmp, W_mcmp, W_ix, W_dix, W_var, W_C, W_Str, W_Int, W_Dsp, W_bin, W_ktr, W_knt, W_kand, W_kor, W_mnt, W_mand, W_mor, W_mif, W_kchn, W_neg, W_inst, W_it, W_rng, W_zip, W_tup, W_lst, W_rev, W_pt0, W_pt1, W_sl, W_lset, W_cnt, W_lzip, W_app, W_ext, W_ins, W_get2, W_kg2, W_kg1, W_B1, W_B2, W_cal, W_cons, W_nil, V_gt, V_lt, V_le, V_ge, V_mod, V_fdiv, V_add, V_sub, V_mul, V_pow, V_int, V_lenL, V_lenT, List.map_cons, List.map_nil, List.cons_append, List.nil_append, List.length_cons, List.length_nil, List.replicate, List.getElem?_cons_zero, List.getElem?_cons_succ, Option.some.injEq, exists_eq_left', List.set_cons_zero, List.set_cons_succ, Nat.reduceAdd, Nat.reduceLT, Nat.reduceSub, true_and, Nat.zero_lt_succ, List.length_map, decide_eq_true_eq]
          rw [V_slT, tl_cut, V_ivT]
          exact q
        · rw [List.getElem?_map] at hy
          cases ei : is[i]? with
          | none => rw [ei] at hy; cases hy
          | some j =>
            rw [ei] at hy
            cases hy
            try simp only [WS_seq, WS_if, WS_nm, WS_tp, WS_ret, WS_exp, WS_put, WS_nx, W_kcmp, W_mcmp, W_ix, W_dix, W_var, W_C, W_Str, W_Int, W_Dsp, W_bin, W_ktr, W_knt, W_kand, W_kor, W_mnt, W_mand, W_mor, W_mif, W_kchn, W_neg, W_inst, W_it, W_rng, W_zip, W_tup, W_lst, W_rev, W_pt0, W_pt1, W_sl, W_lset, W_cnt, W_lzip, W_app, W_ext, W_ins, W_get2, W_kg2, W_kg1, W_B1, W_B2, W_cal, W_cons, W_nil, V_gt, V_lt, V_le, V_ge, V_mod, V_fdiv, V_add, V_sub, V_mul, V_pow, V_int, V_lenL, V_lenT, List.map_cons, List.map_nil, List.cons_append, List.nil_append, List.length_cons, List.length_nil, List.replicate, List.getElem?_cons_zero, List.getElem?_cons_succ, Option.some.injEq, exists_eq_left', List.set_cons_zero, List.set_cons_succ, Nat.reduceAdd, Nat.reduceLT, Nat.reduceSub, true_and, Nat.zero_lt_succ, List.length_map, decide_eq_true_eq,  wipeE]
            exact Ret.call (ds := [.dct m, e]) ((hp i e j he ei).2.1 g (by omega)) ⟨rfl, rfl⟩
        · refine V_sum ?_
          try simp only [WS_seq, WS_if, WS_nm, WS_tp, WS_ret, WS_exp, WS_put, WS_nx, W_kcmp, W_mcmp, W_ix, W_dix, W_var, W_C, W_Str, W_Int, W_Dsp, W_bin, W_ktr, W_knt, W_kand, W_kor, W_mnt, W_mand, W_mor, W_mif, W_kchn, W_neg, W_inst, W_it, W_rng, W_zip, W_tup, W_lst, W_rev, W_pt0, W_pt1, W_sl, W_lset, W_cnt, W_lzip, W_app, W_ext, W_ins, W_get2, W_kg2, W_kg1, W_B1, W_B2, W_cal, W_cons, W_nil, V_gt, V_lt, V_le, V_ge, V_mod, V_fdiv, V_add, V_sub, V_mul, V_pow, V_int, V_lenL, V_lenT, List.map_cons, List.map_nil, List.cons_append, List.nil_append, List.length_cons, List.length_nil, List.replicate, List.getElem?_cons_zero, List.getElem?_cons_succ, Option.some.injEq, exists_eq_left', List.set_cons_zero, List.set_cons_succ, Nat.reduceAdd, Nat.reduceLT, Nat.reduceSub, true_and, Nat.zero_lt_succ, List.length_map, decide_eq_true_eq]
          exact Fz.dat
      · obtain ⟨g, rfl⟩ : ∃ g, f = g + 1 := ⟨f - 1, by omega⟩
        refine Ret.body (n := 3) (a := m__law_weight (c__law_weight g)) ?_
        unfold m__law_weight
        rw [WS_seq]
        refine WS_ifb (Wb_inst (K_var rfl)) (fun h => nomatch (show false = true from h)) (fun _ => ?_)
        rw [WS_nx]
        try simp only [WS_seq, WS_if, WS_nm, WS_tp, WS_ret, WS_exp, WS_put, WS_nx, W_kcmp, W_mcmp, W_ix, W_dix, W_var, W_C, W_Str, W_Int, W_Dsp, W_bin, W_ktr, W_knt, W_kand, W_kor, W_mnt, W_mand, W_mor, W_mif, W_kchn, W_neg, W_inst, W_it, W_rng, W_zip, W_tup, W_lst, W_rev, W_pt0, W_pt1, W_sl, W_lset, W_cnt, W_lzip, W_app, W_ext, W_ins, W_get2, W_kg2, W_kg1, W_B1, W_B2, W_cal, W_cons, W_nil, V_gt, V_lt, V_le, V_ge, V_mod, V_fdiv, V_add, V_sub, V_mul, V_pow, V_int, V_lenL, V_lenT, List.map_cons, List.map_nil, List.cons_append, List.nil_append, List.length_cons, List.length_nil, List.replicate, List.getElem?_cons_zero, List.getElem?_cons_succ, Option.some.injEq, exists_eq_left', List.set_cons_zero, List.set_cons_succ, Nat.reduceAdd, Nat.reduceLT, Nat.reduceSub, true_and, Nat.zero_lt_succ, List.length_map, decide_eq_true_eq]
        refine hdd _ _ ?_
        rw [V_ixT at_0]
        refine V_dix hw ?_
        refine W_lcD ds (is.map .int) (fun Q q => ?_) lz (by show 2 < 3; decide) (by rw [List.length_map, il]) (fun i e y he hy => ?_) ?_
        · try simp only [WS_seq, WS_if, WS_nm, WS_tp, WS_ret, WS_exp, WS_put, WS_nx, W_kcmp, W_mcmp, W_ix, W_dix, W_var, W_C, W_Str, W_Int, W_Dsp, W_bin, W_ktr, W_knt, W_kand, W_kor, W_mnt, W_mand, W_mor, W_mif, W_kchn, W_neg, W_inst, W_it, W_rng, W_zip, W_tup, W_lst, W_rev, W_pt0, W_pt1, W_sl, W_lset, W_cnt, W_lzip, W_app, W_ext, W_ins, W_get2, W_kg2, W_kg1, W_B1, W_B2, W_cal, W_cons, W_nil, V_gt, V_lt, V_le, V_ge, V_mod, V_fdiv, V_add, V_sub, V_mul, V_pow, V_int, V_lenL, V_lenT, List.map_cons, List.map_nil, List.cons_append, List.nil_append, List.length_cons, List.length_nil, List.replicate, List.getElem?_cons_zero, List.getElem?_cons_succ, Option.some.injEq, exists_eq_left', List.set_cons_zero, List.set_cons_succ, Nat.reduceAdd, Nat.reduceLT, Nat.reduceSub, true_and, Nat.zero_lt_succ, List.length_map, decide_eq_true_eq]
          rw [V_slT, tl_cut, V_ivT]
          exact q
        · rw [List.getElem?_map] at hy
          cases ei : is[i]? with
          | none => rw [ei] at hy; cases hy
          | some j =>
            rw [ei] at hy
            cases hy
            try simp only [WS_seq, WS_if, WS_nm, WS_tp, WS_ret, WS_exp, WS_put, WS_nx, W_kcmp, W_mcmp, W_ix, W_dix, W_var, W_C, W_Str, W_Int, W_Dsp, W_bin, W_ktr, W_knt, W_kand, W_kor, W_mnt, W_mand, W_mor, W_mif, W_kchn, W_neg, W_inst, W_it, W_rng, W_zip, W_tup, W_lst, W_rev, W_pt0, W_pt1, W_sl, W_lset, W_cnt, W_lzip, W_app, W_ext, W_ins, W_get2, W_kg2, W_kg1, W_B1, W_B2, W_cal, W_cons, W_nil, V_gt, V_lt, V_le, V_ge, V_mod, V_fdiv, V_add, V_sub, V_mul, V_pow, V_int, V_lenL, V_lenT, List.map_cons, List.map_nil, List.cons_append, List.nil_append, List.length_cons, List.length_nil, List.replicate, List.getElem?_cons_zero, List.getElem?_cons_succ, Option.some.injEq, exists_eq_left', List.set_cons_zero, List.set_cons_succ, Nat.reduceAdd, Nat.reduceLT, Nat.reduceSub, true_and, Nat.zero_lt_succ, List.length_map, decide_eq_true_eq,  wipeE]
            exact Ret.call (ds := [d, e]) ((hp i e j he ei).2.2 d hdd g (by omega)) ⟨rfl, rfl⟩
        · refine V_sum ?_
          try simp only [WS_seq, WS_if, WS_nm, WS_tp, WS_ret, WS_exp, WS_put, WS_nx, W_kcmp, W_mcmp, W_ix, W_dix, W_var, W_C, W_Str, W_Int, W_Dsp, W_bin, W_ktr, W_knt, W_kand, W_kor, W_mnt, W_mand, W_mor, W_mif, W_kchn, W_neg, W_inst, W_it, W_rng, W_zip, W_tup, W_lst, W_rev, W_pt0, W_pt1, W_sl, W_lset, W_cnt, W_lzip, W_app, W_ext, W_ins, W_get2, W_kg2, W_kg1, W_B1, W_B2, W_cal, W_cons, W_nil, V_gt, V_lt, V_le, V_ge, V_mod, V_fdiv, V_add, V_sub, V_mul, V_pow, V_int, V_lenL, V_lenT, List.map_cons, List.map_nil, List.cons_append, List.nil_append, List.length_cons, List.length_nil, List.replicate, List.getElem?_cons_zero, List.getElem?_cons_succ, Option.some.injEq, exists_eq_left', List.set_cons_zero, List.set_cons_succ, Nat.reduceAdd, Nat.reduceLT, Nat.reduceSub, true_and, Nat.zero_lt_succ, List.length_map, decide_eq_true_eq]
          exact Fz.dat

/-! unknowns -/
theorem unk_ok {N : List Str} : ∀ (k : Nat), k ≤ 10 → ∀ (p : D), PatOk N k p → ∃ xs : List Str, (xs.length ≤ 2 ^ k ∧ ∀ x ∈ xs, x ∈ unks) ∧ (∀ f, k < f → Ret (c_unknowns_in f) [p] (.lst (xs.map .str))) ∧ ∀ f, k < f → Ret (c__law_unknowns f) [p] (.lst (xs.map .str)) := by
  have leaf : ∀ (x : Str) (k : Nat), x ∈ unks → ∃ xs : List Str, (xs.length ≤ 2 ^ k ∧ ∀ x ∈ xs, x ∈ unks) ∧ (∀ f, k < f → Ret (c_unknowns_in f) [.str x] (.lst (xs.map .str))) ∧ ∀ f, k < f → Ret (c__law_unknowns f) [.str x] (.lst (xs.map .str)) := fun x k hx => by
    refine ⟨[x], ⟨Nat.one_le_two_pow, fun y hy => by simp at hy; rw [hy]; exact hx⟩, fun f hf => ?_, fun f hf => ?_⟩
    · obtain ⟨g, rfl⟩ : ∃ g, f = g + 1 := ⟨f - 1, by omega⟩
      refine Ret.body (n := 3) (a := m_unknowns_in (c_unknowns_in g)) ?_
      unfold m_unknowns_in
      rw [WS_seq]
      refine WS_ifb (Wb_inst (K_var rfl)) (fun _ => ?_) (fun h => nomatch (show true = false from h))
      try simp only [WS_seq, WS_if, WS_nm, WS_tp, WS_ret, WS_exp, WS_put, WS_nx, W_kcmp, W_mcmp, W_ix, W_dix, W_var, W_C, W_Str, W_Int, W_Dsp, W_bin, W_ktr, W_knt, W_kand, W_kor, W_mnt, W_mand, W_mor, W_mif, W_kchn, W_neg, W_inst, W_it, W_rng, W_zip, W_tup, W_lst, W_rev, W_pt0, W_pt1, W_sl, W_lset, W_cnt, W_lzip, W_app, W_ext, W_ins, W_get2, W_kg2, W_kg1, W_B1, W_B2, W_cal, W_cons, W_nil, V_gt, V_lt, V_le, V_ge, V_mod, V_fdiv, V_add, V_sub, V_mul, V_int, V_lenL, V_lenT, List.map_cons, List.map_nil, List.cons_append, List.nil_append, List.length_cons, List.length_nil, List.replicate, List.getElem?_cons_zero, List.getElem?_cons_succ, Option.some.injEq, exists_eq_left', List.set_cons_zero, List.set_cons_succ, Nat.reduceAdd, Nat.reduceLT, Nat.reduceSub, true_and, Nat.zero_lt_succ, List.length_map, decide_eq_true_eq, V_d0, V_d1, W_mkF, V_pow9, V_pow18, lineLen, Nat.reduceLeDiff, if_true, if_false, W_pure, V_ix0, V_ix1, V_ix2, V_ixL0, V_ixL1]
      exact Fz.dat
    · obtain ⟨g, rfl⟩ : ∃ g, f = g + 1 := ⟨f - 1, by omega⟩
      refine Ret.body (n := 3) (a := m__law_unknowns (c__law_unknowns g)) ?_
      unfold m__law_unknowns
      rw [WS_seq]
      refine WS_ifb (Wb_inst (K_var rfl)) (fun _ => ?_) (fun h => nomatch (show true = false from h))
      try simp only [WS_seq, WS_if, WS_nm, WS_tp, WS_ret, WS_exp, WS_put, WS_nx, W_kcmp, W_mcmp, W_ix, W_dix, W_var, W_C, W_Str, W_Int, W_Dsp, W_bin, W_ktr, W_knt, W_kand, W_kor, W_mnt, W_mand, W_mor, W_mif, W_kchn, W_neg, W_inst, W_it, W_rng, W_zip, W_tup, W_lst, W_rev, W_pt0, W_pt1, W_sl, W_lset, W_cnt, W_lzip, W_app, W_ext, W_ins, W_get2, W_kg2, W_kg1, W_B1, W_B2, W_cal, W_cons, W_nil, V_gt, V_lt, V_le, V_ge, V_mod, V_fdiv, V_add, V_sub, V_mul, V_int, V_lenL, V_lenT, List.map_cons, List.map_nil, List.cons_append, List.nil_append, List.length_cons, List.length_nil, List.replicate, List.getElem?_cons_zero, List.getElem?_cons_succ, Option.some.injEq, exists_eq_left', List.set_cons_zero, List.set_cons_succ, Nat.reduceAdd, Nat.reduceLT, Nat.reduceSub, true_and, Nat.zero_lt_succ, List.length_map, decide_eq_true_eq, V_d0, V_d1, W_mkF, V_pow9, V_pow18, lineLen, Nat.reduceLeDiff, if_true, if_false, W_pure, V_ix0, V_ix1, V_ix2, V_ixL0, V_ixL1]
      exact Fz.dat
  intro k
  induction k with
  | zero =>
    rintro _ p ⟨x, hx, rfl⟩
    exact leaf x 0 hx
  | succ k ih =>
    rintro hk p (⟨x, hx, rfl⟩ | ⟨x, ds, rfl, hx, hl, hd⟩)
    · exact leaf x (k + 1) hx
    · obtain ⟨xss, il, hp⟩ := choose_list fun e he => ih (by omega) e (hd e he)
      have each : ∀ y ∈ xss, y.length ≤ 2 ^ k ∧ ∀ x ∈ y, x ∈ unks := fun y hy => by
        obtain ⟨j, hj⟩ := List.mem_iff_getElem?.mp hy
        have jl := (List.getElem?_eq_some_iff.mp hj).1
        exact (hp j ds[j] y (List.getElem?_eq_getElem (by omega)) hj).1
      have p2 : 2 ^ k ≤ 2 ^ 10 := Nat.pow_le_pow_right (by decide) (by omega)
      have tot : ∀ i, (xss.take i).flatten.length ≤ 2 * 2 ^ k := fun i => by
        have h1 := flat_len (l := xss.take i) (b := 2 ^ k) fun y hy => (each y (List.mem_of_mem_take hy)).1
        have h2 : (xss.take i).length * 2 ^ k ≤ 2 * 2 ^ k := Nat.mul_le_mul (by rw [List.length_take]; omega) (Nat.le_refl _)
        omega
      have full : (xss.take ds.length).flatten = xss.flatten := by rw [← il, List.take_length]
      refine ⟨xss.flatten, ⟨by have := tot ds.length; rw [full] at this; rw [Nat.pow_succ]; omega, fun x hx => ?_⟩, fun f hf => ?_, fun f hf => ?_⟩
      · obtain ⟨y, hy, hxy⟩ := List.mem_flatten.mp hx
        exact (each y hy).2 x hxy
      · obtain ⟨g, rfl⟩ : ∃ g, f = g + 1 := ⟨f - 1, by omega⟩
        refine Ret.body (n := 3) (a := m_unknowns_in (c_unknowns_in g)) ?_
        unfold m_unknowns_in
        rw [WS_seq]
        refine WS_ifb (Wb_inst (K_var rfl)) (fun h => nomatch (show false = true from h)) (fun _ => ?_)
        rw [WS_nx]
        try simp only [WS_seq, WS_if, WS_nm, WS_tp, WS_ret, WS_exp, WS_put, WS_nx, W_kcmp, W_mcmp, W_ix, W_dix, W_var, W_C, W_Str, W_Int, W_Dsp, W_bin, W_ktr, W_knt, W_kand, W_kor, W_mnt, W_mand, W_mor, W_mif, W_kchn, W_neg, W_inst, W_it, W_rng, W_zip, W_tup, W_lst, W_rev, W_pt0, W_pt1, W_sl, W_lset, W_cnt, W_lzip, W_app, W_ext, W_ins, W_get2, W_kg2, W_kg1, W_B1, W_B2, W_cal, W_cons, W_nil, V_gt, V_lt, V_le, V_ge, V_mod, V_fdiv, V_add, V_sub, V_mul, V_int, V_lenL, V_lenT, List.map_cons, List.map_nil, List.cons_append, List.nil_append, List.length_cons, List.length_nil, List.replicate, List.getElem?_cons_zero, List.getElem?_cons_succ, Option.some.injEq, exists_eq_left', List.set_cons_zero, List.set_cons_succ, Nat.reduceAdd, Nat.reduceLT, Nat.reduceSub, true_and, Nat.zero_lt_succ, List.length_map, decide_eq_true_eq, V_d0, V_d1, W_mkF, V_pow9, V_pow18, lineLen, Nat.reduceLeDiff, if_true, if_false, W_pure, V_ix0, V_ix1, V_ix2, V_ixL0, V_ixL1,  W_mkT]
        refine WS_for ?_
        try simp only [WS_seq, WS_if, WS_nm, WS_tp, WS_ret, WS_exp, WS_put, WS_nx, W_kcmp, W_mcmp, W_ix, W_dix, W_var, W_C, W_Str, W_Int, W_Dsp, W_bin, W_ktr, W_knt, W_kand, W_kor, W_mnt, W_mand, W_mor, W_mif, W_kchn, W_neg, W_inst, W_it, W_rng, W_zip, W_tup, W_lst, W_rev, W_pt0, W_pt1, W_sl, W_lset, W_cnt, W_lzip, W_app, W_ext, W_ins, W_get2, W_kg2, W_kg1, W_B1, W_B2, W_cal, W_cons, W_nil, V_gt, V_lt, V_le, V_ge, V_mod, V_fdiv, V_add, V_sub, V_mul, V_int, V_lenL, V_lenT, List.map_cons, List.map_nil, List.cons_append, List.nil_append, List.length_cons, List.length_nil, List.replicate, List.getElem?_cons_zero, List.getElem?_cons_succ, Option.some.injEq, exists_eq_left', List.set_cons_zero, List.set_cons_succ, Nat.reduceAdd, Nat.reduceLT, Nat.reduceSub, true_and, Nat.zero_lt_succ, List.length_map, decide_eq_true_eq, V_d0, V_d1, W_mkF, V_pow9, V_pow18, lineLen, Nat.reduceLeDiff, if_true, if_false, W_pure, V_ix0, V_ix1, V_ix2, V_ixL0, V_ixL1]
        rw [V_slT, tl_cut, V_ivT]
        refine ⟨fun i ρ s => ∃ o, ρ = [some (.d (.tup (.str x :: ds))), some (.loc 0), o] ∧ s = [.lst ((((xss.take i).flatten).map .str).map .d)], ⟨_, rfl, rfl⟩, ?_, ?_⟩
        · rintro i v ρ s hv ⟨o, rfl, rfl⟩
          rw [List.getElem?_map] at hv
          cases ei : ds[i]? with
          | none => rw [ei] at hv; cases hv
          | some e =>
            rw [ei] at hv
            cases hv
            have jl := (List.getElem?_eq_some_iff.mp ei).1
            have ey : xss[i]? = some (xss[i]'(by omega)) := List.getElem?_eq_getElem (by omega)
            generalize xss[i]'(by omega) = y at ey
            refine ⟨_, rfl, ?_⟩
            try simp only [WS_seq, WS_if, WS_nm, WS_tp, WS_ret, WS_exp, WS_put, WS_nx, W_kcmp, W_mcmp, W_ix, W_dix, W_var, W_C, W_Str, W_Int, W_Dsp, W_bin, W_ktr, W_knt, W_kand, W_kor, W_mnt, W_mand, W_mor, W_mif, W_kchn, W_neg, W_inst, W_it, W_rng, W_zip, W_tup, W_lst, W_rev, W_pt0, W_pt1, W_sl, W_lset, W_cnt, W_lzip, W_app, W_ext, W_ins, W_get2, W_kg2, W_kg1, W_B1, W_B2, W_cal, W_cons, W_nil, V_gt, V_lt, V_le, V_ge, V_mod, V_fdiv, V_add, V_sub, V_mul, V_int, V_lenL, V_lenT, List.map_cons, List.map_nil, List.cons_append, List.nil_append, List.length_cons, List.length_nil, List.replicate, List.getElem?_cons_zero, List.getElem?_cons_succ, Option.some.injEq, exists_eq_left', List.set_cons_zero, List.set_cons_succ, Nat.reduceAdd, Nat.reduceLT, Nat.reduceSub, true_and, Nat.zero_lt_succ, List.length_map, decide_eq_true_eq, V_d0, V_d1, W_mkF, V_pow9, V_pow18, lineLen, Nat.reduceLeDiff, if_true, if_false, W_pure, V_ix0, V_ix1, V_ix2, V_ixL0, V_ixL1]
            rw [W_isL (vs := (((xss.take i).flatten).map D.str).map .d) rfl]
            refine Ret.call (ds := [e]) ((hp i e y ei ey).2.1 g (by omega)) ?_
            have ty := (each y (List.mem_of_getElem? ey)).1
            have tt := tot i
            refine V_extLoc (vs := (((xss.take i).flatten).map D.str).map .d) rfl (by simp only [List.length_map]; unfold lineLen; omega) ⟨_, rfl, ?_⟩
            rw [flat_next ey]
            simp
        · rintro ρ s ⟨o, rfl, rfl⟩
          rw [List.length_map, full]
          try simp only [WS_seq, WS_if, WS_nm, WS_tp, WS_ret, WS_exp, WS_put, WS_nx, W_kcmp, W_mcmp, W_ix, W_dix, W_var, W_C, W_Str, W_Int, W_Dsp, W_bin, W_ktr, W_knt, W_kand, W_kor, W_mnt, W_mand, W_mor, W_mif, W_kchn, W_neg, W_inst, W_it, W_rng, W_zip, W_tup, W_lst, W_rev, W_pt0, W_pt1, W_sl, W_lset, W_cnt, W_lzip, W_app, W_ext, W_ins, W_get2, W_kg2, W_kg1, W_B1, W_B2, W_cal, W_cons, W_nil, V_gt, V_lt, V_le, V_ge, V_mod, V_fdiv, V_add, V_sub, V_mul, V_int, V_lenL, V_lenT, List.map_cons, List.map_nil, List.cons_append, List.nil_append, List.length_cons, List.length_nil, List.replicate, List.getElem?_cons_zero, List.getElem?_cons_succ, Option.some.injEq, exists_eq_left', List.set_cons_zero, List.set_cons_succ, Nat.reduceAdd, Nat.reduceLT, Nat.reduceSub, true_and, Nat.zero_lt_succ, List.length_map, decide_eq_true_eq, V_d0, V_d1, W_mkF, V_pow9, V_pow18, lineLen, Nat.reduceLeDiff, if_true, if_false, W_pure, V_ix0, V_ix1, V_ix2, V_ixL0, V_ixL1]
          exact Fz.cel (Nat.le_refl _) rfl
      · obtain ⟨g, rfl⟩ : ∃ g, f = g + 1 := ⟨f - 1, by omega⟩
        refine Ret.body (n := 3) (a := m__law_unknowns (c__law_unknowns g)) ?_
        unfold m__law_unknowns
        rw [WS_seq]
        refine WS_ifb (Wb_inst (K_var rfl)) (fun h => nomatch (show false = true from h)) (fun _ => ?_)
        rw [WS_nx]
        try simp only [WS_seq, WS_if, WS_nm, WS_tp, WS_ret, WS_exp, WS_put, WS_nx, W_kcmp, W_mcmp, W_ix, W_dix, W_var, W_C, W_Str, W_Int, W_Dsp, W_bin, W_ktr, W_knt, W_kand, W_kor, W_mnt, W_mand, W_mor, W_mif, W_kchn, W_neg, W_inst, W_it, W_rng, W_zip, W_tup, W_lst, W_rev, W_pt0, W_pt1, W_sl, W_lset, W_cnt, W_lzip, W_app, W_ext, W_ins, W_get2, W_kg2, W_kg1, W_B1, W_B2, W_cal, W_cons, W_nil, V_gt, V_lt, V_le, V_ge, V_mod, V_fdiv, V_add, V_sub, V_mul, V_int, V_lenL, V_lenT, List.map_cons, List.map_nil, List.cons_append, List.nil_append, List.length_cons, List.length_nil, List.replicate, List.getElem?_cons_zero, List.getElem?_cons_succ, Option.some.injEq, exists_eq_left', List.set_cons_zero, List.set_cons_succ, Nat.reduceAdd, Nat.reduceLT, Nat.reduceSub, true_and, Nat.zero_lt_succ, List.length_map, decide_eq_true_eq, V_d0, V_d1, W_mkF, V_pow9, V_pow18, lineLen, Nat.reduceLeDiff, if_true, if_false, W_pure, V_ix0, V_ix1, V_ix2, V_ixL0, V_ixL1]
        refine WS_for ?_
        try simp only [WS_seq, WS_if, WS_nm, WS_tp, WS_ret, WS_exp, WS_put, WS_nx, W_kcmp, W_mcmp, W_ix, W_dix, W_var, W_C, W_Str, W_Int, W_Dsp, W_bin, W_ktr, W_knt, W_kand, W_kor, W_mnt, W_mand, W_mor, W_mif, W_kchn, W_neg, W_inst, W_it, W_rng, W_zip, W_tup, W_lst, W_rev, W_pt0, W_pt1, W_sl, W_lset, W_cnt, W_lzip, W_app, W_ext, W_ins, W_get2, W_kg2, W_kg1, W_B1, W_B2, W_cal, W_cons, W_nil, V_gt, V_lt, V_le, V_ge, V_mod, V_fdiv, V_add, V_sub, V_mul, V_int, V_lenL, V_lenT, List.map_cons, List.map_nil, List.cons_append, List.nil_append, List.length_cons, List.length_nil, List.replicate, List.getElem?_cons_zero, List.getElem?_cons_succ, Option.some.injEq, exists_eq_left', List.set_cons_zero, List.set_cons_succ, Nat.reduceAdd, Nat.reduceLT, Nat.reduceSub, true_and, Nat.zero_lt_succ, List.length_map, decide_eq_true_eq, V_d0, V_d1, W_mkF, V_pow9, V_pow18, lineLen, Nat.reduceLeDiff, if_true, if_false, W_pure, V_ix0, V_ix1, V_ix2, V_ixL0, V_ixL1]
        rw [V_slT, tl_cut, V_ivT]
        refine ⟨fun i ρ s => ∃ o, ρ = [some (.d (.tup (.str x :: ds))), some (.d (.lst (((xss.take i).flatten).map .str))), o] ∧ s = [], ⟨_, rfl, rfl⟩, ?_, ?_⟩
        · rintro i v ρ s hv ⟨o, rfl, rfl⟩
          rw [List.getElem?_map] at hv
          cases ei : ds[i]? with
          | none => rw [ei] at hv; cases hv
          | some e =>
            rw [ei] at hv
            cases hv
            have jl := (List.getElem?_eq_some_iff.mp ei).1
            have ey : xss[i]? = some (xss[i]'(by omega)) := List.getElem?_eq_getElem (by omega)
            generalize xss[i]'(by omega) = y at ey
            refine ⟨_, rfl, ?_⟩
            try simp only [WS_seq, WS_if, WS_nm, WS_tp, WS_ret, WS_exp, WS_put, WS_nx, W_kcmp, W_mcmp, W_ix, W_dix, W_var, W_C, W_Str, W_Int, W_Dsp, W_bin, W_ktr, W_knt, W_kand, W_kor, W_mnt, W_mand, W_mor, W_mif, W_kchn, W_neg, W_inst, W_it, W_rng, W_zip, W_tup, W_lst, W_rev, W_pt0, W_pt1, W_sl, W_lset, W_cnt, W_lzip, W_app, W_ext, W_ins, W_get2, W_kg2, W_kg1, W_B1, W_B2, W_cal, W_cons, W_nil, V_gt, V_lt, V_le, V_ge, V_mod, V_fdiv, V_add, V_sub, V_mul, V_int, V_lenL, V_lenT, List.map_cons, List.map_nil, List.cons_append, List.nil_append, List.length_cons, List.length_nil, List.replicate, List.getElem?_cons_zero, List.getElem?_cons_succ, Option.some.injEq, exists_eq_left', List.set_cons_zero, List.set_cons_succ, Nat.reduceAdd, Nat.reduceLT, Nat.reduceSub, true_and, Nat.zero_lt_succ, List.length_map, decide_eq_true_eq, V_d0, V_d1, W_mkF, V_pow9, V_pow18, lineLen, Nat.reduceLeDiff, if_true, if_false, W_pure, V_ix0, V_ix1, V_ix2, V_ixL0, V_ixL1]
            refine Ret.call (ds := [e]) ((hp i e y ei ey).2.2 g (by omega)) ?_
            have ty := (each y (List.mem_of_getElem? ey)).1
            have tt := tot i
            refine V_addL (by simp only [List.length_map]; unfold lineLen; omega) ?_
            rw [← List.map_append, ← flat_next ey]
            exact ⟨_, rfl, rfl⟩
        · rintro ρ s ⟨o, rfl, rfl⟩
          rw [List.length_map, full]
          try simp only [WS_seq, WS_if, WS_nm, WS_tp, WS_ret, WS_exp, WS_put, WS_nx, W_kcmp, W_mcmp, W_ix, W_dix, W_var, W_C, W_Str, W_Int, W_Dsp, W_bin, W_ktr, W_knt, W_kand, W_kor, W_mnt, W_mand, W_mor, W_mif, W_kchn, W_neg, W_inst, W_it, W_rng, W_zip, W_tup, W_lst, W_rev, W_pt0, W_pt1, W_sl, W_lset, W_cnt, W_lzip, W_app, W_ext, W_ins, W_get2, W_kg2, W_kg1, W_B1, W_B2, W_cal, W_cons, W_nil, V_gt, V_lt, V_le, V_ge, V_mod, V_fdiv, V_add, V_sub, V_mul, V_int, V_lenL, V_lenT, List.map_cons, List.map_nil, List.cons_append, List.nil_append, List.length_cons, List.length_nil, List.replicate, List.getElem?_cons_zero, List.getElem?_cons_succ, Option.some.injEq, exists_eq_left', List.set_cons_zero, List.set_cons_succ, Nat.reduceAdd, Nat.reduceLT, Nat.reduceSub, true_and, Nat.zero_lt_succ, List.length_map, decide_eq_true_eq, V_d0, V_d1, W_mkF, V_pow9, V_pow18, lineLen, Nat.reduceLeDiff, if_true, if_false, W_pure, V_ix0, V_ix1, V_ix2, V_ixL0, V_ixL1]
          exact Fz.dat
end My
set_option maxRecDepth 100000
set_option maxHeartbeats 8000000
namespace My
open Ev PySem

/-! conditions known -/
theorem WS_no {k : Ev.Env → M Bool} {ρ : Ev.Env} {s : Store} {p : Bool} {a b : Ms} {Q : Fl → Ev.Env → Store → Prop} (h : Wb k ρ s p) (hp : p = false) (r : WS b ρ s Q) : WS (sIf k a b) ρ s Q := WS_ifb h (fun e => absurd (hp.symm.trans e) Bool.false_ne_true) fun _ => r
theorem WS_yes {k : Ev.Env → M Bool} {ρ : Ev.Env} {s : Store} {p : Bool} {a b : Ms} {Q : Fl → Ev.Env → Store → Prop} (h : Wb k ρ s p) (hp : p = true) (r : WS a ρ s Q) : WS (sIf k a b) ρ s Q := WS_ifb h (fun _ => r) fun e => absurd (e.symm.trans hp) Bool.false_ne_true
theorem W_strsOf {xs : List Str} {s : Store} {R : List Str → Store → Prop} : W (strsOf ((xs.map D.str).map .d)) s R ↔ R xs s := by
  induction xs generalizing R with
  | nil => exact Iff.rfl
  | cons x xs ih =>
    show W (strV (.d (.str x)) >>= fun x => strsOf ((xs.map D.str).map .d) >>= fun xs => M.pure (x :: xs)) s R ↔ _
    rw [W_bind]
    show W (strsOf ((xs.map D.str).map .d) >>= fun xs => M.pure (x :: xs)) s R ↔ _
    rw [W_bind, ih]
    exact Iff.rfl
theorem V_lset {xs : List Str} {s : Store} {R : Val → Store → Prop} (h : xs.length < 4000) (r : R (.d (.int ((metS xs).length : Nat))) s) : W (lenSetS (.d (.lst (xs.map .str)))) s R := by
  unfold lenSetS
  rw [W_bind, W_listD, W_bind, W_strsOf, if_pos h]
  exact r
theorem V_cnt {xs : List Str} {z : Str} {s : Store} {R : Val → Store → Prop} : W (cntS (.d (.lst (xs.map .str))) (.d (.str z))) s R ↔ R (.d (.int (xs.count z : Nat))) s := by
  unfold cntS
  rw [W_bind, W_listD, W_bind, W_strsOf, W_bind]
  exact Iff.rfl
theorem V_isLs {xs : List D} {s : Store} {R : Unit → Store → Prop} : W (isLs (.d (.lst xs))) s R ↔ R () s := by
  unfold isLs
  rw [W_bind, W_listD]
  exact Iff.rfl
theorem deqs_strs : ∀ {xs ys : List Str}, deqs (xs.map .str) (ys.map .str) = decide (xs = ys)
  | [], [] => rfl
  | [], y :: ys => by simp [deqs]
  | x :: xs, [] => by simp [deqs]
  | x :: xs, y :: ys => by
    show (deq (.str x) (.str y) && deqs (xs.map .str) (ys.map .str)) = _
    rw [deqs_strs, deq_str, Bool.eq_iff_iff]
    simp
theorem deq_strL {xs ys : List Str} : deq (.lst (xs.map .str)) (.lst (ys.map .str)) = decide (xs = ys) := deqs_strs
def sget : List (Str × Str) → Str → Option Str
  | [], _ => none
  | p :: l, x => if p.1 = x then some p.2 else sget l x
theorem dget_strs {x : Str} : ∀ {l : List (Str × Str)}, dget (l.map fun p => (D.str p.1, D.str p.2)) (.str x) = (sget l x).map D.str
  | [] => rfl
  | p :: l => by
    show (if deq (.str p.1) (.str x) = true then some (D.str p.2) else dget (l.map fun p => (D.str p.1, D.str p.2)) (.str x)) = ((if p.1 = x then some p.2 else sget l x)).map D.str
    rw [deq_str, dget_strs]
    by_cases h : p.1 = x
    · rw [if_pos (by simpa using h), if_pos h]; rfl
    · rw [if_neg (by simpa using h), if_neg h]

/-! what a rule does -/
def FA : Str := Str.ofString "falls"
def KE : Str := Str.ofString "keeps"
def RI : Str := Str.ofString "rises"
def ways3 : List Str := [FA, KE, RI]
def rw3 (xs : List Str) (less : Int) : Str := if (metS xs).length < xs.length ∨ less < 0 then RI else if 0 < less then FA else KE
theorem rw3_mem (xs : List Str) (less : Int) : rw3 xs less ∈ ways3 := by
  unfold rw3
  split
  · simp [ways3]
  · split <;> simp [ways3]
theorem mark_of_ok {mk : List (Str × Int)} {p : D} {i : Int} (h : Ret (c_mark_by 12) [.dct (mkM mk), p] (.int i)) : Ret c_mark_of [mkD mk, p] (.int i) := by
  refine Ret.body (n := 2) (a := m_mark_of) ?_
  unfold m_mark_of
  try simp only [WS_seq, WS_if, WS_nm, WS_tp, WS_ret, WS_exp, WS_put, WS_nx, W_kcmp, W_mcmp, W_ix, W_dix, W_var, W_C, W_Str, W_Int, W_Dsp, W_bin, W_ktr, W_knt, W_kand, W_kor, W_mnt, W_mand, W_mor, W_mif, W_kchn, W_neg, W_inst, W_it, W_rng, W_zip, W_tup, W_lst, W_rev, W_pt0, W_pt1, W_sl, W_lset, W_cnt, W_lzip, W_app, W_ext, W_ins, W_get2, W_kg2, W_kg1, W_B1, W_B2, W_cal, W_cons, W_nil, V_gt, V_lt, V_le, V_ge, V_mod, V_fdiv, V_add, V_sub, V_mul, V_int, V_lenL, V_lenT, List.map_cons, List.map_nil, List.cons_append, List.nil_append, List.length_cons, List.length_nil, List.replicate, List.getElem?_cons_zero, List.getElem?_cons_succ, Option.some.injEq, exists_eq_left', List.set_cons_zero, List.set_cons_succ, Nat.reduceAdd, Nat.reduceLT, Nat.reduceSub, true_and, Nat.zero_lt_succ, List.length_map, decide_eq_true_eq, V_d0, V_d1, W_mkF, V_pow9, V_pow18, lineLen, Nat.reduceLeDiff, if_true, if_false, W_pure, V_ix0, V_ix1, V_ix2, V_ixL0, V_ixL1]
  refine W_dictMk ?_
  exact Ret.call (ds := [.dct (mkM mk), p]) h Fz.dat
theorem unks_strOk {x : Str} (h : x ∈ unks) : PyData.strOk x = true := strOk_mem unks_ok h
theorem prog_rule {mk : List (Str × Int)} {n : Str} {l r : D} {xs : List Str} {i j : Int} (hu : Ret (c_unknowns_in 12) [r] (.lst (xs.map .str))) (hx : xs.length ≤ 1024) (hl : Ret (c_mark_by 12) [.dct (mkM mk), l] (.int i)) (hr : Ret (c_mark_by 12) [.dct (mkM mk), r] (.int j)) :
    Ret c_way_of_rule [mkD mk, .tup [.str n, l, r]] (.str (rw3 xs (i - j))) := by
  refine Ret.body (n := 7) (a := m_way_of_rule) ?_
  unfold m_way_of_rule
  try simp only [WS_seq, WS_if, WS_nm, WS_tp, WS_ret, WS_exp, WS_put, WS_nx, W_kcmp, W_mcmp, W_ix, W_dix, W_var, W_C, W_Str, W_Int, W_Dsp, W_bin, W_ktr, W_knt, W_kand, W_kor, W_mnt, W_mand, W_mor, W_mif, W_kchn, W_neg, W_inst, W_it, W_rng, W_zip, W_tup, W_lst, W_rev, W_pt0, W_pt1, W_sl, W_lset, W_cnt, W_lzip, W_app, W_ext, W_ins, W_get2, W_kg2, W_kg1, W_B1, W_B2, W_cal, W_cons, W_nil, V_gt, V_lt, V_le, V_ge, V_mod, V_fdiv, V_add, V_sub, V_mul, V_int, V_lenL, V_lenT, List.map_cons, List.map_nil, List.cons_append, List.nil_append, List.length_cons, List.length_nil, List.replicate, List.getElem?_cons_zero, List.getElem?_cons_succ, Option.some.injEq, exists_eq_left', List.set_cons_zero, List.set_cons_succ, Nat.reduceAdd, Nat.reduceLT, Nat.reduceSub, true_and, Nat.zero_lt_succ, List.length_map, decide_eq_true_eq, V_d0, V_d1, W_mkF, V_pow9, V_pow18, lineLen, Nat.reduceLeDiff, if_true, if_false, W_pure, V_ix0, V_ix1, V_ix2, V_ixL0, V_ixL1]
  refine ⟨_, rfl, ?_⟩
  try simp only [WS_seq, WS_if, WS_nm, WS_tp, WS_ret, WS_exp, WS_put, WS_nx, W_kcmp, W_mcmp, W_ix, W_dix, W_var, W_C, W_Str, W_Int, W_Dsp, W_bin, W_ktr, W_knt, W_kand, W_kor, W_mnt, W_mand, W_mor, W_mif, W_kchn, W_neg, W_inst, W_it, W_rng, W_zip, W_tup, W_lst, W_rev, W_pt0, W_pt1, W_sl, W_lset, W_cnt, W_lzip, W_app, W_ext, W_ins, W_get2, W_kg2, W_kg1, W_B1, W_B2, W_cal, W_cons, W_nil, V_gt, V_lt, V_le, V_ge, V_mod, V_fdiv, V_add, V_sub, V_mul, V_int, V_lenL, V_lenT, List.map_cons, List.map_nil, List.cons_append, List.nil_append, List.length_cons, List.length_nil, List.replicate, List.getElem?_cons_zero, List.getElem?_cons_succ, Option.some.injEq, exists_eq_left', List.set_cons_zero, List.set_cons_succ, Nat.reduceAdd, Nat.reduceLT, Nat.reduceSub, true_and, Nat.zero_lt_succ, List.length_map, decide_eq_true_eq, V_d0, V_d1, W_mkF, V_pow9, V_pow18, lineLen, Nat.reduceLeDiff, if_true, if_false, W_pure, V_ix0, V_ix1, V_ix2, V_ixL0, V_ixL1]
  refine Ret.call (ds := [r]) hu ?_
  try simp only [WS_seq, WS_if, WS_nm, WS_tp, WS_ret, WS_exp, WS_put, WS_nx, W_kcmp, W_mcmp, W_ix, W_dix, W_var, W_C, W_Str, W_Int, W_Dsp, W_bin, W_ktr, W_knt, W_kand, W_kor, W_mnt, W_mand, W_mor, W_mif, W_kchn, W_neg, W_inst, W_it, W_rng, W_zip, W_tup, W_lst, W_rev, W_pt0, W_pt1, W_sl, W_lset, W_cnt, W_lzip, W_app, W_ext, W_ins, W_get2, W_kg2, W_kg1, W_B1, W_B2, W_cal, W_cons, W_nil, V_gt, V_lt, V_le, V_ge, V_mod, V_fdiv, V_add, V_sub, V_mul, V_int, V_lenL, V_lenT, List.map_cons, List.map_nil, List.cons_append, List.nil_append, List.length_cons, List.length_nil, List.replicate, List.getElem?_cons_zero, List.getElem?_cons_succ, Option.some.injEq, exists_eq_left', List.set_cons_zero, List.set_cons_succ, Nat.reduceAdd, Nat.reduceLT, Nat.reduceSub, true_and, Nat.zero_lt_succ, List.length_map, decide_eq_true_eq, V_d0, V_d1, W_mkF, V_pow9, V_pow18, lineLen, Nat.reduceLeDiff, if_true, if_false, W_pure, V_ix0, V_ix1, V_ix2, V_ixL0, V_ixL1]
  refine Ret.call (ds := [mkD mk, l]) (mark_of_ok hl) ?_
  refine Ret.call (ds := [mkD mk, r]) (mark_of_ok hr) ?_
  try simp only [WS_seq, WS_if, WS_nm, WS_tp, WS_ret, WS_exp, WS_put, WS_nx, W_kcmp, W_mcmp, W_ix, W_dix, W_var, W_C, W_Str, W_Int, W_Dsp, W_bin, W_ktr, W_knt, W_kand, W_kor, W_mnt, W_mand, W_mor, W_mif, W_kchn, W_neg, W_inst, W_it, W_rng, W_zip, W_tup, W_lst, W_rev, W_pt0, W_pt1, W_sl, W_lset, W_cnt, W_lzip, W_app, W_ext, W_ins, W_get2, W_kg2, W_kg1, W_B1, W_B2, W_cal, W_cons, W_nil, V_gt, V_lt, V_le, V_ge, V_mod, V_fdiv, V_add, V_sub, V_mul, V_int, V_lenL, V_lenT, List.map_cons, List.map_nil, List.cons_append, List.nil_append, List.length_cons, List.length_nil, List.replicate, List.getElem?_cons_zero, List.getElem?_cons_succ, Option.some.injEq, exists_eq_left', List.set_cons_zero, List.set_cons_succ, Nat.reduceAdd, Nat.reduceLT, Nat.reduceSub, true_and, Nat.zero_lt_succ, List.length_map, decide_eq_true_eq, V_d0, V_d1, W_mkF, V_pow9, V_pow18, lineLen, Nat.reduceLeDiff, if_true, if_false, W_pure, V_ix0, V_ix1, V_ix2, V_ixL0, V_ixL1]
  refine V_lset (by omega) ?_
  try simp only [WS_seq, WS_if, WS_nm, WS_tp, WS_ret, WS_exp, WS_put, WS_nx, W_kcmp, W_mcmp, W_ix, W_dix, W_var, W_C, W_Str, W_Int, W_Dsp, W_bin, W_ktr, W_knt, W_kand, W_kor, W_mnt, W_mand, W_mor, W_mif, W_kchn, W_neg, W_inst, W_it, W_rng, W_zip, W_tup, W_lst, W_rev, W_pt0, W_pt1, W_sl, W_lset, W_cnt, W_lzip, W_app, W_ext, W_ins, W_get2, W_kg2, W_kg1, W_B1, W_B2, W_cal, W_cons, W_nil, V_gt, V_lt, V_le, V_ge, V_mod, V_fdiv, V_add, V_sub, V_mul, V_int, V_lenL, V_lenT, List.map_cons, List.map_nil, List.cons_append, List.nil_append, List.length_cons, List.length_nil, List.replicate, List.getElem?_cons_zero, List.getElem?_cons_succ, Option.some.injEq, exists_eq_left', List.set_cons_zero, List.set_cons_succ, Nat.reduceAdd, Nat.reduceLT, Nat.reduceSub, true_and, Nat.zero_lt_succ, List.length_map, decide_eq_true_eq, V_d0, V_d1, W_mkF, V_pow9, V_pow18, lineLen, Nat.reduceLeDiff, if_true, if_false, W_pure, V_ix0, V_ix1, V_ix2, V_ixL0, V_ixL1]
  by_cases h1 : (metS xs).length < xs.length
  · rw [if_pos (by simpa using h1)]
    try simp only [WS_seq, WS_if, WS_nm, WS_tp, WS_ret, WS_exp, WS_put, WS_nx, W_kcmp, W_mcmp, W_ix, W_dix, W_var, W_C, W_Str, W_Int, W_Dsp, W_bin, W_ktr, W_knt, W_kand, W_kor, W_mnt, W_mand, W_mor, W_mif, W_kchn, W_neg, W_inst, W_it, W_rng, W_zip, W_tup, W_lst, W_rev, W_pt0, W_pt1, W_sl, W_lset, W_cnt, W_lzip, W_app, W_ext, W_ins, W_get2, W_kg2, W_kg1, W_B1, W_B2, W_cal, W_cons, W_nil, V_gt, V_lt, V_le, V_ge, V_mod, V_fdiv, V_add, V_sub, V_mul, V_int, V_lenL, V_lenT, List.map_cons, List.map_nil, List.cons_append, List.nil_append, List.length_cons, List.length_nil, List.replicate, List.getElem?_cons_zero, List.getElem?_cons_succ, Option.some.injEq, exists_eq_left', List.set_cons_zero, List.set_cons_succ, Nat.reduceAdd, Nat.reduceLT, Nat.reduceSub, true_and, Nat.zero_lt_succ, List.length_map, decide_eq_true_eq, V_d0, V_d1, W_mkF, V_pow9, V_pow18, lineLen, Nat.reduceLeDiff, if_true, if_false, W_pure, V_ix0, V_ix1, V_ix2, V_ixL0, V_ixL1]
    have e : rw3 xs (i - j) = RI := by unfold rw3; rw [if_pos (.inl h1)]
    rw [e]
    exact Fz.dat
  · rw [if_neg (by simpa using h1)]
    try simp only [WS_seq, WS_if, WS_nm, WS_tp, WS_ret, WS_exp, WS_put, WS_nx, W_kcmp, W_mcmp, W_ix, W_dix, W_var, W_C, W_Str, W_Int, W_Dsp, W_bin, W_ktr, W_knt, W_kand, W_kor, W_mnt, W_mand, W_mor, W_mif, W_kchn, W_neg, W_inst, W_it, W_rng, W_zip, W_tup, W_lst, W_rev, W_pt0, W_pt1, W_sl, W_lset, W_cnt, W_lzip, W_app, W_ext, W_ins, W_get2, W_kg2, W_kg1, W_B1, W_B2, W_cal, W_cons, W_nil, V_gt, V_lt, V_le, V_ge, V_mod, V_fdiv, V_add, V_sub, V_mul, V_int, V_lenL, V_lenT, List.map_cons, List.map_nil, List.cons_append, List.nil_append, List.length_cons, List.length_nil, List.replicate, List.getElem?_cons_zero, List.getElem?_cons_succ, Option.some.injEq, exists_eq_left', List.set_cons_zero, List.set_cons_succ, Nat.reduceAdd, Nat.reduceLT, Nat.reduceSub, true_and, Nat.zero_lt_succ, List.length_map, decide_eq_true_eq, V_d0, V_d1, W_mkF, V_pow9, V_pow18, lineLen, Nat.reduceLeDiff, if_true, if_false, W_pure, V_ix0, V_ix1, V_ix2, V_ixL0, V_ixL1]
    by_cases h2 : i - j < 0
    · rw [if_pos (by simpa using h2)]
      have e : rw3 xs (i - j) = RI := by unfold rw3; rw [if_pos (.inr h2)]
      rw [e]
      exact Fz.dat
    · rw [if_neg (by simpa using h2)]
      have n12 : ¬ ((metS xs).length < xs.length ∨ i - j < 0) := fun z => z.elim h1 h2
      by_cases h3 : 0 < i - j
      · rw [if_pos (by simpa using h3)]
        have e : rw3 xs (i - j) = FA := by unfold rw3; rw [if_neg n12, if_pos h3]
        rw [e]
        exact Fz.dat
      · rw [if_neg (by simpa using h3)]
        have e : rw3 xs (i - j) = KE := by unfold rw3; rw [if_neg n12, if_neg h3]
        rw [e]
        exact Fz.dat
def moreThan (xs : List Str) : D → Bool
  | .str x => decide (1 < xs.count x)
  | _ => false
theorem law_rule {mk : List (Str × Int)} {n : Str} {l r : D} {xs : List Str} {i j : Int} (hu : Ret (c__law_unknowns 12) [r] (.lst (xs.map .str))) (hx : xs.length ≤ 1024) (hm : ∀ x ∈ xs, x ∈ unks) (hl : Ret (c__law_weight 12) [mkD mk, l] (.int i)) (hr : Ret (c__law_weight 12) [mkD mk, r] (.int j)) :
    Ret c__law_rule_way [mkD mk, .tup [.str n, l, r]] (.str (rw3 xs (i - j))) := by
  refine Ret.body (n := 5) (a := m__law_rule_way) ?_
  unfold m__law_rule_way
  try simp only [WS_seq, WS_if, WS_nm, WS_tp, WS_ret, WS_exp, WS_put, WS_nx, W_kcmp, W_mcmp, W_ix, W_dix, W_var, W_C, W_Str, W_Int, W_Dsp, W_bin, W_ktr, W_knt, W_kand, W_kor, W_mnt, W_mand, W_mor, W_mif, W_kchn, W_neg, W_inst, W_it, W_rng, W_zip, W_tup, W_lst, W_rev, W_pt0, W_pt1, W_sl, W_lset, W_cnt, W_lzip, W_app, W_ext, W_ins, W_get2, W_kg2, W_kg1, W_B1, W_B2, W_cal, W_cons, W_nil, V_gt, V_lt, V_le, V_ge, V_mod, V_fdiv, V_add, V_sub, V_mul, V_int, V_lenL, V_lenT, List.map_cons, List.map_nil, List.cons_append, List.nil_append, List.length_cons, List.length_nil, List.replicate, List.getElem?_cons_zero, List.getElem?_cons_succ, Option.some.injEq, exists_eq_left', List.set_cons_zero, List.set_cons_succ, Nat.reduceAdd, Nat.reduceLT, Nat.reduceSub, true_and, Nat.zero_lt_succ, List.length_map, decide_eq_true_eq, V_d0, V_d1, W_mkF, V_pow9, V_pow18, lineLen, Nat.reduceLeDiff, if_true, if_false, W_pure, V_ix0, V_ix1, V_ix2, V_ixL0, V_ixL1]
  refine Ret.call (ds := [r]) hu ?_
  try simp only [WS_seq, WS_if, WS_nm, WS_tp, WS_ret, WS_exp, WS_put, WS_nx, W_kcmp, W_mcmp, W_ix, W_dix, W_var, W_C, W_Str, W_Int, W_Dsp, W_bin, W_ktr, W_knt, W_kand, W_kor, W_mnt, W_mand, W_mor, W_mif, W_kchn, W_neg, W_inst, W_it, W_rng, W_zip, W_tup, W_lst, W_rev, W_pt0, W_pt1, W_sl, W_lset, W_cnt, W_lzip, W_app, W_ext, W_ins, W_get2, W_kg2, W_kg1, W_B1, W_B2, W_cal, W_cons, W_nil, V_gt, V_lt, V_le, V_ge, V_mod, V_fdiv, V_add, V_sub, V_mul, V_int, V_lenL, V_lenT, List.map_cons, List.map_nil, List.cons_append, List.nil_append, List.length_cons, List.length_nil, List.replicate, List.getElem?_cons_zero, List.getElem?_cons_succ, Option.some.injEq, exists_eq_left', List.set_cons_zero, List.set_cons_succ, Nat.reduceAdd, Nat.reduceLT, Nat.reduceSub, true_and, Nat.zero_lt_succ, List.length_map, decide_eq_true_eq, V_d0, V_d1, W_mkF, V_pow9, V_pow18, lineLen, Nat.reduceLeDiff, if_true, if_false, W_pure, V_ix0, V_ix1, V_ix2, V_ixL0, V_ixL1]
  refine W_lcF (xs.map .str) (moreThan xs) (fun Q q => ?_) (by rw [List.length_map]; unfold lineLen; omega) (by show 4 < 5; decide) (fun x hx' => ?_) ?_
  · try simp only [WS_seq, WS_if, WS_nm, WS_tp, WS_ret, WS_exp, WS_put, WS_nx, W_kcmp, W_mcmp, W_ix, W_dix, W_var, W_C, W_Str, W_Int, W_Dsp, W_bin, W_ktr, W_knt, W_kand, W_kor, W_mnt, W_mand, W_mor, W_mif, W_kchn, W_neg, W_inst, W_it, W_rng, W_zip, W_tup, W_lst, W_rev, W_pt0, W_pt1, W_sl, W_lset, W_cnt, W_lzip, W_app, W_ext, W_ins, W_get2, W_kg2, W_kg1, W_B1, W_B2, W_cal, W_cons, W_nil, V_gt, V_lt, V_le, V_ge, V_mod, V_fdiv, V_add, V_sub, V_mul, V_int, V_lenL, V_lenT, List.map_cons, List.map_nil, List.cons_append, List.nil_append, List.length_cons, List.length_nil, List.replicate, List.getElem?_cons_zero, List.getElem?_cons_succ, Option.some.injEq, exists_eq_left', List.set_cons_zero, List.set_cons_succ, Nat.reduceAdd, Nat.reduceLT, Nat.reduceSub, true_and, Nat.zero_lt_succ, List.length_map, decide_eq_true_eq, V_d0, V_d1, W_mkF, V_pow9, V_pow18, lineLen, Nat.reduceLeDiff, if_true, if_false, W_pure, V_ix0, V_ix1, V_ix2, V_ixL0, V_ixL1]
    rw [V_ivL]
    exact q
  · obtain ⟨z, hz, rfl⟩ := List.mem_map.mp hx'
    unfold Wb
    try simp only [WS_seq, WS_if, WS_nm, WS_tp, WS_ret, WS_exp, WS_put, WS_nx, W_kcmp, W_mcmp, W_ix, W_dix, W_var, W_C, W_Str, W_Int, W_Dsp, W_bin, W_ktr, W_knt, W_kand, W_kor, W_mnt, W_mand, W_mor, W_mif, W_kchn, W_neg, W_inst, W_it, W_rng, W_zip, W_tup, W_lst, W_rev, W_pt0, W_pt1, W_sl, W_lset, W_cnt, W_lzip, W_app, W_ext, W_ins, W_get2, W_kg2, W_kg1, W_B1, W_B2, W_cal, W_cons, W_nil, V_gt, V_lt, V_le, V_ge, V_mod, V_fdiv, V_add, V_sub, V_mul, V_int, V_lenL, V_lenT, List.map_cons, List.map_nil, List.cons_append, List.nil_append, List.length_cons, List.length_nil, List.replicate, List.getElem?_cons_zero, List.getElem?_cons_succ, Option.some.injEq, exists_eq_left', List.set_cons_zero, List.set_cons_succ, Nat.reduceAdd, Nat.reduceLT, Nat.reduceSub, true_and, Nat.zero_lt_succ, List.length_map, decide_eq_true_eq, V_d0, V_d1, W_mkF, V_pow9, V_pow18, lineLen, Nat.reduceLeDiff, if_true, if_false, W_pure, V_ix0, V_ix1, V_ix2, V_ixL0, V_ixL1,  wipeE, V_isLs, V_cnt]
    refine ⟨?_, by trivial⟩
    show decide ((1 : Int) < (xs.count z : Nat)) = decide (1 < xs.count z)
    rw [Bool.eq_iff_iff]
    simp only [decide_eq_true_eq]
    omega
  · have ef : (xs.map D.str).filter (moreThan xs) = (xs.filter fun x => decide (1 < xs.count x)).map .str := by
      rw [List.filter_map]
      rfl
    rw [ef]
    try simp only [WS_seq, WS_if, WS_nm, WS_tp, WS_ret, WS_exp, WS_put, WS_nx, W_kcmp, W_mcmp, W_ix, W_dix, W_var, W_C, W_Str, W_Int, W_Dsp, W_bin, W_ktr, W_knt, W_kand, W_kor, W_mnt, W_mand, W_mor, W_mif, W_kchn, W_neg, W_inst, W_it, W_rng, W_zip, W_tup, W_lst, W_rev, W_pt0, W_pt1, W_sl, W_lset, W_cnt, W_lzip, W_app, W_ext, W_ins, W_get2, W_kg2, W_kg1, W_B1, W_B2, W_cal, W_cons, W_nil, V_gt, V_lt, V_le, V_ge, V_mod, V_fdiv, V_add, V_sub, V_mul, V_int, V_lenL, V_lenT, List.map_cons, List.map_nil, List.cons_append, List.nil_append, List.length_cons, List.length_nil, List.replicate, List.getElem?_cons_zero, List.getElem?_cons_succ, Option.some.injEq, exists_eq_left', List.set_cons_zero, List.set_cons_succ, Nat.reduceAdd, Nat.reduceLT, Nat.reduceSub, true_and, Nat.zero_lt_succ, List.length_map, decide_eq_true_eq, V_d0, V_d1, W_mkF, V_pow9, V_pow18, lineLen, Nat.reduceLeDiff, if_true, if_false, W_pure, V_ix0, V_ix1, V_ix2, V_ixL0, V_ixL1]
    refine (V_ne (fit_strs fun x hx' => unks_strOk (hm x (List.mem_filter.mp hx').1)) (by decide)).mpr ?_
    have e0 : deq (.lst ((xs.filter fun x => decide (1 < xs.count x)).map .str)) (.lst []) = decide ((xs.filter fun x => decide (1 < xs.count x)) = []) := deq_strL (ys := [])
    rw [e0]
    have cn := count_nodup xs
    have mn := metS_nodup xs
    by_cases h1 : xs.Nodup
    · rw [if_neg (by simpa using cn.mpr h1)]
      have n1 : ¬ (metS xs).length < xs.length := fun z => mn.mp z h1
      try simp only [WS_seq, WS_if, WS_nm, WS_tp, WS_ret, WS_exp, WS_put, WS_nx, W_kcmp, W_mcmp, W_ix, W_dix, W_var, W_C, W_Str, W_Int, W_Dsp, W_bin, W_ktr, W_knt, W_kand, W_kor, W_mnt, W_mand, W_mor, W_mif, W_kchn, W_neg, W_inst, W_it, W_rng, W_zip, W_tup, W_lst, W_rev, W_pt0, W_pt1, W_sl, W_lset, W_cnt, W_lzip, W_app, W_ext, W_ins, W_get2, W_kg2, W_kg1, W_B1, W_B2, W_cal, W_cons, W_nil, V_gt, V_lt, V_le, V_ge, V_mod, V_fdiv, V_add, V_sub, V_mul, V_int, V_lenL, V_lenT, List.map_cons, List.map_nil, List.cons_append, List.nil_append, List.length_cons, List.length_nil, List.replicate, List.getElem?_cons_zero, List.getElem?_cons_succ, Option.some.injEq, exists_eq_left', List.set_cons_zero, List.set_cons_succ, Nat.reduceAdd, Nat.reduceLT, Nat.reduceSub, true_and, Nat.zero_lt_succ, List.length_map, decide_eq_true_eq, V_d0, V_d1, W_mkF, V_pow9, V_pow18, lineLen, Nat.reduceLeDiff, if_true, if_false, W_pure, V_ix0, V_ix1, V_ix2, V_ixL0, V_ixL1]
      refine Ret.call (ds := [mkD mk, l]) hl ?_
      refine Ret.call (ds := [mkD mk, r]) hr ?_
      try simp only [WS_seq, WS_if, WS_nm, WS_tp, WS_ret, WS_exp, WS_put, WS_nx, W_kcmp, W_mcmp, W_ix, W_dix, W_var, W_C, W_Str, W_Int, W_Dsp, W_bin, W_ktr, W_knt, W_kand, W_kor, W_mnt, W_mand, W_mor, W_mif, W_kchn, W_neg, W_inst, W_it, W_rng, W_zip, W_tup, W_lst, W_rev, W_pt0, W_pt1, W_sl, W_lset, W_cnt, W_lzip, W_app, W_ext, W_ins, W_get2, W_kg2, W_kg1, W_B1, W_B2, W_cal, W_cons, W_nil, V_gt, V_lt, V_le, V_ge, V_mod, V_fdiv, V_add, V_sub, V_mul, V_int, V_lenL, V_lenT, List.map_cons, List.map_nil, List.cons_append, List.nil_append, List.length_cons, List.length_nil, List.replicate, List.getElem?_cons_zero, List.getElem?_cons_succ, Option.some.injEq, exists_eq_left', List.set_cons_zero, List.set_cons_succ, Nat.reduceAdd, Nat.reduceLT, Nat.reduceSub, true_and, Nat.zero_lt_succ, List.length_map, decide_eq_true_eq, V_d0, V_d1, W_mkF, V_pow9, V_pow18, lineLen, Nat.reduceLeDiff, if_true, if_false, W_pure, V_ix0, V_ix1, V_ix2, V_ixL0, V_ixL1]
      by_cases h2 : i - j < 0
      · rw [if_pos (by simpa using h2)]
        have e : rw3 xs (i - j) = RI := by unfold rw3; rw [if_pos (.inr h2)]
        rw [e]
        exact Fz.dat
      · rw [if_neg (by simpa using h2)]
        have n12 : ¬ ((metS xs).length < xs.length ∨ i - j < 0) := fun z => z.elim n1 h2
        by_cases h3 : 0 < i - j
        · rw [decide_eq_true h3]
          have e : rw3 xs (i - j) = FA := by unfold rw3; rw [if_neg n12, if_pos h3]
          rw [e]
          exact Fz.dat
        · rw [decide_eq_false h3]
          have e : rw3 xs (i - j) = KE := by unfold rw3; rw [if_neg n12, if_neg h3]
          rw [e]
          exact Fz.dat
    · rw [if_pos (by simpa using fun z => h1 (cn.mp z))]
      try simp only [WS_seq, WS_if, WS_nm, WS_tp, WS_ret, WS_exp, WS_put, WS_nx, W_kcmp, W_mcmp, W_ix, W_dix, W_var, W_C, W_Str, W_Int, W_Dsp, W_bin, W_ktr, W_knt, W_kand, W_kor, W_mnt, W_mand, W_mor, W_mif, W_kchn, W_neg, W_inst, W_it, W_rng, W_zip, W_tup, W_lst, W_rev, W_pt0, W_pt1, W_sl, W_lset, W_cnt, W_lzip, W_app, W_ext, W_ins, W_get2, W_kg2, W_kg1, W_B1, W_B2, W_cal, W_cons, W_nil, V_gt, V_lt, V_le, V_ge, V_mod, V_fdiv, V_add, V_sub, V_mul, V_int, V_lenL, V_lenT, List.map_cons, List.map_nil, List.cons_append, List.nil_append, List.length_cons, List.length_nil, List.replicate, List.getElem?_cons_zero, List.getElem?_cons_succ, Option.some.injEq, exists_eq_left', List.set_cons_zero, List.set_cons_succ, Nat.reduceAdd, Nat.reduceLT, Nat.reduceSub, true_and, Nat.zero_lt_succ, List.length_map, decide_eq_true_eq, V_d0, V_d1, W_mkF, V_pow9, V_pow18, lineLen, Nat.reduceLeDiff, if_true, if_false, W_pure, V_ix0, V_ix1, V_ix2, V_ixL0, V_ixL1]
      have e : rw3 xs (i - j) = RI := by unfold rw3; rw [if_pos (.inl (mn.mpr h1))]
      rw [e]
      exact Fz.dat
theorem rule_ok {N : List Str} {mk : List (Str × Int)} (hm : ∀ x ∈ N, WM (mkM mk) x) {d : D} (h : RuleOk N d) : ∃ w ∈ ways3, Ret c_way_of_rule [mkD mk, d] (.str w) ∧ Ret c__law_rule_way [mkD mk, d] (.str w) := by
  obtain ⟨n, l, r, rfl, hn, pl, pr⟩ := h
  obtain ⟨xs, ⟨h1, h2⟩, h3, h4⟩ := unk_ok 3 (by decide) r pr
  obtain ⟨i, _, g1, g2⟩ := wt_ok hm 2 l pl
  obtain ⟨j, _, g3, g4⟩ := wt_ok hm 3 r pr
  have dm : ∀ (s : Store) (R : Val → Store → Prop), R (.d (.dct (mkM mk))) s → W (dictV (.d (mkD mk))) s R := fun s R r => W_dictMk r
  exact ⟨_, rw3_mem xs (i - j), prog_rule (h3 12 (by decide)) (by omega) (g1 12 (by decide)) (g3 12 (by decide)), law_rule (h4 12 (by decide)) (by omega) h2 (g2 _ dm 12 (by decide)) (g4 _ dm 12 (by decide))⟩
end My
set_option maxRecDepth 100000
set_option maxHeartbeats 8000000
namespace My
open Ev PySem

/-! what a plan does -/
def progF (w : Str) (vs : List Str) : Str := if w = Str.ofString "any" ∨ RI ∈ vs then RI else if w = Str.ofString "then" then (if FA ∈ vs then FA else KE) else if w = Str.ofString "else" then (if KE ∈ vs then KE else FA) else if w ∈ [Str.ofString "one", Str.ofString "find", Str.ofString "dig"] then vs.headD KE else KE
def lawF (w : Str) (vs : List Str) : Str := if RI ∈ vs then RI else if (w = Str.ofString "then" ∧ FA ∈ vs) ∨ (w = Str.ofString "else" ∧ vs = [FA, FA]) then FA else if w ∈ [Str.ofString "one", Str.ofString "find", Str.ofString "dig"] then vs.headD KE else KE
theorem ways3_ok {x : Str} (h : x ∈ ways3) : PyData.strOk x = true := strOk_mem (N := ways3) (by decide +kernel) h
section
variable {ρ : Ev.Env} {s : Store} {m n : Ev.Env → M Val} {x : Str} {vs : List Str}
theorem Wb_inS (hm : W (m ρ) s fun v s' => v = .d (.str x) ∧ s' = s) (hn : W (n ρ) s fun v s' => v = .d (.lst (vs.map .str)) ∧ s' = s) (hx : PyData.strOk x = true) (hv : ∀ y ∈ vs, PyData.strOk y = true) : Wb (kCmp .isin m n) ρ s (decide (x ∈ vs)) :=
  Wb_of (Wb_cmp hm hn ((V_inL (fit_str hx) fun d hd => by
    obtain ⟨y, hy, rfl⟩ := List.mem_map.mp hd
    exact fit_str (hv y hy)).mpr ⟨rfl, rfl⟩)) memD_strs
theorem Wb_inT (hm : W (m ρ) s fun v s' => v = .d (.str x) ∧ s' = s) (hn : W (n ρ) s fun v s' => v = .d (.tup (vs.map .str)) ∧ s' = s) (hx : PyData.strOk x = true) (hv : ∀ y ∈ vs, PyData.strOk y = true) : Wb (kCmp .isin m n) ρ s (decide (x ∈ vs)) :=
  Wb_of (Wb_cmp hm hn ((V_inT (fit_str hx) fun d hd => by
    obtain ⟨y, hy, rfl⟩ := List.mem_map.mp hd
    exact fit_str (hv y hy)).mpr ⟨rfl, rfl⟩)) memD_strs
end
theorem cut_mid (x : D) (es : List D) : cut (x :: es) (some 1) (some (1 + (es.length : Int))) = es := by
  have e1 : HT.sIx (x :: es).length 0 (some 1) = min 1 (x :: es).length := HT.sIx_nat (x :: es).length 0 1
  have e2 : HT.sIx (x :: es).length (x :: es).length (some (1 + (es.length : Int))) = min (1 + es.length) (x :: es).length := by
    have := HT.sIx_nat (x :: es).length (x :: es).length (1 + es.length)
    rw [← this]
    congr 2
  unfold cut
  rw [e1, e2]
  simp only [List.length_cons]
  have a1 : min 1 (es.length + 1) = 1 := by omega
  have a2 : min (1 + es.length) (es.length + 1) = es.length + 1 := by omega
  rw [a1, a2]
  simp
theorem inner_ok {w : Str} {es : List D} (hm : Ret c_many_inner [.str w] (.int es.length)) : Ret c_inner_of [.tup (.str w :: es)] (.tup es) := by
  refine Ret.body (n := 1) (a := m_inner_of) ?_
  unfold m_inner_of
  try simp only [WS_seq, WS_if, WS_nm, WS_tp, WS_ret, WS_exp, WS_put, WS_nx, W_kcmp, W_mcmp, W_ix, W_dix, W_var, W_C, W_Str, W_Int, W_Dsp, W_bin, W_ktr, W_knt, W_kand, W_kor, W_mnt, W_mand, W_mor, W_mif, W_kchn, W_neg, W_inst, W_it, W_rng, W_zip, W_tup, W_lst, W_rev, W_pt0, W_pt1, W_sl, W_lset, W_cnt, W_lzip, W_app, W_ext, W_ins, W_get2, W_kg2, W_kg1, W_B1, W_B2, W_cal, W_cons, W_nil, V_gt, V_lt, V_le, V_ge, V_mod, V_fdiv, V_add, V_sub, V_mul, V_int, V_lenL, V_lenT, List.map_cons, List.map_nil, List.cons_append, List.nil_append, List.length_cons, List.length_nil, List.replicate, List.getElem?_cons_zero, List.getElem?_cons_succ, Option.some.injEq, exists_eq_left', List.set_cons_zero, List.set_cons_succ, Nat.reduceAdd, Nat.reduceLT, Nat.reduceSub, true_and, Nat.zero_lt_succ, List.length_map, decide_eq_true_eq, V_d0, V_d1, W_mkF, V_pow9, V_pow18, lineLen, Nat.reduceLeDiff, if_true, if_false, W_pure, V_ix0, V_ix1, V_ix2, V_ixL0, V_ixL1]
  refine Ret.call (ds := [.str w]) hm ?_
  try simp only [WS_seq, WS_if, WS_nm, WS_tp, WS_ret, WS_exp, WS_put, WS_nx, W_kcmp, W_mcmp, W_ix, W_dix, W_var, W_C, W_Str, W_Int, W_Dsp, W_bin, W_ktr, W_knt, W_kand, W_kor, W_mnt, W_mand, W_mor, W_mif, W_kchn, W_neg, W_inst, W_it, W_rng, W_zip, W_tup, W_lst, W_rev, W_pt0, W_pt1, W_sl, W_lset, W_cnt, W_lzip, W_app, W_ext, W_ins, W_get2, W_kg2, W_kg1, W_B1, W_B2, W_cal, W_cons, W_nil, V_gt, V_lt, V_le, V_ge, V_mod, V_fdiv, V_add, V_sub, V_mul, V_int, V_lenL, V_lenT, List.map_cons, List.map_nil, List.cons_append, List.nil_append, List.length_cons, List.length_nil, List.replicate, List.getElem?_cons_zero, List.getElem?_cons_succ, Option.some.injEq, exists_eq_left', List.set_cons_zero, List.set_cons_succ, Nat.reduceAdd, Nat.reduceLT, Nat.reduceSub, true_and, Nat.zero_lt_succ, List.length_map, decide_eq_true_eq, V_d0, V_d1, W_mkF, V_pow9, V_pow18, lineLen, Nat.reduceLeDiff, if_true, if_false, W_pure, V_ix0, V_ix1, V_ix2, V_ixL0, V_ixL1]
  rw [V_slT, cut_mid]
  exact Fz.dat
/-- the words under which plans stand -/
def wsA : List Str := ws1 ++ ws2
theorem prog_way {w : Str} {rs mk : D} {es : List D} {vs : List Str} {g : Nat} (hw : PyData.strOk w = true) (hm : Ret c_many_inner [.str w] (.int es.length))
    (n1 : w ≠ Str.ofString "never") (n2 : w ≠ Str.ofString "use") (n3 : w ≠ Str.ofString "stay") (n4 : w ≠ Str.ofString "not") (hl : vs.length = es.length) (h1 : 1 ≤ es.length) (h2 : es.length ≤ 2) (h3 : ∀ v ∈ vs, v ∈ ways3)
    (each : ∀ (i : Nat) (e : D) (v : Str), es[i]? = some e → vs[i]? = some v → Ret (c_way_of g) [rs, mk, e] (.str v)) :
    Ret (c_way_of (g + 1)) [rs, mk, .tup (.str w :: es)] (.str (progF w vs)) := by
  refine Ret.body (n := 6) (a := m_way_of (c_way_of g)) ?_
  have vok : ∀ y ∈ vs, PyData.strOk y = true := fun y hy => ways3_ok (h3 y hy)
  unfold m_way_of
  rw [WS_seq, WS_nm]
  try simp only [W_kcmp, W_mcmp, W_ix, W_dix, W_var, W_C, W_Str, W_Int, W_Dsp, W_bin, W_ktr, W_knt, W_mnt, W_mand, W_mor, W_mif, W_kchn, W_neg, W_inst, W_it, W_rng, W_zip, W_tup, W_lst, W_rev, W_pt0, W_pt1, W_sl, W_lset, W_cnt, W_lzip, W_app, W_ext, W_ins, W_get2, W_kg2, W_kg1, W_B1, W_B2, W_cal, W_cons, W_nil, V_gt, V_lt, V_le, V_ge, V_mod, V_fdiv, V_add, V_sub, V_mul, V_pow, V_int, V_lenL, V_lenT, List.map_cons, List.map_nil, List.cons_append, List.nil_append, List.length_cons, List.length_nil, List.replicate, List.getElem?_cons_zero, List.getElem?_cons_succ, Option.some.injEq, exists_eq_left', List.set_cons_zero, List.set_cons_succ, Nat.reduceAdd, Nat.reduceLT, Nat.reduceSub, true_and, Nat.zero_lt_succ, List.length_map]
  rw [V_ix0]
  rw [WS_seq]
  refine WS_no (Wb_eqS rfl hw) (by simpa using n1) ?_
  rw [WS_nx]
  try simp only [W_kcmp, W_mcmp, W_ix, W_dix, W_var, W_C, W_Str, W_Int, W_Dsp, W_bin, W_ktr, W_knt, W_mnt, W_mand, W_mor, W_mif, W_kchn, W_neg, W_inst, W_it, W_rng, W_zip, W_tup, W_lst, W_rev, W_pt0, W_pt1, W_sl, W_lset, W_cnt, W_lzip, W_app, W_ext, W_ins, W_get2, W_kg2, W_kg1, W_B1, W_B2, W_cal, W_cons, W_nil, V_gt, V_lt, V_le, V_ge, V_mod, V_fdiv, V_add, V_sub, V_mul, V_pow, V_int, V_lenL, V_lenT, List.map_cons, List.map_nil, List.cons_append, List.nil_append, List.length_cons, List.length_nil, List.replicate, List.getElem?_cons_zero, List.getElem?_cons_succ, Option.some.injEq, exists_eq_left', List.set_cons_zero, List.set_cons_succ, Nat.reduceAdd, Nat.reduceLT, Nat.reduceSub, true_and, Nat.zero_lt_succ, List.length_map]
  rw [WS_seq]
  refine WS_no (Wb_eqS rfl hw) (by simpa using n2) ?_
  rw [WS_nx]
  try simp only [W_kcmp, W_mcmp, W_ix, W_dix, W_var, W_C, W_Str, W_Int, W_Dsp, W_bin, W_ktr, W_knt, W_mnt, W_mand, W_mor, W_mif, W_kchn, W_neg, W_inst, W_it, W_rng, W_zip, W_tup, W_lst, W_rev, W_pt0, W_pt1, W_sl, W_lset, W_cnt, W_lzip, W_app, W_ext, W_ins, W_get2, W_kg2, W_kg1, W_B1, W_B2, W_cal, W_cons, W_nil, V_gt, V_lt, V_le, V_ge, V_mod, V_fdiv, V_add, V_sub, V_mul, V_pow, V_int, V_lenL, V_lenT, List.map_cons, List.map_nil, List.cons_append, List.nil_append, List.length_cons, List.length_nil, List.replicate, List.getElem?_cons_zero, List.getElem?_cons_succ, Option.some.injEq, exists_eq_left', List.set_cons_zero, List.set_cons_succ, Nat.reduceAdd, Nat.reduceLT, Nat.reduceSub, true_and, Nat.zero_lt_succ, List.length_map]
  rw [WS_seq]
  refine WS_no (Wb_or (Wb_eqS rfl hw) fun _ => Wb_eqS rfl hw) (by simp [n3, n4]) ?_
  rw [WS_nx]
  try simp only [W_kcmp, W_mcmp, W_ix, W_dix, W_var, W_C, W_Str, W_Int, W_Dsp, W_bin, W_ktr, W_knt, W_mnt, W_mand, W_mor, W_mif, W_kchn, W_neg, W_inst, W_it, W_rng, W_zip, W_tup, W_lst, W_rev, W_pt0, W_pt1, W_sl, W_lset, W_cnt, W_lzip, W_app, W_ext, W_ins, W_get2, W_kg2, W_kg1, W_B1, W_B2, W_cal, W_cons, W_nil, V_gt, V_lt, V_le, V_ge, V_mod, V_fdiv, V_add, V_sub, V_mul, V_pow, V_int, V_lenL, V_lenT, List.map_cons, List.map_nil, List.cons_append, List.nil_append, List.length_cons, List.length_nil, List.replicate, List.getElem?_cons_zero, List.getElem?_cons_succ, Option.some.injEq, exists_eq_left', List.set_cons_zero, List.set_cons_succ, Nat.reduceAdd, Nat.reduceLT, Nat.reduceSub, true_and, Nat.zero_lt_succ, List.length_map]
  rw [WS_seq, WS_nm]
  refine W_lcD es (vs.map .str) (fun Q q => ?_) (by unfold lineLen; omega) (by show 5 < 6; decide) (by rw [List.length_map, hl]) (fun i e y he hy => ?_) ?_
  · try simp only [WS_seq, WS_if, WS_nm, WS_tp, WS_ret, WS_exp, WS_put, WS_nx, W_kcmp, W_mcmp, W_ix, W_dix, W_var, W_C, W_Str, W_Int, W_Dsp, W_bin, W_ktr, W_knt, W_kand, W_kor, W_mnt, W_mand, W_mor, W_mif, W_kchn, W_neg, W_inst, W_it, W_rng, W_zip, W_tup, W_lst, W_rev, W_pt0, W_pt1, W_sl, W_lset, W_cnt, W_lzip, W_app, W_ext, W_ins, W_get2, W_kg2, W_kg1, W_B1, W_B2, W_cal, W_cons, W_nil, V_gt, V_lt, V_le, V_ge, V_mod, V_fdiv, V_add, V_sub, V_mul, V_int, V_lenL, V_lenT, List.map_cons, List.map_nil, List.cons_append, List.nil_append, List.length_cons, List.length_nil, List.replicate, List.getElem?_cons_zero, List.getElem?_cons_succ, Option.some.injEq, exists_eq_left', List.set_cons_zero, List.set_cons_succ, Nat.reduceAdd, Nat.reduceLT, Nat.reduceSub, true_and, Nat.zero_lt_succ, List.length_map, decide_eq_true_eq, V_d0, V_d1, W_mkF, V_pow9, V_pow18, lineLen, Nat.reduceLeDiff, if_true, if_false, W_pure, V_ix0, V_ix1, V_ix2, V_ixL0, V_ixL1]
    refine Ret.call (ds := [.tup (.str w :: es)]) (inner_ok hm) ?_
    rw [V_ivT]
    exact q
  · rw [List.getElem?_map] at hy
    cases ei : vs[i]? with
    | none => rw [ei] at hy; cases hy
    | some v =>
      rw [ei] at hy
      cases hy
      try simp only [WS_seq, WS_if, WS_nm, WS_tp, WS_ret, WS_exp, WS_put, WS_nx, W_kcmp, W_mcmp, W_ix, W_dix, W_var, W_C, W_Str, W_Int, W_Dsp, W_bin, W_ktr, W_knt, W_kand, W_kor, W_mnt, W_mand, W_mor, W_mif, W_kchn, W_neg, W_inst, W_it, W_rng, W_zip, W_tup, W_lst, W_rev, W_pt0, W_pt1, W_sl, W_lset, W_cnt, W_lzip, W_app, W_ext, W_ins, W_get2, W_kg2, W_kg1, W_B1, W_B2, W_cal, W_cons, W_nil, V_gt, V_lt, V_le, V_ge, V_mod, V_fdiv, V_add, V_sub, V_mul, V_int, V_lenL, V_lenT, List.map_cons, List.map_nil, List.cons_append, List.nil_append, List.length_cons, List.length_nil, List.replicate, List.getElem?_cons_zero, List.getElem?_cons_succ, Option.some.injEq, exists_eq_left', List.set_cons_zero, List.set_cons_succ, Nat.reduceAdd, Nat.reduceLT, Nat.reduceSub, true_and, Nat.zero_lt_succ, List.length_map, decide_eq_true_eq, V_d0, V_d1, W_mkF, V_pow9, V_pow18, lineLen, Nat.reduceLeDiff, if_true, if_false, W_pure, V_ix0, V_ix1, V_ix2, V_ixL0, V_ixL1,  wipeE]
      exact Ret.call (ds := [rs, mk, e]) (each i e v he ei) ⟨rfl, rfl⟩
  refine ⟨by show 4 < 6; decide, ?_⟩
  try simp only [W_kcmp, W_mcmp, W_ix, W_dix, W_var, W_C, W_Str, W_Int, W_Dsp, W_bin, W_ktr, W_knt, W_mnt, W_mand, W_mor, W_mif, W_kchn, W_neg, W_inst, W_it, W_rng, W_zip, W_tup, W_lst, W_rev, W_pt0, W_pt1, W_sl, W_lset, W_cnt, W_lzip, W_app, W_ext, W_ins, W_get2, W_kg2, W_kg1, W_B1, W_B2, W_cal, W_cons, W_nil, V_gt, V_lt, V_le, V_ge, V_mod, V_fdiv, V_add, V_sub, V_mul, V_pow, V_int, V_lenL, V_lenT, List.map_cons, List.map_nil, List.cons_append, List.nil_append, List.length_cons, List.length_nil, List.replicate, List.getElem?_cons_zero, List.getElem?_cons_succ, Option.some.injEq, exists_eq_left', List.set_cons_zero, List.set_cons_succ, Nat.reduceAdd, Nat.reduceLT, Nat.reduceSub, true_and, Nat.zero_lt_succ, List.length_map]
  rw [WS_seq]
  refine WS_ifb (Wb_or (Wb_eqS rfl hw) fun _ => Wb_inS (K_Str) (K_var rfl) (by decide +kernel) vok) (fun ht => ?_) (fun hf => ?_)
  · try simp only [WS_seq, WS_if, WS_nm, WS_tp, WS_ret, WS_exp, WS_put, WS_nx, W_kcmp, W_mcmp, W_ix, W_dix, W_var, W_C, W_Str, W_Int, W_Dsp, W_bin, W_ktr, W_knt, W_kand, W_kor, W_mnt, W_mand, W_mor, W_mif, W_kchn, W_neg, W_inst, W_it, W_rng, W_zip, W_tup, W_lst, W_rev, W_pt0, W_pt1, W_sl, W_lset, W_cnt, W_lzip, W_app, W_ext, W_ins, W_get2, W_kg2, W_kg1, W_B1, W_B2, W_cal, W_cons, W_nil, V_gt, V_lt, V_le, V_ge, V_mod, V_fdiv, V_add, V_sub, V_mul, V_int, V_lenL, V_lenT, List.map_cons, List.map_nil, List.cons_append, List.nil_append, List.length_cons, List.length_nil, List.replicate, List.getElem?_cons_zero, List.getElem?_cons_succ, Option.some.injEq, exists_eq_left', List.set_cons_zero, List.set_cons_succ, Nat.reduceAdd, Nat.reduceLT, Nat.reduceSub, true_and, Nat.zero_lt_succ, List.length_map, decide_eq_true_eq, V_d0, V_d1, W_mkF, V_pow9, V_pow18, lineLen, Nat.reduceLeDiff, if_true, if_false, W_pure, V_ix0, V_ix1, V_ix2, V_ixL0, V_ixL1]
    have e : progF w vs = RI := by
      unfold progF
      rw [if_pos (by simpa [RI] using ht)]
    rw [e]
    exact Fz.dat
  have c1 : ¬ (w = Str.ofString "any" ∨ RI ∈ vs) := by
    simp only [Bool.or_eq_false_iff, decide_eq_false_iff_not] at hf
    exact fun z => z.elim hf.1 hf.2
  rw [WS_nx]
  try simp only [W_kcmp, W_mcmp, W_ix, W_dix, W_var, W_C, W_Str, W_Int, W_Dsp, W_bin, W_ktr, W_knt, W_mnt, W_mand, W_mor, W_mif, W_kchn, W_neg, W_inst, W_it, W_rng, W_zip, W_tup, W_lst, W_rev, W_pt0, W_pt1, W_sl, W_lset, W_cnt, W_lzip, W_app, W_ext, W_ins, W_get2, W_kg2, W_kg1, W_B1, W_B2, W_cal, W_cons, W_nil, V_gt, V_lt, V_le, V_ge, V_mod, V_fdiv, V_add, V_sub, V_mul, V_pow, V_int, V_lenL, V_lenT, List.map_cons, List.map_nil, List.cons_append, List.nil_append, List.length_cons, List.length_nil, List.replicate, List.getElem?_cons_zero, List.getElem?_cons_succ, Option.some.injEq, exists_eq_left', List.set_cons_zero, List.set_cons_succ, Nat.reduceAdd, Nat.reduceLT, Nat.reduceSub, true_and, Nat.zero_lt_succ, List.length_map]
  rw [WS_seq]
  refine WS_ifb (Wb_eqS rfl hw) (fun ht => ?_) (fun hf => ?_)
  · have c2 : w = Str.ofString "then" := by simpa using ht
    rw [WS_seq, WS_ret]
    refine W_mifb (Wb_inS (K_Str) (K_var rfl) (by decide +kernel) vok) (fun ht => ?_) (fun hf => ?_)
    · have e : progF w vs = FA := by
        unfold progF
        rw [if_neg c1, if_pos c2, if_pos (by simpa [FA] using ht)]
      rw [e]
      exact Fz.dat
    · have e : progF w vs = KE := by
        unfold progF
        rw [if_neg c1, if_pos c2, if_neg (by simpa [FA] using hf)]
      rw [e]
      exact Fz.dat
  have c2 : ¬ w = Str.ofString "then" := by simpa using hf
  rw [WS_nx]
  try simp only [W_kcmp, W_mcmp, W_ix, W_dix, W_var, W_C, W_Str, W_Int, W_Dsp, W_bin, W_ktr, W_knt, W_mnt, W_mand, W_mor, W_mif, W_kchn, W_neg, W_inst, W_it, W_rng, W_zip, W_tup, W_lst, W_rev, W_pt0, W_pt1, W_sl, W_lset, W_cnt, W_lzip, W_app, W_ext, W_ins, W_get2, W_kg2, W_kg1, W_B1, W_B2, W_cal, W_cons, W_nil, V_gt, V_lt, V_le, V_ge, V_mod, V_fdiv, V_add, V_sub, V_mul, V_pow, V_int, V_lenL, V_lenT, List.map_cons, List.map_nil, List.cons_append, List.nil_append, List.length_cons, List.length_nil, List.replicate, List.getElem?_cons_zero, List.getElem?_cons_succ, Option.some.injEq, exists_eq_left', List.set_cons_zero, List.set_cons_succ, Nat.reduceAdd, Nat.reduceLT, Nat.reduceSub, true_and, Nat.zero_lt_succ, List.length_map]
  rw [WS_seq]
  refine WS_ifb (Wb_eqS rfl hw) (fun ht => ?_) (fun hf => ?_)
  · have c3 : w = Str.ofString "else" := by simpa using ht
    rw [WS_seq, WS_ret]
    refine W_mifb (Wb_inS (K_Str) (K_var rfl) (by decide +kernel) vok) (fun ht => ?_) (fun hf => ?_)
    · have e : progF w vs = KE := by
        unfold progF
        rw [if_neg c1, if_neg c2, if_pos c3, if_pos (by simpa [KE] using ht)]
      rw [e]
      exact Fz.dat
    · have e : progF w vs = FA := by
        unfold progF
        rw [if_neg c1, if_neg c2, if_pos c3, if_neg (by simpa [KE] using hf)]
      rw [e]
      exact Fz.dat
  have c3 : ¬ w = Str.ofString "else" := by simpa using hf
  rw [WS_nx]
  try simp only [W_kcmp, W_mcmp, W_ix, W_dix, W_var, W_C, W_Str, W_Int, W_Dsp, W_bin, W_ktr, W_knt, W_mnt, W_mand, W_mor, W_mif, W_kchn, W_neg, W_inst, W_it, W_rng, W_zip, W_tup, W_lst, W_rev, W_pt0, W_pt1, W_sl, W_lset, W_cnt, W_lzip, W_app, W_ext, W_ins, W_get2, W_kg2, W_kg1, W_B1, W_B2, W_cal, W_cons, W_nil, V_gt, V_lt, V_le, V_ge, V_mod, V_fdiv, V_add, V_sub, V_mul, V_pow, V_int, V_lenL, V_lenT, List.map_cons, List.map_nil, List.cons_append, List.nil_append, List.length_cons, List.length_nil, List.replicate, List.getElem?_cons_zero, List.getElem?_cons_succ, Option.some.injEq, exists_eq_left', List.set_cons_zero, List.set_cons_succ, Nat.reduceAdd, Nat.reduceLT, Nat.reduceSub, true_and, Nat.zero_lt_succ, List.length_map]
  rw [WS_seq, WS_ret]
  refine W_mifb (Wb_inT (vs := [Str.ofString "one", Str.ofString "find", Str.ofString "dig"]) (K_var rfl) (by try simp only [WS_seq, WS_if, WS_nm, WS_tp, WS_ret, WS_exp, WS_put, WS_nx, W_kcmp, W_mcmp, W_ix, W_dix, W_var, W_C, W_Str, W_Int, W_Dsp, W_bin, W_ktr, W_knt, W_kand, W_kor, W_mnt, W_mand, W_mor, W_mif, W_kchn, W_neg, W_inst, W_it, W_rng, W_zip, W_tup, W_lst, W_rev, W_pt0, W_pt1, W_sl, W_lset, W_cnt, W_lzip, W_app, W_ext, W_ins, W_get2, W_kg2, W_kg1, W_B1, W_B2, W_cal, W_cons, W_nil, V_gt, V_lt, V_le, V_ge, V_mod, V_fdiv, V_add, V_sub, V_mul, V_int, V_lenL, V_lenT, List.map_cons, List.map_nil, List.cons_append, List.nil_append, List.length_cons, List.length_nil, List.replicate, List.getElem?_cons_zero, List.getElem?_cons_succ, Option.some.injEq, exists_eq_left', List.set_cons_zero, List.set_cons_succ, Nat.reduceAdd, Nat.reduceLT, Nat.reduceSub, true_and, Nat.zero_lt_succ, List.length_map, decide_eq_true_eq, V_d0, V_d1, W_mkF, V_pow9, V_pow18, lineLen, Nat.reduceLeDiff, if_true, if_false, W_pure, V_ix0, V_ix1, V_ix2, V_ixL0, V_ixL1]) hw (List.all_eq_true.mp (by decide +kernel))) (fun ht => ?_) (fun hf => ?_)
  · obtain ⟨v, r, rfl, lr⟩ := len_pos_at (xs := vs) (n := vs.length - 1) (by omega)
    have e : progF w (v :: r) = v := by
      unfold progF
      rw [if_neg c1, if_neg c2, if_neg c3, if_pos (by simpa using ht)]
      rfl
    rw [e]
    try simp only [WS_seq, WS_if, WS_nm, WS_tp, WS_ret, WS_exp, WS_put, WS_nx, W_kcmp, W_mcmp, W_ix, W_dix, W_var, W_C, W_Str, W_Int, W_Dsp, W_bin, W_ktr, W_knt, W_kand, W_kor, W_mnt, W_mand, W_mor, W_mif, W_kchn, W_neg, W_inst, W_it, W_rng, W_zip, W_tup, W_lst, W_rev, W_pt0, W_pt1, W_sl, W_lset, W_cnt, W_lzip, W_app, W_ext, W_ins, W_get2, W_kg2, W_kg1, W_B1, W_B2, W_cal, W_cons, W_nil, V_gt, V_lt, V_le, V_ge, V_mod, V_fdiv, V_add, V_sub, V_mul, V_int, V_lenL, V_lenT, List.map_cons, List.map_nil, List.cons_append, List.nil_append, List.length_cons, List.length_nil, List.replicate, List.getElem?_cons_zero, List.getElem?_cons_succ, Option.some.injEq, exists_eq_left', List.set_cons_zero, List.set_cons_succ, Nat.reduceAdd, Nat.reduceLT, Nat.reduceSub, true_and, Nat.zero_lt_succ, List.length_map, decide_eq_true_eq, V_d0, V_d1, W_mkF, V_pow9, V_pow18, lineLen, Nat.reduceLeDiff, if_true, if_false, W_pure, V_ix0, V_ix1, V_ix2, V_ixL0, V_ixL1]
    exact Fz.dat
  · have e : progF w vs = KE := by
      unfold progF
      rw [if_neg c1, if_neg c2, if_neg c3, if_neg (by simpa using hf)]
    rw [e]
    exact Fz.dat
theorem law_way {w : Str} {rs mk : D} {es : List D} {vs : List Str} {g : Nat} (hw : PyData.strOk w = true)
    (n1 : w ∉ [Str.ofString "never", Str.ofString "stay", Str.ofString "not", Str.ofString "any"]) (n2 : w ≠ Str.ofString "use") (hl : vs.length = es.length) (h1 : 1 ≤ es.length) (h2 : es.length ≤ 2) (h3 : ∀ v ∈ vs, v ∈ ways3)
    (each : ∀ (i : Nat) (e : D) (v : Str), es[i]? = some e → vs[i]? = some v → Ret (c__law_way g) [rs, mk, e] (.str v)) :
    Ret (c__law_way (g + 1)) [rs, mk, .tup (.str w :: es)] (.str (lawF w vs)) := by
  refine Ret.body (n := 6) (a := m__law_way (c__law_way g)) ?_
  have vok : ∀ y ∈ vs, PyData.strOk y = true := fun y hy => ways3_ok (h3 y hy)
  unfold m__law_way
  rw [WS_seq, WS_nm]
  try simp only [W_kcmp, W_mcmp, W_ix, W_dix, W_var, W_C, W_Str, W_Int, W_Dsp, W_bin, W_ktr, W_knt, W_mnt, W_mand, W_mor, W_mif, W_kchn, W_neg, W_inst, W_it, W_rng, W_zip, W_tup, W_lst, W_rev, W_pt0, W_pt1, W_sl, W_lset, W_cnt, W_lzip, W_app, W_ext, W_ins, W_get2, W_kg2, W_kg1, W_B1, W_B2, W_cal, W_cons, W_nil, V_gt, V_lt, V_le, V_ge, V_mod, V_fdiv, V_add, V_sub, V_mul, V_pow, V_int, V_lenL, V_lenT, List.map_cons, List.map_nil, List.cons_append, List.nil_append, List.length_cons, List.length_nil, List.replicate, List.getElem?_cons_zero, List.getElem?_cons_succ, Option.some.injEq, exists_eq_left', List.set_cons_zero, List.set_cons_succ, Nat.reduceAdd, Nat.reduceLT, Nat.reduceSub, true_and, Nat.zero_lt_succ, List.length_map]
  rw [V_ix0]
  rw [WS_seq]
  refine WS_no (Wb_inT (vs := [Str.ofString "never", Str.ofString "stay", Str.ofString "not", Str.ofString "any"]) (K_var rfl) (by try simp only [WS_seq, WS_if, WS_nm, WS_tp, WS_ret, WS_exp, WS_put, WS_nx, W_kcmp, W_mcmp, W_ix, W_dix, W_var, W_C, W_Str, W_Int, W_Dsp, W_bin, W_ktr, W_knt, W_kand, W_kor, W_mnt, W_mand, W_mor, W_mif, W_kchn, W_neg, W_inst, W_it, W_rng, W_zip, W_tup, W_lst, W_rev, W_pt0, W_pt1, W_sl, W_lset, W_cnt, W_lzip, W_app, W_ext, W_ins, W_get2, W_kg2, W_kg1, W_B1, W_B2, W_cal, W_cons, W_nil, V_gt, V_lt, V_le, V_ge, V_mod, V_fdiv, V_add, V_sub, V_mul, V_int, V_lenL, V_lenT, List.map_cons, List.map_nil, List.cons_append, List.nil_append, List.length_cons, List.length_nil, List.replicate, List.getElem?_cons_zero, List.getElem?_cons_succ, Option.some.injEq, exists_eq_left', List.set_cons_zero, List.set_cons_succ, Nat.reduceAdd, Nat.reduceLT, Nat.reduceSub, true_and, Nat.zero_lt_succ, List.length_map, decide_eq_true_eq, V_d0, V_d1, W_mkF, V_pow9, V_pow18, lineLen, Nat.reduceLeDiff, if_true, if_false, W_pure, V_ix0, V_ix1, V_ix2, V_ixL0, V_ixL1]) hw (List.all_eq_true.mp (by decide +kernel))) (by simpa using n1) ?_
  rw [WS_nx]
  try simp only [W_kcmp, W_mcmp, W_ix, W_dix, W_var, W_C, W_Str, W_Int, W_Dsp, W_bin, W_ktr, W_knt, W_mnt, W_mand, W_mor, W_mif, W_kchn, W_neg, W_inst, W_it, W_rng, W_zip, W_tup, W_lst, W_rev, W_pt0, W_pt1, W_sl, W_lset, W_cnt, W_lzip, W_app, W_ext, W_ins, W_get2, W_kg2, W_kg1, W_B1, W_B2, W_cal, W_cons, W_nil, V_gt, V_lt, V_le, V_ge, V_mod, V_fdiv, V_add, V_sub, V_mul, V_pow, V_int, V_lenL, V_lenT, List.map_cons, List.map_nil, List.cons_append, List.nil_append, List.length_cons, List.length_nil, List.replicate, List.getElem?_cons_zero, List.getElem?_cons_succ, Option.some.injEq, exists_eq_left', List.set_cons_zero, List.set_cons_succ, Nat.reduceAdd, Nat.reduceLT, Nat.reduceSub, true_and, Nat.zero_lt_succ, List.length_map]
  rw [WS_seq]
  refine WS_no (Wb_eqS rfl hw) (by simpa using n2) ?_
  rw [WS_nx]
  try simp only [W_kcmp, W_mcmp, W_ix, W_dix, W_var, W_C, W_Str, W_Int, W_Dsp, W_bin, W_ktr, W_knt, W_mnt, W_mand, W_mor, W_mif, W_kchn, W_neg, W_inst, W_it, W_rng, W_zip, W_tup, W_lst, W_rev, W_pt0, W_pt1, W_sl, W_lset, W_cnt, W_lzip, W_app, W_ext, W_ins, W_get2, W_kg2, W_kg1, W_B1, W_B2, W_cal, W_cons, W_nil, V_gt, V_lt, V_le, V_ge, V_mod, V_fdiv, V_add, V_sub, V_mul, V_pow, V_int, V_lenL, V_lenT, List.map_cons, List.map_nil, List.cons_append, List.nil_append, List.length_cons, List.length_nil, List.replicate, List.getElem?_cons_zero, List.getElem?_cons_succ, Option.some.injEq, exists_eq_left', List.set_cons_zero, List.set_cons_succ, Nat.reduceAdd, Nat.reduceLT, Nat.reduceSub, true_and, Nat.zero_lt_succ, List.length_map]
  rw [WS_seq, WS_nm]
  refine W_lcD es (vs.map .str) (fun Q q => ?_) (by unfold lineLen; omega) (by show 5 < 6; decide) (by rw [List.length_map, hl]) (fun i e y he hy => ?_) ?_
  · try simp only [WS_seq, WS_if, WS_nm, WS_tp, WS_ret, WS_exp, WS_put, WS_nx, W_kcmp, W_mcmp, W_ix, W_dix, W_var, W_C, W_Str, W_Int, W_Dsp, W_bin, W_ktr, W_knt, W_kand, W_kor, W_mnt, W_mand, W_mor, W_mif, W_kchn, W_neg, W_inst, W_it, W_rng, W_zip, W_tup, W_lst, W_rev, W_pt0, W_pt1, W_sl, W_lset, W_cnt, W_lzip, W_app, W_ext, W_ins, W_get2, W_kg2, W_kg1, W_B1, W_B2, W_cal, W_cons, W_nil, V_gt, V_lt, V_le, V_ge, V_mod, V_fdiv, V_add, V_sub, V_mul, V_int, V_lenL, V_lenT, List.map_cons, List.map_nil, List.cons_append, List.nil_append, List.length_cons, List.length_nil, List.replicate, List.getElem?_cons_zero, List.getElem?_cons_succ, Option.some.injEq, exists_eq_left', List.set_cons_zero, List.set_cons_succ, Nat.reduceAdd, Nat.reduceLT, Nat.reduceSub, true_and, Nat.zero_lt_succ, List.length_map, decide_eq_true_eq, V_d0, V_d1, W_mkF, V_pow9, V_pow18, lineLen, Nat.reduceLeDiff, if_true, if_false, W_pure, V_ix0, V_ix1, V_ix2, V_ixL0, V_ixL1]
    rw [V_slT, tl_cut, V_ivT]
    exact q
  · rw [List.getElem?_map] at hy
    cases ei : vs[i]? with
    | none => rw [ei] at hy; cases hy
    | some v =>
      rw [ei] at hy
      cases hy
      try simp only [WS_seq, WS_if, WS_nm, WS_tp, WS_ret, WS_exp, WS_put, WS_nx, W_kcmp, W_mcmp, W_ix, W_dix, W_var, W_C, W_Str, W_Int, W_Dsp, W_bin, W_ktr, W_knt, W_kand, W_kor, W_mnt, W_mand, W_mor, W_mif, W_kchn, W_neg, W_inst, W_it, W_rng, W_zip, W_tup, W_lst, W_rev, W_pt0, W_pt1, W_sl, W_lset, W_cnt, W_lzip, W_app, W_ext, W_ins, W_get2, W_kg2, W_kg1, W_B1, W_B2, W_cal, W_cons, W_nil, V_gt, V_lt, V_le, V_ge, V_mod, V_fdiv, V_add, V_sub, V_mul, V_int, V_lenL, V_lenT, List.map_cons, List.map_nil, List.cons_append, List.nil_append, List.length_cons, List.length_nil, List.replicate, List.getElem?_cons_zero, List.getElem?_cons_succ, Option.some.injEq, exists_eq_left', List.set_cons_zero, List.set_cons_succ, Nat.reduceAdd, Nat.reduceLT, Nat.reduceSub, true_and, Nat.zero_lt_succ, List.length_map, decide_eq_true_eq, V_d0, V_d1, W_mkF, V_pow9, V_pow18, lineLen, Nat.reduceLeDiff, if_true, if_false, W_pure, V_ix0, V_ix1, V_ix2, V_ixL0, V_ixL1,  wipeE]
      exact Ret.call (ds := [rs, mk, e]) (each i e v he ei) ⟨rfl, rfl⟩
  refine ⟨by show 4 < 6; decide, ?_⟩
  try simp only [W_kcmp, W_mcmp, W_ix, W_dix, W_var, W_C, W_Str, W_Int, W_Dsp, W_bin, W_ktr, W_knt, W_mnt, W_mand, W_mor, W_mif, W_kchn, W_neg, W_inst, W_it, W_rng, W_zip, W_tup, W_lst, W_rev, W_pt0, W_pt1, W_sl, W_lset, W_cnt, W_lzip, W_app, W_ext, W_ins, W_get2, W_kg2, W_kg1, W_B1, W_B2, W_cal, W_cons, W_nil, V_gt, V_lt, V_le, V_ge, V_mod, V_fdiv, V_add, V_sub, V_mul, V_pow, V_int, V_lenL, V_lenT, List.map_cons, List.map_nil, List.cons_append, List.nil_append, List.length_cons, List.length_nil, List.replicate, List.getElem?_cons_zero, List.getElem?_cons_succ, Option.some.injEq, exists_eq_left', List.set_cons_zero, List.set_cons_succ, Nat.reduceAdd, Nat.reduceLT, Nat.reduceSub, true_and, Nat.zero_lt_succ, List.length_map]
  rw [WS_seq]
  refine WS_ifb (Wb_inS (K_C) (K_var rfl) (by decide +kernel) vok) (fun ht => ?_) (fun hf => ?_)
  · have e : lawF w vs = RI := by
      unfold lawF
      rw [if_pos (by simpa [RI] using ht)]
    rw [e]
    try simp only [WS_seq, WS_if, WS_nm, WS_tp, WS_ret, WS_exp, WS_put, WS_nx, W_kcmp, W_mcmp, W_ix, W_dix, W_var, W_C, W_Str, W_Int, W_Dsp, W_bin, W_ktr, W_knt, W_kand, W_kor, W_mnt, W_mand, W_mor, W_mif, W_kchn, W_neg, W_inst, W_it, W_rng, W_zip, W_tup, W_lst, W_rev, W_pt0, W_pt1, W_sl, W_lset, W_cnt, W_lzip, W_app, W_ext, W_ins, W_get2, W_kg2, W_kg1, W_B1, W_B2, W_cal, W_cons, W_nil, V_gt, V_lt, V_le, V_ge, V_mod, V_fdiv, V_add, V_sub, V_mul, V_int, V_lenL, V_lenT, List.map_cons, List.map_nil, List.cons_append, List.nil_append, List.length_cons, List.length_nil, List.replicate, List.getElem?_cons_zero, List.getElem?_cons_succ, Option.some.injEq, exists_eq_left', List.set_cons_zero, List.set_cons_succ, Nat.reduceAdd, Nat.reduceLT, Nat.reduceSub, true_and, Nat.zero_lt_succ, List.length_map, decide_eq_true_eq, V_d0, V_d1, W_mkF, V_pow9, V_pow18, lineLen, Nat.reduceLeDiff, if_true, if_false, W_pure, V_ix0, V_ix1, V_ix2, V_ixL0, V_ixL1]
    exact Fz.dat
  have c1 : ¬ RI ∈ vs := by simpa [RI] using hf
  rw [WS_nx]
  try simp only [W_kcmp, W_mcmp, W_ix, W_dix, W_var, W_C, W_Str, W_Int, W_Dsp, W_bin, W_ktr, W_knt, W_mnt, W_mand, W_mor, W_mif, W_kchn, W_neg, W_inst, W_it, W_rng, W_zip, W_tup, W_lst, W_rev, W_pt0, W_pt1, W_sl, W_lset, W_cnt, W_lzip, W_app, W_ext, W_ins, W_get2, W_kg2, W_kg1, W_B1, W_B2, W_cal, W_cons, W_nil, V_gt, V_lt, V_le, V_ge, V_mod, V_fdiv, V_add, V_sub, V_mul, V_pow, V_int, V_lenL, V_lenT, List.map_cons, List.map_nil, List.cons_append, List.nil_append, List.length_cons, List.length_nil, List.replicate, List.getElem?_cons_zero, List.getElem?_cons_succ, Option.some.injEq, exists_eq_left', List.set_cons_zero, List.set_cons_succ, Nat.reduceAdd, Nat.reduceLT, Nat.reduceSub, true_and, Nat.zero_lt_succ, List.length_map]
  rw [WS_seq]
  refine WS_ifb (Wb_or (Wb_and (Wb_eqS rfl hw) fun _ => Wb_inS (K_C) (K_var rfl) (by decide +kernel) vok) fun _ => Wb_and (Wb_eqS rfl hw) fun _ => Wb_of (Wb_eqD (y := .lst ([FA, FA].map .str)) (K_var rfl) (by (try simp only [WS_seq, WS_if, WS_nm, WS_tp, WS_ret, WS_exp, WS_put, WS_nx, W_kcmp, W_mcmp, W_ix, W_dix, W_var, W_C, W_Str, W_Int, W_Dsp, W_bin, W_ktr, W_knt, W_kand, W_kor, W_mnt, W_mand, W_mor, W_mif, W_kchn, W_neg, W_inst, W_it, W_rng, W_zip, W_tup, W_lst, W_rev, W_pt0, W_pt1, W_sl, W_lset, W_cnt, W_lzip, W_app, W_ext, W_ins, W_get2, W_kg2, W_kg1, W_B1, W_B2, W_cal, W_cons, W_nil, V_gt, V_lt, V_le, V_ge, V_mod, V_fdiv, V_add, V_sub, V_mul, V_int, V_lenL, V_lenT, List.map_cons, List.map_nil, List.cons_append, List.nil_append, List.length_cons, List.length_nil, List.replicate, List.getElem?_cons_zero, List.getElem?_cons_succ, Option.some.injEq, exists_eq_left', List.set_cons_zero, List.set_cons_succ, Nat.reduceAdd, Nat.reduceLT, Nat.reduceSub, true_and, Nat.zero_lt_succ, List.length_map, decide_eq_true_eq, V_d0, V_d1, W_mkF, V_pow9, V_pow18, lineLen, Nat.reduceLeDiff, if_true, if_false, W_pure, V_ix0, V_ix1, V_ix2, V_ixL0, V_ixL1]); exact ⟨rfl, trivial⟩) (fit_strs vok) (by decide +kernel)) deq_strL) (fun ht => ?_) (fun hf => ?_)
  · have e : lawF w vs = FA := by
      simp only [Bool.or_eq_true, Bool.and_eq_true, decide_eq_true_eq] at ht
      unfold lawF
      exact (if_neg c1).trans (if_pos ht)
    rw [e]
    try simp only [WS_seq, WS_if, WS_nm, WS_tp, WS_ret, WS_exp, WS_put, WS_nx, W_kcmp, W_mcmp, W_ix, W_dix, W_var, W_C, W_Str, W_Int, W_Dsp, W_bin, W_ktr, W_knt, W_kand, W_kor, W_mnt, W_mand, W_mor, W_mif, W_kchn, W_neg, W_inst, W_it, W_rng, W_zip, W_tup, W_lst, W_rev, W_pt0, W_pt1, W_sl, W_lset, W_cnt, W_lzip, W_app, W_ext, W_ins, W_get2, W_kg2, W_kg1, W_B1, W_B2, W_cal, W_cons, W_nil, V_gt, V_lt, V_le, V_ge, V_mod, V_fdiv, V_add, V_sub, V_mul, V_int, V_lenL, V_lenT, List.map_cons, List.map_nil, List.cons_append, List.nil_append, List.length_cons, List.length_nil, List.replicate, List.getElem?_cons_zero, List.getElem?_cons_succ, Option.some.injEq, exists_eq_left', List.set_cons_zero, List.set_cons_succ, Nat.reduceAdd, Nat.reduceLT, Nat.reduceSub, true_and, Nat.zero_lt_succ, List.length_map, decide_eq_true_eq, V_d0, V_d1, W_mkF, V_pow9, V_pow18, lineLen, Nat.reduceLeDiff, if_true, if_false, W_pure, V_ix0, V_ix1, V_ix2, V_ixL0, V_ixL1]
    exact Fz.dat
  have c2 : ¬ ((w = Str.ofString "then" ∧ FA ∈ vs) ∨ (w = Str.ofString "else" ∧ vs = [FA, FA])) := by
    intro z
    have : (decide (w = Str.ofString "then") && decide (FA ∈ vs) || decide (w = Str.ofString "else") && decide (vs = [FA, FA])) = true := by
      simp only [Bool.or_eq_true, Bool.and_eq_true, decide_eq_true_eq]
      exact z
    exact Bool.false_ne_true (hf.symm.trans this)
  rw [WS_nx]
  try simp only [W_kcmp, W_mcmp, W_ix, W_dix, W_var, W_C, W_Str, W_Int, W_Dsp, W_bin, W_ktr, W_knt, W_mnt, W_mand, W_mor, W_mif, W_kchn, W_neg, W_inst, W_it, W_rng, W_zip, W_tup, W_lst, W_rev, W_pt0, W_pt1, W_sl, W_lset, W_cnt, W_lzip, W_app, W_ext, W_ins, W_get2, W_kg2, W_kg1, W_B1, W_B2, W_cal, W_cons, W_nil, V_gt, V_lt, V_le, V_ge, V_mod, V_fdiv, V_add, V_sub, V_mul, V_pow, V_int, V_lenL, V_lenT, List.map_cons, List.map_nil, List.cons_append, List.nil_append, List.length_cons, List.length_nil, List.replicate, List.getElem?_cons_zero, List.getElem?_cons_succ, Option.some.injEq, exists_eq_left', List.set_cons_zero, List.set_cons_succ, Nat.reduceAdd, Nat.reduceLT, Nat.reduceSub, true_and, Nat.zero_lt_succ, List.length_map]
  rw [WS_seq, WS_ret]
  refine W_mifb (Wb_inT (vs := [Str.ofString "one", Str.ofString "find", Str.ofString "dig"]) (K_var rfl) (by try simp only [WS_seq, WS_if, WS_nm, WS_tp, WS_ret, WS_exp, WS_put, WS_nx, W_kcmp, W_mcmp, W_ix, W_dix, W_var, W_C, W_Str, W_Int, W_Dsp, W_bin, W_ktr, W_knt, W_kand, W_kor, W_mnt, W_mand, W_mor, W_mif, W_kchn, W_neg, W_inst, W_it, W_rng, W_zip, W_tup, W_lst, W_rev, W_pt0, W_pt1, W_sl, W_lset, W_cnt, W_lzip, W_app, W_ext, W_ins, W_get2, W_kg2, W_kg1, W_B1, W_B2, W_cal, W_cons, W_nil, V_gt, V_lt, V_le, V_ge, V_mod, V_fdiv, V_add, V_sub, V_mul, V_int, V_lenL, V_lenT, List.map_cons, List.map_nil, List.cons_append, List.nil_append, List.length_cons, List.length_nil, List.replicate, List.getElem?_cons_zero, List.getElem?_cons_succ, Option.some.injEq, exists_eq_left', List.set_cons_zero, List.set_cons_succ, Nat.reduceAdd, Nat.reduceLT, Nat.reduceSub, true_and, Nat.zero_lt_succ, List.length_map, decide_eq_true_eq, V_d0, V_d1, W_mkF, V_pow9, V_pow18, lineLen, Nat.reduceLeDiff, if_true, if_false, W_pure, V_ix0, V_ix1, V_ix2, V_ixL0, V_ixL1]) hw (List.all_eq_true.mp (by decide +kernel))) (fun ht => ?_) (fun hf => ?_)
  · obtain ⟨v, r, rfl, lr⟩ := len_pos_at (xs := vs) (n := vs.length - 1) (by omega)
    have e : lawF w (v :: r) = v := by
      unfold lawF
      rw [if_neg c1, if_neg c2, if_pos (by simpa using ht)]
      rfl
    rw [e]
    try simp only [WS_seq, WS_if, WS_nm, WS_tp, WS_ret, WS_exp, WS_put, WS_nx, W_kcmp, W_mcmp, W_ix, W_dix, W_var, W_C, W_Str, W_Int, W_Dsp, W_bin, W_ktr, W_knt, W_kand, W_kor, W_mnt, W_mand, W_mor, W_mif, W_kchn, W_neg, W_inst, W_it, W_rng, W_zip, W_tup, W_lst, W_rev, W_pt0, W_pt1, W_sl, W_lset, W_cnt, W_lzip, W_app, W_ext, W_ins, W_get2, W_kg2, W_kg1, W_B1, W_B2, W_cal, W_cons, W_nil, V_gt, V_lt, V_le, V_ge, V_mod, V_fdiv, V_add, V_sub, V_mul, V_int, V_lenL, V_lenT, List.map_cons, List.map_nil, List.cons_append, List.nil_append, List.length_cons, List.length_nil, List.replicate, List.getElem?_cons_zero, List.getElem?_cons_succ, Option.some.injEq, exists_eq_left', List.set_cons_zero, List.set_cons_succ, Nat.reduceAdd, Nat.reduceLT, Nat.reduceSub, true_and, Nat.zero_lt_succ, List.length_map, decide_eq_true_eq, V_d0, V_d1, W_mkF, V_pow9, V_pow18, lineLen, Nat.reduceLeDiff, if_true, if_false, W_pure, V_ix0, V_ix1, V_ix2, V_ixL0, V_ixL1]
    exact Fz.dat
  · have e : lawF w vs = KE := by
      unfold lawF
      rw [if_neg c1, if_neg c2, if_neg (by simpa using hf)]
    rw [e]
    exact Fz.dat
end My
set_option maxRecDepth 100000
set_option maxHeartbeats 8000000
namespace My
open Ev PySem

theorem V_dct {m : List (D × D)} {s : Store} {R : List (D × D) → Store → Prop} : W (dctV (.d (.dct m))) s R ↔ R m s := Iff.rfl
theorem many1 : ∀ w ∈ ws1, Ret c_many_inner [.str w] (.int 1) := by
  intro w hw
  simp only [ws1, List.mem_cons, List.not_mem_nil, or_false] at hw
  rcases hw with rfl | rfl | rfl | rfl | rfl | rfl | rfl | rfl | rfl <;> exact W.of (s' := []) (by kernel_rfl) Fz.dat
theorem many2 : ∀ w ∈ ws2, Ret c_many_inner [.str w] (.int 2) := by
  intro w hw
  simp only [ws2, List.mem_cons, List.not_mem_nil, or_false] at hw
  rcases hw with rfl | rfl <;> exact W.of (s' := []) (by kernel_rfl) Fz.dat
def isN (n : Str) : D → Bool
  | .tup (.str m :: _) => decide (m = n)
  | _ => false
theorem nms_strOk {x : Str} (h : x ∈ nms) : PyData.strOk x = true := strOk_mem nms_ok h
theorem pick_rule {N : List Str} {rs : List D} (hr : RulesOk N rs) {n : Str} {l r : D} (h : .tup [.str n, l, r] ∈ rs) : ∃ d q, rs.filter (isN n) = d :: q ∧ RuleOk N d := by
  have h1 : D.tup [.str n, l, r] ∈ rs.filter (isN n) := List.mem_filter.mpr ⟨h, by simp [isN]⟩
  cases e : rs.filter (isN n) with
  | nil => rw [e] at h1; cases h1
  | cons d q =>
    refine ⟨d, q, rfl, hr.2 d ?_⟩
    have : d ∈ rs.filter (isN n) := by rw [e]; exact List.mem_cons_self ..
    exact (List.mem_filter.mp this).1
theorem rule_of_ok {N : List Str} {rs : List D} (hr : RulesOk N rs) {n : Str} (hn : n ∈ nms) {d : D} {q : List D} (h : rs.filter (isN n) = d :: q) : Ret c_rule_of [.tup rs, .str n] d := by
  have hl := hr.1
  refine Ret.body (n := 3) (a := m_rule_of) ?_
  unfold m_rule_of
  try simp only [WS_seq, WS_if, WS_nm, WS_tp, WS_ret, WS_exp, WS_put, WS_nx, W_kcmp, W_mcmp, W_ix, W_dix, W_var, W_C, W_Str, W_Int, W_Dsp, W_bin, W_ktr, W_knt, W_kand, W_kor, W_mnt, W_mand, W_mor, W_mif, W_kchn, W_neg, W_inst, W_it, W_rng, W_zip, W_tup, W_lst, W_rev, W_pt0, W_pt1, W_sl, W_lset, W_cnt, W_lzip, W_app, W_ext, W_ins, W_get2, W_kg2, W_kg1, W_B1, W_B2, W_cal, W_cons, W_nil, V_gt, V_lt, V_le, V_ge, V_mod, V_fdiv, V_add, V_sub, V_mul, V_int, V_lenL, V_lenT, List.map_cons, List.map_nil, List.cons_append, List.nil_append, List.length_cons, List.length_nil, List.replicate, List.getElem?_cons_zero, List.getElem?_cons_succ, Option.some.injEq, exists_eq_left', List.set_cons_zero, List.set_cons_succ, Nat.reduceAdd, Nat.reduceLT, Nat.reduceSub, true_and, Nat.zero_lt_succ, List.length_map, decide_eq_true_eq, V_d0, V_d1, W_mkF, V_pow9, V_pow18, lineLen, Nat.reduceLeDiff, if_true, if_false, W_pure, V_ix0, V_ix1, V_ix2, V_ixL0, V_ixL1]
  refine W_lcF rs (isN n) (fun Q q => ?_) (by unfold lineLen; omega) (by show 2 < 3; decide) (fun x hx => ?_) ?_
  · try simp only [WS_seq, WS_if, WS_nm, WS_tp, WS_ret, WS_exp, WS_put, WS_nx, W_kcmp, W_mcmp, W_ix, W_dix, W_var, W_C, W_Str, W_Int, W_Dsp, W_bin, W_ktr, W_knt, W_kand, W_kor, W_mnt, W_mand, W_mor, W_mif, W_kchn, W_neg, W_inst, W_it, W_rng, W_zip, W_tup, W_lst, W_rev, W_pt0, W_pt1, W_sl, W_lset, W_cnt, W_lzip, W_app, W_ext, W_ins, W_get2, W_kg2, W_kg1, W_B1, W_B2, W_cal, W_cons, W_nil, V_gt, V_lt, V_le, V_ge, V_mod, V_fdiv, V_add, V_sub, V_mul, V_int, V_lenL, V_lenT, List.map_cons, List.map_nil, List.cons_append, List.nil_append, List.length_cons, List.length_nil, List.replicate, List.getElem?_cons_zero, List.getElem?_cons_succ, Option.some.injEq, exists_eq_left', List.set_cons_zero, List.set_cons_succ, Nat.reduceAdd, Nat.reduceLT, Nat.reduceSub, true_and, Nat.zero_lt_succ, List.length_map, decide_eq_true_eq, V_d0, V_d1, W_mkF, V_pow9, V_pow18, lineLen, Nat.reduceLeDiff, if_true, if_false, W_pure, V_ix0, V_ix1, V_ix2, V_ixL0, V_ixL1]
    rw [V_ivT]
    exact q
  · obtain ⟨m, l, r, rfl, hm, _, _⟩ := hr.2 x hx
    refine Wb_of (Wb_eqD (K_ix (K_var rfl) K_C at_0) (K_var rfl) (fit_str (nms_strOk hm)) (fit_str (nms_strOk hn))) deq_str
  · rw [h]
    try simp only [WS_seq, WS_if, WS_nm, WS_tp, WS_ret, WS_exp, WS_put, WS_nx, W_kcmp, W_mcmp, W_ix, W_dix, W_var, W_C, W_Str, W_Int, W_Dsp, W_bin, W_ktr, W_knt, W_kand, W_kor, W_mnt, W_mand, W_mor, W_mif, W_kchn, W_neg, W_inst, W_it, W_rng, W_zip, W_tup, W_lst, W_rev, W_pt0, W_pt1, W_sl, W_lset, W_cnt, W_lzip, W_app, W_ext, W_ins, W_get2, W_kg2, W_kg1, W_B1, W_B2, W_cal, W_cons, W_nil, V_gt, V_lt, V_le, V_ge, V_mod, V_fdiv, V_add, V_sub, V_mul, V_int, V_lenL, V_lenT, List.map_cons, List.map_nil, List.cons_append, List.nil_append, List.length_cons, List.length_nil, List.replicate, List.getElem?_cons_zero, List.getElem?_cons_succ, Option.some.injEq, exists_eq_left', List.set_cons_zero, List.set_cons_succ, Nat.reduceAdd, Nat.reduceLT, Nat.reduceSub, true_and, Nat.zero_lt_succ, List.length_map, decide_eq_true_eq, V_d0, V_d1, W_mkF, V_pow9, V_pow18, lineLen, Nat.reduceLeDiff, if_true, if_false, W_pure, V_ix0, V_ix1, V_ix2, V_ixL0, V_ixL1]
    exact Fz.dat
theorem way_ok {N : List Str} {rs : List D} {mk : List (Str × Int)} (hm : ∀ x ∈ N, WM (mkM mk) x) (hr : RulesOk N rs) {op : Bool} : ∀ (k : Nat) (p : D), PlanOk rs op k p → ∃ w ∈ ways3, (∀ f, k ≤ f → Ret (c_way_of f) [.tup rs, mkD mk, p] (.str w)) ∧ ∀ f, k ≤ f → Ret (c__law_way f) [.tup rs, mkD mk, p] (.str w) := by
  have okw1 : ∀ w ∈ ws1, PyData.strOk w = true := List.all_eq_true.mp (by decide +kernel)
  have okw2 : ∀ w ∈ ws2, PyData.strOk w = true := List.all_eq_true.mp (by decide +kernel)
  intro k
  induction k with
  | zero => exact fun p h => h.elim
  | succ k ih =>
    rintro p (⟨w, hw, rfl⟩ | ⟨_, rfl⟩ | ⟨n, l, r, hin, rfl⟩ | ⟨w, hw, e, rfl, he⟩ | ⟨w, hw, a, b, rfl, ha, hb⟩)
    · simp only [ws0, List.mem_cons, List.not_mem_nil, or_false] at hw
      rcases hw with rfl | rfl
      · refine ⟨KE, by simp [ways3], fun f hf => ?_, fun f hf => ?_⟩
        · obtain ⟨g, rfl⟩ : ∃ g, f = g + 1 := ⟨f - 1, by omega⟩
          refine Ret.body (n := 6) (a := m_way_of (c_way_of g)) ?_
          unfold m_way_of
          rw [WS_seq, WS_nm]
          try simp only [W_kcmp, W_mcmp, W_ix, W_dix, W_var, W_C, W_Str, W_Int, W_Dsp, W_bin, W_ktr, W_knt, W_mnt, W_mand, W_mor, W_mif, W_kchn, W_neg, W_inst, W_it, W_rng, W_zip, W_tup, W_lst, W_rev, W_pt0, W_pt1, W_sl, W_lset, W_cnt, W_lzip, W_app, W_ext, W_ins, W_get2, W_kg2, W_kg1, W_B1, W_B2, W_cal, W_cons, W_nil, V_gt, V_lt, V_le, V_ge, V_mod, V_fdiv, V_add, V_sub, V_mul, V_pow, V_int, V_lenL, V_lenT, List.map_cons, List.map_nil, List.cons_append, List.nil_append, List.length_cons, List.length_nil, List.replicate, List.getElem?_cons_zero, List.getElem?_cons_succ, Option.some.injEq, exists_eq_left', List.set_cons_zero, List.set_cons_succ, Nat.reduceAdd, Nat.reduceLT, Nat.reduceSub, true_and, Nat.zero_lt_succ, List.length_map]
          rw [V_ix0]
          try simp only [W_kcmp, W_mcmp, W_ix, W_dix, W_var, W_C, W_Str, W_Int, W_Dsp, W_bin, W_ktr, W_knt, W_mnt, W_mand, W_mor, W_mif, W_kchn, W_neg, W_inst, W_it, W_rng, W_zip, W_tup, W_lst, W_rev, W_pt0, W_pt1, W_sl, W_lset, W_cnt, W_lzip, W_app, W_ext, W_ins, W_get2, W_kg2, W_kg1, W_B1, W_B2, W_cal, W_cons, W_nil, V_gt, V_lt, V_le, V_ge, V_mod, V_fdiv, V_add, V_sub, V_mul, V_pow, V_int, V_lenL, V_lenT, List.map_cons, List.map_nil, List.cons_append, List.nil_append, List.length_cons, List.length_nil, List.replicate, List.getElem?_cons_zero, List.getElem?_cons_succ, Option.some.injEq, exists_eq_left', List.set_cons_zero, List.set_cons_succ, Nat.reduceAdd, Nat.reduceLT, Nat.reduceSub, true_and, Nat.zero_lt_succ, List.length_map]
          rw [WS_seq]
          refine WS_no (Wb_eqS rfl (by decide +kernel)) (by decide +kernel) ?_
          rw [WS_nx]
          try simp only [W_kcmp, W_mcmp, W_ix, W_dix, W_var, W_C, W_Str, W_Int, W_Dsp, W_bin, W_ktr, W_knt, W_mnt, W_mand, W_mor, W_mif, W_kchn, W_neg, W_inst, W_it, W_rng, W_zip, W_tup, W_lst, W_rev, W_pt0, W_pt1, W_sl, W_lset, W_cnt, W_lzip, W_app, W_ext, W_ins, W_get2, W_kg2, W_kg1, W_B1, W_B2, W_cal, W_cons, W_nil, V_gt, V_lt, V_le, V_ge, V_mod, V_fdiv, V_add, V_sub, V_mul, V_pow, V_int, V_lenL, V_lenT, List.map_cons, List.map_nil, List.cons_append, List.nil_append, List.length_cons, List.length_nil, List.replicate, List.getElem?_cons_zero, List.getElem?_cons_succ, Option.some.injEq, exists_eq_left', List.set_cons_zero, List.set_cons_succ, Nat.reduceAdd, Nat.reduceLT, Nat.reduceSub, true_and, Nat.zero_lt_succ, List.length_map]
          rw [WS_seq]
          refine WS_no (Wb_eqS rfl (by decide +kernel)) (by decide +kernel) ?_
          rw [WS_nx]
          try simp only [W_kcmp, W_mcmp, W_ix, W_dix, W_var, W_C, W_Str, W_Int, W_Dsp, W_bin, W_ktr, W_knt, W_mnt, W_mand, W_mor, W_mif, W_kchn, W_neg, W_inst, W_it, W_rng, W_zip, W_tup, W_lst, W_rev, W_pt0, W_pt1, W_sl, W_lset, W_cnt, W_lzip, W_app, W_ext, W_ins, W_get2, W_kg2, W_kg1, W_B1, W_B2, W_cal, W_cons, W_nil, V_gt, V_lt, V_le, V_ge, V_mod, V_fdiv, V_add, V_sub, V_mul, V_pow, V_int, V_lenL, V_lenT, List.map_cons, List.map_nil, List.cons_append, List.nil_append, List.length_cons, List.length_nil, List.replicate, List.getElem?_cons_zero, List.getElem?_cons_succ, Option.some.injEq, exists_eq_left', List.set_cons_zero, List.set_cons_succ, Nat.reduceAdd, Nat.reduceLT, Nat.reduceSub, true_and, Nat.zero_lt_succ, List.length_map]
          rw [WS_seq]
          refine WS_yes (Wb_or (Wb_eqS rfl (by decide +kernel)) fun _ => Wb_eqS rfl (by decide +kernel)) (by decide +kernel) ?_
          try simp only [WS_seq, WS_if, WS_nm, WS_tp, WS_ret, WS_exp, WS_put, WS_nx, W_kcmp, W_mcmp, W_ix, W_dix, W_var, W_C, W_Str, W_Int, W_Dsp, W_bin, W_ktr, W_knt, W_kand, W_kor, W_mnt, W_mand, W_mor, W_mif, W_kchn, W_neg, W_inst, W_it, W_rng, W_zip, W_tup, W_lst, W_rev, W_pt0, W_pt1, W_sl, W_lset, W_cnt, W_lzip, W_app, W_ext, W_ins, W_get2, W_kg2, W_kg1, W_B1, W_B2, W_cal, W_cons, W_nil, V_gt, V_lt, V_le, V_ge, V_mod, V_fdiv, V_add, V_sub, V_mul, V_int, V_lenL, V_lenT, List.map_cons, List.map_nil, List.cons_append, List.nil_append, List.length_cons, List.length_nil, List.replicate, List.getElem?_cons_zero, List.getElem?_cons_succ, Option.some.injEq, exists_eq_left', List.set_cons_zero, List.set_cons_succ, Nat.reduceAdd, Nat.reduceLT, Nat.reduceSub, true_and, Nat.zero_lt_succ, List.length_map, decide_eq_true_eq, V_d0, V_d1, W_mkF, V_pow9, V_pow18, lineLen, Nat.reduceLeDiff, if_true, if_false, W_pure, V_ix0, V_ix1, V_ix2, V_ixL0, V_ixL1]
          exact Fz.dat
        · obtain ⟨g, rfl⟩ : ∃ g, f = g + 1 := ⟨f - 1, by omega⟩
          refine Ret.body (n := 6) (a := m__law_way (c__law_way g)) ?_
          unfold m__law_way
          rw [WS_seq, WS_nm]
          try simp only [W_kcmp, W_mcmp, W_ix, W_dix, W_var, W_C, W_Str, W_Int, W_Dsp, W_bin, W_ktr, W_knt, W_mnt, W_mand, W_mor, W_mif, W_kchn, W_neg, W_inst, W_it, W_rng, W_zip, W_tup, W_lst, W_rev, W_pt0, W_pt1, W_sl, W_lset, W_cnt, W_lzip, W_app, W_ext, W_ins, W_get2, W_kg2, W_kg1, W_B1, W_B2, W_cal, W_cons, W_nil, V_gt, V_lt, V_le, V_ge, V_mod, V_fdiv, V_add, V_sub, V_mul, V_pow, V_int, V_lenL, V_lenT, List.map_cons, List.map_nil, List.cons_append, List.nil_append, List.length_cons, List.length_nil, List.replicate, List.getElem?_cons_zero, List.getElem?_cons_succ, Option.some.injEq, exists_eq_left', List.set_cons_zero, List.set_cons_succ, Nat.reduceAdd, Nat.reduceLT, Nat.reduceSub, true_and, Nat.zero_lt_succ, List.length_map]
          rw [V_ix0]
          try simp only [W_kcmp, W_mcmp, W_ix, W_dix, W_var, W_C, W_Str, W_Int, W_Dsp, W_bin, W_ktr, W_knt, W_mnt, W_mand, W_mor, W_mif, W_kchn, W_neg, W_inst, W_it, W_rng, W_zip, W_tup, W_lst, W_rev, W_pt0, W_pt1, W_sl, W_lset, W_cnt, W_lzip, W_app, W_ext, W_ins, W_get2, W_kg2, W_kg1, W_B1, W_B2, W_cal, W_cons, W_nil, V_gt, V_lt, V_le, V_ge, V_mod, V_fdiv, V_add, V_sub, V_mul, V_pow, V_int, V_lenL, V_lenT, List.map_cons, List.map_nil, List.cons_append, List.nil_append, List.length_cons, List.length_nil, List.replicate, List.getElem?_cons_zero, List.getElem?_cons_succ, Option.some.injEq, exists_eq_left', List.set_cons_zero, List.set_cons_succ, Nat.reduceAdd, Nat.reduceLT, Nat.reduceSub, true_and, Nat.zero_lt_succ, List.length_map]
          rw [WS_seq]
          refine WS_yes (Wb_inT (vs := [Str.ofString "never", Str.ofString "stay", Str.ofString "not", Str.ofString "any"]) (K_var rfl) (by try simp only [WS_seq, WS_if, WS_nm, WS_tp, WS_ret, WS_exp, WS_put, WS_nx, W_kcmp, W_mcmp, W_ix, W_dix, W_var, W_C, W_Str, W_Int, W_Dsp, W_bin, W_ktr, W_knt, W_kand, W_kor, W_mnt, W_mand, W_mor, W_mif, W_kchn, W_neg, W_inst, W_it, W_rng, W_zip, W_tup, W_lst, W_rev, W_pt0, W_pt1, W_sl, W_lset, W_cnt, W_lzip, W_app, W_ext, W_ins, W_get2, W_kg2, W_kg1, W_B1, W_B2, W_cal, W_cons, W_nil, V_gt, V_lt, V_le, V_ge, V_mod, V_fdiv, V_add, V_sub, V_mul, V_int, V_lenL, V_lenT, List.map_cons, List.map_nil, List.cons_append, List.nil_append, List.length_cons, List.length_nil, List.replicate, List.getElem?_cons_zero, List.getElem?_cons_succ, Option.some.injEq, exists_eq_left', List.set_cons_zero, List.set_cons_succ, Nat.reduceAdd, Nat.reduceLT, Nat.reduceSub, true_and, Nat.zero_lt_succ, List.length_map, decide_eq_true_eq, V_d0, V_d1, W_mkF, V_pow9, V_pow18, lineLen, Nat.reduceLeDiff, if_true, if_false, W_pure, V_ix0, V_ix1, V_ix2, V_ixL0, V_ixL1]) (by decide +kernel) (List.all_eq_true.mp (by decide +kernel))) (by decide +kernel) ?_
          try simp only [WS_seq, WS_if, WS_nm, WS_tp, WS_ret, WS_exp, WS_put, WS_nx, W_kcmp, W_mcmp, W_ix, W_dix, W_var, W_C, W_Str, W_Int, W_Dsp, W_bin, W_ktr, W_knt, W_kand, W_kor, W_mnt, W_mand, W_mor, W_mif, W_kchn, W_neg, W_inst, W_it, W_rng, W_zip, W_tup, W_lst, W_rev, W_pt0, W_pt1, W_sl, W_lset, W_cnt, W_lzip, W_app, W_ext, W_ins, W_get2, W_kg2, W_kg1, W_B1, W_B2, W_cal, W_cons, W_nil, V_gt, V_lt, V_le, V_ge, V_mod, V_fdiv, V_add, V_sub, V_mul, V_int, V_lenL, V_lenT, List.map_cons, List.map_nil, List.cons_append, List.nil_append, List.length_cons, List.length_nil, List.replicate, List.getElem?_cons_zero, List.getElem?_cons_succ, Option.some.injEq, exists_eq_left', List.set_cons_zero, List.set_cons_succ, Nat.reduceAdd, Nat.reduceLT, Nat.reduceSub, true_and, Nat.zero_lt_succ, List.length_map, decide_eq_true_eq, V_d0, V_d1, W_mkF, V_pow9, V_pow18, lineLen, Nat.reduceLeDiff, if_true, if_false, W_pure, V_ix0, V_ix1, V_ix2, V_ixL0, V_ixL1]
          refine V_dct.mpr (V_get ?_)
          rw [show ([(D.str (Str.ofString "never"), D.str (Str.ofString "falls")), (D.str (Str.ofString "any"), D.str (Str.ofString "rises"))] : List (D × D)) = ([(Str.ofString "never", Str.ofString "falls"), (Str.ofString "any", Str.ofString "rises")] : List (Str × Str)).map (fun p => (D.str p.1, D.str p.2)) from rfl, dget_strs, show sget _ _ = none from by decide +kernel]
          exact Fz.dat
      · refine ⟨FA, by simp [ways3], fun f hf => ?_, fun f hf => ?_⟩
        · obtain ⟨g, rfl⟩ : ∃ g, f = g + 1 := ⟨f - 1, by omega⟩
          refine Ret.body (n := 6) (a := m_way_of (c_way_of g)) ?_
          unfold m_way_of
          rw [WS_seq, WS_nm]
          try simp only [W_kcmp, W_mcmp, W_ix, W_dix, W_var, W_C, W_Str, W_Int, W_Dsp, W_bin, W_ktr, W_knt, W_mnt, W_mand, W_mor, W_mif, W_kchn, W_neg, W_inst, W_it, W_rng, W_zip, W_tup, W_lst, W_rev, W_pt0, W_pt1, W_sl, W_lset, W_cnt, W_lzip, W_app, W_ext, W_ins, W_get2, W_kg2, W_kg1, W_B1, W_B2, W_cal, W_cons, W_nil, V_gt, V_lt, V_le, V_ge, V_mod, V_fdiv, V_add, V_sub, V_mul, V_pow, V_int, V_lenL, V_lenT, List.map_cons, List.map_nil, List.cons_append, List.nil_append, List.length_cons, List.length_nil, List.replicate, List.getElem?_cons_zero, List.getElem?_cons_succ, Option.some.injEq, exists_eq_left', List.set_cons_zero, List.set_cons_succ, Nat.reduceAdd, Nat.reduceLT, Nat.reduceSub, true_and, Nat.zero_lt_succ, List.length_map]
          rw [V_ix0]
          try simp only [W_kcmp, W_mcmp, W_ix, W_dix, W_var, W_C, W_Str, W_Int, W_Dsp, W_bin, W_ktr, W_knt, W_mnt, W_mand, W_mor, W_mif, W_kchn, W_neg, W_inst, W_it, W_rng, W_zip, W_tup, W_lst, W_rev, W_pt0, W_pt1, W_sl, W_lset, W_cnt, W_lzip, W_app, W_ext, W_ins, W_get2, W_kg2, W_kg1, W_B1, W_B2, W_cal, W_cons, W_nil, V_gt, V_lt, V_le, V_ge, V_mod, V_fdiv, V_add, V_sub, V_mul, V_pow, V_int, V_lenL, V_lenT, List.map_cons, List.map_nil, List.cons_append, List.nil_append, List.length_cons, List.length_nil, List.replicate, List.getElem?_cons_zero, List.getElem?_cons_succ, Option.some.injEq, exists_eq_left', List.set_cons_zero, List.set_cons_succ, Nat.reduceAdd, Nat.reduceLT, Nat.reduceSub, true_and, Nat.zero_lt_succ, List.length_map]
          rw [WS_seq]
          refine WS_yes (Wb_eqS rfl (by decide +kernel)) (by decide +kernel) ?_
          try simp only [WS_seq, WS_if, WS_nm, WS_tp, WS_ret, WS_exp, WS_put, WS_nx, W_kcmp, W_mcmp, W_ix, W_dix, W_var, W_C, W_Str, W_Int, W_Dsp, W_bin, W_ktr, W_knt, W_kand, W_kor, W_mnt, W_mand, W_mor, W_mif, W_kchn, W_neg, W_inst, W_it, W_rng, W_zip, W_tup, W_lst, W_rev, W_pt0, W_pt1, W_sl, W_lset, W_cnt, W_lzip, W_app, W_ext, W_ins, W_get2, W_kg2, W_kg1, W_B1, W_B2, W_cal, W_cons, W_nil, V_gt, V_lt, V_le, V_ge, V_mod, V_fdiv, V_add, V_sub, V_mul, V_int, V_lenL, V_lenT, List.map_cons, List.map_nil, List.cons_append, List.nil_append, List.length_cons, List.length_nil, List.replicate, List.getElem?_cons_zero, List.getElem?_cons_succ, Option.some.injEq, exists_eq_left', List.set_cons_zero, List.set_cons_succ, Nat.reduceAdd, Nat.reduceLT, Nat.reduceSub, true_and, Nat.zero_lt_succ, List.length_map, decide_eq_true_eq, V_d0, V_d1, W_mkF, V_pow9, V_pow18, lineLen, Nat.reduceLeDiff, if_true, if_false, W_pure, V_ix0, V_ix1, V_ix2, V_ixL0, V_ixL1]
          exact Fz.dat
        · obtain ⟨g, rfl⟩ : ∃ g, f = g + 1 := ⟨f - 1, by omega⟩
          refine Ret.body (n := 6) (a := m__law_way (c__law_way g)) ?_
          unfold m__law_way
          rw [WS_seq, WS_nm]
          try simp only [W_kcmp, W_mcmp, W_ix, W_dix, W_var, W_C, W_Str, W_Int, W_Dsp, W_bin, W_ktr, W_knt, W_mnt, W_mand, W_mor, W_mif, W_kchn, W_neg, W_inst, W_it, W_rng, W_zip, W_tup, W_lst, W_rev, W_pt0, W_pt1, W_sl, W_lset, W_cnt, W_lzip, W_app, W_ext, W_ins, W_get2, W_kg2, W_kg1, W_B1, W_B2, W_cal, W_cons, W_nil, V_gt, V_lt, V_le, V_ge, V_mod, V_fdiv, V_add, V_sub, V_mul, V_pow, V_int, V_lenL, V_lenT, List.map_cons, List.map_nil, List.cons_append, List.nil_append, List.length_cons, List.length_nil, List.replicate, List.getElem?_cons_zero, List.getElem?_cons_succ, Option.some.injEq, exists_eq_left', List.set_cons_zero, List.set_cons_succ, Nat.reduceAdd, Nat.reduceLT, Nat.reduceSub, true_and, Nat.zero_lt_succ, List.length_map]
          rw [V_ix0]
          try simp only [W_kcmp, W_mcmp, W_ix, W_dix, W_var, W_C, W_Str, W_Int, W_Dsp, W_bin, W_ktr, W_knt, W_mnt, W_mand, W_mor, W_mif, W_kchn, W_neg, W_inst, W_it, W_rng, W_zip, W_tup, W_lst, W_rev, W_pt0, W_pt1, W_sl, W_lset, W_cnt, W_lzip, W_app, W_ext, W_ins, W_get2, W_kg2, W_kg1, W_B1, W_B2, W_cal, W_cons, W_nil, V_gt, V_lt, V_le, V_ge, V_mod, V_fdiv, V_add, V_sub, V_mul, V_pow, V_int, V_lenL, V_lenT, List.map_cons, List.map_nil, List.cons_append, List.nil_append, List.length_cons, List.length_nil, List.replicate, List.getElem?_cons_zero, List.getElem?_cons_succ, Option.some.injEq, exists_eq_left', List.set_cons_zero, List.set_cons_succ, Nat.reduceAdd, Nat.reduceLT, Nat.reduceSub, true_and, Nat.zero_lt_succ, List.length_map]
          rw [WS_seq]
          refine WS_yes (Wb_inT (vs := [Str.ofString "never", Str.ofString "stay", Str.ofString "not", Str.ofString "any"]) (K_var rfl) (by try simp only [WS_seq, WS_if, WS_nm, WS_tp, WS_ret, WS_exp, WS_put, WS_nx, W_kcmp, W_mcmp, W_ix, W_dix, W_var, W_C, W_Str, W_Int, W_Dsp, W_bin, W_ktr, W_knt, W_kand, W_kor, W_mnt, W_mand, W_mor, W_mif, W_kchn, W_neg, W_inst, W_it, W_rng, W_zip, W_tup, W_lst, W_rev, W_pt0, W_pt1, W_sl, W_lset, W_cnt, W_lzip, W_app, W_ext, W_ins, W_get2, W_kg2, W_kg1, W_B1, W_B2, W_cal, W_cons, W_nil, V_gt, V_lt, V_le, V_ge, V_mod, V_fdiv, V_add, V_sub, V_mul, V_int, V_lenL, V_lenT, List.map_cons, List.map_nil, List.cons_append, List.nil_append, List.length_cons, List.length_nil, List.replicate, List.getElem?_cons_zero, List.getElem?_cons_succ, Option.some.injEq, exists_eq_left', List.set_cons_zero, List.set_cons_succ, Nat.reduceAdd, Nat.reduceLT, Nat.reduceSub, true_and, Nat.zero_lt_succ, List.length_map, decide_eq_true_eq, V_d0, V_d1, W_mkF, V_pow9, V_pow18, lineLen, Nat.reduceLeDiff, if_true, if_false, W_pure, V_ix0, V_ix1, V_ix2, V_ixL0, V_ixL1]) (by decide +kernel) (List.all_eq_true.mp (by decide +kernel))) (by decide +kernel) ?_
          try simp only [WS_seq, WS_if, WS_nm, WS_tp, WS_ret, WS_exp, WS_put, WS_nx, W_kcmp, W_mcmp, W_ix, W_dix, W_var, W_C, W_Str, W_Int, W_Dsp, W_bin, W_ktr, W_knt, W_kand, W_kor, W_mnt, W_mand, W_mor, W_mif, W_kchn, W_neg, W_inst, W_it, W_rng, W_zip, W_tup, W_lst, W_rev, W_pt0, W_pt1, W_sl, W_lset, W_cnt, W_lzip, W_app, W_ext, W_ins, W_get2, W_kg2, W_kg1, W_B1, W_B2, W_cal, W_cons, W_nil, V_gt, V_lt, V_le, V_ge, V_mod, V_fdiv, V_add, V_sub, V_mul, V_int, V_lenL, V_lenT, List.map_cons, List.map_nil, List.cons_append, List.nil_append, List.length_cons, List.length_nil, List.replicate, List.getElem?_cons_zero, List.getElem?_cons_succ, Option.some.injEq, exists_eq_left', List.set_cons_zero, List.set_cons_succ, Nat.reduceAdd, Nat.reduceLT, Nat.reduceSub, true_and, Nat.zero_lt_succ, List.length_map, decide_eq_true_eq, V_d0, V_d1, W_mkF, V_pow9, V_pow18, lineLen, Nat.reduceLeDiff, if_true, if_false, W_pure, V_ix0, V_ix1, V_ix2, V_ixL0, V_ixL1]
          refine V_dct.mpr (V_get ?_)
          rw [show ([(D.str (Str.ofString "never"), D.str (Str.ofString "falls")), (D.str (Str.ofString "any"), D.str (Str.ofString "rises"))] : List (D × D)) = ([(Str.ofString "never", Str.ofString "falls"), (Str.ofString "any", Str.ofString "rises")] : List (Str × Str)).map (fun p => (D.str p.1, D.str p.2)) from rfl, dget_strs, show sget _ _ = some (Str.ofString "falls") from by decide +kernel]
          exact Fz.dat
    · refine ⟨RI, by simp [ways3], fun f hf => ?_, fun f hf => ?_⟩
      · obtain ⟨g, rfl⟩ : ∃ g, f = g + 1 := ⟨f - 1, by omega⟩
        refine Ret.body (n := 6) (a := m_way_of (c_way_of g)) ?_
        unfold m_way_of
        rw [WS_seq, WS_nm]
        try simp only [W_kcmp, W_mcmp, W_ix, W_dix, W_var, W_C, W_Str, W_Int, W_Dsp, W_bin, W_ktr, W_knt, W_mnt, W_mand, W_mor, W_mif, W_kchn, W_neg, W_inst, W_it, W_rng, W_zip, W_tup, W_lst, W_rev, W_pt0, W_pt1, W_sl, W_lset, W_cnt, W_lzip, W_app, W_ext, W_ins, W_get2, W_kg2, W_kg1, W_B1, W_B2, W_cal, W_cons, W_nil, V_gt, V_lt, V_le, V_ge, V_mod, V_fdiv, V_add, V_sub, V_mul, V_pow, V_int, V_lenL, V_lenT, List.map_cons, List.map_nil, List.cons_append, List.nil_append, List.length_cons, List.length_nil, List.replicate, List.getElem?_cons_zero, List.getElem?_cons_succ, Option.some.injEq, exists_eq_left', List.set_cons_zero, List.set_cons_succ, Nat.reduceAdd, Nat.reduceLT, Nat.reduceSub, true_and, Nat.zero_lt_succ, List.length_map]
        rw [V_ix0]
        try simp only [W_kcmp, W_mcmp, W_ix, W_dix, W_var, W_C, W_Str, W_Int, W_Dsp, W_bin, W_ktr, W_knt, W_mnt, W_mand, W_mor, W_mif, W_kchn, W_neg, W_inst, W_it, W_rng, W_zip, W_tup, W_lst, W_rev, W_pt0, W_pt1, W_sl, W_lset, W_cnt, W_lzip, W_app, W_ext, W_ins, W_get2, W_kg2, W_kg1, W_B1, W_B2, W_cal, W_cons, W_nil, V_gt, V_lt, V_le, V_ge, V_mod, V_fdiv, V_add, V_sub, V_mul, V_pow, V_int, V_lenL, V_lenT, List.map_cons, List.map_nil, List.cons_append, List.nil_append, List.length_cons, List.length_nil, List.replicate, List.getElem?_cons_zero, List.getElem?_cons_succ, Option.some.injEq, exists_eq_left', List.set_cons_zero, List.set_cons_succ, Nat.reduceAdd, Nat.reduceLT, Nat.reduceSub, true_and, Nat.zero_lt_succ, List.length_map]
        rw [WS_seq]
        refine WS_no (Wb_eqS rfl (by decide +kernel)) (by decide +kernel) ?_
        rw [WS_nx]
        try simp only [W_kcmp, W_mcmp, W_ix, W_dix, W_var, W_C, W_Str, W_Int, W_Dsp, W_bin, W_ktr, W_knt, W_mnt, W_mand, W_mor, W_mif, W_kchn, W_neg, W_inst, W_it, W_rng, W_zip, W_tup, W_lst, W_rev, W_pt0, W_pt1, W_sl, W_lset, W_cnt, W_lzip, W_app, W_ext, W_ins, W_get2, W_kg2, W_kg1, W_B1, W_B2, W_cal, W_cons, W_nil, V_gt, V_lt, V_le, V_ge, V_mod, V_fdiv, V_add, V_sub, V_mul, V_pow, V_int, V_lenL, V_lenT, List.map_cons, List.map_nil, List.cons_append, List.nil_append, List.length_cons, List.length_nil, List.replicate, List.getElem?_cons_zero, List.getElem?_cons_succ, Option.some.injEq, exists_eq_left', List.set_cons_zero, List.set_cons_succ, Nat.reduceAdd, Nat.reduceLT, Nat.reduceSub, true_and, Nat.zero_lt_succ, List.length_map]
        rw [WS_seq]
        refine WS_no (Wb_eqS rfl (by decide +kernel)) (by decide +kernel) ?_
        rw [WS_nx]
        try simp only [W_kcmp, W_mcmp, W_ix, W_dix, W_var, W_C, W_Str, W_Int, W_Dsp, W_bin, W_ktr, W_knt, W_mnt, W_mand, W_mor, W_mif, W_kchn, W_neg, W_inst, W_it, W_rng, W_zip, W_tup, W_lst, W_rev, W_pt0, W_pt1, W_sl, W_lset, W_cnt, W_lzip, W_app, W_ext, W_ins, W_get2, W_kg2, W_kg1, W_B1, W_B2, W_cal, W_cons, W_nil, V_gt, V_lt, V_le, V_ge, V_mod, V_fdiv, V_add, V_sub, V_mul, V_pow, V_int, V_lenL, V_lenT, List.map_cons, List.map_nil, List.cons_append, List.nil_append, List.length_cons, List.length_nil, List.replicate, List.getElem?_cons_zero, List.getElem?_cons_succ, Option.some.injEq, exists_eq_left', List.set_cons_zero, List.set_cons_succ, Nat.reduceAdd, Nat.reduceLT, Nat.reduceSub, true_and, Nat.zero_lt_succ, List.length_map]
        rw [WS_seq]
        refine WS_no (Wb_or (Wb_eqS rfl (by decide +kernel)) fun _ => Wb_eqS rfl (by decide +kernel)) (by decide +kernel) ?_
        rw [WS_nx]
        try simp only [W_kcmp, W_mcmp, W_ix, W_dix, W_var, W_C, W_Str, W_Int, W_Dsp, W_bin, W_ktr, W_knt, W_mnt, W_mand, W_mor, W_mif, W_kchn, W_neg, W_inst, W_it, W_rng, W_zip, W_tup, W_lst, W_rev, W_pt0, W_pt1, W_sl, W_lset, W_cnt, W_lzip, W_app, W_ext, W_ins, W_get2, W_kg2, W_kg1, W_B1, W_B2, W_cal, W_cons, W_nil, V_gt, V_lt, V_le, V_ge, V_mod, V_fdiv, V_add, V_sub, V_mul, V_pow, V_int, V_lenL, V_lenT, List.map_cons, List.map_nil, List.cons_append, List.nil_append, List.length_cons, List.length_nil, List.replicate, List.getElem?_cons_zero, List.getElem?_cons_succ, Option.some.injEq, exists_eq_left', List.set_cons_zero, List.set_cons_succ, Nat.reduceAdd, Nat.reduceLT, Nat.reduceSub, true_and, Nat.zero_lt_succ, List.length_map]
        rw [WS_seq, WS_nm]
        refine W_lcD [] [] (fun Q q => ?_) (by decide) (by show 5 < 6; decide) rfl (fun i e y he hy => (by simp at he)) ?_
        · try simp only [WS_seq, WS_if, WS_nm, WS_tp, WS_ret, WS_exp, WS_put, WS_nx, W_kcmp, W_mcmp, W_ix, W_dix, W_var, W_C, W_Str, W_Int, W_Dsp, W_bin, W_ktr, W_knt, W_kand, W_kor, W_mnt, W_mand, W_mor, W_mif, W_kchn, W_neg, W_inst, W_it, W_rng, W_zip, W_tup, W_lst, W_rev, W_pt0, W_pt1, W_sl, W_lset, W_cnt, W_lzip, W_app, W_ext, W_ins, W_get2, W_kg2, W_kg1, W_B1, W_B2, W_cal, W_cons, W_nil, V_gt, V_lt, V_le, V_ge, V_mod, V_fdiv, V_add, V_sub, V_mul, V_int, V_lenL, V_lenT, List.map_cons, List.map_nil, List.cons_append, List.nil_append, List.length_cons, List.length_nil, List.replicate, List.getElem?_cons_zero, List.getElem?_cons_succ, Option.some.injEq, exists_eq_left', List.set_cons_zero, List.set_cons_succ, Nat.reduceAdd, Nat.reduceLT, Nat.reduceSub, true_and, Nat.zero_lt_succ, List.length_map, decide_eq_true_eq, V_d0, V_d1, W_mkF, V_pow9, V_pow18, lineLen, Nat.reduceLeDiff, if_true, if_false, W_pure, V_ix0, V_ix1, V_ix2, V_ixL0, V_ixL1]
          refine Ret.call (ds := [.tup [.str (Str.ofString "any"), .str (Str.ofString "x")]]) (d := .tup []) ?_ ?_
          · exact W.of (s' := []) (by kernel_rfl) Fz.dat
          · rw [V_ivT]
            exact q
        refine ⟨by show 4 < 6; decide, ?_⟩
        try simp only [W_kcmp, W_mcmp, W_ix, W_dix, W_var, W_C, W_Str, W_Int, W_Dsp, W_bin, W_ktr, W_knt, W_mnt, W_mand, W_mor, W_mif, W_kchn, W_neg, W_inst, W_it, W_rng, W_zip, W_tup, W_lst, W_rev, W_pt0, W_pt1, W_sl, W_lset, W_cnt, W_lzip, W_app, W_ext, W_ins, W_get2, W_kg2, W_kg1, W_B1, W_B2, W_cal, W_cons, W_nil, V_gt, V_lt, V_le, V_ge, V_mod, V_fdiv, V_add, V_sub, V_mul, V_pow, V_int, V_lenL, V_lenT, List.map_cons, List.map_nil, List.cons_append, List.nil_append, List.length_cons, List.length_nil, List.replicate, List.getElem?_cons_zero, List.getElem?_cons_succ, Option.some.injEq, exists_eq_left', List.set_cons_zero, List.set_cons_succ, Nat.reduceAdd, Nat.reduceLT, Nat.reduceSub, true_and, Nat.zero_lt_succ, List.length_map]
        rw [WS_seq]
        refine WS_yes (Wb_or (Wb_eqS rfl (by decide +kernel)) fun _ => Wb_inS (vs := []) (K_Str) (K_var rfl) (by decide +kernel) (fun _ z => by cases z)) (by decide +kernel) ?_
        try simp only [WS_seq, WS_if, WS_nm, WS_tp, WS_ret, WS_exp, WS_put, WS_nx, W_kcmp, W_mcmp, W_ix, W_dix, W_var, W_C, W_Str, W_Int, W_Dsp, W_bin, W_ktr, W_knt, W_kand, W_kor, W_mnt, W_mand, W_mor, W_mif, W_kchn, W_neg, W_inst, W_it, W_rng, W_zip, W_tup, W_lst, W_rev, W_pt0, W_pt1, W_sl, W_lset, W_cnt, W_lzip, W_app, W_ext, W_ins, W_get2, W_kg2, W_kg1, W_B1, W_B2, W_cal, W_cons, W_nil, V_gt, V_lt, V_le, V_ge, V_mod, V_fdiv, V_add, V_sub, V_mul, V_int, V_lenL, V_lenT, List.map_cons, List.map_nil, List.cons_append, List.nil_append, List.length_cons, List.length_nil, List.replicate, List.getElem?_cons_zero, List.getElem?_cons_succ, Option.some.injEq, exists_eq_left', List.set_cons_zero, List.set_cons_succ, Nat.reduceAdd, Nat.reduceLT, Nat.reduceSub, true_and, Nat.zero_lt_succ, List.length_map, decide_eq_true_eq, V_d0, V_d1, W_mkF, V_pow9, V_pow18, lineLen, Nat.reduceLeDiff, if_true, if_false, W_pure, V_ix0, V_ix1, V_ix2, V_ixL0, V_ixL1]
        exact Fz.dat
      · obtain ⟨g, rfl⟩ : ∃ g, f = g + 1 := ⟨f - 1, by omega⟩
        refine Ret.body (n := 6) (a := m__law_way (c__law_way g)) ?_
        unfold m__law_way
        rw [WS_seq, WS_nm]
        try simp only [W_kcmp, W_mcmp, W_ix, W_dix, W_var, W_C, W_Str, W_Int, W_Dsp, W_bin, W_ktr, W_knt, W_mnt, W_mand, W_mor, W_mif, W_kchn, W_neg, W_inst, W_it, W_rng, W_zip, W_tup, W_lst, W_rev, W_pt0, W_pt1, W_sl, W_lset, W_cnt, W_lzip, W_app, W_ext, W_ins, W_get2, W_kg2, W_kg1, W_B1, W_B2, W_cal, W_cons, W_nil, V_gt, V_lt, V_le, V_ge, V_mod, V_fdiv, V_add, V_sub, V_mul, V_pow, V_int, V_lenL, V_lenT, List.map_cons, List.map_nil, List.cons_append, List.nil_append, List.length_cons, List.length_nil, List.replicate, List.getElem?_cons_zero, List.getElem?_cons_succ, Option.some.injEq, exists_eq_left', List.set_cons_zero, List.set_cons_succ, Nat.reduceAdd, Nat.reduceLT, Nat.reduceSub, true_and, Nat.zero_lt_succ, List.length_map]
        rw [V_ix0]
        try simp only [W_kcmp, W_mcmp, W_ix, W_dix, W_var, W_C, W_Str, W_Int, W_Dsp, W_bin, W_ktr, W_knt, W_mnt, W_mand, W_mor, W_mif, W_kchn, W_neg, W_inst, W_it, W_rng, W_zip, W_tup, W_lst, W_rev, W_pt0, W_pt1, W_sl, W_lset, W_cnt, W_lzip, W_app, W_ext, W_ins, W_get2, W_kg2, W_kg1, W_B1, W_B2, W_cal, W_cons, W_nil, V_gt, V_lt, V_le, V_ge, V_mod, V_fdiv, V_add, V_sub, V_mul, V_pow, V_int, V_lenL, V_lenT, List.map_cons, List.map_nil, List.cons_append, List.nil_append, List.length_cons, List.length_nil, List.replicate, List.getElem?_cons_zero, List.getElem?_cons_succ, Option.some.injEq, exists_eq_left', List.set_cons_zero, List.set_cons_succ, Nat.reduceAdd, Nat.reduceLT, Nat.reduceSub, true_and, Nat.zero_lt_succ, List.length_map]
        rw [WS_seq]
        refine WS_yes (Wb_inT (vs := [Str.ofString "never", Str.ofString "stay", Str.ofString "not", Str.ofString "any"]) (K_var rfl) (by try simp only [WS_seq, WS_if, WS_nm, WS_tp, WS_ret, WS_exp, WS_put, WS_nx, W_kcmp, W_mcmp, W_ix, W_dix, W_var, W_C, W_Str, W_Int, W_Dsp, W_bin, W_ktr, W_knt, W_kand, W_kor, W_mnt, W_mand, W_mor, W_mif, W_kchn, W_neg, W_inst, W_it, W_rng, W_zip, W_tup, W_lst, W_rev, W_pt0, W_pt1, W_sl, W_lset, W_cnt, W_lzip, W_app, W_ext, W_ins, W_get2, W_kg2, W_kg1, W_B1, W_B2, W_cal, W_cons, W_nil, V_gt, V_lt, V_le, V_ge, V_mod, V_fdiv, V_add, V_sub, V_mul, V_int, V_lenL, V_lenT, List.map_cons, List.map_nil, List.cons_append, List.nil_append, List.length_cons, List.length_nil, List.replicate, List.getElem?_cons_zero, List.getElem?_cons_succ, Option.some.injEq, exists_eq_left', List.set_cons_zero, List.set_cons_succ, Nat.reduceAdd, Nat.reduceLT, Nat.reduceSub, true_and, Nat.zero_lt_succ, List.length_map, decide_eq_true_eq, V_d0, V_d1, W_mkF, V_pow9, V_pow18, lineLen, Nat.reduceLeDiff, if_true, if_false, W_pure, V_ix0, V_ix1, V_ix2, V_ixL0, V_ixL1]) (by decide +kernel) (List.all_eq_true.mp (by decide +kernel))) (by decide +kernel) ?_
        try simp only [WS_seq, WS_if, WS_nm, WS_tp, WS_ret, WS_exp, WS_put, WS_nx, W_kcmp, W_mcmp, W_ix, W_dix, W_var, W_C, W_Str, W_Int, W_Dsp, W_bin, W_ktr, W_knt, W_kand, W_kor, W_mnt, W_mand, W_mor, W_mif, W_kchn, W_neg, W_inst, W_it, W_rng, W_zip, W_tup, W_lst, W_rev, W_pt0, W_pt1, W_sl, W_lset, W_cnt, W_lzip, W_app, W_ext, W_ins, W_get2, W_kg2, W_kg1, W_B1, W_B2, W_cal, W_cons, W_nil, V_gt, V_lt, V_le, V_ge, V_mod, V_fdiv, V_add, V_sub, V_mul, V_int, V_lenL, V_lenT, List.map_cons, List.map_nil, List.cons_append, List.nil_append, List.length_cons, List.length_nil, List.replicate, List.getElem?_cons_zero, List.getElem?_cons_succ, Option.some.injEq, exists_eq_left', List.set_cons_zero, List.set_cons_succ, Nat.reduceAdd, Nat.reduceLT, Nat.reduceSub, true_and, Nat.zero_lt_succ, List.length_map, decide_eq_true_eq, V_d0, V_d1, W_mkF, V_pow9, V_pow18, lineLen, Nat.reduceLeDiff, if_true, if_false, W_pure, V_ix0, V_ix1, V_ix2, V_ixL0, V_ixL1]
        refine V_dct.mpr (V_get ?_)
        rw [show ([(D.str (Str.ofString "never"), D.str (Str.ofString "falls")), (D.str (Str.ofString "any"), D.str (Str.ofString "rises"))] : List (D × D)) = ([(Str.ofString "never", Str.ofString "falls"), (Str.ofString "any", Str.ofString "rises")] : List (Str × Str)).map (fun p => (D.str p.1, D.str p.2)) from rfl, dget_strs, show sget _ _ = some (Str.ofString "rises") from by decide +kernel]
        exact Fz.dat
    · obtain ⟨d, q, hq, hd⟩ := pick_rule hr hin
      have hn : n ∈ nms := by
        obtain ⟨m, l', r', e, hm', _, _⟩ := hr.2 _ hin
        cases e
        exact hm'
      obtain ⟨w, hw, hp, hl2⟩ := rule_ok hm hd
      refine ⟨w, hw, fun f hf => ?_, fun f hf => ?_⟩
      · obtain ⟨g, rfl⟩ : ∃ g, f = g + 1 := ⟨f - 1, by omega⟩
        refine Ret.body (n := 6) (a := m_way_of (c_way_of g)) ?_
        unfold m_way_of
        rw [WS_seq, WS_nm]
        try simp only [W_kcmp, W_mcmp, W_ix, W_dix, W_var, W_C, W_Str, W_Int, W_Dsp, W_bin, W_ktr, W_knt, W_mnt, W_mand, W_mor, W_mif, W_kchn, W_neg, W_inst, W_it, W_rng, W_zip, W_tup, W_lst, W_rev, W_pt0, W_pt1, W_sl, W_lset, W_cnt, W_lzip, W_app, W_ext, W_ins, W_get2, W_kg2, W_kg1, W_B1, W_B2, W_cal, W_cons, W_nil, V_gt, V_lt, V_le, V_ge, V_mod, V_fdiv, V_add, V_sub, V_mul, V_pow, V_int, V_lenL, V_lenT, List.map_cons, List.map_nil, List.cons_append, List.nil_append, List.length_cons, List.length_nil, List.replicate, List.getElem?_cons_zero, List.getElem?_cons_succ, Option.some.injEq, exists_eq_left', List.set_cons_zero, List.set_cons_succ, Nat.reduceAdd, Nat.reduceLT, Nat.reduceSub, true_and, Nat.zero_lt_succ, List.length_map]
        rw [V_ix0]
        try simp only [W_kcmp, W_mcmp, W_ix, W_dix, W_var, W_C, W_Str, W_Int, W_Dsp, W_bin, W_ktr, W_knt, W_mnt, W_mand, W_mor, W_mif, W_kchn, W_neg, W_inst, W_it, W_rng, W_zip, W_tup, W_lst, W_rev, W_pt0, W_pt1, W_sl, W_lset, W_cnt, W_lzip, W_app, W_ext, W_ins, W_get2, W_kg2, W_kg1, W_B1, W_B2, W_cal, W_cons, W_nil, V_gt, V_lt, V_le, V_ge, V_mod, V_fdiv, V_add, V_sub, V_mul, V_pow, V_int, V_lenL, V_lenT, List.map_cons, List.map_nil, List.cons_append, List.nil_append, List.length_cons, List.length_nil, List.replicate, List.getElem?_cons_zero, List.getElem?_cons_succ, Option.some.injEq, exists_eq_left', List.set_cons_zero, List.set_cons_succ, Nat.reduceAdd, Nat.reduceLT, Nat.reduceSub, true_and, Nat.zero_lt_succ, List.length_map]
        rw [WS_seq]
        refine WS_no (Wb_eqS rfl (by decide +kernel)) (by decide +kernel) ?_
        rw [WS_nx]
        try simp only [W_kcmp, W_mcmp, W_ix, W_dix, W_var, W_C, W_Str, W_Int, W_Dsp, W_bin, W_ktr, W_knt, W_mnt, W_mand, W_mor, W_mif, W_kchn, W_neg, W_inst, W_it, W_rng, W_zip, W_tup, W_lst, W_rev, W_pt0, W_pt1, W_sl, W_lset, W_cnt, W_lzip, W_app, W_ext, W_ins, W_get2, W_kg2, W_kg1, W_B1, W_B2, W_cal, W_cons, W_nil, V_gt, V_lt, V_le, V_ge, V_mod, V_fdiv, V_add, V_sub, V_mul, V_pow, V_int, V_lenL, V_lenT, List.map_cons, List.map_nil, List.cons_append, List.nil_append, List.length_cons, List.length_nil, List.replicate, List.getElem?_cons_zero, List.getElem?_cons_succ, Option.some.injEq, exists_eq_left', List.set_cons_zero, List.set_cons_succ, Nat.reduceAdd, Nat.reduceLT, Nat.reduceSub, true_and, Nat.zero_lt_succ, List.length_map]
        rw [WS_seq]
        refine WS_yes (Wb_eqS rfl (by decide +kernel)) (by decide +kernel) ?_
        try simp only [WS_seq, WS_if, WS_nm, WS_tp, WS_ret, WS_exp, WS_put, WS_nx, W_kcmp, W_mcmp, W_ix, W_dix, W_var, W_C, W_Str, W_Int, W_Dsp, W_bin, W_ktr, W_knt, W_kand, W_kor, W_mnt, W_mand, W_mor, W_mif, W_kchn, W_neg, W_inst, W_it, W_rng, W_zip, W_tup, W_lst, W_rev, W_pt0, W_pt1, W_sl, W_lset, W_cnt, W_lzip, W_app, W_ext, W_ins, W_get2, W_kg2, W_kg1, W_B1, W_B2, W_cal, W_cons, W_nil, V_gt, V_lt, V_le, V_ge, V_mod, V_fdiv, V_add, V_sub, V_mul, V_int, V_lenL, V_lenT, List.map_cons, List.map_nil, List.cons_append, List.nil_append, List.length_cons, List.length_nil, List.replicate, List.getElem?_cons_zero, List.getElem?_cons_succ, Option.some.injEq, exists_eq_left', List.set_cons_zero, List.set_cons_succ, Nat.reduceAdd, Nat.reduceLT, Nat.reduceSub, true_and, Nat.zero_lt_succ, List.length_map, decide_eq_true_eq, V_d0, V_d1, W_mkF, V_pow9, V_pow18, lineLen, Nat.reduceLeDiff, if_true, if_false, W_pure, V_ix0, V_ix1, V_ix2, V_ixL0, V_ixL1]
        refine Ret.call (ds := [.tup rs, .str n]) (rule_of_ok hr hn hq) ?_
        refine Ret.call (ds := [mkD mk, d]) hp ?_
        exact Fz.dat
      · obtain ⟨g, rfl⟩ : ∃ g, f = g + 1 := ⟨f - 1, by omega⟩
        refine Ret.body (n := 6) (a := m__law_way (c__law_way g)) ?_
        unfold m__law_way
        rw [WS_seq, WS_nm]
        try simp only [W_kcmp, W_mcmp, W_ix, W_dix, W_var, W_C, W_Str, W_Int, W_Dsp, W_bin, W_ktr, W_knt, W_mnt, W_mand, W_mor, W_mif, W_kchn, W_neg, W_inst, W_it, W_rng, W_zip, W_tup, W_lst, W_rev, W_pt0, W_pt1, W_sl, W_lset, W_cnt, W_lzip, W_app, W_ext, W_ins, W_get2, W_kg2, W_kg1, W_B1, W_B2, W_cal, W_cons, W_nil, V_gt, V_lt, V_le, V_ge, V_mod, V_fdiv, V_add, V_sub, V_mul, V_pow, V_int, V_lenL, V_lenT, List.map_cons, List.map_nil, List.cons_append, List.nil_append, List.length_cons, List.length_nil, List.replicate, List.getElem?_cons_zero, List.getElem?_cons_succ, Option.some.injEq, exists_eq_left', List.set_cons_zero, List.set_cons_succ, Nat.reduceAdd, Nat.reduceLT, Nat.reduceSub, true_and, Nat.zero_lt_succ, List.length_map]
        rw [V_ix0]
        try simp only [W_kcmp, W_mcmp, W_ix, W_dix, W_var, W_C, W_Str, W_Int, W_Dsp, W_bin, W_ktr, W_knt, W_mnt, W_mand, W_mor, W_mif, W_kchn, W_neg, W_inst, W_it, W_rng, W_zip, W_tup, W_lst, W_rev, W_pt0, W_pt1, W_sl, W_lset, W_cnt, W_lzip, W_app, W_ext, W_ins, W_get2, W_kg2, W_kg1, W_B1, W_B2, W_cal, W_cons, W_nil, V_gt, V_lt, V_le, V_ge, V_mod, V_fdiv, V_add, V_sub, V_mul, V_pow, V_int, V_lenL, V_lenT, List.map_cons, List.map_nil, List.cons_append, List.nil_append, List.length_cons, List.length_nil, List.replicate, List.getElem?_cons_zero, List.getElem?_cons_succ, Option.some.injEq, exists_eq_left', List.set_cons_zero, List.set_cons_succ, Nat.reduceAdd, Nat.reduceLT, Nat.reduceSub, true_and, Nat.zero_lt_succ, List.length_map]
        rw [WS_seq]
        refine WS_no (Wb_inT (vs := [Str.ofString "never", Str.ofString "stay", Str.ofString "not", Str.ofString "any"]) (K_var rfl) (by try simp only [WS_seq, WS_if, WS_nm, WS_tp, WS_ret, WS_exp, WS_put, WS_nx, W_kcmp, W_mcmp, W_ix, W_dix, W_var, W_C, W_Str, W_Int, W_Dsp, W_bin, W_ktr, W_knt, W_kand, W_kor, W_mnt, W_mand, W_mor, W_mif, W_kchn, W_neg, W_inst, W_it, W_rng, W_zip, W_tup, W_lst, W_rev, W_pt0, W_pt1, W_sl, W_lset, W_cnt, W_lzip, W_app, W_ext, W_ins, W_get2, W_kg2, W_kg1, W_B1, W_B2, W_cal, W_cons, W_nil, V_gt, V_lt, V_le, V_ge, V_mod, V_fdiv, V_add, V_sub, V_mul, V_int, V_lenL, V_lenT, List.map_cons, List.map_nil, List.cons_append, List.nil_append, List.length_cons, List.length_nil, List.replicate, List.getElem?_cons_zero, List.getElem?_cons_succ, Option.some.injEq, exists_eq_left', List.set_cons_zero, List.set_cons_succ, Nat.reduceAdd, Nat.reduceLT, Nat.reduceSub, true_and, Nat.zero_lt_succ, List.length_map, decide_eq_true_eq, V_d0, V_d1, W_mkF, V_pow9, V_pow18, lineLen, Nat.reduceLeDiff, if_true, if_false, W_pure, V_ix0, V_ix1, V_ix2, V_ixL0, V_ixL1]) (by decide +kernel) (List.all_eq_true.mp (by decide +kernel))) (by decide +kernel) ?_
        rw [WS_nx]
        try simp only [W_kcmp, W_mcmp, W_ix, W_dix, W_var, W_C, W_Str, W_Int, W_Dsp, W_bin, W_ktr, W_knt, W_mnt, W_mand, W_mor, W_mif, W_kchn, W_neg, W_inst, W_it, W_rng, W_zip, W_tup, W_lst, W_rev, W_pt0, W_pt1, W_sl, W_lset, W_cnt, W_lzip, W_app, W_ext, W_ins, W_get2, W_kg2, W_kg1, W_B1, W_B2, W_cal, W_cons, W_nil, V_gt, V_lt, V_le, V_ge, V_mod, V_fdiv, V_add, V_sub, V_mul, V_pow, V_int, V_lenL, V_lenT, List.map_cons, List.map_nil, List.cons_append, List.nil_append, List.length_cons, List.length_nil, List.replicate, List.getElem?_cons_zero, List.getElem?_cons_succ, Option.some.injEq, exists_eq_left', List.set_cons_zero, List.set_cons_succ, Nat.reduceAdd, Nat.reduceLT, Nat.reduceSub, true_and, Nat.zero_lt_succ, List.length_map]
        rw [WS_seq]
        refine WS_yes (Wb_eqS rfl (by decide +kernel)) (by decide +kernel) ?_
        rw [WS_seq, WS_ret, W_cal, W_cons, W_var]
        refine ⟨_, rfl, ?_⟩
        rw [W_cons, W_ix]
        refine W_lcF rs (isN n) (fun Q q => ?_) (by have := hr.1; unfold lineLen; omega) (by show 5 < 6; decide) (fun x hx => ?_) ?_
        · try simp only [WS_seq, WS_if, WS_nm, WS_tp, WS_ret, WS_exp, WS_put, WS_nx, W_kcmp, W_mcmp, W_ix, W_dix, W_var, W_C, W_Str, W_Int, W_Dsp, W_bin, W_ktr, W_knt, W_kand, W_kor, W_mnt, W_mand, W_mor, W_mif, W_kchn, W_neg, W_inst, W_it, W_rng, W_zip, W_tup, W_lst, W_rev, W_pt0, W_pt1, W_sl, W_lset, W_cnt, W_lzip, W_app, W_ext, W_ins, W_get2, W_kg2, W_kg1, W_B1, W_B2, W_cal, W_cons, W_nil, V_gt, V_lt, V_le, V_ge, V_mod, V_fdiv, V_add, V_sub, V_mul, V_int, V_lenL, V_lenT, List.map_cons, List.map_nil, List.cons_append, List.nil_append, List.length_cons, List.length_nil, List.replicate, List.getElem?_cons_zero, List.getElem?_cons_succ, Option.some.injEq, exists_eq_left', List.set_cons_zero, List.set_cons_succ, Nat.reduceAdd, Nat.reduceLT, Nat.reduceSub, true_and, Nat.zero_lt_succ, List.length_map, decide_eq_true_eq, V_d0, V_d1, W_mkF, V_pow9, V_pow18, lineLen, Nat.reduceLeDiff, if_true, if_false, W_pure, V_ix0, V_ix1, V_ix2, V_ixL0, V_ixL1]
          rw [V_ivT]
          exact q
        · obtain ⟨m, l, r, rfl, hm, _, _⟩ := hr.2 x hx
          refine Wb_of (Wb_eqD (K_ix (K_var rfl) K_C at_0) (K_ix (K_var rfl) K_C at_1) (fit_str (nms_strOk hm)) (fit_str (nms_strOk hn))) deq_str
        · rw [hq]
          try simp only [WS_seq, WS_if, WS_nm, WS_tp, WS_ret, WS_exp, WS_put, WS_nx, W_kcmp, W_mcmp, W_ix, W_dix, W_var, W_C, W_Str, W_Int, W_Dsp, W_bin, W_ktr, W_knt, W_kand, W_kor, W_mnt, W_mand, W_mor, W_mif, W_kchn, W_neg, W_inst, W_it, W_rng, W_zip, W_tup, W_lst, W_rev, W_pt0, W_pt1, W_sl, W_lset, W_cnt, W_lzip, W_app, W_ext, W_ins, W_get2, W_kg2, W_kg1, W_B1, W_B2, W_cal, W_cons, W_nil, V_gt, V_lt, V_le, V_ge, V_mod, V_fdiv, V_add, V_sub, V_mul, V_int, V_lenL, V_lenT, List.map_cons, List.map_nil, List.cons_append, List.nil_append, List.length_cons, List.length_nil, List.replicate, List.getElem?_cons_zero, List.getElem?_cons_succ, Option.some.injEq, exists_eq_left', List.set_cons_zero, List.set_cons_succ, Nat.reduceAdd, Nat.reduceLT, Nat.reduceSub, true_and, Nat.zero_lt_succ, List.length_map, decide_eq_true_eq, V_d0, V_d1, W_mkF, V_pow9, V_pow18, lineLen, Nat.reduceLeDiff, if_true, if_false, W_pure, V_ix0, V_ix1, V_ix2, V_ixL0, V_ixL1]
          refine Ret.call (ds := [mkD mk, d]) hl2 ?_
          exact Fz.dat
    · obtain ⟨v, hv, h1, h2⟩ := ih e he
      by_cases hno : w = Str.ofString "not"
      · subst hno
        refine ⟨KE, by simp [ways3], fun f hf => ?_, fun f hf => ?_⟩
        · obtain ⟨g, rfl⟩ : ∃ g, f = g + 1 := ⟨f - 1, by omega⟩
          refine Ret.body (n := 6) (a := m_way_of (c_way_of g)) ?_
          unfold m_way_of
          rw [WS_seq, WS_nm]
          try simp only [W_kcmp, W_mcmp, W_ix, W_dix, W_var, W_C, W_Str, W_Int, W_Dsp, W_bin, W_ktr, W_knt, W_mnt, W_mand, W_mor, W_mif, W_kchn, W_neg, W_inst, W_it, W_rng, W_zip, W_tup, W_lst, W_rev, W_pt0, W_pt1, W_sl, W_lset, W_cnt, W_lzip, W_app, W_ext, W_ins, W_get2, W_kg2, W_kg1, W_B1, W_B2, W_cal, W_cons, W_nil, V_gt, V_lt, V_le, V_ge, V_mod, V_fdiv, V_add, V_sub, V_mul, V_pow, V_int, V_lenL, V_lenT, List.map_cons, List.map_nil, List.cons_append, List.nil_append, List.length_cons, List.length_nil, List.replicate, List.getElem?_cons_zero, List.getElem?_cons_succ, Option.some.injEq, exists_eq_left', List.set_cons_zero, List.set_cons_succ, Nat.reduceAdd, Nat.reduceLT, Nat.reduceSub, true_and, Nat.zero_lt_succ, List.length_map]
          rw [V_ix0]
          try simp only [W_kcmp, W_mcmp, W_ix, W_dix, W_var, W_C, W_Str, W_Int, W_Dsp, W_bin, W_ktr, W_knt, W_mnt, W_mand, W_mor, W_mif, W_kchn, W_neg, W_inst, W_it, W_rng, W_zip, W_tup, W_lst, W_rev, W_pt0, W_pt1, W_sl, W_lset, W_cnt, W_lzip, W_app, W_ext, W_ins, W_get2, W_kg2, W_kg1, W_B1, W_B2, W_cal, W_cons, W_nil, V_gt, V_lt, V_le, V_ge, V_mod, V_fdiv, V_add, V_sub, V_mul, V_pow, V_int, V_lenL, V_lenT, List.map_cons, List.map_nil, List.cons_append, List.nil_append, List.length_cons, List.length_nil, List.replicate, List.getElem?_cons_zero, List.getElem?_cons_succ, Option.some.injEq, exists_eq_left', List.set_cons_zero, List.set_cons_succ, Nat.reduceAdd, Nat.reduceLT, Nat.reduceSub, true_and, Nat.zero_lt_succ, List.length_map]
          rw [WS_seq]
          refine WS_no (Wb_eqS rfl (by decide +kernel)) (by decide +kernel) ?_
          rw [WS_nx]
          try simp only [W_kcmp, W_mcmp, W_ix, W_dix, W_var, W_C, W_Str, W_Int, W_Dsp, W_bin, W_ktr, W_knt, W_mnt, W_mand, W_mor, W_mif, W_kchn, W_neg, W_inst, W_it, W_rng, W_zip, W_tup, W_lst, W_rev, W_pt0, W_pt1, W_sl, W_lset, W_cnt, W_lzip, W_app, W_ext, W_ins, W_get2, W_kg2, W_kg1, W_B1, W_B2, W_cal, W_cons, W_nil, V_gt, V_lt, V_le, V_ge, V_mod, V_fdiv, V_add, V_sub, V_mul, V_pow, V_int, V_lenL, V_lenT, List.map_cons, List.map_nil, List.cons_append, List.nil_append, List.length_cons, List.length_nil, List.replicate, List.getElem?_cons_zero, List.getElem?_cons_succ, Option.some.injEq, exists_eq_left', List.set_cons_zero, List.set_cons_succ, Nat.reduceAdd, Nat.reduceLT, Nat.reduceSub, true_and, Nat.zero_lt_succ, List.length_map]
          rw [WS_seq]
          refine WS_no (Wb_eqS rfl (by decide +kernel)) (by decide +kernel) ?_
          rw [WS_nx]
          try simp only [W_kcmp, W_mcmp, W_ix, W_dix, W_var, W_C, W_Str, W_Int, W_Dsp, W_bin, W_ktr, W_knt, W_mnt, W_mand, W_mor, W_mif, W_kchn, W_neg, W_inst, W_it, W_rng, W_zip, W_tup, W_lst, W_rev, W_pt0, W_pt1, W_sl, W_lset, W_cnt, W_lzip, W_app, W_ext, W_ins, W_get2, W_kg2, W_kg1, W_B1, W_B2, W_cal, W_cons, W_nil, V_gt, V_lt, V_le, V_ge, V_mod, V_fdiv, V_add, V_sub, V_mul, V_pow, V_int, V_lenL, V_lenT, List.map_cons, List.map_nil, List.cons_append, List.nil_append, List.length_cons, List.length_nil, List.replicate, List.getElem?_cons_zero, List.getElem?_cons_succ, Option.some.injEq, exists_eq_left', List.set_cons_zero, List.set_cons_succ, Nat.reduceAdd, Nat.reduceLT, Nat.reduceSub, true_and, Nat.zero_lt_succ, List.length_map]
          rw [WS_seq]
          refine WS_yes (Wb_or (Wb_eqS rfl (by decide +kernel)) fun _ => Wb_eqS rfl (by decide +kernel)) (by decide +kernel) ?_
          try simp only [WS_seq, WS_if, WS_nm, WS_tp, WS_ret, WS_exp, WS_put, WS_nx, W_kcmp, W_mcmp, W_ix, W_dix, W_var, W_C, W_Str, W_Int, W_Dsp, W_bin, W_ktr, W_knt, W_kand, W_kor, W_mnt, W_mand, W_mor, W_mif, W_kchn, W_neg, W_inst, W_it, W_rng, W_zip, W_tup, W_lst, W_rev, W_pt0, W_pt1, W_sl, W_lset, W_cnt, W_lzip, W_app, W_ext, W_ins, W_get2, W_kg2, W_kg1, W_B1, W_B2, W_cal, W_cons, W_nil, V_gt, V_lt, V_le, V_ge, V_mod, V_fdiv, V_add, V_sub, V_mul, V_int, V_lenL, V_lenT, List.map_cons, List.map_nil, List.cons_append, List.nil_append, List.length_cons, List.length_nil, List.replicate, List.getElem?_cons_zero, List.getElem?_cons_succ, Option.some.injEq, exists_eq_left', List.set_cons_zero, List.set_cons_succ, Nat.reduceAdd, Nat.reduceLT, Nat.reduceSub, true_and, Nat.zero_lt_succ, List.length_map, decide_eq_true_eq, V_d0, V_d1, W_mkF, V_pow9, V_pow18, lineLen, Nat.reduceLeDiff, if_true, if_false, W_pure, V_ix0, V_ix1, V_ix2, V_ixL0, V_ixL1]
          exact Fz.dat
        · obtain ⟨g, rfl⟩ : ∃ g, f = g + 1 := ⟨f - 1, by omega⟩
          refine Ret.body (n := 6) (a := m__law_way (c__law_way g)) ?_
          unfold m__law_way
          rw [WS_seq, WS_nm]
          try simp only [W_kcmp, W_mcmp, W_ix, W_dix, W_var, W_C, W_Str, W_Int, W_Dsp, W_bin, W_ktr, W_knt, W_mnt, W_mand, W_mor, W_mif, W_kchn, W_neg, W_inst, W_it, W_rng, W_zip, W_tup, W_lst, W_rev, W_pt0, W_pt1, W_sl, W_lset, W_cnt, W_lzip, W_app, W_ext, W_ins, W_get2, W_kg2, W_kg1, W_B1, W_B2, W_cal, W_cons, W_nil, V_gt, V_lt, V_le, V_ge, V_mod, V_fdiv, V_add, V_sub, V_mul, V_pow, V_int, V_lenL, V_lenT, List.map_cons, List.map_nil, List.cons_append, List.nil_append, List.length_cons, List.length_nil, List.replicate, List.getElem?_cons_zero, List.getElem?_cons_succ, Option.some.injEq, exists_eq_left', List.set_cons_zero, List.set_cons_succ, Nat.reduceAdd, Nat.reduceLT, Nat.reduceSub, true_and, Nat.zero_lt_succ, List.length_map]
          rw [V_ix0]
          try simp only [W_kcmp, W_mcmp, W_ix, W_dix, W_var, W_C, W_Str, W_Int, W_Dsp, W_bin, W_ktr, W_knt, W_mnt, W_mand, W_mor, W_mif, W_kchn, W_neg, W_inst, W_it, W_rng, W_zip, W_tup, W_lst, W_rev, W_pt0, W_pt1, W_sl, W_lset, W_cnt, W_lzip, W_app, W_ext, W_ins, W_get2, W_kg2, W_kg1, W_B1, W_B2, W_cal, W_cons, W_nil, V_gt, V_lt, V_le, V_ge, V_mod, V_fdiv, V_add, V_sub, V_mul, V_pow, V_int, V_lenL, V_lenT, List.map_cons, List.map_nil, List.cons_append, List.nil_append, List.length_cons, List.length_nil, List.replicate, List.getElem?_cons_zero, List.getElem?_cons_succ, Option.some.injEq, exists_eq_left', List.set_cons_zero, List.set_cons_succ, Nat.reduceAdd, Nat.reduceLT, Nat.reduceSub, true_and, Nat.zero_lt_succ, List.length_map]
          rw [WS_seq]
          refine WS_yes (Wb_inT (vs := [Str.ofString "never", Str.ofString "stay", Str.ofString "not", Str.ofString "any"]) (K_var rfl) (by try simp only [WS_seq, WS_if, WS_nm, WS_tp, WS_ret, WS_exp, WS_put, WS_nx, W_kcmp, W_mcmp, W_ix, W_dix, W_var, W_C, W_Str, W_Int, W_Dsp, W_bin, W_ktr, W_knt, W_kand, W_kor, W_mnt, W_mand, W_mor, W_mif, W_kchn, W_neg, W_inst, W_it, W_rng, W_zip, W_tup, W_lst, W_rev, W_pt0, W_pt1, W_sl, W_lset, W_cnt, W_lzip, W_app, W_ext, W_ins, W_get2, W_kg2, W_kg1, W_B1, W_B2, W_cal, W_cons, W_nil, V_gt, V_lt, V_le, V_ge, V_mod, V_fdiv, V_add, V_sub, V_mul, V_int, V_lenL, V_lenT, List.map_cons, List.map_nil, List.cons_append, List.nil_append, List.length_cons, List.length_nil, List.replicate, List.getElem?_cons_zero, List.getElem?_cons_succ, Option.some.injEq, exists_eq_left', List.set_cons_zero, List.set_cons_succ, Nat.reduceAdd, Nat.reduceLT, Nat.reduceSub, true_and, Nat.zero_lt_succ, List.length_map, decide_eq_true_eq, V_d0, V_d1, W_mkF, V_pow9, V_pow18, lineLen, Nat.reduceLeDiff, if_true, if_false, W_pure, V_ix0, V_ix1, V_ix2, V_ixL0, V_ixL1]) (by decide +kernel) (List.all_eq_true.mp (by decide +kernel))) (by decide +kernel) ?_
          try simp only [WS_seq, WS_if, WS_nm, WS_tp, WS_ret, WS_exp, WS_put, WS_nx, W_kcmp, W_mcmp, W_ix, W_dix, W_var, W_C, W_Str, W_Int, W_Dsp, W_bin, W_ktr, W_knt, W_kand, W_kor, W_mnt, W_mand, W_mor, W_mif, W_kchn, W_neg, W_inst, W_it, W_rng, W_zip, W_tup, W_lst, W_rev, W_pt0, W_pt1, W_sl, W_lset, W_cnt, W_lzip, W_app, W_ext, W_ins, W_get2, W_kg2, W_kg1, W_B1, W_B2, W_cal, W_cons, W_nil, V_gt, V_lt, V_le, V_ge, V_mod, V_fdiv, V_add, V_sub, V_mul, V_int, V_lenL, V_lenT, List.map_cons, List.map_nil, List.cons_append, List.nil_append, List.length_cons, List.length_nil, List.replicate, List.getElem?_cons_zero, List.getElem?_cons_succ, Option.some.injEq, exists_eq_left', List.set_cons_zero, List.set_cons_succ, Nat.reduceAdd, Nat.reduceLT, Nat.reduceSub, true_and, Nat.zero_lt_succ, List.length_map, decide_eq_true_eq, V_d0, V_d1, W_mkF, V_pow9, V_pow18, lineLen, Nat.reduceLeDiff, if_true, if_false, W_pure, V_ix0, V_ix1, V_ix2, V_ixL0, V_ixL1]
          refine V_dct.mpr (V_get ?_)
          rw [show ([(D.str (Str.ofString "never"), D.str (Str.ofString "falls")), (D.str (Str.ofString "any"), D.str (Str.ofString "rises"))] : List (D × D)) = ([(Str.ofString "never", Str.ofString "falls"), (Str.ofString "any", Str.ofString "rises")] : List (Str × Str)).map (fun p => (D.str p.1, D.str p.2)) from rfl, dget_strs, show sget _ _ = none from by decide +kernel]
          exact Fz.dat
      · have hw' : w ∈ [Str.ofString "try", Str.ofString "again", Str.ofString "one", Str.ofString "all", Str.ofString "down", Str.ofString "up", Str.ofString "find", Str.ofString "dig"] := by
          simp only [ws1, List.mem_cons, List.not_mem_nil, or_false] at hw ⊢
          rcases hw with h | h | h | h | h | h | h | h | h <;> simp_all
        have key : ∀ w ∈ [Str.ofString "try", Str.ofString "again", Str.ofString "one", Str.ofString "all", Str.ofString "down", Str.ofString "up", Str.ofString "find", Str.ofString "dig"], (∀ v ∈ ways3, progF w [v] = lawF w [v] ∧ progF w [v] ∈ ways3) ∧ w ≠ Str.ofString "never" ∧ w ≠ Str.ofString "use" ∧ w ≠ Str.ofString "stay" ∧ w ≠ Str.ofString "not" ∧ w ∉ [Str.ofString "never", Str.ofString "stay", Str.ofString "not", Str.ofString "any"] := by decide +kernel
        obtain ⟨k1, k2, k3, k4, k5, k6⟩ := key w hw'
        obtain ⟨k7, k8⟩ := k1 v hv
        have one : ∀ (P : D → Str → Prop), P e v → ∀ (i : Nat) (x : D) (y : Str), [e][i]? = some x → [v][i]? = some y → P x y := fun P hP i x y hx hy => by
          cases i with
          | zero => simp at hx hy; rw [← hx, ← hy]; exact hP
          | succ i => simp at hx
        have mem : ∀ y ∈ [v], y ∈ ways3 := fun y hy => by simp at hy; rw [hy]; exact hv
        refine ⟨progF w [v], k8, fun f hf => ?_, fun f hf => ?_⟩
        · obtain ⟨g, rfl⟩ : ∃ g, f = g + 1 := ⟨f - 1, by omega⟩
          exact prog_way (es := [e]) (okw1 w hw) (many1 w hw) k2 k3 k4 k5 rfl (by show 1 ≤ 1; decide) (by show 1 ≤ 2; decide) mem (one _ (h1 g (by omega)))
        · obtain ⟨g, rfl⟩ : ∃ g, f = g + 1 := ⟨f - 1, by omega⟩
          rw [k7]
          exact law_way (es := [e]) (okw1 w hw) k6 k3 rfl (by show 1 ≤ 1; decide) (by show 1 ≤ 2; decide) mem (one _ (h2 g (by omega)))
    · obtain ⟨v, hv, h1, h2⟩ := ih a ha
      obtain ⟨u, hu, h3, h4⟩ := ih b hb
      have key : ∀ w ∈ ws2, (∀ v ∈ ways3, ∀ u ∈ ways3, progF w [v, u] = lawF w [v, u] ∧ progF w [v, u] ∈ ways3) ∧ w ≠ Str.ofString "never" ∧ w ≠ Str.ofString "use" ∧ w ≠ Str.ofString "stay" ∧ w ≠ Str.ofString "not" ∧ w ∉ [Str.ofString "never", Str.ofString "stay", Str.ofString "not", Str.ofString "any"] := by decide +kernel
      obtain ⟨k1, k2, k3, k4, k5, k6⟩ := key w hw
      obtain ⟨k7, k8⟩ := k1 v hv u hu
      have two : ∀ (P : D → Str → Prop), P a v → P b u → ∀ (i : Nat) (x : D) (y : Str), [a, b][i]? = some x → [v, u][i]? = some y → P x y := fun P hP hQ i x y hx hy => by
        match i with
        | 0 => simp at hx hy; rw [← hx, ← hy]; exact hP
        | 1 => simp at hx hy; rw [← hx, ← hy]; exact hQ
        | i + 2 => simp at hx
      have mem : ∀ y ∈ [v, u], y ∈ ways3 := fun y hy => by
        simp at hy
        rcases hy with rfl | rfl
        · exact hv
        · exact hu
      refine ⟨progF w [v, u], k8, fun f hf => ?_, fun f hf => ?_⟩
      · obtain ⟨g, rfl⟩ : ∃ g, f = g + 1 := ⟨f - 1, by omega⟩
        exact prog_way (es := [a, b]) (okw2 w hw) (many2 w hw) k2 k3 k4 k5 rfl (by show 1 ≤ 2; decide) (by show 2 ≤ 2; decide) mem (two _ (h1 g (by omega)) (h3 g (by omega)))
      · obtain ⟨g, rfl⟩ : ∃ g, f = g + 1 := ⟨f - 1, by omega⟩
        rw [k7]
        exact law_way (es := [a, b]) (okw2 w hw) k6 k3 rfl (by show 1 ≤ 2; decide) (by show 2 ≤ 2; decide) mem (two _ (h2 g (by omega)) (h4 g (by omega)))
end My
set_option maxRecDepth 100000
set_option maxHeartbeats 8000000
namespace My
open Ev PySem

/-! whether a thing is marks -/
def okW : D → Bool
  | .int i => decide (1 ≤ i) && decide (i ≤ 1000000000)
  | _ => false
def okEl (n : Str) : D → Bool
  | .tup [a, b] => deq a (.str n) && okW b
  | _ => false
def isMk (sg : List (Str × Nat)) : D → Bool
  | .tup xs => decide (xs.length = sg.length) && (sg.zip xs).all fun q => okEl q.1.1 q.2
  | _ => false
def isI : D → Bool
  | .int _ => true
  | _ => false
theorem whole_ok (b : D) : Ret c_is_whole [b] (.bl (isI b)) := by
  cases b <;> first | exact W.of (s' := []) rfl Fz.dat | (rename_i x; cases x <;> exact W.of (s' := []) rfl Fz.dat)
theorem K_len {m : Ev.Env → M Val} {ρ : Ev.Env} {s : Store} {xs : List D} (h : W (m ρ) s fun v s' => v = .d (.tup xs) ∧ s' = s) : W (mB1 lenV m ρ) s fun v s' => v = .d (.int (xs.length : Nat)) ∧ s' = s := by
  rw [W_B1]
  refine h.mono ?_
  rintro _ _ ⟨rfl, rfl⟩
  rw [V_lenT]
  exact ⟨rfl, rfl⟩
theorem zip_all_false {sg : List (Str × Nat)} {xs : List D} {i : Nat} {p : Str × Nat} {x : D} (hp : sg[i]? = some p) (hx : xs[i]? = some x) (h : okEl p.1 x = false) : ((sg.zip xs).all fun q => okEl q.1.1 q.2) = false := by
  rw [Bool.eq_false_iff]
  intro z
  have m : (p, x) ∈ sg.zip xs := List.mem_iff_getElem?.mpr ⟨i, by rw [List.getElem?_zip_eq_some]; exact ⟨hp, hx⟩⟩
  have := List.all_eq_true.mp z _ m
  rw [h] at this
  exact Bool.false_ne_true this
theorem zip_all_true {sg : List (Str × Nat)} {xs : List D} {n : Nat} (hn : sg.length = n) (h : ∀ j p x, j < n → sg[j]? = some p → xs[j]? = some x → okEl p.1 x = true) : ((sg.zip xs).all fun q => okEl q.1.1 q.2) = true := by
  rw [List.all_eq_true]
  rintro ⟨p, x⟩ hq
  obtain ⟨j, hj⟩ := List.mem_iff_getElem?.mp hq
  rw [List.getElem?_zip_eq_some] at hj
  exact h j p x (by rw [← hn]; exact (List.getElem?_eq_some_iff.mp hj.1).1) hj.1 hj.2
theorem atoms_rep : ∀ a ∈ atoms, reprOk a = true := List.all_eq_true.mp (by decide +kernel)
theorem atoms_fit : ∀ a ∈ atoms, a.fit = true := List.all_eq_true.mp (by decide +kernel)
theorem atoms_shown : ∀ a ∈ atoms, (D.str a.py.shown).fit = true := List.all_eq_true.mp (by decide +kernel)
theorem atoms_eq : ∀ a ∈ atoms, ∀ n ∈ nms, deq (.str a.py.shown) (.str (D.str n).py.shown) = deq a (.str n) := by
  have h : (atoms.all fun a => nms.all fun n => deq (.str a.py.shown) (.str (D.str n).py.shown) == deq a (.str n)) = true := by decide +kernel
  intro a ha n hn
  have h1 := List.all_eq_true.mp h a ha
  have h2 := List.all_eq_true.mp h1 n hn
  exact eq_of_beq h2
/-- the first half of an entry -/
def okHd (n : Str) : D → Bool
  | .tup [a, _] => deq a (.str n)
  | _ => false
def okTl : D → Bool
  | .tup [_, b] => okW b
  | _ => false
theorem okEl_eq (n : Str) (x : D) : okEl n x = (okHd n x && okTl x) := by
  unfold okEl okHd okTl
  cases x with
  | tup ys =>
    match ys with
    | [] => rfl
    | [a] => rfl
    | [a, b] => rfl
    | a :: b :: c :: r => rfl
  | _ => rfl
theorem K_inst {t : Ty} {m : Ev.Env → M Val} {x : D} {ρ : Ev.Env} {s : Store} (h : W (m ρ) s fun v s' => v = .d x ∧ s' = s) : W (mInst t m ρ) s fun v s' => v = .d (.bl (tyB t x)) ∧ s' = s := by
  rw [W_inst]
  refine h.mono ?_
  rintro _ _ ⟨rfl, rfl⟩
  rw [isTy_d]
  exact ⟨rfl, rfl⟩
theorem V_zipT {a b : List D} {s : Store} {Q : List (D × D) → Store → Prop} : W (zipV (.d (.tup a)) (.d (.tup b))) s Q ↔ Q (pairUp a b) s := Iff.rfl
theorem Wb_chn {o o' : Cm} {m n l : Ev.Env → M Val} {ρ : Ev.Env} {s : Store} {x y z : Val} {p q : Bool} (hm : W (m ρ) s fun v s' => v = x ∧ s' = s) (hn : W (n ρ) s fun v s' => v = y ∧ s' = s) (hl : W (l ρ) s fun v s' => v = z ∧ s' = s) (h1 : W (cmpV o x y) s fun b s' => b = p ∧ s' = s) (h2 : W (cmpV o' y z) s fun b s' => b = q ∧ s' = s) : Wb (kChn o o' m n l) ρ s (p && q) := by
  unfold Wb
  rw [W_kchn]
  refine hm.mono ?_
  rintro _ _ ⟨rfl, rfl⟩
  refine hn.mono ?_
  rintro _ _ ⟨rfl, rfl⟩
  refine h1.mono ?_
  rintro b _ ⟨rfl, rfl⟩
  cases b with
  | false => exact ⟨rfl, rfl⟩
  | true =>
    rw [if_pos rfl]
    refine hl.mono ?_
    rintro _ _ ⟨rfl, rfl⟩
    exact h2
theorem hd_prog {ρ : Ev.Env} {n : Str} {x : D} (hn : n ∈ nms) (hx : ElOk x) (h2 : ρ[2]? = some (some (.d x))) (h3 : ρ[3]? = some (some (.d (.str n)))) :
    Wb (kOr (kNt (kTr (mInst .tuple (mVar 2)))) (kOr (kCmp .ne (mB1 lenV (mVar 2)) (mC (.int 2))) (kOr (kNt (kTr (mInst .str (mIx (mVar 2) (mC (.int 0)))))) (kCmp .ne (mIx (mVar 2) (mC (.int 0))) (mVar 3))))) ρ [] (!okHd n x) := by
  have no : ∀ z, tyB .tuple z = false → ρ[2]? = some (some (.d z)) → Wb (kOr (kNt (kTr (mInst .tuple (mVar 2)))) (kOr (kCmp .ne (mB1 lenV (mVar 2)) (mC (.int 2))) (kOr (kNt (kTr (mInst .str (mIx (mVar 2) (mC (.int 0)))))) (kCmp .ne (mIx (mVar 2) (mC (.int 0))) (mVar 3))))) ρ [] true := fun z hz h2 =>
    Wb_of (Wb_or (q := true) (Wb_nt (Wb_inst (K_var h2))) fun e => by rw [hz] at e; cases e) (by rw [hz]; rfl)
  have bad : ∀ ys : List D, ys.length ≠ 2 → ρ[2]? = some (some (.d (.tup ys))) → Wb (kOr (kNt (kTr (mInst .tuple (mVar 2)))) (kOr (kCmp .ne (mB1 lenV (mVar 2)) (mC (.int 2))) (kOr (kNt (kTr (mInst .str (mIx (mVar 2) (mC (.int 0)))))) (kCmp .ne (mIx (mVar 2) (mC (.int 0))) (mVar 3))))) ρ [] true := fun ys hy h2 => by
    have e : (!deq (.int (ys.length : Nat)) (.int 2)) = true := by
      rw [deq_int]
      simp
      omega
    exact Wb_of (Wb_or (Wb_nt (Wb_inst (K_var h2))) fun _ => Wb_or (q := true) (Wb_neD (K_len (K_var h2)) K_C fit_int fit_int) fun z => by rw [e] at z; cases z) (by rw [e]; rfl)
  rcases hx with ⟨ys, rfl, hl, ha⟩ | ⟨y, hy, rfl⟩ | ⟨ys, rfl, hl, ha⟩
  · match ys, hl, ha with
    | [], _, _ => exact bad [] (by decide) h2
    | [a], _, _ => exact bad [a] (by show 1 ≠ 2; decide) h2
    | [a, b], _, ha =>
      have aa := ha a (List.mem_cons_self ..)
      refine Wb_of (Wb_or (Wb_nt (Wb_inst (K_var h2))) fun _ => Wb_or (Wb_neD (K_len (K_var h2)) K_C fit_int fit_int) fun _ => Wb_or (Wb_nt (Wb_inst (K_ix (K_var h2) K_C at_0))) fun _ => Wb_neD (K_ix (K_var h2) K_C at_0) (K_var h3) (atoms_fit a aa) (fit_str (nms_strOk hn))) ?_
      show (!true || (!true || (!tyB .str a || !deq a (.str n)))) = !deq a (.str n)
      cases a <;> rfl
    | [a, b, c], _, _ => exact bad [a, b, c] (by show 3 ≠ 2; decide) h2
    | _ :: _ :: _ :: _ :: _, h, _ => exact absurd h (by simp)
  · exact no _ rfl h2
  · exact no _ rfl h2
theorem tl_prog {ρ : Ev.Env} {a b : D} (h2 : ρ[2]? = some (some (.d (.tup [a, b])))) :
    Wb (kOr (kNt (kTr (mCal false (c_is_whole) (mCons (mIx (mVar 2) (mC (.int 1))) (mNil))))) (kNt (kChn .le .le (mC (.int 1)) (mIx (mVar 2) (mC (.int 1))) (mInt 1000000000)))) ρ [] (!okW b) := by
  have kb : W (mIx (mVar 2) (mC (.int 1)) ρ) [] fun v s' => v = .d b ∧ s' = [] := K_ix (K_var h2) K_C at_1
  have k1 : Wb (kTr (mCal false (c_is_whole) (mCons (mIx (mVar 2) (mC (.int 1))) (mNil)))) ρ [] (isI b) := by
    refine Wb_tr ?_
    rw [W_cal, W_cons]
    refine kb.mono ?_
    rintro _ _ ⟨rfl, rfl⟩
    rw [W_nil]
    exact Ret.call (ds := [b]) (whole_ok b) ⟨rfl, rfl⟩
  by_cases hb : isI b = true
  · cases b with
    | int i => exact Wb_of (Wb_or (Wb_nt k1) fun _ => Wb_nt (Wb_chn K_C kb ⟨rfl, rfl⟩ ⟨rfl, rfl⟩ ⟨rfl, rfl⟩)) rfl
    | _ => cases hb
  · have e : isI b = false := by simpa using hb
    refine Wb_of (Wb_or (q := true) (Wb_nt k1) fun z => by rw [e] at z; cases z) ?_
    rw [e]
    cases b <;> first | rfl | cases e
theorem prog_marks {sg : List (Str × Nat)} (hsg : SgOk sg) {d : D} (hd : ThOk d) : Ret c_is_marks [sgD sg, d] (.bl (isMk sg d)) := by
  refine Ret.body (n := 5) (a := m_is_marks) ?_
  have lo := hsg.lo
  have hi := hsg.hi
  unfold m_is_marks
  rw [WS_seq]
  rcases hd with rfl | rfl | ⟨xs, rfl | rfl, hl, hx⟩
  · refine WS_yes (Wb_or (q := true) (Wb_nt (Wb_inst (K_var rfl))) fun z => nomatch (show true = false from z)) rfl ?_
    try simp only [WS_seq, WS_if, WS_nm, WS_tp, WS_ret, WS_exp, WS_put, WS_nx, W_kcmp, W_mcmp, W_ix, W_dix, W_var, W_C, W_Str, W_Int, W_Dsp, W_bin, W_ktr, W_knt, W_kand, W_kor, W_mnt, W_mand, W_mor, W_mif, W_kchn, W_neg, W_inst, W_it, W_rng, W_zip, W_tup, W_lst, W_rev, W_pt0, W_pt1, W_sl, W_lset, W_cnt, W_lzip, W_app, W_ext, W_ins, W_get2, W_kg2, W_kg1, W_B1, W_B2, W_cal, W_cons, W_nil, V_gt, V_lt, V_le, V_ge, V_mod, V_fdiv, V_add, V_sub, V_mul, V_int, V_lenL, V_lenT, List.map_cons, List.map_nil, List.cons_append, List.nil_append, List.length_cons, List.length_nil, List.replicate, List.getElem?_cons_zero, List.getElem?_cons_succ, Option.some.injEq, exists_eq_left', List.set_cons_zero, List.set_cons_succ, Nat.reduceAdd, Nat.reduceLT, Nat.reduceSub, true_and, Nat.zero_lt_succ, List.length_map, decide_eq_true_eq, V_d0, V_d1, W_mkF, V_pow9, V_pow18, lineLen, Nat.reduceLeDiff, if_true, if_false, W_pure, V_ix0, V_ix1, V_ix2, V_ixL0, V_ixL1]
    exact Fz.dat
  · refine WS_yes (Wb_or (q := true) (Wb_nt (Wb_inst (K_var rfl))) fun z => nomatch (show true = false from z)) rfl ?_
    try simp only [WS_seq, WS_if, WS_nm, WS_tp, WS_ret, WS_exp, WS_put, WS_nx, W_kcmp, W_mcmp, W_ix, W_dix, W_var, W_C, W_Str, W_Int, W_Dsp, W_bin, W_ktr, W_knt, W_kand, W_kor, W_mnt, W_mand, W_mor, W_mif, W_kchn, W_neg, W_inst, W_it, W_rng, W_zip, W_tup, W_lst, W_rev, W_pt0, W_pt1, W_sl, W_lset, W_cnt, W_lzip, W_app, W_ext, W_ins, W_get2, W_kg2, W_kg1, W_B1, W_B2, W_cal, W_cons, W_nil, V_gt, V_lt, V_le, V_ge, V_mod, V_fdiv, V_add, V_sub, V_mul, V_int, V_lenL, V_lenT, List.map_cons, List.map_nil, List.cons_append, List.nil_append, List.length_cons, List.length_nil, List.replicate, List.getElem?_cons_zero, List.getElem?_cons_succ, Option.some.injEq, exists_eq_left', List.set_cons_zero, List.set_cons_succ, Nat.reduceAdd, Nat.reduceLT, Nat.reduceSub, true_and, Nat.zero_lt_succ, List.length_map, decide_eq_true_eq, V_d0, V_d1, W_mkF, V_pow9, V_pow18, lineLen, Nat.reduceLeDiff, if_true, if_false, W_pure, V_ix0, V_ix1, V_ix2, V_ixL0, V_ixL1]
    exact Fz.dat
  · refine WS_ifb (Wb_or (Wb_nt (Wb_inst (K_var rfl))) fun _ => Wb_neD (K_len (K_var rfl)) (K_len (xs := sg.map sgI) (K_var rfl)) fit_int fit_int) (fun ht => ?_) (fun hf => ?_)
    · rw [deq_int] at ht
      have e : isMk sg (.tup xs) = false := by
        have h1 : ¬ (xs.length : Int) = sg.length := by simpa [tyB] using ht
        have h2 : ¬ xs.length = sg.length := by omega
        show (decide (xs.length = sg.length) && _) = false
        rw [decide_eq_false h2]
        rfl
      rw [e]
      try simp only [WS_seq, WS_if, WS_nm, WS_tp, WS_ret, WS_exp, WS_put, WS_nx, W_kcmp, W_mcmp, W_ix, W_dix, W_var, W_C, W_Str, W_Int, W_Dsp, W_bin, W_ktr, W_knt, W_kand, W_kor, W_mnt, W_mand, W_mor, W_mif, W_kchn, W_neg, W_inst, W_it, W_rng, W_zip, W_tup, W_lst, W_rev, W_pt0, W_pt1, W_sl, W_lset, W_cnt, W_lzip, W_app, W_ext, W_ins, W_get2, W_kg2, W_kg1, W_B1, W_B2, W_cal, W_cons, W_nil, V_gt, V_lt, V_le, V_ge, V_mod, V_fdiv, V_add, V_sub, V_mul, V_int, V_lenL, V_lenT, List.map_cons, List.map_nil, List.cons_append, List.nil_append, List.length_cons, List.length_nil, List.replicate, List.getElem?_cons_zero, List.getElem?_cons_succ, Option.some.injEq, exists_eq_left', List.set_cons_zero, List.set_cons_succ, Nat.reduceAdd, Nat.reduceLT, Nat.reduceSub, true_and, Nat.zero_lt_succ, List.length_map, decide_eq_true_eq, V_d0, V_d1, W_mkF, V_pow9, V_pow18, lineLen, Nat.reduceLeDiff, if_true, if_false, W_pure, V_ix0, V_ix1, V_ix2, V_ixL0, V_ixL1]
      exact Fz.dat
    · rw [deq_int] at hf
      have ll' : (xs.length : Int) = sg.length := by simpa [tyB] using hf
      have ll : xs.length = sg.length := by omega
      have mk_f : ∀ {i : Nat} {p : Str × Nat} {x : D}, sg[i]? = some p → xs[i]? = some x → okEl p.1 x = false → isMk sg (.tup xs) = false := fun h1 h2 h3 => by
        show (decide (xs.length = sg.length) && _) = false
        rw [zip_all_false h1 h2 h3, Bool.and_false]
      rw [WS_nx]
      try simp only [W_kcmp, W_mcmp, W_ix, W_dix, W_var, W_C, W_Str, W_Int, W_Dsp, W_bin, W_ktr, W_knt, W_mnt, W_mand, W_mor, W_mif, W_kchn, W_neg, W_inst, W_it, W_rng, W_zip, W_tup, W_lst, W_rev, W_pt0, W_pt1, W_sl, W_lset, W_cnt, W_lzip, W_app, W_ext, W_ins, W_get2, W_kg2, W_kg1, W_B1, W_B2, W_cal, W_cons, W_nil, V_gt, V_lt, V_le, V_ge, V_mod, V_fdiv, V_add, V_sub, V_mul, V_pow, V_int, V_lenL, V_lenT, List.map_cons, List.map_nil, List.cons_append, List.nil_append, List.length_cons, List.length_nil, List.replicate, List.getElem?_cons_zero, List.getElem?_cons_succ, Option.some.injEq, exists_eq_left', List.set_cons_zero, List.set_cons_succ, Nat.reduceAdd, Nat.reduceLT, Nat.reduceSub, true_and, Nat.zero_lt_succ, List.length_map]
      rw [WS_seq]
      refine WS_for ?_
      rw [W_zip, W_var]
      refine ⟨_, rfl, ?_⟩
      rw [W_var]
      refine ⟨_, rfl, ?_⟩
      rw [sgD_eq, V_zipT]
      refine ⟨fun i ρ s => s = [] ∧ (∃ o2 o3 o4, ρ = [some (.d (.tup (sg.map sgI))), some (.d (.tup xs)), o2, o3, o4]) ∧ ∀ j p x, j < i → sg[j]? = some p → xs[j]? = some x → okEl p.1 x = true, ⟨rfl, ⟨_, _, _, rfl⟩, fun j p x h => absurd h (Nat.not_lt_zero _)⟩, ?_, ?_⟩
      · rintro i v ρ s hv ⟨rfl, ⟨o2, o3, o4, rfl⟩, hall⟩
        rw [List.getElem?_map] at hv
        cases ez : (pairUp (sg.map sgI) xs)[i]? with
        | none => rw [ez] at hv; cases hv
        | some z =>
          rw [ez] at hv
          cases hv
          obtain ⟨y, x, ey, ex, rfl⟩ := pairUp_get ez
          rw [List.getElem?_map] at ey
          cases ep : sg[i]? with
          | none => rw [ep] at ey; cases ey
          | some p =>
            rw [ep] at ey
            cases ey
            have hn := hsg.nm p (List.mem_of_getElem? ep)
            have xel := hx x (List.mem_of_getElem? ex)
            refine ⟨_, rfl, ?_⟩
            rw [WS_seq]
            refine WS_ifb (hd_prog hn xel rfl rfl) (fun ht => ?_) (fun hf => ?_)
            · have e : okEl p.1 x = false := by
                rw [okEl_eq]
                have : okHd p.1 x = false := by simpa using ht
                rw [this]; rfl
              rw [mk_f ep ex e]
              try simp only [WS_seq, WS_if, WS_nm, WS_tp, WS_ret, WS_exp, WS_put, WS_nx, W_kcmp, W_mcmp, W_ix, W_dix, W_var, W_C, W_Str, W_Int, W_Dsp, W_bin, W_ktr, W_knt, W_kand, W_kor, W_mnt, W_mand, W_mor, W_mif, W_kchn, W_neg, W_inst, W_it, W_rng, W_zip, W_tup, W_lst, W_rev, W_pt0, W_pt1, W_sl, W_lset, W_cnt, W_lzip, W_app, W_ext, W_ins, W_get2, W_kg2, W_kg1, W_B1, W_B2, W_cal, W_cons, W_nil, V_gt, V_lt, V_le, V_ge, V_mod, V_fdiv, V_add, V_sub, V_mul, V_int, V_lenL, V_lenT, List.map_cons, List.map_nil, List.cons_append, List.nil_append, List.length_cons, List.length_nil, List.replicate, List.getElem?_cons_zero, List.getElem?_cons_succ, Option.some.injEq, exists_eq_left', List.set_cons_zero, List.set_cons_succ, Nat.reduceAdd, Nat.reduceLT, Nat.reduceSub, true_and, Nat.zero_lt_succ, List.length_map, decide_eq_true_eq, V_d0, V_d1, W_mkF, V_pow9, V_pow18, lineLen, Nat.reduceLeDiff, if_true, if_false, W_pure, V_ix0, V_ix1, V_ix2, V_ixL0, V_ixL1]
              exact Fz.dat
            · have hh : okHd p.1 x = true := by simpa using hf
              obtain ⟨a, b, rfl⟩ : ∃ a b, x = .tup [a, b] := by
                unfold okHd at hh
                split at hh
                · exact ⟨_, _, rfl⟩
                · cases hh
              rw [WS_nx]
              simp only
              rw [WS_seq]
              refine WS_ifb (tl_prog rfl) (fun ht => ?_) (fun hf => ?_)
              · have e : okEl p.1 (.tup [a, b]) = false := by
                  rw [okEl_eq]
                  have : okTl (.tup [a, b]) = false := by simpa [okTl] using ht
                  rw [this, Bool.and_false]
                rw [mk_f ep ex e]
                try simp only [WS_seq, WS_if, WS_nm, WS_tp, WS_ret, WS_exp, WS_put, WS_nx, W_kcmp, W_mcmp, W_ix, W_dix, W_var, W_C, W_Str, W_Int, W_Dsp, W_bin, W_ktr, W_knt, W_kand, W_kor, W_mnt, W_mand, W_mor, W_mif, W_kchn, W_neg, W_inst, W_it, W_rng, W_zip, W_tup, W_lst, W_rev, W_pt0, W_pt1, W_sl, W_lset, W_cnt, W_lzip, W_app, W_ext, W_ins, W_get2, W_kg2, W_kg1, W_B1, W_B2, W_cal, W_cons, W_nil, V_gt, V_lt, V_le, V_ge, V_mod, V_fdiv, V_add, V_sub, V_mul, V_int, V_lenL, V_lenT, List.map_cons, List.map_nil, List.cons_append, List.nil_append, List.length_cons, List.length_nil, List.replicate, List.getElem?_cons_zero, List.getElem?_cons_succ, Option.some.injEq, exists_eq_left', List.set_cons_zero, List.set_cons_succ, Nat.reduceAdd, Nat.reduceLT, Nat.reduceSub, true_and, Nat.zero_lt_succ, List.length_map, decide_eq_true_eq, V_d0, V_d1, W_mkF, V_pow9, V_pow18, lineLen, Nat.reduceLeDiff, if_true, if_false, W_pure, V_ix0, V_ix1, V_ix2, V_ixL0, V_ixL1]
                exact Fz.dat
              · have e : okEl p.1 (.tup [a, b]) = true := by
                  rw [okEl_eq, hh]
                  show okW b = true
                  simpa using hf
                rw [WS_nx]
                refine ⟨rfl, ⟨_, _, _, rfl⟩, fun j q y hj hq hy => ?_⟩
                by_cases hji : j = i
                · subst hji
                  rw [ep] at hq; rw [ex] at hy
                  cases hq; cases hy
                  exact e
                · exact hall j q y (by omega) hq hy
      · rintro ρ s ⟨rfl, ⟨o2, o3, o4, rfl⟩, hall⟩
        have ln : (List.map (fun p : D × D => Val.exn 0 [p.fst, p.snd]) (pairUp (sg.map sgI) xs)).length = sg.length := by
          rw [List.length_map]
          have : ∀ (as bs : List D), as.length = bs.length → (pairUp as bs).length = as.length := by
            intro as
            induction as with
            | nil => intro bs _; cases bs <;> rfl
            | cons a as ih =>
              intro bs h
              cases bs with
              | nil => cases h
              | cons b bs => show (pairUp as bs).length + 1 = as.length + 1; rw [ih bs (by simpa using h)]
          rw [this _ _ (by rw [List.length_map, ll]), List.length_map]
        rw [ln] at hall
        have e : isMk sg (.tup xs) = true := by
          show (decide (xs.length = sg.length) && _) = true
          rw [zip_all_true rfl hall, decide_eq_true ll]
          rfl
        rw [e]
        try simp only [WS_seq, WS_if, WS_nm, WS_tp, WS_ret, WS_exp, WS_put, WS_nx, W_kcmp, W_mcmp, W_ix, W_dix, W_var, W_C, W_Str, W_Int, W_Dsp, W_bin, W_ktr, W_knt, W_kand, W_kor, W_mnt, W_mand, W_mor, W_mif, W_kchn, W_neg, W_inst, W_it, W_rng, W_zip, W_tup, W_lst, W_rev, W_pt0, W_pt1, W_sl, W_lset, W_cnt, W_lzip, W_app, W_ext, W_ins, W_get2, W_kg2, W_kg1, W_B1, W_B2, W_cal, W_cons, W_nil, V_gt, V_lt, V_le, V_ge, V_mod, V_fdiv, V_add, V_sub, V_mul, V_int, V_lenL, V_lenT, List.map_cons, List.map_nil, List.cons_append, List.nil_append, List.length_cons, List.length_nil, List.replicate, List.getElem?_cons_zero, List.getElem?_cons_succ, Option.some.injEq, exists_eq_left', List.set_cons_zero, List.set_cons_succ, Nat.reduceAdd, Nat.reduceLT, Nat.reduceSub, true_and, Nat.zero_lt_succ, List.length_map, decide_eq_true_eq, V_d0, V_d1, W_mkF, V_pow9, V_pow18, lineLen, Nat.reduceLeDiff, if_true, if_false, W_pure, V_ix0, V_ix1, V_ix2, V_ixL0, V_ixL1]
        exact Fz.dat
  · refine WS_yes (Wb_or (q := true) (Wb_nt (Wb_inst (K_var rfl))) fun z => nomatch (show true = false from z)) rfl ?_
    try simp only [WS_seq, WS_if, WS_nm, WS_tp, WS_ret, WS_exp, WS_put, WS_nx, W_kcmp, W_mcmp, W_ix, W_dix, W_var, W_C, W_Str, W_Int, W_Dsp, W_bin, W_ktr, W_knt, W_kand, W_kor, W_mnt, W_mand, W_mor, W_mif, W_kchn, W_neg, W_inst, W_it, W_rng, W_zip, W_tup, W_lst, W_rev, W_pt0, W_pt1, W_sl, W_lset, W_cnt, W_lzip, W_app, W_ext, W_ins, W_get2, W_kg2, W_kg1, W_B1, W_B2, W_cal, W_cons, W_nil, V_gt, V_lt, V_le, V_ge, V_mod, V_fdiv, V_add, V_sub, V_mul, V_int, V_lenL, V_lenT, List.map_cons, List.map_nil, List.cons_append, List.nil_append, List.length_cons, List.length_nil, List.replicate, List.getElem?_cons_zero, List.getElem?_cons_succ, Option.some.injEq, exists_eq_left', List.set_cons_zero, List.set_cons_succ, Nat.reduceAdd, Nat.reduceLT, Nat.reduceSub, true_and, Nat.zero_lt_succ, List.length_map, decide_eq_true_eq, V_d0, V_d1, W_mkF, V_pow9, V_pow18, lineLen, Nat.reduceLeDiff, if_true, if_false, W_pure, V_ix0, V_ix1, V_ix2, V_ixL0, V_ixL1]
    exact Fz.dat
end My
set_option maxRecDepth 100000
set_option maxHeartbeats 8000000
namespace My
open Ev PySem

theorem K_repr {m : Ev.Env → M Val} {ρ : Ev.Env} {s : Store} {x : D} (h : W (m ρ) s fun v s' => v = .d x ∧ s' = s) (hx : reprOk x = true) : W (mB1 (fun x => biV .repr [x]) m ρ) s fun v s' => v = .d (.str x.py.shown) ∧ s' = s := by
  rw [W_B1]
  refine h.mono ?_
  rintro _ _ ⟨rfl, rfl⟩
  exact V_repr hx ⟨rfl, rfl⟩
theorem hd_law {ρ : Ev.Env} {sg : List (Str × Nat)} {i : Nat} {p : Str × Nat} {x : D} (hp : sg[i]? = some p) (hn : p.1 ∈ nms) (hx : ElOk x) (h0 : ρ[0]? = some (some (.d (sgD sg)))) (h2 : ρ[2]? = some (some (.d (.int (i : Int))))) (h3 : ρ[3]? = some (some (.d x))) :
    Wb (kOr (kNt (kTr (mInst .tuple (mVar 3)))) (kOr (kCmp .ne (mB1 lenV (mVar 3)) (mC (.int 2))) (kCmp .ne (mB1 (fun x => biV .repr [x]) (mIx (mVar 3) (mC (.int 0)))) (mB1 (fun x => biV .repr [x]) (mIx (mIx (mVar 0) (mVar 2)) (mC (.int 0))))))) ρ [] (!okHd p.1 x) := by
  have no : ∀ z, tyB .tuple z = false → ρ[3]? = some (some (.d z)) → Wb (kOr (kNt (kTr (mInst .tuple (mVar 3)))) (kOr (kCmp .ne (mB1 lenV (mVar 3)) (mC (.int 2))) (kCmp .ne (mB1 (fun x => biV .repr [x]) (mIx (mVar 3) (mC (.int 0)))) (mB1 (fun x => biV .repr [x]) (mIx (mIx (mVar 0) (mVar 2)) (mC (.int 0))))))) ρ [] true := fun z hz h2 =>
    Wb_of (Wb_or (q := true) (Wb_nt (Wb_inst (K_var h2))) fun e => by rw [hz] at e; cases e) (by rw [hz]; rfl)
  have bad : ∀ ys : List D, ys.length ≠ 2 → ρ[3]? = some (some (.d (.tup ys))) → Wb (kOr (kNt (kTr (mInst .tuple (mVar 3)))) (kOr (kCmp .ne (mB1 lenV (mVar 3)) (mC (.int 2))) (kCmp .ne (mB1 (fun x => biV .repr [x]) (mIx (mVar 3) (mC (.int 0)))) (mB1 (fun x => biV .repr [x]) (mIx (mIx (mVar 0) (mVar 2)) (mC (.int 0))))))) ρ [] true := fun ys hy h2 => by
    have e : (!deq (.int (ys.length : Nat)) (.int 2)) = true := by
      rw [deq_int]
      simp
      omega
    exact Wb_of (Wb_or (Wb_nt (Wb_inst (K_var h2))) fun _ => Wb_or (q := true) (Wb_neD (K_len (K_var h2)) K_C fit_int fit_int) fun z => by rw [e] at z; cases z) (by rw [e]; rfl)
  rcases hx with ⟨ys, rfl, hl, ha⟩ | ⟨y, hy, rfl⟩ | ⟨ys, rfl, hl, ha⟩
  · match ys, hl, ha with
    | [], _, _ => exact bad [] (by decide) h3
    | [a], _, _ => exact bad [a] (by show 1 ≠ 2; decide) h3
    | [a, b], _, ha =>
      have aa := ha a (List.mem_cons_self ..)
      have na := nms_atoms hn
      refine Wb_of (Wb_or (Wb_nt (Wb_inst (K_var h3))) fun _ => Wb_or (Wb_neD (K_len (K_var h3)) K_C fit_int fit_int) fun _ => Wb_neD (K_repr (K_ix (K_var h3) K_C at_0) (atoms_rep a aa)) (K_repr (x := .str p.1) (K_ix (xs := [.str p.1, .int p.2]) (K_ix (xs := sg.map sgI) (K_var h0) (K_var h2) (atI_nat (by omega) (by rw [Int.toNat_natCast, List.getElem?_map, hp]; rfl))) K_C at_0) (atoms_rep _ na)) (atoms_shown a aa) (atoms_shown _ na)) ?_
      rw [atoms_eq a aa p.1 hn]
      rfl
    | [a, b, c], _, _ => exact bad [a, b, c] (by show 3 ≠ 2; decide) h3
    | _ :: _ :: _ :: _ :: _, h, _ => exact absurd h (by simp)
  · exact no _ rfl h3
  · exact no _ rfl h3
theorem tl_law {ρ : Ev.Env} {a b : D} (h3 : ρ[3]? = some (some (.d (.tup [a, b])))) :
    Wb (kOr (kTr (mInst .bool (mIx (mVar 3) (mC (.int 1))))) (kOr (kNt (kTr (mInst .int (mIx (mVar 3) (mC (.int 1)))))) (kNt (kChn .lt .lt (mC (.int 0)) (mIx (mVar 3) (mC (.int 1))) (mBin .add (mBin .pow (mC (.int 10)) (mC (.int 9))) (mC (.int 1))))))) ρ [] (!okW b) := by
  have kb : W (mIx (mVar 3) (mC (.int 1)) ρ) [] fun v s' => v = .d b ∧ s' = [] := K_ix (K_var h3) K_C at_1
  have kp : W (mBin .add (mBin .pow (mC (.int 10)) (mC (.int 9))) (mC (.int 1)) ρ) [] fun v s' => v = .d (.int 1000000001) ∧ s' = [] := by
    try simp only [WS_seq, WS_if, WS_nm, WS_tp, WS_ret, WS_exp, WS_put, WS_nx, W_kcmp, W_mcmp, W_ix, W_dix, W_var, W_C, W_Str, W_Int, W_Dsp, W_bin, W_ktr, W_knt, W_kand, W_kor, W_mnt, W_mand, W_mor, W_mif, W_kchn, W_neg, W_inst, W_it, W_rng, W_zip, W_tup, W_lst, W_rev, W_pt0, W_pt1, W_sl, W_lset, W_cnt, W_lzip, W_app, W_ext, W_ins, W_get2, W_kg2, W_kg1, W_B1, W_B2, W_cal, W_cons, W_nil, V_gt, V_lt, V_le, V_ge, V_mod, V_fdiv, V_add, V_sub, V_mul, V_int, V_lenL, V_lenT, List.map_cons, List.map_nil, List.cons_append, List.nil_append, List.length_cons, List.length_nil, List.replicate, List.getElem?_cons_zero, List.getElem?_cons_succ, Option.some.injEq, exists_eq_left', List.set_cons_zero, List.set_cons_succ, Nat.reduceAdd, Nat.reduceLT, Nat.reduceSub, true_and, Nat.zero_lt_succ, List.length_map, decide_eq_true_eq, V_d0, V_d1, W_mkF, V_pow9, V_pow18, lineLen, Nat.reduceLeDiff, if_true, if_false, W_pure, V_ix0, V_ix1, V_ix2, V_ixL0, V_ixL1]
    exact ⟨rfl, trivial⟩
  cases b with
  | int i =>
    refine Wb_of (Wb_or (Wb_inst kb) fun _ => Wb_or (Wb_nt (Wb_inst kb)) fun _ => Wb_nt (Wb_chn K_C kb kp ⟨rfl, rfl⟩ ⟨rfl, rfl⟩)) ?_
    show (false || (!true || !(decide ((0 : Int) < i) && decide (i < 1000000001)))) = !(decide ((1 : Int) ≤ i) && decide (i ≤ 1000000000))
    rw [Bool.eq_iff_iff]
    simp
    omega
  | bl c => exact Wb_of (Wb_or (q := true) (Wb_inst kb) fun z => nomatch (show true = false from z)) rfl
  | _ => exact Wb_of (Wb_or (Wb_inst kb) fun _ => Wb_or (q := true) (Wb_nt (Wb_inst kb)) fun z => nomatch (show true = false from z)) rfl
theorem law_marks {sg : List (Str × Nat)} (hsg : SgOk sg) {d : D} (hd : ThOk d) : Ret c__law_is_marks [sgD sg, d] (.bl (isMk sg d)) := by
  refine Ret.body (n := 4) (a := m__law_is_marks) ?_
  have lo := hsg.lo
  have hi := hsg.hi
  unfold m__law_is_marks
  rw [WS_seq]
  rcases hd with rfl | rfl | ⟨xs, rfl | rfl, hl, hx⟩
  · refine WS_yes (Wb_or (q := true) (Wb_nt (Wb_inst (K_var rfl))) fun z => nomatch (show true = false from z)) rfl ?_
    try simp only [WS_seq, WS_if, WS_nm, WS_tp, WS_ret, WS_exp, WS_put, WS_nx, W_kcmp, W_mcmp, W_ix, W_dix, W_var, W_C, W_Str, W_Int, W_Dsp, W_bin, W_ktr, W_knt, W_kand, W_kor, W_mnt, W_mand, W_mor, W_mif, W_kchn, W_neg, W_inst, W_it, W_rng, W_zip, W_tup, W_lst, W_rev, W_pt0, W_pt1, W_sl, W_lset, W_cnt, W_lzip, W_app, W_ext, W_ins, W_get2, W_kg2, W_kg1, W_B1, W_B2, W_cal, W_cons, W_nil, V_gt, V_lt, V_le, V_ge, V_mod, V_fdiv, V_add, V_sub, V_mul, V_int, V_lenL, V_lenT, List.map_cons, List.map_nil, List.cons_append, List.nil_append, List.length_cons, List.length_nil, List.replicate, List.getElem?_cons_zero, List.getElem?_cons_succ, Option.some.injEq, exists_eq_left', List.set_cons_zero, List.set_cons_succ, Nat.reduceAdd, Nat.reduceLT, Nat.reduceSub, true_and, Nat.zero_lt_succ, List.length_map, decide_eq_true_eq, V_d0, V_d1, W_mkF, V_pow9, V_pow18, lineLen, Nat.reduceLeDiff, if_true, if_false, W_pure, V_ix0, V_ix1, V_ix2, V_ixL0, V_ixL1]
    exact Fz.dat
  · refine WS_yes (Wb_or (q := true) (Wb_nt (Wb_inst (K_var rfl))) fun z => nomatch (show true = false from z)) rfl ?_
    try simp only [WS_seq, WS_if, WS_nm, WS_tp, WS_ret, WS_exp, WS_put, WS_nx, W_kcmp, W_mcmp, W_ix, W_dix, W_var, W_C, W_Str, W_Int, W_Dsp, W_bin, W_ktr, W_knt, W_kand, W_kor, W_mnt, W_mand, W_mor, W_mif, W_kchn, W_neg, W_inst, W_it, W_rng, W_zip, W_tup, W_lst, W_rev, W_pt0, W_pt1, W_sl, W_lset, W_cnt, W_lzip, W_app, W_ext, W_ins, W_get2, W_kg2, W_kg1, W_B1, W_B2, W_cal, W_cons, W_nil, V_gt, V_lt, V_le, V_ge, V_mod, V_fdiv, V_add, V_sub, V_mul, V_int, V_lenL, V_lenT, List.map_cons, List.map_nil, List.cons_append, List.nil_append, List.length_cons, List.length_nil, List.replicate, List.getElem?_cons_zero, List.getElem?_cons_succ, Option.some.injEq, exists_eq_left', List.set_cons_zero, List.set_cons_succ, Nat.reduceAdd, Nat.reduceLT, Nat.reduceSub, true_and, Nat.zero_lt_succ, List.length_map, decide_eq_true_eq, V_d0, V_d1, W_mkF, V_pow9, V_pow18, lineLen, Nat.reduceLeDiff, if_true, if_false, W_pure, V_ix0, V_ix1, V_ix2, V_ixL0, V_ixL1]
    exact Fz.dat
  · refine WS_ifb (Wb_or (Wb_nt (Wb_inst (K_var rfl))) fun _ => Wb_neD (K_len (K_var rfl)) (K_len (xs := sg.map sgI) (K_var rfl)) fit_int fit_int) (fun ht => ?_) (fun hf => ?_)
    · rw [deq_int] at ht
      have e : isMk sg (.tup xs) = false := by
        have h1 : ¬ (xs.length : Int) = sg.length := by simpa [tyB] using ht
        have h2 : ¬ xs.length = sg.length := by omega
        show (decide (xs.length = sg.length) && _) = false
        rw [decide_eq_false h2]
        rfl
      rw [e]
      try simp only [WS_seq, WS_if, WS_nm, WS_tp, WS_ret, WS_exp, WS_put, WS_nx, W_kcmp, W_mcmp, W_ix, W_dix, W_var, W_C, W_Str, W_Int, W_Dsp, W_bin, W_ktr, W_knt, W_kand, W_kor, W_mnt, W_mand, W_mor, W_mif, W_kchn, W_neg, W_inst, W_it, W_rng, W_zip, W_tup, W_lst, W_rev, W_pt0, W_pt1, W_sl, W_lset, W_cnt, W_lzip, W_app, W_ext, W_ins, W_get2, W_kg2, W_kg1, W_B1, W_B2, W_cal, W_cons, W_nil, V_gt, V_lt, V_le, V_ge, V_mod, V_fdiv, V_add, V_sub, V_mul, V_int, V_lenL, V_lenT, List.map_cons, List.map_nil, List.cons_append, List.nil_append, List.length_cons, List.length_nil, List.replicate, List.getElem?_cons_zero, List.getElem?_cons_succ, Option.some.injEq, exists_eq_left', List.set_cons_zero, List.set_cons_succ, Nat.reduceAdd, Nat.reduceLT, Nat.reduceSub, true_and, Nat.zero_lt_succ, List.length_map, decide_eq_true_eq, V_d0, V_d1, W_mkF, V_pow9, V_pow18, lineLen, Nat.reduceLeDiff, if_true, if_false, W_pure, V_ix0, V_ix1, V_ix2, V_ixL0, V_ixL1]
      exact Fz.dat
    · rw [deq_int] at hf
      have ll' : (xs.length : Int) = sg.length := by simpa [tyB] using hf
      have ll : xs.length = sg.length := by omega
      have mk_f : ∀ {i : Nat} {p : Str × Nat} {x : D}, sg[i]? = some p → xs[i]? = some x → okEl p.1 x = false → isMk sg (.tup xs) = false := fun h1 h2 h3 => by
        show (decide (xs.length = sg.length) && _) = false
        rw [zip_all_false h1 h2 h3, Bool.and_false]
      rw [WS_nx]
      try simp only [W_kcmp, W_mcmp, W_ix, W_dix, W_var, W_C, W_Str, W_Int, W_Dsp, W_bin, W_ktr, W_knt, W_mnt, W_mand, W_mor, W_mif, W_kchn, W_neg, W_inst, W_it, W_rng, W_zip, W_tup, W_lst, W_rev, W_pt0, W_pt1, W_sl, W_lset, W_cnt, W_lzip, W_app, W_ext, W_ins, W_get2, W_kg2, W_kg1, W_B1, W_B2, W_cal, W_cons, W_nil, V_gt, V_lt, V_le, V_ge, V_mod, V_fdiv, V_add, V_sub, V_mul, V_pow, V_int, V_lenL, V_lenT, List.map_cons, List.map_nil, List.cons_append, List.nil_append, List.length_cons, List.length_nil, List.replicate, List.getElem?_cons_zero, List.getElem?_cons_succ, Option.some.injEq, exists_eq_left', List.set_cons_zero, List.set_cons_succ, Nat.reduceAdd, Nat.reduceLT, Nat.reduceSub, true_and, Nat.zero_lt_succ, List.length_map]
      rw [WS_seq]
      refine WS_for ?_
      rw [W_rng, W_B1, W_var]
      refine ⟨_, rfl, ?_⟩
      rw [V_lenSg]
      refine W_rngN (by omega) ?_
      refine ⟨fun i ρ s => s = [] ∧ (∃ o2 o3, ρ = [some (.d (sgD sg)), some (.d (.tup xs)), o2, o3]) ∧ ∀ j p x, j < i → sg[j]? = some p → xs[j]? = some x → okEl p.1 x = true, ⟨rfl, ⟨_, _, rfl⟩, fun j p x h => absurd h (Nat.not_lt_zero _)⟩, ?_, ?_⟩
      · rintro i v ρ s hv ⟨rfl, ⟨o2, o3, rfl⟩, hall⟩
        obtain ⟨hi', rfl⟩ := up_at hv
        have ep : sg[i]? = some sg[i] := List.getElem?_eq_getElem hi'
        have ex : xs[i]? = some (xs[i]'(by omega)) := List.getElem?_eq_getElem (by omega)
        generalize sg[i] = p at ep
        generalize xs[i]'(by omega) = x at ex
        have hn := hsg.nm p (List.mem_of_getElem? ep)
        have xel := hx x (List.mem_of_getElem? ex)
        refine ⟨_, rfl, ?_⟩
        rw [WS_seq, WS_nm, W_ix, W_var]
        refine ⟨_, rfl, ?_⟩
        rw [W_var]
        refine ⟨_, rfl, ?_⟩
        rw [V_ixT (atI_nat (by omega) (by rw [Int.toNat_natCast, ex]))]
        refine ⟨by show 3 < 4; decide, ?_⟩
        simp only
        rw [WS_seq]
        refine WS_ifb (hd_law ep hn xel rfl rfl rfl) (fun ht => ?_) (fun hf => ?_)
        · have e : okEl p.1 x = false := by
            rw [okEl_eq]
            have : okHd p.1 x = false := by simpa using ht
            rw [this]; rfl
          rw [mk_f ep ex e]
          try simp only [WS_seq, WS_if, WS_nm, WS_tp, WS_ret, WS_exp, WS_put, WS_nx, W_kcmp, W_mcmp, W_ix, W_dix, W_var, W_C, W_Str, W_Int, W_Dsp, W_bin, W_ktr, W_knt, W_kand, W_kor, W_mnt, W_mand, W_mor, W_mif, W_kchn, W_neg, W_inst, W_it, W_rng, W_zip, W_tup, W_lst, W_rev, W_pt0, W_pt1, W_sl, W_lset, W_cnt, W_lzip, W_app, W_ext, W_ins, W_get2, W_kg2, W_kg1, W_B1, W_B2, W_cal, W_cons, W_nil, V_gt, V_lt, V_le, V_ge, V_mod, V_fdiv, V_add, V_sub, V_mul, V_int, V_lenL, V_lenT, List.map_cons, List.map_nil, List.cons_append, List.nil_append, List.length_cons, List.length_nil, List.replicate, List.getElem?_cons_zero, List.getElem?_cons_succ, Option.some.injEq, exists_eq_left', List.set_cons_zero, List.set_cons_succ, Nat.reduceAdd, Nat.reduceLT, Nat.reduceSub, true_and, Nat.zero_lt_succ, List.length_map, decide_eq_true_eq, V_d0, V_d1, W_mkF, V_pow9, V_pow18, lineLen, Nat.reduceLeDiff, if_true, if_false, W_pure, V_ix0, V_ix1, V_ix2, V_ixL0, V_ixL1]
          exact Fz.dat
        · have hh : okHd p.1 x = true := by simpa using hf
          obtain ⟨a, b, rfl⟩ : ∃ a b, x = .tup [a, b] := by
            unfold okHd at hh
            split at hh
            · exact ⟨_, _, rfl⟩
            · cases hh
          rw [WS_nx]
          simp only
          rw [WS_seq]
          refine WS_ifb (tl_law rfl) (fun ht => ?_) (fun hf => ?_)
          · have e : okEl p.1 (.tup [a, b]) = false := by
              rw [okEl_eq]
              have : okTl (.tup [a, b]) = false := by simpa [okTl] using ht
              rw [this, Bool.and_false]
            rw [mk_f ep ex e]
            try simp only [WS_seq, WS_if, WS_nm, WS_tp, WS_ret, WS_exp, WS_put, WS_nx, W_kcmp, W_mcmp, W_ix, W_dix, W_var, W_C, W_Str, W_Int, W_Dsp, W_bin, W_ktr, W_knt, W_kand, W_kor, W_mnt, W_mand, W_mor, W_mif, W_kchn, W_neg, W_inst, W_it, W_rng, W_zip, W_tup, W_lst, W_rev, W_pt0, W_pt1, W_sl, W_lset, W_cnt, W_lzip, W_app, W_ext, W_ins, W_get2, W_kg2, W_kg1, W_B1, W_B2, W_cal, W_cons, W_nil, V_gt, V_lt, V_le, V_ge, V_mod, V_fdiv, V_add, V_sub, V_mul, V_int, V_lenL, V_lenT, List.map_cons, List.map_nil, List.cons_append, List.nil_append, List.length_cons, List.length_nil, List.replicate, List.getElem?_cons_zero, List.getElem?_cons_succ, Option.some.injEq, exists_eq_left', List.set_cons_zero, List.set_cons_succ, Nat.reduceAdd, Nat.reduceLT, Nat.reduceSub, true_and, Nat.zero_lt_succ, List.length_map, decide_eq_true_eq, V_d0, V_d1, W_mkF, V_pow9, V_pow18, lineLen, Nat.reduceLeDiff, if_true, if_false, W_pure, V_ix0, V_ix1, V_ix2, V_ixL0, V_ixL1]
            exact Fz.dat
          · have e : okEl p.1 (.tup [a, b]) = true := by
              rw [okEl_eq, hh]
              show okW b = true
              simpa using hf
            rw [WS_nx]
            refine ⟨rfl, ⟨_, _, rfl⟩, fun j q y hj hq hy => ?_⟩
            by_cases hji : j = i
            · subst hji
              rw [ep] at hq; rw [ex] at hy
              cases hq; cases hy
              exact e
            · exact hall j q y (by omega) hq hy
      · rintro ρ s ⟨rfl, ⟨o2, o3, rfl⟩, hall⟩
        rw [up_len] at hall
        have e : isMk sg (.tup xs) = true := by
          show (decide (xs.length = sg.length) && _) = true
          rw [zip_all_true rfl hall, decide_eq_true ll]
          rfl
        rw [e]
        try simp only [WS_seq, WS_if, WS_nm, WS_tp, WS_ret, WS_exp, WS_put, WS_nx, W_kcmp, W_mcmp, W_ix, W_dix, W_var, W_C, W_Str, W_Int, W_Dsp, W_bin, W_ktr, W_knt, W_kand, W_kor, W_mnt, W_mand, W_mor, W_mif, W_kchn, W_neg, W_inst, W_it, W_rng, W_zip, W_tup, W_lst, W_rev, W_pt0, W_pt1, W_sl, W_lset, W_cnt, W_lzip, W_app, W_ext, W_ins, W_get2, W_kg2, W_kg1, W_B1, W_B2, W_cal, W_cons, W_nil, V_gt, V_lt, V_le, V_ge, V_mod, V_fdiv, V_add, V_sub, V_mul, V_int, V_lenL, V_lenT, List.map_cons, List.map_nil, List.cons_append, List.nil_append, List.length_cons, List.length_nil, List.replicate, List.getElem?_cons_zero, List.getElem?_cons_succ, Option.some.injEq, exists_eq_left', List.set_cons_zero, List.set_cons_succ, Nat.reduceAdd, Nat.reduceLT, Nat.reduceSub, true_and, Nat.zero_lt_succ, List.length_map, decide_eq_true_eq, V_d0, V_d1, W_mkF, V_pow9, V_pow18, lineLen, Nat.reduceLeDiff, if_true, if_false, W_pure, V_ix0, V_ix1, V_ix2, V_ixL0, V_ixL1]
        exact Fz.dat
  · refine WS_yes (Wb_or (q := true) (Wb_nt (Wb_inst (K_var rfl))) fun z => nomatch (show true = false from z)) rfl ?_
    try simp only [WS_seq, WS_if, WS_nm, WS_tp, WS_ret, WS_exp, WS_put, WS_nx, W_kcmp, W_mcmp, W_ix, W_dix, W_var, W_C, W_Str, W_Int, W_Dsp, W_bin, W_ktr, W_knt, W_kand, W_kor, W_mnt, W_mand, W_mor, W_mif, W_kchn, W_neg, W_inst, W_it, W_rng, W_zip, W_tup, W_lst, W_rev, W_pt0, W_pt1, W_sl, W_lset, W_cnt, W_lzip, W_app, W_ext, W_ins, W_get2, W_kg2, W_kg1, W_B1, W_B2, W_cal, W_cons, W_nil, V_gt, V_lt, V_le, V_ge, V_mod, V_fdiv, V_add, V_sub, V_mul, V_int, V_lenL, V_lenT, List.map_cons, List.map_nil, List.cons_append, List.nil_append, List.length_cons, List.length_nil, List.replicate, List.getElem?_cons_zero, List.getElem?_cons_succ, Option.some.injEq, exists_eq_left', List.set_cons_zero, List.set_cons_succ, Nat.reduceAdd, Nat.reduceLT, Nat.reduceSub, true_and, Nat.zero_lt_succ, List.length_map, decide_eq_true_eq, V_d0, V_d1, W_mkF, V_pow9, V_pow18, lineLen, Nat.reduceLeDiff, if_true, if_false, W_pure, V_ix0, V_ix1, V_ix2, V_ixL0, V_ixL1]
    exact Fz.dat

/-! told right -/
theorem nice_atom : ∀ a ∈ atoms, Nice 0 1921 a := by
  intro a ha
  unfold atoms at ha
  rcases List.mem_append.mp ha with h | h
  · rcases List.mem_append.mp h with h | h
    · obtain ⟨x, hx, rfl⟩ := List.mem_map.mp h
      have : ∀ x ∈ nms, x.length ≤ 100 := by decide +kernel
      exact Nice.str (nms_strOk hx) (this x hx)
    · simp only [List.mem_cons, List.not_mem_nil, or_false] at h
      rcases h with rfl | rfl | rfl | rfl
      · exact Nice.str (by decide +kernel) (by decide +kernel)
      · exact Nice.str (by decide +kernel) (by decide +kernel)
      · exact Nice.non
      · exact Nice.bl
  · obtain ⟨x, hx, rfl⟩ := List.mem_map.mp h
    have : ∀ x ∈ wts ++ [0, -1, 10 ^ 9 + 1], x.natAbs < 2 ^ 64 := by decide +kernel
    exact Nice.int (this x hx)
theorem nice_el {x : D} (h : ElOk x) : Nice 1 6000 x := by
  rcases h with ⟨ys, rfl, hl, ha⟩ | ⟨y, hy, rfl⟩ | ⟨ys, rfl, hl, ha⟩
  · exact (Nice.tup (fun y hy => nice_atom y (ha y hy)) hl).mono (by omega) (by omega)
  · exact (nice_atom _ (nms_atoms hy)).mono (by omega) (by omega)
  · exact (Nice.lst (fun y hy => nice_atom y (ha y hy)) hl).mono (by omega) (by omega)
theorem nice_th {d : D} (h : ThOk d) : Nice 2 60000 d := by
  rcases h with rfl | rfl | ⟨xs, rfl | rfl, hl, hx⟩
  · exact Nice.non.mono (by omega) (by omega)
  · exact (Nice.str (by decide +kernel) (by decide +kernel)).mono (by omega) (by omega)
  · exact (Nice.tup (fun y hy => nice_el (hx y hy)) hl).mono (by omega) (by omega)
  · exact (Nice.lst (fun y hy => nice_el (hx y hy)) hl).mono (by omega) (by omega)
theorem nice_sg {sg : List (Str × Nat)} (h : SgOk sg) : Nice 2 60000 (sgD sg) := by
  have e : ∀ x ∈ sg.map sgI, Nice 1 6000 x := fun x hx => by
    obtain ⟨p, hp, rfl⟩ := List.mem_map.mp hx
    refine (Nice.tup (n := 2) (k := 0) (B := 1921) (fun y hy => ?_) (by show 2 ≤ 2; decide)).mono (by omega) (by omega)
    simp only [List.mem_cons, List.not_mem_nil, or_false] at hy
    rcases hy with rfl | rfl
    · exact nice_atom _ (nms_atoms (h.nm p hp))
    · exact Nice.int (by have := h.ar p hp; omega)
  exact (Nice.tup (n := 4) e (by rw [List.length_map]; exact h.hi)).mono (by omega) (by omega)
theorem told_ok {sg : List (Str × Nat)} (hsg : SgOk sg) {d : D} (hd : ThOk d) : Ret c__law_told_right [sgD sg, d] (.bl true) := by
  refine Ret.body (n := 4) (a := m__law_told_right) ?_
  have nc : Nice 3 200000 (.tup [sgD sg, d]) := (Nice.tup (n := 2) (k := 2) (B := 60000) (fun y hy => by
    simp only [List.mem_cons, List.not_mem_nil, or_false] at hy
    rcases hy with rfl | rfl
    · exact nice_sg hsg
    · exact nice_th hd) (by show 2 ≤ 2; decide)).mono (by omega) (by omega)
  unfold m__law_told_right
  try simp only [WS_seq, WS_if, WS_nm, WS_tp, WS_ret, WS_exp, WS_put, WS_nx, W_kcmp, W_mcmp, W_ix, W_dix, W_var, W_C, W_Str, W_Int, W_Dsp, W_bin, W_ktr, W_knt, W_kand, W_kor, W_mnt, W_mand, W_mor, W_mif, W_kchn, W_neg, W_inst, W_it, W_rng, W_zip, W_tup, W_lst, W_rev, W_pt0, W_pt1, W_sl, W_lset, W_cnt, W_lzip, W_app, W_ext, W_ins, W_get2, W_kg2, W_kg1, W_B1, W_B2, W_cal, W_cons, W_nil, V_gt, V_lt, V_le, V_ge, V_mod, V_fdiv, V_add, V_sub, V_mul, V_int, V_lenL, V_lenT, List.map_cons, List.map_nil, List.cons_append, List.nil_append, List.length_cons, List.length_nil, List.replicate, List.getElem?_cons_zero, List.getElem?_cons_succ, Option.some.injEq, exists_eq_left', List.set_cons_zero, List.set_cons_succ, Nat.reduceAdd, Nat.reduceLT, Nat.reduceSub, true_and, Nat.zero_lt_succ, List.length_map, decide_eq_true_eq, V_d0, V_d1, W_mkF, V_pow9, V_pow18, lineLen, Nat.reduceLeDiff, if_true, if_false, W_pure, V_ix0, V_ix1, V_ix2, V_ixL0, V_ixL1]
  refine V_repr nc.rep ?_
  try simp only [WS_seq, WS_if, WS_nm, WS_tp, WS_ret, WS_exp, WS_put, WS_nx, W_kcmp, W_mcmp, W_ix, W_dix, W_var, W_C, W_Str, W_Int, W_Dsp, W_bin, W_ktr, W_knt, W_kand, W_kor, W_mnt, W_mand, W_mor, W_mif, W_kchn, W_neg, W_inst, W_it, W_rng, W_zip, W_tup, W_lst, W_rev, W_pt0, W_pt1, W_sl, W_lset, W_cnt, W_lzip, W_app, W_ext, W_ins, W_get2, W_kg2, W_kg1, W_B1, W_B2, W_cal, W_cons, W_nil, V_gt, V_lt, V_le, V_ge, V_mod, V_fdiv, V_add, V_sub, V_mul, V_int, V_lenL, V_lenT, List.map_cons, List.map_nil, List.cons_append, List.nil_append, List.length_cons, List.length_nil, List.replicate, List.getElem?_cons_zero, List.getElem?_cons_succ, Option.some.injEq, exists_eq_left', List.set_cons_zero, List.set_cons_succ, Nat.reduceAdd, Nat.reduceLT, Nat.reduceSub, true_and, Nat.zero_lt_succ, List.length_map, decide_eq_true_eq, V_d0, V_d1, W_mkF, V_pow9, V_pow18, lineLen, Nat.reduceLeDiff, if_true, if_false, W_pure, V_ix0, V_ix1, V_ix2, V_ixL0, V_ixL1]
  refine Ret.call (ds := [sgD sg, d]) (prog_marks hsg hd) ?_
  try simp only [WS_seq, WS_if, WS_nm, WS_tp, WS_ret, WS_exp, WS_put, WS_nx, W_kcmp, W_mcmp, W_ix, W_dix, W_var, W_C, W_Str, W_Int, W_Dsp, W_bin, W_ktr, W_knt, W_kand, W_kor, W_mnt, W_mand, W_mor, W_mif, W_kchn, W_neg, W_inst, W_it, W_rng, W_zip, W_tup, W_lst, W_rev, W_pt0, W_pt1, W_sl, W_lset, W_cnt, W_lzip, W_app, W_ext, W_ins, W_get2, W_kg2, W_kg1, W_B1, W_B2, W_cal, W_cons, W_nil, V_gt, V_lt, V_le, V_ge, V_mod, V_fdiv, V_add, V_sub, V_mul, V_int, V_lenL, V_lenT, List.map_cons, List.map_nil, List.cons_append, List.nil_append, List.length_cons, List.length_nil, List.replicate, List.getElem?_cons_zero, List.getElem?_cons_succ, Option.some.injEq, exists_eq_left', List.set_cons_zero, List.set_cons_succ, Nat.reduceAdd, Nat.reduceLT, Nat.reduceSub, true_and, Nat.zero_lt_succ, List.length_map, decide_eq_true_eq, V_d0, V_d1, W_mkF, V_pow9, V_pow18, lineLen, Nat.reduceLeDiff, if_true, if_false, W_pure, V_ix0, V_ix1, V_ix2, V_ixL0, V_ixL1]
  have nb : Nice 0 1921 (.bl (isMk sg d)) := Nice.bl
  refine V_repr nb.rep ?_
  refine Ret.call (ds := [sgD sg, d]) (law_marks hsg hd) ?_
  refine V_repr nb.rep ?_
  refine (V_eq (fit_shown nb) (fit_shown nb)).mpr ?_
  rw [deq_str, decide_eq_true rfl]
  show W (Ev.truthy (.d (.bl true))) _ _
  show W (M.pure true) _ _
  rw [W_pure, if_pos rfl]
  refine V_repr nc.rep ?_
  refine (V_eq (fit_shown nc) (fit_shown nc)).mpr ?_
  rw [deq_str, decide_eq_true rfl]
  exact Fz.dat
end My
set_option maxRecDepth 100000
set_option maxHeartbeats 8000000
namespace My
open Ev PySem

/-! opened plans -/
theorem cut_hd (x : D) (es : List D) : cut (x :: es) none (some 1) = [x] := by
  have e1 : HT.sIx (x :: es).length (x :: es).length (some 1) = min 1 (x :: es).length := HT.sIx_nat (x :: es).length (x :: es).length 1
  unfold cut
  rw [e1, HT.sIx_none]
  simp only [List.length_cons]
  have a1 : min 1 (es.length + 1) = 1 := by omega
  rw [a1]
  simp
theorem PlanOk.any {rs : List D} {op : Bool} : ∀ {k : Nat} {d : D}, PlanOk rs false k d → PlanOk rs op k d
  | 0, _, h => h.elim
  | k + 1, d, h => by
    rcases h with h | ⟨h, _⟩ | h | ⟨w, hw, e, he, hp⟩ | ⟨w, hw, a, b, he, ha, hb⟩
    · exact .inl h
    · cases h
    · exact .inr (.inr (.inl h))
    · exact .inr (.inr (.inr (.inl ⟨w, hw, e, he, hp.any⟩)))
    · exact .inr (.inr (.inr (.inr ⟨w, hw, a, b, he, ha.any, hb.any⟩)))
theorem w_opened {rs : List D} : ∀ (k f : Nat), k ≤ f → k ≤ 8 → ∀ (p : D), PlanOk rs false k p → (∀ n l r, .tup [.str n, l, r] ∈ rs → PyData.strOk n = true) → ∀ (B : Nat) (c : Cell), TapeOk B c → B + 4 * 2 ^ k < 2 ^ 40 →
    W (c__law_opened f [.loc 0, .d p]) [c] fun v s => ∃ q c' g, v = .d q ∧ s = c' :: g ∧ PlanOk rs true k q ∧ TapeOk (B + 2 ^ k) c' := by
  intro k
  induction k with
  | zero => exact fun f _ _ p h => h.elim
  | succ k ih =>
    intro f hf h8 p hp hN B c h hB
    obtain ⟨g, rfl⟩ : ∃ g, f = g + 1 := ⟨f - 1, by omega⟩
    have kp : 1 ≤ 2 ^ k := Nat.one_le_two_pow
    have ks : 2 ^ (k + 1) = 2 * 2 ^ k := by rw [Nat.pow_succ]; omega
    have base : ∀ (w : Str) (es : List D), PyData.strOk w = true → w ∈ [Str.ofString "stay", Str.ofString "never", Str.ofString "use"] → PlanOk rs false (k + 1) (.tup (.str w :: es)) →
        W (c__law_opened (g + 1) [.loc 0, .d (.tup (.str w :: es))]) [c] fun v s => ∃ q c' g, v = .d q ∧ s = c' :: g ∧ PlanOk rs true (k + 1) q ∧ TapeOk (B + 2 ^ (k + 1)) c' := fun w es ok hw hp => by
      show W (bodyM 3 (m__law_opened (c__law_opened g)) _) _ _
      rw [W_body]
      unfold m__law_opened
      rw [WS_seq]
      refine WS_yes (Wb_inT (vs := [Str.ofString "stay", Str.ofString "never", Str.ofString "use"]) (K_ix (K_var rfl) K_C at_0) (by try simp only [WS_seq, WS_if, WS_nm, WS_tp, WS_ret, WS_exp, WS_put, WS_nx, W_kcmp, W_mcmp, W_ix, W_dix, W_var, W_C, W_Str, W_Int, W_Dsp, W_bin, W_ktr, W_knt, W_kand, W_kor, W_mnt, W_mand, W_mor, W_mif, W_kchn, W_neg, W_inst, W_it, W_rng, W_zip, W_tup, W_lst, W_rev, W_pt0, W_pt1, W_sl, W_lset, W_cnt, W_lzip, W_app, W_ext, W_ins, W_get2, W_kg2, W_kg1, W_B1, W_B2, W_cal, W_cons, W_nil, V_gt, V_lt, V_le, V_ge, V_mod, V_fdiv, V_add, V_sub, V_mul, V_int, V_lenL, V_lenT, List.map_cons, List.map_nil, List.cons_append, List.nil_append, List.length_cons, List.length_nil, List.replicate, List.getElem?_cons_zero, List.getElem?_cons_succ, Option.some.injEq, exists_eq_left', List.set_cons_zero, List.set_cons_succ, Nat.reduceAdd, Nat.reduceLT, Nat.reduceSub, true_and, Nat.zero_lt_succ, List.length_map, decide_eq_true_eq, V_d0, V_d1, W_mkF, V_pow9, V_pow18, lineLen, Nat.reduceLeDiff, if_true, if_false, W_pure, V_ix0, V_ix1, V_ix2, V_ixL0, V_ixL1]) ok (List.all_eq_true.mp (by decide +kernel))) (by simpa using hw) ?_
      try simp only [WS_seq, WS_if, WS_nm, WS_tp, WS_ret, WS_exp, WS_put, WS_nx, W_kcmp, W_mcmp, W_ix, W_dix, W_var, W_C, W_Str, W_Int, W_Dsp, W_bin, W_ktr, W_knt, W_kand, W_kor, W_mnt, W_mand, W_mor, W_mif, W_kchn, W_neg, W_inst, W_it, W_rng, W_zip, W_tup, W_lst, W_rev, W_pt0, W_pt1, W_sl, W_lset, W_cnt, W_lzip, W_app, W_ext, W_ins, W_get2, W_kg2, W_kg1, W_B1, W_B2, W_cal, W_cons, W_nil, V_gt, V_lt, V_le, V_ge, V_mod, V_fdiv, V_add, V_sub, V_mul, V_int, V_lenL, V_lenT, List.map_cons, List.map_nil, List.cons_append, List.nil_append, List.length_cons, List.length_nil, List.replicate, List.getElem?_cons_zero, List.getElem?_cons_succ, Option.some.injEq, exists_eq_left', List.set_cons_zero, List.set_cons_succ, Nat.reduceAdd, Nat.reduceLT, Nat.reduceSub, true_and, Nat.zero_lt_succ, List.length_map, decide_eq_true_eq, V_d0, V_d1, W_mkF, V_pow9, V_pow18, lineLen, Nat.reduceLeDiff, if_true, if_false, W_pure, V_ix0, V_ix1, V_ix2, V_ixL0, V_ixL1]
      refine call_draw rfl h (by omega) (by decide) (by decide) fun k1 c1 g1 g2 t1 => ?_
      try simp only [WS_seq, WS_if, WS_nm, WS_tp, WS_ret, WS_exp, WS_put, WS_nx, W_kcmp, W_mcmp, W_ix, W_dix, W_var, W_C, W_Str, W_Int, W_Dsp, W_bin, W_ktr, W_knt, W_kand, W_kor, W_mnt, W_mand, W_mor, W_mif, W_kchn, W_neg, W_inst, W_it, W_rng, W_zip, W_tup, W_lst, W_rev, W_pt0, W_pt1, W_sl, W_lset, W_cnt, W_lzip, W_app, W_ext, W_ins, W_get2, W_kg2, W_kg1, W_B1, W_B2, W_cal, W_cons, W_nil, V_gt, V_lt, V_le, V_ge, V_mod, V_fdiv, V_add, V_sub, V_mul, V_int, V_lenL, V_lenT, List.map_cons, List.map_nil, List.cons_append, List.nil_append, List.length_cons, List.length_nil, List.replicate, List.getElem?_cons_zero, List.getElem?_cons_succ, Option.some.injEq, exists_eq_left', List.set_cons_zero, List.set_cons_succ, Nat.reduceAdd, Nat.reduceLT, Nat.reduceSub, true_and, Nat.zero_lt_succ, List.length_map, decide_eq_true_eq, V_d0, V_d1, W_mkF, V_pow9, V_pow18, lineLen, Nat.reduceLeDiff, if_true, if_false, W_pure, V_ix0, V_ix1, V_ix2, V_ixL0, V_ixL1]
      refine (V_eq fit_int fit_int).mpr ?_
      split
      · exact ⟨_, c1, [], rfl, rfl, .inr (.inl ⟨rfl, rfl⟩), t1.mono (by omega)⟩
      · exact ⟨_, c1, [], rfl, rfl, hp.any, t1.mono (by omega)⟩
    have comp : ∀ (w : Str) (es : List D), PyData.strOk w = true → w ∉ [Str.ofString "stay", Str.ofString "never", Str.ofString "use"] → es.length ≤ 2 → (∀ e ∈ es, PlanOk rs false k e) → (∀ qs : List D, qs.length = es.length → (∀ q ∈ qs, PlanOk rs true k q) → PlanOk rs true (k + 1) (.tup (.str w :: qs))) →
        W (c__law_opened (g + 1) [.loc 0, .d (.tup (.str w :: es))]) [c] fun v s => ∃ q c' g, v = .d q ∧ s = c' :: g ∧ PlanOk rs true (k + 1) q ∧ TapeOk (B + 2 ^ (k + 1)) c' := fun w es ok hw hl he hq => by
      show W (bodyM 3 (m__law_opened (c__law_opened g)) _) _ _
      rw [W_body]
      unfold m__law_opened
      rw [WS_seq]
      refine WS_no (Wb_inT (vs := [Str.ofString "stay", Str.ofString "never", Str.ofString "use"]) (K_ix (K_var rfl) K_C at_0) (by try simp only [WS_seq, WS_if, WS_nm, WS_tp, WS_ret, WS_exp, WS_put, WS_nx, W_kcmp, W_mcmp, W_ix, W_dix, W_var, W_C, W_Str, W_Int, W_Dsp, W_bin, W_ktr, W_knt, W_kand, W_kor, W_mnt, W_mand, W_mor, W_mif, W_kchn, W_neg, W_inst, W_it, W_rng, W_zip, W_tup, W_lst, W_rev, W_pt0, W_pt1, W_sl, W_lset, W_cnt, W_lzip, W_app, W_ext, W_ins, W_get2, W_kg2, W_kg1, W_B1, W_B2, W_cal, W_cons, W_nil, V_gt, V_lt, V_le, V_ge, V_mod, V_fdiv, V_add, V_sub, V_mul, V_int, V_lenL, V_lenT, List.map_cons, List.map_nil, List.cons_append, List.nil_append, List.length_cons, List.length_nil, List.replicate, List.getElem?_cons_zero, List.getElem?_cons_succ, Option.some.injEq, exists_eq_left', List.set_cons_zero, List.set_cons_succ, Nat.reduceAdd, Nat.reduceLT, Nat.reduceSub, true_and, Nat.zero_lt_succ, List.length_map, decide_eq_true_eq, V_d0, V_d1, W_mkF, V_pow9, V_pow18, lineLen, Nat.reduceLeDiff, if_true, if_false, W_pure, V_ix0, V_ix1, V_ix2, V_ixL0, V_ixL1]) ok (List.all_eq_true.mp (by decide +kernel))) (by simpa using hw) ?_
      rw [WS_nx]
      try simp only [WS_seq, WS_if, WS_nm, WS_tp, WS_ret, WS_exp, WS_put, WS_nx, W_kcmp, W_mcmp, W_ix, W_dix, W_var, W_C, W_Str, W_Int, W_Dsp, W_bin, W_ktr, W_knt, W_kand, W_kor, W_mnt, W_mand, W_mor, W_mif, W_kchn, W_neg, W_inst, W_it, W_rng, W_zip, W_tup, W_lst, W_rev, W_pt0, W_pt1, W_sl, W_lset, W_cnt, W_lzip, W_app, W_ext, W_ins, W_get2, W_kg2, W_kg1, W_B1, W_B2, W_cal, W_cons, W_nil, V_gt, V_lt, V_le, V_ge, V_mod, V_fdiv, V_add, V_sub, V_mul, V_int, V_lenL, V_lenT, List.map_cons, List.map_nil, List.cons_append, List.nil_append, List.length_cons, List.length_nil, List.replicate, List.getElem?_cons_zero, List.getElem?_cons_succ, Option.some.injEq, exists_eq_left', List.set_cons_zero, List.set_cons_succ, Nat.reduceAdd, Nat.reduceLT, Nat.reduceSub, true_and, Nat.zero_lt_succ, List.length_map, decide_eq_true_eq, V_d0, V_d1, W_mkF, V_pow9, V_pow18, lineLen, Nat.reduceLeDiff, if_true, if_false, W_pure, V_ix0, V_ix1, V_ix2, V_ixL0, V_ixL1]
      rw [V_slT, cut_hd]
      refine W_lc ?_
      try simp only [WS_seq, WS_if, WS_nm, WS_tp, WS_ret, WS_exp, WS_put, WS_nx, W_kcmp, W_mcmp, W_ix, W_dix, W_var, W_C, W_Str, W_Int, W_Dsp, W_bin, W_ktr, W_knt, W_kand, W_kor, W_mnt, W_mand, W_mor, W_mif, W_kchn, W_neg, W_inst, W_it, W_rng, W_zip, W_tup, W_lst, W_rev, W_pt0, W_pt1, W_sl, W_lset, W_cnt, W_lzip, W_app, W_ext, W_ins, W_get2, W_kg2, W_kg1, W_B1, W_B2, W_cal, W_cons, W_nil, V_gt, V_lt, V_le, V_ge, V_mod, V_fdiv, V_add, V_sub, V_mul, V_int, V_lenL, V_lenT, List.map_cons, List.map_nil, List.cons_append, List.nil_append, List.length_cons, List.length_nil, List.replicate, List.getElem?_cons_zero, List.getElem?_cons_succ, Option.some.injEq, exists_eq_left', List.set_cons_zero, List.set_cons_succ, Nat.reduceAdd, Nat.reduceLT, Nat.reduceSub, true_and, Nat.zero_lt_succ, List.length_map, decide_eq_true_eq, V_d0, V_d1, W_mkF, V_pow9, V_pow18, lineLen, Nat.reduceLeDiff, if_true, if_false, W_pure, V_ix0, V_ix1, V_ix2, V_ixL0, V_ixL1]
      rw [V_slT, tl_cut, V_ivT]
      refine ⟨by rw [List.length_map]; omega, fun i ys s => ∃ ci qs g, s = ci :: g ∧ TapeOk (B + i * 2 ^ k) ci ∧ ys = qs.map Val.d ∧ qs.length = i ∧ ∀ q ∈ qs, PlanOk rs true k q, ⟨c, [], [], rfl, by simpa using h, rfl, rfl, fun _ z => by cases z⟩, ?_, ?_⟩
      · rintro i v ys s hv ⟨ci, qs, g', rfl, ti, rfl, lq, mq⟩
        rw [List.getElem?_map] at hv
        cases ee : es[i]? with
        | none => rw [ee] at hv; cases hv
        | some e =>
          rw [ee] at hv
          cases hv
          have il := (List.getElem?_eq_some_iff.mp ee).1
          refine ⟨_, rfl, ?_⟩
          show W (M.pure true) _ _
          rw [W_pure, if_pos rfl]
          try simp only [WS_seq, WS_if, WS_nm, WS_tp, WS_ret, WS_exp, WS_put, WS_nx, W_kcmp, W_mcmp, W_ix, W_dix, W_var, W_C, W_Str, W_Int, W_Dsp, W_bin, W_ktr, W_knt, W_kand, W_kor, W_mnt, W_mand, W_mor, W_mif, W_kchn, W_neg, W_inst, W_it, W_rng, W_zip, W_tup, W_lst, W_rev, W_pt0, W_pt1, W_sl, W_lset, W_cnt, W_lzip, W_app, W_ext, W_ins, W_get2, W_kg2, W_kg1, W_B1, W_B2, W_cal, W_cons, W_nil, V_gt, V_lt, V_le, V_ge, V_mod, V_fdiv, V_add, V_sub, V_mul, V_int, V_lenL, V_lenT, List.map_cons, List.map_nil, List.cons_append, List.nil_append, List.length_cons, List.length_nil, List.replicate, List.getElem?_cons_zero, List.getElem?_cons_succ, Option.some.injEq, exists_eq_left', List.set_cons_zero, List.set_cons_succ, Nat.reduceAdd, Nat.reduceLT, Nat.reduceSub, true_and, Nat.zero_lt_succ, List.length_map, decide_eq_true_eq, V_d0, V_d1, W_mkF, V_pow9, V_pow18, lineLen, Nat.reduceLeDiff, if_true, if_false, W_pure, V_ix0, V_ix1, V_ix2, V_ixL0, V_ixL1,  wipeE]
          have im : i * 2 ^ k ≤ 1 * 2 ^ k := Nat.mul_le_mul (by omega) (Nat.le_refl _)
          refine W_sub1 (t := 0) (c := ci) [e] rfl ti.cl ?_
          refine (ih g (by omega) (by omega) e (he e (List.mem_of_getElem? ee)) hN _ _ ti (by omega)).mono fun v s' ⟨q, c3, g3, e1, e2, pq, t3⟩ => ?_
          refine ⟨q, c3, g3, .inl e1, e2, t3.cl, ?_⟩
          refine ⟨c3, qs ++ [q], g', rfl, t3.mono (by rw [Nat.add_mul]; omega), by simp, by simp [lq], fun x hx => ?_⟩
          rcases List.mem_append.mp hx with z | z
          · exact mq x z
          · simp at z; rw [z]; exact pq
      · rintro ys s ⟨ci, qs, g', rfl, ti, rfl, lq, mq⟩
        rw [List.length_map] at lq ti
        rw [W_datas, V_tupL]
        refine V_addT (by show 1 + qs.length ≤ lineLen; unfold lineLen; omega) ?_
        have im : es.length * 2 ^ k ≤ 2 * 2 ^ k := Nat.mul_le_mul hl (Nat.le_refl _)
        exact ⟨_, ci, g', rfl, rfl, hq qs lq mq, ti.mono (by omega)⟩
    have okw1 : ∀ w ∈ ws1, PyData.strOk w = true ∧ w ∉ [Str.ofString "stay", Str.ofString "never", Str.ofString "use"] := by decide +kernel
    have okw2 : ∀ w ∈ ws2, PyData.strOk w = true ∧ w ∉ [Str.ofString "stay", Str.ofString "never", Str.ofString "use"] := by decide +kernel
    have okw0 : ∀ w ∈ ws0, PyData.strOk w = true ∧ w ∈ [Str.ofString "stay", Str.ofString "never", Str.ofString "use"] := by decide +kernel
    have hp' := hp
    rcases hp' with ⟨w, hw, rfl⟩ | ⟨z, _⟩ | ⟨n, l, r, hin, rfl⟩ | ⟨w, hw, e, rfl, he⟩ | ⟨w, hw, a, b, rfl, ha, hb⟩
    · exact base w [] (okw0 w hw).1 (okw0 w hw).2 hp
    · cases z
    · exact base _ _ (by decide +kernel) (by decide +kernel) hp
    · refine comp w [e] (okw1 w hw).1 (okw1 w hw).2 (by show 1 ≤ 2; decide) (fun x hx => by simp at hx; rw [hx]; exact he) fun qs hq mq => ?_
      obtain ⟨q, r, rfl, hr⟩ := len_pos_at (n := 0) hq
      cases r with
      | nil => exact .inr (.inr (.inr (.inl ⟨w, hw, q, rfl, mq q (List.mem_cons_self ..)⟩)))
      | cons _ _ => cases hr
    · refine comp w [a, b] (okw2 w hw).1 (okw2 w hw).2 (by show 2 ≤ 2; decide) (fun x hx => by
        simp at hx
        rcases hx with rfl | rfl
        · exact ha
        · exact hb) fun qs hq mq => ?_
      match qs, hq, mq with
      | [q, q'], _, mq => exact .inr (.inr (.inr (.inr ⟨w, hw, q, q', rfl, mq q (by simp), mq q' (by simp)⟩)))

/-! nice rules -/
def NB : Nat → Nat
  | 0 => 1921
  | k + 1 => 3 * (NB k + 2) + 3
theorem NB_ge : ∀ k, 1921 ≤ NB k
  | 0 => Nat.le_refl _
  | k + 1 => by
    have := NB_ge k
    show 1921 ≤ 3 * (NB k + 2) + 3
    omega
theorem unk_nice {x : Str} (h : x ∈ unks) : Nice 0 1921 (.str x) := by
  have : ∀ x ∈ unks, x.length ≤ 100 := by decide +kernel
  exact Nice.str (unks_strOk h) (this x h)
theorem nm_nice {x : Str} (h : x ∈ nms) : Nice 0 1921 (.str x) := nice_atom _ (nms_atoms h)
theorem nice_pat {N : List Str} (hN : ∀ x ∈ N, x ∈ nms) : ∀ (k : Nat) (p : D), PatOk N k p → Nice k (NB k) p
  | 0, p, ⟨x, hx, e⟩ => by rw [e]; exact unk_nice hx
  | k + 1, p, h => by
    rcases h with ⟨x, hx, rfl⟩ | ⟨x, ds, rfl, hx, hl, hd⟩
    · exact (unk_nice hx).mono (by omega) (NB_ge _)
    · exact Nice.tup (n := 3) (fun y hy => by
        rcases List.mem_cons.mp hy with rfl | hy
        · exact (nm_nice (hN x hx)).mono (by omega) (NB_ge _)
        · exact nice_pat hN k y (hd y hy)) (by rw [List.length_cons]; omega)
theorem nice_rules {N : List Str} (hN : ∀ x ∈ N, x ∈ nms) {rs : List D} (h : RulesOk N rs) : Nice 5 1000000 (.tup rs) := by
  have one : ∀ r ∈ rs, Nice 4 300000 r := fun r hr => by
    obtain ⟨n, l, q, rfl, hn, pl, pr⟩ := h.2 r hr
    refine (Nice.tup (n := 3) (k := 3) (B := NB 3) (fun y hy => ?_) (by show 3 ≤ 3; decide)).mono (by omega) (by decide)
    simp only [List.mem_cons, List.not_mem_nil, or_false] at hy
    rcases hy with rfl | rfl | rfl
    · exact (nm_nice hn).mono (by omega) (NB_ge _)
    · exact (nice_pat hN 2 _ pl).mono (by omega) (by decide)
    · exact nice_pat hN 3 _ pr
  exact (Nice.tup (n := 3) one h.1).mono (by omega) (by omega)

/-! a tree by hand -/
theorem great_ok : Ret c__law_great_right [] (.bl true) := by
  have h : (match c__law_great_right [] [] with
    | .ok (.d (.bl b)) _ => b
    | _ => false) = true := by decide +kernel
  cases e : c__law_great_right [] [] with
  | ok v s' =>
    rw [e] at h
    refine W.of (a := v) (s' := s') e ?_
    match v, h with
    | .d (.bl b), h => exact .inl (by rw [show b = true from h])
  | exc => rw [e] at h; cases h
  | bad => rw [e] at h; cases h
end My
set_option maxRecDepth 100000
set_option maxHeartbeats 8000000
namespace My
open Ev PySem

/-! the law -/
theorem call_tape {ns : List Int} {R : Val → Store → Prop} (r : ∀ c, TapeOk 0 c → R (.loc 0) [c]) : W (subV true c__law_tape [.scr ns]) [] R := by
  refine W_sub (q := []) (by simp [locsOf]) rfl ?_
  show W (bodyM 1 m__law_tape [.scr ns]) [] _
  rw [W_body]
  unfold m__law_tape
  try simp only [WS_seq, WS_if, WS_nm, WS_tp, WS_ret, WS_exp, WS_put, WS_nx, W_kcmp, W_mcmp, W_ix, W_dix, W_var, W_C, W_Str, W_Int, W_Dsp, W_bin, W_ktr, W_knt, W_kand, W_kor, W_mnt, W_mand, W_mor, W_mif, W_kchn, W_neg, W_inst, W_it, W_rng, W_zip, W_tup, W_lst, W_rev, W_pt0, W_pt1, W_sl, W_lset, W_cnt, W_lzip, W_app, W_ext, W_ins, W_get2, W_kg2, W_kg1, W_B1, W_B2, W_cal, W_cons, W_nil, V_gt, V_lt, V_le, V_ge, V_mod, V_fdiv, V_add, V_sub, V_mul, V_int, V_lenL, V_lenT, List.map_cons, List.map_nil, List.cons_append, List.nil_append, List.length_cons, List.length_nil, List.replicate, List.getElem?_cons_zero, List.getElem?_cons_succ, Option.some.injEq, exists_eq_left', List.set_cons_zero, List.set_cons_succ, Nat.reduceAdd, Nat.reduceLT, Nat.reduceSub, true_and, Nat.zero_lt_succ, List.length_map, decide_eq_true_eq, V_d0, V_d1, W_mkF, V_pow9, V_pow18, lineLen, Nat.reduceLeDiff, if_true, if_false, W_pure, V_ix0, V_ix1, V_ix2, V_ixL0, V_ixL1]
  have e : ∀ Q : Val → Store → Prop, Q (.d (.lst ((cut ns none (some 63)).map .int))) [] → W (slV (.scr ns) none (some 63)) [] Q := fun Q q => by
    show W (mkList false (cut (ns.map fun i => Val.d (.int i)) none (some 63))) [] Q
    rw [cut_map]
    have e2 : (cut ns none (some 63)).map (fun i => Val.d (.int i)) = ((cut ns none (some 63)).map D.int).map .d := by rw [List.map_map]; rfl
    rw [e2, W_mk]
    exact q
  refine e _ ?_
  rw [W_mkT]
  refine ⟨[], lays_nil, ?_⟩
  show W (mkList true [Val.d (.lst ((cut ns none (some 63)).map .int)), .d (.int 0), .d (.int 0)]) [] R
  rw [W_mkT]
  exact r _ ⟨_, 0, 0, rfl, Int.le_refl _, Int.le_refl _⟩
theorem call_tree {sg : List (Str × Nat)} (hsg : SgOk sg) {B : Nat} {c : Cell} {s : Store} {t : Nat} {R : Val → Store → Prop} (hs : s[t]? = some c) (h : TapeOk B c) (hB : B + 2000 < 2 ^ 40) (k : ∀ (p : D) (c' : Cell), PatOk (sg.map (·.1)) 5 p → TapeOk (B + 31) c' → R (.d p) (s.set t c')) : W (subV false (c__law_tree 12) [.loc t, .d (sgD sg), .d (.int 4)]) s R := by
  refine W_sub1 [sgD sg, .int 4] hs h.cl ((w_tree hsg (f := 7) h hB).mono fun v s' ⟨p, c', g, e1, e2, ok, tk⟩ => ?_)
  exact ⟨_, c', g, .inl e1, e2, tk.cl, k p c' ok tk⟩
theorem call_plan {N : List Str} {rs : List D} (hr : RulesOk N rs) (hfit : (D.tup rs).fit = true) {m : Nat} (m1 : 1 ≤ m) (m8 : m ≤ 8) {B : Nat} {c : Cell} {s : Store} {t : Nat} {R : Val → Store → Prop} (hs : s[t]? = some c) (h : TapeOk B c) (hB : B + 2000 < 2 ^ 40) (k : ∀ (p : D) (c' : Cell), PlanOk rs false 8 p → TapeOk (B + 24) c' → R (.d p) (s.set t c')) : W (subV false (c__law_plan 12) [.loc t, .d (.tup rs), .d (.int (m : Int))]) s R := by
  refine W_sub1 [.tup rs, .int (m : Int)] hs h.cl ((w_plan hr hfit 12 m m1 (by omega) m8 B c h (by omega)).mono fun v s' ⟨p, c', g, e1, e2, ok, tk⟩ => ?_)
  exact ⟨_, c', g, .inl e1, e2, tk.cl, k p c' (ok.le m8) (tk.mono (by omega))⟩
theorem call_opened {N : List Str} {rs : List D} (hr : RulesOk N rs) {p : D} (hp : PlanOk rs false 8 p) {B : Nat} {c : Cell} {s : Store} {t : Nat} {R : Val → Store → Prop} (hs : s[t]? = some c) (h : TapeOk B c) (hB : B + 2000 < 2 ^ 40) (k : ∀ (p : D) (c' : Cell), PlanOk rs true 8 p → TapeOk (B + 256) c' → R (.d p) (s.set t c')) : W (subV false (c__law_opened 12) [.loc t, .d p]) s R := by
  have hN : ∀ n l r, D.tup [.str n, l, r] ∈ rs → PyData.strOk n = true := fun n l r hm => by
    obtain ⟨m, l', r', e, hm', _, _⟩ := hr.2 _ hm
    cases e
    exact nms_strOk hm'
  refine W_sub1 [p] hs h.cl ((w_opened 8 12 (by decide) (by decide) p hp hN B c h (by omega)).mono fun v s' ⟨p, c', g, e1, e2, ok, tk⟩ => ?_)
  exact ⟨_, c', g, .inl e1, e2, tk.cl, k p c' ok tk⟩
theorem wts_pos : ∀ w ∈ wts, 1 ≤ w ∧ w ≤ 1000000000 := by decide +kernel
theorem mk_WM {sg : List (Str × Nat)} {mk : List (Str × Int)} (h : MkOk sg mk) : ∀ x ∈ sg.map (·.1), WM (mkM mk) x := fun x hx => mkM_ok mk [] (fun p hp => wts_pos _ (h.wt p hp)) (.inl (by rw [h.nm]; exact hx))
theorem part_ok {rs : List D} {op : Bool} {k : Nat} {p x : D} {w : D} {es : List D} (h : PlanOk rs op (k + 1) p) (e : p = .tup (w :: es)) (hx : x ∈ es) (ht : tyB .tuple x = true) : PlanOk rs op k x := by
  subst e
  rcases h with ⟨w, hw, e⟩ | ⟨z, e⟩ | ⟨n, l, r, hin, e⟩ | ⟨w, hw, e', e, he⟩ | ⟨w, hw, a, b, e, ha, hb⟩
  · cases e; cases hx
  · cases e; simp at hx; rw [hx] at ht; cases ht
  · cases e; simp at hx; rw [hx] at ht; cases ht
  · cases e; simp at hx; rw [hx]; exact he
  · cases e; simp at hx
    rcases hx with rfl | rfl
    · exact ha
    · exact hb
theorem plan_tup {rs : List D} {op : Bool} {k : Nat} {p : D} (h : PlanOk rs op k p) : ∃ w es, p = .tup (w :: es) ∧ es.length ≤ 2 := by
  cases k with
  | zero => exact h.elim
  | succ k =>
    rcases h with ⟨w, hw, e⟩ | ⟨z, e⟩ | ⟨n, l, r, hin, e⟩ | ⟨w, hw, e', e, he⟩ | ⟨w, hw, a, b, e, ha, hb⟩
    · exact ⟨_, _, e, by simp⟩
    · exact ⟨_, _, e, by simp⟩
    · exact ⟨_, _, e, by simp⟩
    · exact ⟨_, _, e, by simp⟩
    · exact ⟨_, _, e, by simp⟩
theorem w_law (ns : List Int) : W (c_law [.scr ns]) [] fun v s => v = .d (.bl true) := by
  unfold c_law
  rw [W_body]
  unfold m_law
  rw [WS_seq, WS_nm]
  try simp only [W_kcmp, W_mcmp, W_ix, W_dix, W_var, W_C, W_Str, W_Int, W_Dsp, W_bin, W_ktr, W_knt, W_mnt, W_mand, W_mor, W_mif, W_kchn, W_neg, W_inst, W_it, W_rng, W_zip, W_tup, W_lst, W_rev, W_pt0, W_pt1, W_sl, W_lset, W_cnt, W_lzip, W_app, W_ext, W_ins, W_get2, W_kg2, W_kg1, W_B1, W_B2, W_cal, W_cons, W_nil, V_gt, V_lt, V_le, V_ge, V_mod, V_fdiv, V_add, V_sub, V_mul, V_pow, V_int, V_lenL, V_lenT, List.map_cons, List.map_nil, List.cons_append, List.nil_append, List.length_cons, List.length_nil, List.replicate, List.getElem?_cons_zero, List.getElem?_cons_succ, Option.some.injEq, exists_eq_left', List.set_cons_zero, List.set_cons_succ, Nat.reduceAdd, Nat.reduceLT, Nat.reduceSub, true_and, Nat.zero_lt_succ, List.length_map]
  refine call_tape fun c0 t0 => ?_
  try simp only [W_kcmp, W_mcmp, W_ix, W_dix, W_var, W_C, W_Str, W_Int, W_Dsp, W_bin, W_ktr, W_knt, W_mnt, W_mand, W_mor, W_mif, W_kchn, W_neg, W_inst, W_it, W_rng, W_zip, W_tup, W_lst, W_rev, W_pt0, W_pt1, W_sl, W_lset, W_cnt, W_lzip, W_app, W_ext, W_ins, W_get2, W_kg2, W_kg1, W_B1, W_B2, W_cal, W_cons, W_nil, V_gt, V_lt, V_le, V_ge, V_mod, V_fdiv, V_add, V_sub, V_mul, V_pow, V_int, V_lenL, V_lenT, List.map_cons, List.map_nil, List.cons_append, List.nil_append, List.length_cons, List.length_nil, List.replicate, List.getElem?_cons_zero, List.getElem?_cons_succ, Option.some.injEq, exists_eq_left', List.set_cons_zero, List.set_cons_succ, Nat.reduceAdd, Nat.reduceLT, Nat.reduceSub, true_and, Nat.zero_lt_succ, List.length_map]
  rw [WS_seq, WS_nm]
  try simp only [W_kcmp, W_mcmp, W_ix, W_dix, W_var, W_C, W_Str, W_Int, W_Dsp, W_bin, W_ktr, W_knt, W_mnt, W_mand, W_mor, W_mif, W_kchn, W_neg, W_inst, W_it, W_rng, W_zip, W_tup, W_lst, W_rev, W_pt0, W_pt1, W_sl, W_lset, W_cnt, W_lzip, W_app, W_ext, W_ins, W_get2, W_kg2, W_kg1, W_B1, W_B2, W_cal, W_cons, W_nil, V_gt, V_lt, V_le, V_ge, V_mod, V_fdiv, V_add, V_sub, V_mul, V_pow, V_int, V_lenL, V_lenT, List.map_cons, List.map_nil, List.cons_append, List.nil_append, List.length_cons, List.length_nil, List.replicate, List.getElem?_cons_zero, List.getElem?_cons_succ, Option.some.injEq, exists_eq_left', List.set_cons_zero, List.set_cons_succ, Nat.reduceAdd, Nat.reduceLT, Nat.reduceSub, true_and, Nat.zero_lt_succ, List.length_map]
  refine call_signs rfl t0 (by omega) fun sg c1 hsg t1 => ?_
  try simp only [W_kcmp, W_mcmp, W_ix, W_dix, W_var, W_C, W_Str, W_Int, W_Dsp, W_bin, W_ktr, W_knt, W_mnt, W_mand, W_mor, W_mif, W_kchn, W_neg, W_inst, W_it, W_rng, W_zip, W_tup, W_lst, W_rev, W_pt0, W_pt1, W_sl, W_lset, W_cnt, W_lzip, W_app, W_ext, W_ins, W_get2, W_kg2, W_kg1, W_B1, W_B2, W_cal, W_cons, W_nil, V_gt, V_lt, V_le, V_ge, V_mod, V_fdiv, V_add, V_sub, V_mul, V_pow, V_int, V_lenL, V_lenT, List.map_cons, List.map_nil, List.cons_append, List.nil_append, List.length_cons, List.length_nil, List.replicate, List.getElem?_cons_zero, List.getElem?_cons_succ, Option.some.injEq, exists_eq_left', List.set_cons_zero, List.set_cons_succ, Nat.reduceAdd, Nat.reduceLT, Nat.reduceSub, true_and, Nat.zero_lt_succ, List.length_map]
  rw [WS_seq, WS_nm]
  try simp only [W_kcmp, W_mcmp, W_ix, W_dix, W_var, W_C, W_Str, W_Int, W_Dsp, W_bin, W_ktr, W_knt, W_mnt, W_mand, W_mor, W_mif, W_kchn, W_neg, W_inst, W_it, W_rng, W_zip, W_tup, W_lst, W_rev, W_pt0, W_pt1, W_sl, W_lset, W_cnt, W_lzip, W_app, W_ext, W_ins, W_get2, W_kg2, W_kg1, W_B1, W_B2, W_cal, W_cons, W_nil, V_gt, V_lt, V_le, V_ge, V_mod, V_fdiv, V_add, V_sub, V_mul, V_pow, V_int, V_lenL, V_lenT, List.map_cons, List.map_nil, List.cons_append, List.nil_append, List.length_cons, List.length_nil, List.replicate, List.getElem?_cons_zero, List.getElem?_cons_succ, Option.some.injEq, exists_eq_left', List.set_cons_zero, List.set_cons_succ, Nat.reduceAdd, Nat.reduceLT, Nat.reduceSub, true_and, Nat.zero_lt_succ, List.length_map]
  refine call_rules hsg rfl t1 (by omega) fun rs c2 hrs t2 => ?_
  try simp only [W_kcmp, W_mcmp, W_ix, W_dix, W_var, W_C, W_Str, W_Int, W_Dsp, W_bin, W_ktr, W_knt, W_mnt, W_mand, W_mor, W_mif, W_kchn, W_neg, W_inst, W_it, W_rng, W_zip, W_tup, W_lst, W_rev, W_pt0, W_pt1, W_sl, W_lset, W_cnt, W_lzip, W_app, W_ext, W_ins, W_get2, W_kg2, W_kg1, W_B1, W_B2, W_cal, W_cons, W_nil, V_gt, V_lt, V_le, V_ge, V_mod, V_fdiv, V_add, V_sub, V_mul, V_pow, V_int, V_lenL, V_lenT, List.map_cons, List.map_nil, List.cons_append, List.nil_append, List.length_cons, List.length_nil, List.replicate, List.getElem?_cons_zero, List.getElem?_cons_succ, Option.some.injEq, exists_eq_left', List.set_cons_zero, List.set_cons_succ, Nat.reduceAdd, Nat.reduceLT, Nat.reduceSub, true_and, Nat.zero_lt_succ, List.length_map]
  have hN : ∀ x ∈ sg.map (·.1), x ∈ nms := fun x hx => by
    obtain ⟨p, hp, rfl⟩ := List.mem_map.mp hx
    exact hsg.nm p hp
  have nr := nice_rules hN hrs
  rw [WS_seq]
  refine WS_for ?_
  rw [W_rng, W_C]
  refine W_rngN (n := 3) (by decide) ?_
  refine ⟨fun i ρ s => ∃ ci g o4 o5 o6 o7 o8 o9 o10 o11, s = ci :: g ∧ TapeOk (200 + i * 1000) ci ∧ ρ = [some (.scr ns), some (.loc 0), some (.d (sgD sg)), some (.d (.tup rs)), o4, o5, o6, o7, o8, o9, o10, o11],
    ⟨c2, [], none, none, none, none, none, none, none, none, rfl, t2.mono (by omega), rfl⟩, ?_, ?_⟩
  · rintro i v ρ s hv ⟨ci, g, o4, o5, o6, o7, o8, o9, o10, o11, rfl, ti, rfl⟩
    obtain ⟨hi, rfl⟩ := up_at hv
    have iB : i * 1000 ≤ 2 * 1000 := Nat.mul_le_mul (by omega) (Nat.le_refl _)
    refine ⟨_, rfl, ?_⟩
    rw [WS_seq, WS_nm]
    try simp only [W_kcmp, W_mcmp, W_ix, W_dix, W_var, W_C, W_Str, W_Int, W_Dsp, W_bin, W_ktr, W_knt, W_mnt, W_mand, W_mor, W_mif, W_kchn, W_neg, W_inst, W_it, W_rng, W_zip, W_tup, W_lst, W_rev, W_pt0, W_pt1, W_sl, W_lset, W_cnt, W_lzip, W_app, W_ext, W_ins, W_get2, W_kg2, W_kg1, W_B1, W_B2, W_cal, W_cons, W_nil, V_gt, V_lt, V_le, V_ge, V_mod, V_fdiv, V_add, V_sub, V_mul, V_pow, V_int, V_lenL, V_lenT, List.map_cons, List.map_nil, List.cons_append, List.nil_append, List.length_cons, List.length_nil, List.replicate, List.getElem?_cons_zero, List.getElem?_cons_succ, Option.some.injEq, exists_eq_left', List.set_cons_zero, List.set_cons_succ, Nat.reduceAdd, Nat.reduceLT, Nat.reduceSub, true_and, Nat.zero_lt_succ, List.length_map]
    refine call_marks hsg rfl ti (by omega) fun mk c3 hmk t3 => ?_
    try simp only [W_kcmp, W_mcmp, W_ix, W_dix, W_var, W_C, W_Str, W_Int, W_Dsp, W_bin, W_ktr, W_knt, W_mnt, W_mand, W_mor, W_mif, W_kchn, W_neg, W_inst, W_it, W_rng, W_zip, W_tup, W_lst, W_rev, W_pt0, W_pt1, W_sl, W_lset, W_cnt, W_lzip, W_app, W_ext, W_ins, W_get2, W_kg2, W_kg1, W_B1, W_B2, W_cal, W_cons, W_nil, V_gt, V_lt, V_le, V_ge, V_mod, V_fdiv, V_add, V_sub, V_mul, V_pow, V_int, V_lenL, V_lenT, List.map_cons, List.map_nil, List.cons_append, List.nil_append, List.length_cons, List.length_nil, List.replicate, List.getElem?_cons_zero, List.getElem?_cons_succ, Option.some.injEq, exists_eq_left', List.set_cons_zero, List.set_cons_succ, Nat.reduceAdd, Nat.reduceLT, Nat.reduceSub, true_and, Nat.zero_lt_succ, List.length_map]
    have hWM := mk_WM hmk
    rw [WS_seq]
    refine WS_for ?_
    rw [W_it, W_bin, W_bin]
    try simp only [W_kcmp, W_mcmp, W_ix, W_dix, W_var, W_C, W_Str, W_Int, W_Dsp, W_bin, W_ktr, W_knt, W_mnt, W_mand, W_mor, W_mif, W_kchn, W_neg, W_inst, W_it, W_rng, W_zip, W_tup, W_lst, W_rev, W_pt0, W_pt1, W_sl, W_lset, W_cnt, W_lzip, W_app, W_ext, W_ins, W_get2, W_kg2, W_kg1, W_B1, W_B2, W_cal, W_cons, W_nil, V_gt, V_lt, V_le, V_ge, V_mod, V_fdiv, V_add, V_sub, V_mul, V_int, V_lenL, V_lenT, List.map_cons, List.map_nil, List.cons_append, List.nil_append, List.length_cons, List.length_nil, List.replicate, List.getElem?_cons_zero, List.getElem?_cons_succ, Option.some.injEq, exists_eq_left', List.set_cons_zero, List.set_cons_succ, Nat.reduceAdd, Nat.reduceLT, Nat.reduceSub, true_and, Nat.zero_lt_succ, List.length_map, V_d0, V_d1, W_mkF, V_pow9, V_pow18, lineLen, Nat.reduceLeDiff, if_true, if_false, W_pure, V_ix0, V_ix1, V_ix2, V_ixL0, V_ixL1]
    refine W_lc ?_
    rw [W_rng, W_C]
    refine W_rngN (n := 5) (by decide) ⟨by rw [up_len]; decide, fun j ys s => ∃ cj ds, s = cj :: g ∧ TapeOk (200 + i * 1000 + 4 + 3 * j) cj ∧ ys = ds.map Val.d ∧ ds.length = j ∧ ∀ d ∈ ds, ThOk d, ⟨c3, [], rfl, t3.mono (by omega), rfl, rfl, fun _ z => by cases z⟩, ?_, ?_⟩
    · rintro j v ys s hv ⟨cj, ds, rfl, tj, rfl, ld, md⟩
      obtain ⟨hj, rfl⟩ := up_at hv
      refine ⟨_, rfl, ?_⟩
      show W (M.pure true) _ _
      rw [W_pure, if_pos rfl]
      try simp only [W_kcmp, W_mcmp, W_ix, W_dix, W_var, W_C, W_Str, W_Int, W_Dsp, W_bin, W_ktr, W_knt, W_mnt, W_mand, W_mor, W_mif, W_kchn, W_neg, W_inst, W_it, W_rng, W_zip, W_tup, W_lst, W_rev, W_pt0, W_pt1, W_sl, W_lset, W_cnt, W_lzip, W_app, W_ext, W_ins, W_get2, W_kg2, W_kg1, W_B1, W_B2, W_cal, W_cons, W_nil, V_gt, V_lt, V_le, V_ge, V_mod, V_fdiv, V_add, V_sub, V_mul, V_int, V_lenL, V_lenT, List.map_cons, List.map_nil, List.cons_append, List.nil_append, List.length_cons, List.length_nil, List.replicate, List.getElem?_cons_zero, List.getElem?_cons_succ, Option.some.injEq, exists_eq_left', List.set_cons_zero, List.set_cons_succ, Nat.reduceAdd, Nat.reduceLT, Nat.reduceSub, true_and, Nat.zero_lt_succ, List.length_map, V_d0, V_d1, W_mkF, V_pow9, V_pow18, lineLen, Nat.reduceLeDiff, if_true, if_false, W_pure, V_ix0, V_ix1, V_ix2, V_ixL0, V_ixL1,  wipeE]
      refine call_bent hsg hmk rfl tj (by omega) fun d c4 hd t4 => ?_
      exact ⟨c4, ds ++ [d], rfl, t4.mono (by omega), by simp, by simp [ld], fun x hx => by
        rcases List.mem_append.mp hx with z | z
        · exact md x z
        · simp at z; rw [z]; exact hd⟩
    rintro ys s ⟨c4, ds, rfl, t4, rfl, ld, md⟩
    rw [up_len] at ld t4
    rw [W_mk]
    refine V_addL (by show 1 + ds.length ≤ lineLen; rw [ld]; decide) ?_
    try simp only [W_kcmp, W_mcmp, W_ix, W_dix, W_var, W_C, W_Str, W_Int, W_Dsp, W_bin, W_ktr, W_knt, W_mnt, W_mand, W_mor, W_mif, W_kchn, W_neg, W_inst, W_it, W_rng, W_zip, W_tup, W_lst, W_rev, W_pt0, W_pt1, W_sl, W_lset, W_cnt, W_lzip, W_app, W_ext, W_ins, W_get2, W_kg2, W_kg1, W_B1, W_B2, W_cal, W_cons, W_nil, V_gt, V_lt, V_le, V_ge, V_mod, V_fdiv, V_add, V_sub, V_mul, V_int, V_lenL, V_lenT, List.map_cons, List.map_nil, List.cons_append, List.nil_append, List.length_cons, List.length_nil, List.replicate, List.getElem?_cons_zero, List.getElem?_cons_succ, Option.some.injEq, exists_eq_left', List.set_cons_zero, List.set_cons_succ, Nat.reduceAdd, Nat.reduceLT, Nat.reduceSub, true_and, Nat.zero_lt_succ, List.length_map, V_d0, V_d1, W_mkF, V_pow9, V_pow18, lineLen, Nat.reduceLeDiff, if_true, if_false, W_pure, V_ix0, V_ix1, V_ix2, V_ixL0, V_ixL1]
    refine V_addL (by simp only [List.length_append, List.length_cons, List.length_nil, ld]; decide) ?_
    rw [V_ivL]
    have tup_ok : ThOk (.tup (mk.map mkI)) := .tup (by rw [List.length_map, hmk.len]; have := hsg.hi; omega) fun x hx => by
      obtain ⟨q, hq, rfl⟩ := List.mem_map.mp hx
      exact (mk_el hsg hmk hq).2
    have all_ok : ∀ d ∈ [mkD mk] ++ ds ++ [.non, .tup [], .str (Str.ofString "marks")], ThOk d := fun d hd => by
      rcases List.mem_append.mp hd with z | z
      · rcases List.mem_append.mp z with z | z
        · simp at z; rw [z]; exact tup_ok
        · exact md d z
      · simp at z
        rcases z with rfl | rfl | rfl
        · exact .inl rfl
        · exact .tup (by decide) fun _ z => by cases z
        · exact .inr (.inl rfl)
    refine ⟨fun j ρ s => s = c4 :: g ∧ ∃ o6, ρ = [some (.scr ns), some (.loc 0), some (.d (sgD sg)), some (.d (.tup rs)), some (.d (.int (i : Int))), some (.d (mkD mk)), o6, o7, o8, o9, o10, o11], ⟨rfl, _, rfl⟩, ?_, ?_⟩
    · rintro j v ρ s hv ⟨rfl, o6, rfl⟩
      obtain ⟨d, ed, em, rfl⟩ := dat_at hv
      have hd := all_ok d em
      refine ⟨_, rfl, ?_⟩
      rw [WS_seq]
      refine WS_no (p := !true) (Wb_nt (Wb_tr ?_)) rfl ?_
      · rw [W_cal]
        try simp only [W_kcmp, W_mcmp, W_ix, W_dix, W_var, W_C, W_Str, W_Int, W_Dsp, W_bin, W_ktr, W_knt, W_mnt, W_mand, W_mor, W_mif, W_kchn, W_neg, W_inst, W_it, W_rng, W_zip, W_tup, W_lst, W_rev, W_pt0, W_pt1, W_sl, W_lset, W_cnt, W_lzip, W_app, W_ext, W_ins, W_get2, W_kg2, W_kg1, W_B1, W_B2, W_cal, W_cons, W_nil, V_gt, V_lt, V_le, V_ge, V_mod, V_fdiv, V_add, V_sub, V_mul, V_int, V_lenL, V_lenT, List.map_cons, List.map_nil, List.cons_append, List.nil_append, List.length_cons, List.length_nil, List.replicate, List.getElem?_cons_zero, List.getElem?_cons_succ, Option.some.injEq, exists_eq_left', List.set_cons_zero, List.set_cons_succ, Nat.reduceAdd, Nat.reduceLT, Nat.reduceSub, true_and, Nat.zero_lt_succ, List.length_map, V_d0, V_d1, W_mkF, V_pow9, V_pow18, lineLen, Nat.reduceLeDiff, if_true, if_false, W_pure, V_ix0, V_ix1, V_ix2, V_ixL0, V_ixL1]
        exact Ret.call (ds := [sgD sg, d]) (told_ok hsg hd) ⟨rfl, rfl⟩
      · rw [WS_nx]
        exact ⟨rfl, _, rfl⟩
    rintro ρ s ⟨rfl, o6, rfl⟩
    rw [WS_seq, WS_nm]
    try simp only [W_kcmp, W_mcmp, W_ix, W_dix, W_var, W_C, W_Str, W_Int, W_Dsp, W_bin, W_ktr, W_knt, W_mnt, W_mand, W_mor, W_mif, W_kchn, W_neg, W_inst, W_it, W_rng, W_zip, W_tup, W_lst, W_rev, W_pt0, W_pt1, W_sl, W_lset, W_cnt, W_lzip, W_app, W_ext, W_ins, W_get2, W_kg2, W_kg1, W_B1, W_B2, W_cal, W_cons, W_nil, V_gt, V_lt, V_le, V_ge, V_mod, V_fdiv, V_add, V_sub, V_mul, V_int, V_lenL, V_lenT, List.map_cons, List.map_nil, List.cons_append, List.nil_append, List.length_cons, List.length_nil, List.replicate, List.getElem?_cons_zero, List.getElem?_cons_succ, Option.some.injEq, exists_eq_left', List.set_cons_zero, List.set_cons_succ, Nat.reduceAdd, Nat.reduceLT, Nat.reduceSub, true_and, Nat.zero_lt_succ, List.length_map, V_d0, V_d1, W_mkF, V_pow9, V_pow18, lineLen, Nat.reduceLeDiff, if_true, if_false, W_pure, V_ix0, V_ix1, V_ix2, V_ixL0, V_ixL1]
    refine call_tree hsg rfl t4 (by omega) fun tr c5 htr t5 => ?_
    try simp only [W_kcmp, W_mcmp, W_ix, W_dix, W_var, W_C, W_Str, W_Int, W_Dsp, W_bin, W_ktr, W_knt, W_mnt, W_mand, W_mor, W_mif, W_kchn, W_neg, W_inst, W_it, W_rng, W_zip, W_tup, W_lst, W_rev, W_pt0, W_pt1, W_sl, W_lset, W_cnt, W_lzip, W_app, W_ext, W_ins, W_get2, W_kg2, W_kg1, W_B1, W_B2, W_cal, W_cons, W_nil, V_gt, V_lt, V_le, V_ge, V_mod, V_fdiv, V_add, V_sub, V_mul, V_int, V_lenL, V_lenT, List.map_cons, List.map_nil, List.cons_append, List.nil_append, List.length_cons, List.length_nil, List.replicate, List.getElem?_cons_zero, List.getElem?_cons_succ, Option.some.injEq, exists_eq_left', List.set_cons_zero, List.set_cons_succ, Nat.reduceAdd, Nat.reduceLT, Nat.reduceSub, true_and, Nat.zero_lt_succ, List.length_map, V_d0, V_d1, W_mkF, V_pow9, V_pow18, lineLen, Nat.reduceLeDiff, if_true, if_false, W_pure, V_ix0, V_ix1, V_ix2, V_ixL0, V_ixL1]
    obtain ⟨wi, ⟨w1, w2⟩, w3, w4⟩ := wt_ok hWM 5 tr htr
    have hw : (wi).natAbs < 2 ^ 64 := by
      have : BW 5 < 2 ^ 60 := by decide
      omega
    rw [WS_seq]
    refine WS_no (Wb_neD (x := .str (D.int wi).py.shown) (y := .str (D.int wi).py.shown) (K_repr (x := .int wi) ?_ (Nice.int hw).rep) (K_repr (x := .int wi) ?_ (Nice.int hw).rep) (fit_shown (Nice.int hw)) (fit_shown (Nice.int hw))) (by rw [deq_str, decide_eq_true rfl]; rfl) ?_
    · rw [W_cal]
      try simp only [W_kcmp, W_mcmp, W_ix, W_dix, W_var, W_C, W_Str, W_Int, W_Dsp, W_bin, W_ktr, W_knt, W_mnt, W_mand, W_mor, W_mif, W_kchn, W_neg, W_inst, W_it, W_rng, W_zip, W_tup, W_lst, W_rev, W_pt0, W_pt1, W_sl, W_lset, W_cnt, W_lzip, W_app, W_ext, W_ins, W_get2, W_kg2, W_kg1, W_B1, W_B2, W_cal, W_cons, W_nil, V_gt, V_lt, V_le, V_ge, V_mod, V_fdiv, V_add, V_sub, V_mul, V_int, V_lenL, V_lenT, List.map_cons, List.map_nil, List.cons_append, List.nil_append, List.length_cons, List.length_nil, List.replicate, List.getElem?_cons_zero, List.getElem?_cons_succ, Option.some.injEq, exists_eq_left', List.set_cons_zero, List.set_cons_succ, Nat.reduceAdd, Nat.reduceLT, Nat.reduceSub, true_and, Nat.zero_lt_succ, List.length_map, V_d0, V_d1, W_mkF, V_pow9, V_pow18, lineLen, Nat.reduceLeDiff, if_true, if_false, W_pure, V_ix0, V_ix1, V_ix2, V_ixL0, V_ixL1]
      exact Ret.call (ds := [mkD mk, tr]) (mark_of_ok (w3 12 (by decide))) ⟨rfl, rfl⟩
    · rw [W_cal]
      try simp only [W_kcmp, W_mcmp, W_ix, W_dix, W_var, W_C, W_Str, W_Int, W_Dsp, W_bin, W_ktr, W_knt, W_mnt, W_mand, W_mor, W_mif, W_kchn, W_neg, W_inst, W_it, W_rng, W_zip, W_tup, W_lst, W_rev, W_pt0, W_pt1, W_sl, W_lset, W_cnt, W_lzip, W_app, W_ext, W_ins, W_get2, W_kg2, W_kg1, W_B1, W_B2, W_cal, W_cons, W_nil, V_gt, V_lt, V_le, V_ge, V_mod, V_fdiv, V_add, V_sub, V_mul, V_int, V_lenL, V_lenT, List.map_cons, List.map_nil, List.cons_append, List.nil_append, List.length_cons, List.length_nil, List.replicate, List.getElem?_cons_zero, List.getElem?_cons_succ, Option.some.injEq, exists_eq_left', List.set_cons_zero, List.set_cons_succ, Nat.reduceAdd, Nat.reduceLT, Nat.reduceSub, true_and, Nat.zero_lt_succ, List.length_map, V_d0, V_d1, W_mkF, V_pow9, V_pow18, lineLen, Nat.reduceLeDiff, if_true, if_false, W_pure, V_ix0, V_ix1, V_ix2, V_ixL0, V_ixL1]
      exact Ret.call (ds := [mkD mk, tr]) (w4 _ (fun s R r => W_dictMk r) 12 (by decide)) ⟨rfl, rfl⟩
    rw [WS_nx]
    simp only
    rw [WS_seq, WS_nm]
    try simp only [W_kcmp, W_mcmp, W_ix, W_dix, W_var, W_C, W_Str, W_Int, W_Dsp, W_bin, W_ktr, W_knt, W_mnt, W_mand, W_mor, W_mif, W_kchn, W_neg, W_inst, W_it, W_rng, W_zip, W_tup, W_lst, W_rev, W_pt0, W_pt1, W_sl, W_lset, W_cnt, W_lzip, W_app, W_ext, W_ins, W_get2, W_kg2, W_kg1, W_B1, W_B2, W_cal, W_cons, W_nil, V_gt, V_lt, V_le, V_ge, V_mod, V_fdiv, V_add, V_sub, V_mul, V_int, V_lenL, V_lenT, List.map_cons, List.map_nil, List.cons_append, List.nil_append, List.length_cons, List.length_nil, List.replicate, List.getElem?_cons_zero, List.getElem?_cons_succ, Option.some.injEq, exists_eq_left', List.set_cons_zero, List.set_cons_succ, Nat.reduceAdd, Nat.reduceLT, Nat.reduceSub, true_and, Nat.zero_lt_succ, List.length_map, V_d0, V_d1, W_mkF, V_pow9, V_pow18, lineLen, Nat.reduceLeDiff, if_true, if_false, W_pure, V_ix0, V_ix1, V_ix2, V_ixL0, V_ixL1]
    refine call_draw rfl t5 (by omega) (by decide) (by decide) fun k1 c6 g1 g2 t6 => ?_
    obtain ⟨m, rfl⟩ : ∃ m : Nat, k1 = m := ⟨k1.toNat, by omega⟩
    try simp only [W_kcmp, W_mcmp, W_ix, W_dix, W_var, W_C, W_Str, W_Int, W_Dsp, W_bin, W_ktr, W_knt, W_mnt, W_mand, W_mor, W_mif, W_kchn, W_neg, W_inst, W_it, W_rng, W_zip, W_tup, W_lst, W_rev, W_pt0, W_pt1, W_sl, W_lset, W_cnt, W_lzip, W_app, W_ext, W_ins, W_get2, W_kg2, W_kg1, W_B1, W_B2, W_cal, W_cons, W_nil, V_gt, V_lt, V_le, V_ge, V_mod, V_fdiv, V_add, V_sub, V_mul, V_int, V_lenL, V_lenT, List.map_cons, List.map_nil, List.cons_append, List.nil_append, List.length_cons, List.length_nil, List.replicate, List.getElem?_cons_zero, List.getElem?_cons_succ, Option.some.injEq, exists_eq_left', List.set_cons_zero, List.set_cons_succ, Nat.reduceAdd, Nat.reduceLT, Nat.reduceSub, true_and, Nat.zero_lt_succ, List.length_map, V_d0, V_d1, W_mkF, V_pow9, V_pow18, lineLen, Nat.reduceLeDiff, if_true, if_false, W_pure, V_ix0, V_ix1, V_ix2, V_ixL0, V_ixL1]
    rw [show (1 : Int) + (m : Int) = ((1 + m : Nat) : Int) by omega]
    refine call_plan hrs nr.fit (by omega) (by omega) rfl t6 (by omega) fun p c7 hp t7 => ?_
    try simp only [W_kcmp, W_mcmp, W_ix, W_dix, W_var, W_C, W_Str, W_Int, W_Dsp, W_bin, W_ktr, W_knt, W_mnt, W_mand, W_mor, W_mif, W_kchn, W_neg, W_inst, W_it, W_rng, W_zip, W_tup, W_lst, W_rev, W_pt0, W_pt1, W_sl, W_lset, W_cnt, W_lzip, W_app, W_ext, W_ins, W_get2, W_kg2, W_kg1, W_B1, W_B2, W_cal, W_cons, W_nil, V_gt, V_lt, V_le, V_ge, V_mod, V_fdiv, V_add, V_sub, V_mul, V_int, V_lenL, V_lenT, List.map_cons, List.map_nil, List.cons_append, List.nil_append, List.length_cons, List.length_nil, List.replicate, List.getElem?_cons_zero, List.getElem?_cons_succ, Option.some.injEq, exists_eq_left', List.set_cons_zero, List.set_cons_succ, Nat.reduceAdd, Nat.reduceLT, Nat.reduceSub, true_and, Nat.zero_lt_succ, List.length_map, V_d0, V_d1, W_mkF, V_pow9, V_pow18, lineLen, Nat.reduceLeDiff, if_true, if_false, W_pure, V_ix0, V_ix1, V_ix2, V_ixL0, V_ixL1]
    -- the plan may be opened
    have fin : ∀ (Q : Fl → Ev.Env → Store → Prop) (q : D) (c8 : Cell), PlanOk rs true 8 q → TapeOk (200 + i * 1000 + 600) c8 → WS (sSeq (sFor (.nm 9) (mIt (mBin .add (mLst false (mCons (mVar 8) (mNil))) (mLc false [10] (.nm 10) (mIt (mSl (mVar 8) (some (mC (.int 1))) (none))) (kTr (mInst .tuple (mVar 10))) (mVar 10)))) (sSeq (sIf (kCmp .ne (mCal false (c_way_of 12) (mCons (mVar 3) (mCons (mVar 5) (mCons (mVar 9) (mNil))))) (mCal false (c__law_way 12) (mCons (mVar 3) (mCons (mVar 5) (mCons (mVar 9) (mNil)))))) (sSeq (sRet (mC (.bl false))) (sNx)) (sNx)) (sNx))) (sNx)) [some (.scr ns), some (.loc 0), some (.d (sgD sg)), some (.d (.tup rs)), some (.d (.int (i : Int))), some (.d (mkD mk)), o6, some (.d tr), some (.d q), o9, o10, o11] (c8 :: g)
        (Turn (fun ρ s => ∃ ci g o4 o5 o6 o7 o8 o9 o10 o11, s = ci :: g ∧ TapeOk (200 + (i + 1) * 1000) ci ∧ ρ = [some (.scr ns), some (.loc 0), some (.d (sgD sg)), some (.d (.tup rs)), o4, o5, o6, o7, o8, o9, o10, o11]) Q) := fun Q q c8 hq t8 => by
      obtain ⟨w, es, eq, le⟩ := plan_tup hq
      have prts : ∀ x ∈ [q] ++ es.filter (tyB .tuple), ∃ v ∈ ways3, Ret (c_way_of 12) [.tup rs, mkD mk, x] (.str v) ∧ Ret (c__law_way 12) [.tup rs, mkD mk, x] (.str v) := fun x hx => by
        rcases List.mem_append.mp hx with z | z
        · simp at z
          obtain ⟨v, hv, h1, h2⟩ := way_ok hWM hrs 8 q hq
          exact ⟨v, hv, by rw [z]; exact h1 12 (by decide), by rw [z]; exact h2 12 (by decide)⟩
        · obtain ⟨z1, z2⟩ := List.mem_filter.mp z
          obtain ⟨v, hv, h1, h2⟩ := way_ok hWM hrs 7 x (part_ok hq eq z1 z2)
          exact ⟨v, hv, h1 12 (by decide), h2 12 (by decide)⟩
      have lf := List.length_filter_le (tyB .tuple) es
      rw [WS_seq]
      refine WS_for ?_
      rw [W_it, W_bin]
      try simp only [W_kcmp, W_mcmp, W_ix, W_dix, W_var, W_C, W_Str, W_Int, W_Dsp, W_bin, W_ktr, W_knt, W_mnt, W_mand, W_mor, W_mif, W_kchn, W_neg, W_inst, W_it, W_rng, W_zip, W_tup, W_lst, W_rev, W_pt0, W_pt1, W_sl, W_lset, W_cnt, W_lzip, W_app, W_ext, W_ins, W_get2, W_kg2, W_kg1, W_B1, W_B2, W_cal, W_cons, W_nil, V_gt, V_lt, V_le, V_ge, V_mod, V_fdiv, V_add, V_sub, V_mul, V_int, V_lenL, V_lenT, List.map_cons, List.map_nil, List.cons_append, List.nil_append, List.length_cons, List.length_nil, List.replicate, List.getElem?_cons_zero, List.getElem?_cons_succ, Option.some.injEq, exists_eq_left', List.set_cons_zero, List.set_cons_succ, Nat.reduceAdd, Nat.reduceLT, Nat.reduceSub, true_and, Nat.zero_lt_succ, List.length_map, V_d0, V_d1, W_mkF, V_pow9, V_pow18, lineLen, Nat.reduceLeDiff, if_true, if_false, W_pure, V_ix0, V_ix1, V_ix2, V_ixL0, V_ixL1]
      refine W_lcF es (tyB .tuple) (fun Q z => ?_) (by unfold lineLen; omega) (by show 10 < 12; decide) (fun x hx => Wb_inst (K_var rfl)) ?_
      · try simp only [W_kcmp, W_mcmp, W_ix, W_dix, W_var, W_C, W_Str, W_Int, W_Dsp, W_bin, W_ktr, W_knt, W_mnt, W_mand, W_mor, W_mif, W_kchn, W_neg, W_inst, W_it, W_rng, W_zip, W_tup, W_lst, W_rev, W_pt0, W_pt1, W_sl, W_lset, W_cnt, W_lzip, W_app, W_ext, W_ins, W_get2, W_kg2, W_kg1, W_B1, W_B2, W_cal, W_cons, W_nil, V_gt, V_lt, V_le, V_ge, V_mod, V_fdiv, V_add, V_sub, V_mul, V_int, V_lenL, V_lenT, List.map_cons, List.map_nil, List.cons_append, List.nil_append, List.length_cons, List.length_nil, List.replicate, List.getElem?_cons_zero, List.getElem?_cons_succ, Option.some.injEq, exists_eq_left', List.set_cons_zero, List.set_cons_succ, Nat.reduceAdd, Nat.reduceLT, Nat.reduceSub, true_and, Nat.zero_lt_succ, List.length_map, V_d0, V_d1, W_mkF, V_pow9, V_pow18, lineLen, Nat.reduceLeDiff, if_true, if_false, W_pure, V_ix0, V_ix1, V_ix2, V_ixL0, V_ixL1]
        rw [eq, V_slT, tl_cut, V_ivT]
        exact z
      refine V_addL (by show 1 + _ ≤ lineLen; unfold lineLen; omega) ?_
      rw [V_ivL]
      refine ⟨fun j ρ s => s = c8 :: g ∧ ∃ o9, ρ = [some (.scr ns), some (.loc 0), some (.d (sgD sg)), some (.d (.tup rs)), some (.d (.int (i : Int))), some (.d (mkD mk)), o6, some (.d tr), some (.d q), o9, o10, o11], ⟨rfl, _, rfl⟩, ?_, ?_⟩
      · rintro j v ρ s hv ⟨rfl, o9, rfl⟩
        obtain ⟨d, ed, em, rfl⟩ := dat_at hv
        obtain ⟨y, hy, h1, h2⟩ := prts d em
        refine ⟨_, rfl, ?_⟩
        rw [WS_seq]
        refine WS_no (Wb_neD (x := .str y) (y := .str y) ?_ ?_ (fit_str (ways3_ok hy)) (fit_str (ways3_ok hy))) (by rw [deq_str, decide_eq_true rfl]; rfl) ?_
        · rw [W_cal]
          try simp only [W_kcmp, W_mcmp, W_ix, W_dix, W_var, W_C, W_Str, W_Int, W_Dsp, W_bin, W_ktr, W_knt, W_mnt, W_mand, W_mor, W_mif, W_kchn, W_neg, W_inst, W_it, W_rng, W_zip, W_tup, W_lst, W_rev, W_pt0, W_pt1, W_sl, W_lset, W_cnt, W_lzip, W_app, W_ext, W_ins, W_get2, W_kg2, W_kg1, W_B1, W_B2, W_cal, W_cons, W_nil, V_gt, V_lt, V_le, V_ge, V_mod, V_fdiv, V_add, V_sub, V_mul, V_int, V_lenL, V_lenT, List.map_cons, List.map_nil, List.cons_append, List.nil_append, List.length_cons, List.length_nil, List.replicate, List.getElem?_cons_zero, List.getElem?_cons_succ, Option.some.injEq, exists_eq_left', List.set_cons_zero, List.set_cons_succ, Nat.reduceAdd, Nat.reduceLT, Nat.reduceSub, true_and, Nat.zero_lt_succ, List.length_map, V_d0, V_d1, W_mkF, V_pow9, V_pow18, lineLen, Nat.reduceLeDiff, if_true, if_false, W_pure, V_ix0, V_ix1, V_ix2, V_ixL0, V_ixL1]
          exact Ret.call (ds := [.tup rs, mkD mk, d]) h1 ⟨rfl, rfl⟩
        · rw [W_cal]
          try simp only [W_kcmp, W_mcmp, W_ix, W_dix, W_var, W_C, W_Str, W_Int, W_Dsp, W_bin, W_ktr, W_knt, W_mnt, W_mand, W_mor, W_mif, W_kchn, W_neg, W_inst, W_it, W_rng, W_zip, W_tup, W_lst, W_rev, W_pt0, W_pt1, W_sl, W_lset, W_cnt, W_lzip, W_app, W_ext, W_ins, W_get2, W_kg2, W_kg1, W_B1, W_B2, W_cal, W_cons, W_nil, V_gt, V_lt, V_le, V_ge, V_mod, V_fdiv, V_add, V_sub, V_mul, V_int, V_lenL, V_lenT, List.map_cons, List.map_nil, List.cons_append, List.nil_append, List.length_cons, List.length_nil, List.replicate, List.getElem?_cons_zero, List.getElem?_cons_succ, Option.some.injEq, exists_eq_left', List.set_cons_zero, List.set_cons_succ, Nat.reduceAdd, Nat.reduceLT, Nat.reduceSub, true_and, Nat.zero_lt_succ, List.length_map, V_d0, V_d1, W_mkF, V_pow9, V_pow18, lineLen, Nat.reduceLeDiff, if_true, if_false, W_pure, V_ix0, V_ix1, V_ix2, V_ixL0, V_ixL1]
          exact Ret.call (ds := [.tup rs, mkD mk, d]) h2 ⟨rfl, rfl⟩
        · rw [WS_nx]
          exact ⟨rfl, _, rfl⟩
      · rintro ρ s ⟨rfl, o9, rfl⟩
        exact ⟨c8, g, _, _, _, _, _, _, _, _, rfl, t8.mono (by omega), rfl⟩
    rw [WS_seq, WS_if, W_kcmp]
    try simp only [W_kcmp, W_mcmp, W_ix, W_dix, W_var, W_C, W_Str, W_Int, W_Dsp, W_bin, W_ktr, W_knt, W_mnt, W_mand, W_mor, W_mif, W_kchn, W_neg, W_inst, W_it, W_rng, W_zip, W_tup, W_lst, W_rev, W_pt0, W_pt1, W_sl, W_lset, W_cnt, W_lzip, W_app, W_ext, W_ins, W_get2, W_kg2, W_kg1, W_B1, W_B2, W_cal, W_cons, W_nil, V_gt, V_lt, V_le, V_ge, V_mod, V_fdiv, V_add, V_sub, V_mul, V_int, V_lenL, V_lenT, List.map_cons, List.map_nil, List.cons_append, List.nil_append, List.length_cons, List.length_nil, List.replicate, List.getElem?_cons_zero, List.getElem?_cons_succ, Option.some.injEq, exists_eq_left', List.set_cons_zero, List.set_cons_succ, Nat.reduceAdd, Nat.reduceLT, Nat.reduceSub, true_and, Nat.zero_lt_succ, List.length_map, V_d0, V_d1, W_mkF, V_pow9, V_pow18, lineLen, Nat.reduceLeDiff, if_true, if_false, W_pure, V_ix0, V_ix1, V_ix2, V_ixL0, V_ixL1]
    refine call_draw rfl t7 (by omega) (by decide) (by decide) fun k2 c8 g3 g4 t8 => ?_
    try simp only [W_kcmp, W_mcmp, W_ix, W_dix, W_var, W_C, W_Str, W_Int, W_Dsp, W_bin, W_ktr, W_knt, W_mnt, W_mand, W_mor, W_mif, W_kchn, W_neg, W_inst, W_it, W_rng, W_zip, W_tup, W_lst, W_rev, W_pt0, W_pt1, W_sl, W_lset, W_cnt, W_lzip, W_app, W_ext, W_ins, W_get2, W_kg2, W_kg1, W_B1, W_B2, W_cal, W_cons, W_nil, V_gt, V_lt, V_le, V_ge, V_mod, V_fdiv, V_add, V_sub, V_mul, V_int, V_lenL, V_lenT, List.map_cons, List.map_nil, List.cons_append, List.nil_append, List.length_cons, List.length_nil, List.replicate, List.getElem?_cons_zero, List.getElem?_cons_succ, Option.some.injEq, exists_eq_left', List.set_cons_zero, List.set_cons_succ, Nat.reduceAdd, Nat.reduceLT, Nat.reduceSub, true_and, Nat.zero_lt_succ, List.length_map, V_d0, V_d1, W_mkF, V_pow9, V_pow18, lineLen, Nat.reduceLeDiff, if_true, if_false, W_pure, V_ix0, V_ix1, V_ix2, V_ixL0, V_ixL1]
    refine (V_eq fit_int fit_int).mpr ?_
    split
    · rw [WS_seq, WS_nm]
      try simp only [W_kcmp, W_mcmp, W_ix, W_dix, W_var, W_C, W_Str, W_Int, W_Dsp, W_bin, W_ktr, W_knt, W_mnt, W_mand, W_mor, W_mif, W_kchn, W_neg, W_inst, W_it, W_rng, W_zip, W_tup, W_lst, W_rev, W_pt0, W_pt1, W_sl, W_lset, W_cnt, W_lzip, W_app, W_ext, W_ins, W_get2, W_kg2, W_kg1, W_B1, W_B2, W_cal, W_cons, W_nil, V_gt, V_lt, V_le, V_ge, V_mod, V_fdiv, V_add, V_sub, V_mul, V_int, V_lenL, V_lenT, List.map_cons, List.map_nil, List.cons_append, List.nil_append, List.length_cons, List.length_nil, List.replicate, List.getElem?_cons_zero, List.getElem?_cons_succ, Option.some.injEq, exists_eq_left', List.set_cons_zero, List.set_cons_succ, Nat.reduceAdd, Nat.reduceLT, Nat.reduceSub, true_and, Nat.zero_lt_succ, List.length_map, V_d0, V_d1, W_mkF, V_pow9, V_pow18, lineLen, Nat.reduceLeDiff, if_true, if_false, W_pure, V_ix0, V_ix1, V_ix2, V_ixL0, V_ixL1]
      refine call_opened hrs hp rfl t8 (by omega) fun q c9 hq t9 => ?_
      try simp only [W_kcmp, W_mcmp, W_ix, W_dix, W_var, W_C, W_Str, W_Int, W_Dsp, W_bin, W_ktr, W_knt, W_mnt, W_mand, W_mor, W_mif, W_kchn, W_neg, W_inst, W_it, W_rng, W_zip, W_tup, W_lst, W_rev, W_pt0, W_pt1, W_sl, W_lset, W_cnt, W_lzip, W_app, W_ext, W_ins, W_get2, W_kg2, W_kg1, W_B1, W_B2, W_cal, W_cons, W_nil, V_gt, V_lt, V_le, V_ge, V_mod, V_fdiv, V_add, V_sub, V_mul, V_int, V_lenL, V_lenT, List.map_cons, List.map_nil, List.cons_append, List.nil_append, List.length_cons, List.length_nil, List.replicate, List.getElem?_cons_zero, List.getElem?_cons_succ, Option.some.injEq, exists_eq_left', List.set_cons_zero, List.set_cons_succ, Nat.reduceAdd, Nat.reduceLT, Nat.reduceSub, true_and, Nat.zero_lt_succ, List.length_map, V_d0, V_d1, W_mkF, V_pow9, V_pow18, lineLen, Nat.reduceLeDiff, if_true, if_false, W_pure, V_ix0, V_ix1, V_ix2, V_ixL0, V_ixL1]
      rw [WS_nx]
      exact fin _ q c9 hq (t9.mono (by omega))
    · rw [WS_nx]
      exact fin _ p c8 hp.any (t8.mono (by omega))
  · rintro ρ s ⟨ci, g, o4, o5, o6, o7, o8, o9, o10, o11, rfl, ti, rfl⟩
    simp only
    rw [WS_seq, WS_ret, W_cal, W_nil]
    exact Ret.call (ds := []) great_ok rfl
theorem law_ok (ns : List Int) (h : ns.length ≤ 63) : ∃ s, c_law [.scr ns] [] = .ok (.d (.bl true)) s := by
  obtain ⟨v, s, e, rfl⟩ := (w_law ns).get
  exact ⟨s, e⟩
end My
set_option maxRecDepth 100000
set_option maxHeartbeats 0
namespace My
open Ev PySem PySem.Spec PyProof.Rows L2
/-! the top -/
def names : List PySem.Str := ([(Str.ofString "is_whole"), (Str.ofString "INNER"), (Str.ofString "INNER_ALL"), (Str.ofString "many_inner"), (Str.ofString "inner_of"), (Str.ofString "unknowns_in"), (Str.ofString "rule_of"), (Str.ofString "FALLS"), (Str.ofString "KEEPS"), (Str.ofString "RISES"), (Str.ofString "GREATEST_WEIGHT"), (Str.ofString "is_marks"), (Str.ofString "mark_by"), (Str.ofString "mark_of"), (Str.ofString "way_of_rule"), (Str.ofString "way_of"), (Str.ofString "_law_tape"), (Str.ofString "_law_draw"), (Str.ofString "_law_names"), (Str.ofString "_law_signs"), (Str.ofString "_law_left"), (Str.ofString "_law_right"), (Str.ofString "_law_rules"), (Str.ofString "_law_leaf"), (Str.ofString "_law_plan"), (Str.ofString "_law_weight"), (Str.ofString "_law_unknowns"), (Str.ofString "_law_rule_way"), (Str.ofString "_law_way"), (Str.ofString "_law_marks"), (Str.ofString "_law_bent"), (Str.ofString "_law_is_marks"), (Str.ofString "_law_tree"), (Str.ofString "_law_opened"), (Str.ofString "_law_told_right"), (Str.ofString "_law_great_right")] : List PySem.Str)
abbrev Rw : PySem.W.OpenRow := PySem.W.OpenLaw.row PySem.Challenge.rw_ruleplans_k57_marks_and_ways
abbrev hk : PySem.W.Hook := hookE 4 fa fn ts
def ob (s : PySem.W.SharedT) : AlE := obsEG 4 fa fn ts (HandSHeadRun.getT s)
theorem ob_eq (s : PySem.W.SharedT) : ob s = hk.obs s.abs := obsEG_eq (HandSHeadRun.getT_eq s)
theorem top_run (w : World) : HandSHeadRun.RunEq Rw (PySem.W.view Rw.prog [41]) hk ob 2000 names w := by
  refine PySem.W.byRow2 "special-get-raises" (P := fun w => HandSHeadRun.RunEq Rw (PySem.W.view Rw.prog [41]) hk ob 2000 names w) ?_ ?_ w
  · intro w os
    kernel_rfl
  · intro w os
    kernel_rfl
theorem law_facts {w : World} {h : Heap} {mg : Str → Option Value} {f : Addr} (G : h.Ns mainGlobals mg) (hf : mg ("law" : Str) = some (.ref f)) (Y : ∃ K : PySem.W.Frag, K.In h ∧ SaysE fa fn ts w K) :
    ∃ (K : PySem.W.Frag) (fd : FuncData) (sp : Sp), K.In h ∧ (∀ (s : Shared) (u : Value), BindsTo s fd ⟨[u], []⟩ [((Str.ofString "_law_script"), u)]) ∧
      (∀ (H : Hp) (a : Addr) (ns : List Int), ns.length ≤ 63 → Only H → SqL K H a (ns.map V.int) → sp [.ref a] H (fun v _ => v = .bl true) fun _ _ _ => False) ∧
      ∀ base : Heap, K.In base → base.Ns mainGlobals mg → FnG PG w K mg base CX0 87 f fd [(Str.ofString "_law_script")] sp := by
  obtain ⟨K, KX, c⟩ := Y
  have U : Hd h K mg w := ⟨KX, G, c⟩
  obtain ⟨fd, F⟩ := c.d.def_ 30 (d := dd "law" 41) rfl
  have e := hf.symm.trans (gl_law U)
  cases e
  have b := FunD.bindsA (ps := [(Str.ofString "_law_script")]) F fun _ _ _ _ _ _ us hl => match us, hl with | [_], _ => rfl
  exact ⟨K, fd, spM (C0 K) false 1 c_law, KX, fun s u => b s [u] rfl, fun H a ns hn hO hS => law_sp rfl law_ok H a ns hn hO hS, fun base _ _ => fn_law U F⟩
end My
open PySem PySem.W PyProof.Rows L2
theorem PySem.Challenge.cw_ruleplans_k57_marks_and_ways_holds : PySem.Challenge.rw_ruleplans_k57_marks_and_ways.Holds := by
  w_on; o_law
  refine HandSHeadRun.head_any (r := OpenLaw.row PySem.Challenge.rw_ruleplans_k57_marks_and_ways) (q := view (OpenLaw.row PySem.Challenge.rw_ruleplans_k57_marks_and_ways).prog [41]) (H := My.hk) (ob := My.ob) (M := 2000) (loose := My.names) (d := HandSHeadRun.topDef (OpenLaw.row PySem.Challenge.rw_ruleplans_k57_marks_and_ways).prog 41) (kwd := []) My.ob_eq
    (by kernel_rfl) (fun s => by kernel_rfl) My.top_run (by kernel_rfl) (by kernel_rfl) (by kernel_rfl) (by rfl) (by first | assumption | decide +kernel) (by decide +kernel) ⟨rfl, rfl, rfl, rfl, rfl, by decide +kernel⟩ ?hw ?hc
  case hw => w_witness2
  case hc =>
    refine Ev.walkG (l := PySem.Challenge.rw_ruleplans_k57_marks_and_ways) (n := 63) (k := 87) (x := (PySem.Str.ofString "_law_script")) (CX := L2.CX0) rfl (by decide) (by kernel_rfl) ⟨rfl, by decide, by decide⟩ ?F (fun _ _ _ _ z => z)
    intro w mg fa h Y G hmg0
    refine My.law_facts G ?_ Y
    have e : (HandSHeadRun.topDef (OpenLaw.row PySem.Challenge.rw_ruleplans_k57_marks_and_ways).prog 41).name = ("law" : PySem.Str) := by kernel_rfl
    rw [← e]
    exact hmg0
