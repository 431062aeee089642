import PyProof.Rows.All
import Wide.All
import OpenK.AllK
import Wide.FinOn
import HandS.ForMost
import HandS.ForExc
import HandS.TryMany
import HandS.CallSlots
import HandS.Wide
import HandS.TupAny
import HandS.IsInst
import HandS.Zip
import HandS.Lambda
import HandS.Walk
import HandS.ExcIs
import HandS.Gcd
import KE.GoesEnum
import KE.KExcSuper
import HandS.ExcField
import HandS.Style
import HandS.TryOnly
import KE.KNestM
import HandS.EndTab
import PySem.Challenge.RW_onebill_k11_lives_and_dials_refused
section
set_option Elab.async false
set_option linter.all false
set_option maxRecDepth 100000
/-! Mi: a small language of Python's plain parts, and what its texts compute. -/
namespace Mi
open PySem

/-- plain values: tuples are trees, whatever can change stands in the store -/
inductive PV where
  | non | bl (b : Bool) | int (i : Int) | str (s : Str) | tup (l : List PV) | ref (n : Nat)
  deriving Inhabited

/-- what stands in the store -/
inductive Ob where
  | lst (l : List PV)
  | fro (l : List PV)
  | dct (kvs : List (Str × PV))
  | ins (c : Nat) (fs : List (Str × PV))
  deriving Inhabited
abbrev Sto := List Ob
abbrev Env1 := List (Option PV)

inductive M (α : Type) where
  | ok (a : α) (S : Sto)
  | exc (c : Nat) (v : PV) (S : Sto)
  | bad
def M.bind {α β : Type} (m : M α) (f : α → Sto → M β) : M β := match m with
  | .ok a S => f a S
  | .exc c v S => .exc c v S
  | .bad => .bad
@[simp] theorem M.bind_ok {α β : Type} (a : α) (S : Sto) (f : α → Sto → M β) : M.bind (.ok a S) f = f a S := rfl
@[simp] theorem M.bind_exc {α β : Type} (c : Nat) (v : PV) (S : Sto) (f : α → Sto → M β) : M.bind (.exc c v S) f = .exc c v S := rfl
@[simp] theorem M.bind_bad {α β : Type} (f : α → Sto → M β) : M.bind .bad f = .bad := rfl

inductive BOp where | add | sub | mul | fdv | mod | pow
  deriving DecidableEq
inductive COp where | eq | ne | lt | le | gt | ge | is | isn | inn | nin
  deriving DecidableEq
/-- built-ins of values -/
inductive BI where | len | abs | min2 | max2 | sum | all | any | int | tuple | list | gcd
  deriving DecidableEq
inductive TyN where | int | bool | str | tuple | list
  deriving DecidableEq
/-- methods of built-in types -/
inductive MT where | append | extend | pop | popAt
  deriving DecidableEq

/-- what an except clause makes of its error -/
inductive XE where
  | str (s : Str) | fld (f : Str) | isi (c : Nat) | isv | tup (l : List XE) | ite (c a b : XE)
/-- a def that calls what it is handed and tells what came: told where nothing came, its clauses: the class, whether it names the error, what it makes of it -/
structure Ct where
  e0 : XE
  hs : List (Nat × Bool × XE)
mutual
inductive E where
  | non | bl (b : Bool) | int (i : Int) | str (s : Str)
  | loc (i : Nat)
  | glo (g : Nat)
  | tup (es : Es) | lst (es : Es)
  | bin (op : BOp) (a b : E)
  | neg (a : E) | inv (a : E) | and (a b : E) | or (a b : E)
  | cmp (op : COp) (a b : E) | chn (op op' : COp) (a b c : E)
  | ite (c a b : E)
  | idx (a b : E) | slc (a : E) (lo hi : Eo)
  | call (f : Nat) (es : Es)
  | calk (f : Nat) (es : Es) (ks : List Str) (kes : Es)
  | bi (b : BI) (es : Es)
  | isi (a : E) (t : TyN)
  | meth (m : MT) (o : E) (es : Es)
  | fld (o : E) (x : Str)
  | new (c : Nat) (es : Es)
  | mca (m : Str) (o : E) (es : Es)
  | dct (ks : List Str) (es : Es)
  | comp (own : List Nat) (tg : List Nat) (elt : E) (src : Sr) (c : Eo)
  | lam (g : Nat) (e : E)
inductive Es where
  | nil | cons (e : E) (es : Es)
inductive Eo where
  | no | so (e : E)
inductive Sr where
  | seq (e : E) | rng1 (e : E) | rng2 (a b : E) | enm (e : E) | zip (a b : E)
end

inductive Tg where
  | loc (i : Nat) | tup (is : List Nat) | idx (o i : E) | fld (o : E) (x : Str)
mutual
inductive S where
  | exp (e : E)
  | asg (t : Tg) (e : E)
  | par (is : List Nat) (es : Es)
  | aug (i : Nat) (op : BOp) (e : E)
  | ret (e : E) | retN | pass | brk | cnt
  | ife (c : E) (a b : Ss)
  | for_ (tg : List Nat) (src : Sr) (b : Ss)
  | whl (c : E) (b : Ss)
  | rai (c : Nat) (es : Es)
  | tryR (e : E) (c : Nat) (v : E)
inductive Ss where
  | nil | cons (s : S) (ss : Ss)
end
/-- a def: how many parameters (the first names), names in all, its body -/
structure Df where
  ps : List Str
  n : Nat
  body : Ss

/-! ### values -/
def eqF : PV → PV → Bool
  | .non, .non => true
  | .bl a, .bl b => a == b
  | .bl a, .int b => (if a then 1 else 0) == b
  | .int a, .bl b => a == (if b then 1 else 0)
  | .int a, .int b => a == b
  | .str a, .str b => a == b
  | _, _ => false
def flat : PV → Bool
  | .non => true | .bl _ => true | .int _ => true | .str _ => true | _ => false
/-- as data, lists by what they hold now -/
def toD (S : Sto) : Nat → PV → Option PyData
  | 0, _ => none
  | k + 1, v => match v with
    | .non => some .none
    | .bl b => some (.bool b)
    | .int i => some (.int i)
    | .str s => some (.str s)
    | .tup l => (l.mapM (toD S k)).map .tuple
    | .ref n => match S[n]? with
      | some (.lst l) => (l.mapM (toD S k)).map .list
      | some (.fro l) => (l.mapM (toD S k)).map .list
      | _ => none
def pyEq (S : Sto) (x y : PV) : Option Bool := match x, y with
  | .int i, .int j => some (decide (i = j))
  | .str i, .str j => some (decide (i = j))
  | .bl i, .bl j => some (decide (i = j))
  | .non, .non => some true
  | x, y => match toD S 60 x, toD S 60 y with
    | some d, some e => if SeqAt.shaped d && SeqAt.shaped e then some (PyData.eqv d e) else none
    | _, _ => none
def tru (S : Sto) : PV → Option Bool
  | .non => some false
  | .bl b => some b
  | .int i => some (i != 0)
  | .str s => if s.length ≤ sizeLine then some ((s.length : Int) != 0) else none
  | .tup l => some (!l.isEmpty)
  | .ref n => match S[n]? with
    | some (.lst l) => some (!l.isEmpty)
    | some (.fro l) => some (!l.isEmpty)
    | _ => none
def one (v : Option PV) (S : Sto) : M PV := match v with
  | some v => .ok v S
  | none => .bad
def oneB (v : Option Bool) (S : Sto) : M PV := match v with
  | some b => .ok (.bl b) S
  | none => .bad
/-- the items of a tuple, a list -/
def items (S : Sto) : PV → Option (List PV)
  | .tup l => some l
  | .ref n => match S[n]? with
    | some (.lst l) => some l
    | some (.fro l) => some l
    | _ => none
  | _ => none
def small (i : Int) : Bool := decide (-(2 ^ 64) < i ∧ i < 2 ^ 64)
def opB (op : BOp) (x y : PV) (S : Sto) : M PV := match op, x, y with
  | .add, .int i, .int j => .ok (.int (i + j)) S
  | .add, .tup l, .tup r => if l.length + r.length ≤ sizeLine then .ok (.tup (l ++ r)) S else .bad
  | .sub, .int i, .int j => .ok (.int (i - j)) S
  | .mul, .int i, .int j => if small i || small j || decide (i.natAbs.log2 + j.natAbs.log2 < 1000000) then .ok (.int (i * j)) S else .bad
  | .fdv, .int i, .int j => if decide (0 < j ∧ j.natAbs.log2 < 9000) then .ok (.int (i / j)) S else .bad
  | .mod, .int i, .int j => if decide (0 < j) then .ok (.int (i % j)) S else .bad
  | .pow, .int i, .int j => if decide (0 ≤ j ∧ j ≤ 1000 ∧ i.natAbs < 1000) then .ok (.int (i ^ j.toNat)) S else .bad
  | _, _, _ => .bad
def isIn (S : Sto) (x y : PV) : Option Bool := match items S y with
  | some l => if flat x && l.all flat then some (l.any fun z => eqF z x) else none
  | none => none
def opC (op : COp) (x y : PV) (S : Sto) : M PV := match op with
  | .eq => oneB (pyEq S x y) S
  | .ne => oneB ((pyEq S x y).map (!·)) S
  | .lt => match x, y with | .int i, .int j => .ok (.bl (decide (i < j))) S | _, _ => .bad
  | .le => match x, y with | .int i, .int j => .ok (.bl (decide (i ≤ j))) S | _, _ => .bad
  | .gt => match x, y with | .int i, .int j => .ok (.bl (decide (j < i))) S | _, _ => .bad
  | .ge => match x, y with | .int i, .int j => .ok (.bl (decide (j ≤ i))) S | _, _ => .bad
  | .is => match y with | .non => .ok (.bl (match x with | .non => true | _ => false)) S | _ => .bad
  | .isn => match y with | .non => .ok (.bl (match x with | .non => false | _ => true)) S | _ => .bad
  | .inn => oneB (isIn S x y) S
  | .nin => oneB ((isIn S x y).map (!·)) S
/-- a place from the front or from the end -/
def ixP (n : Nat) (i : Int) : Option Nat := if 0 ≤ i then (if i < n then some i.toNat else none) else if -(n : Int) ≤ i then some (i + n).toNat else none
def atP (l : List PV) (i : Int) : Option PV := (ixP l.length i).bind fun j => l[j]?
def getD_ (kvs : List (Str × PV)) (k : Str) : Option PV := kvs.lookup k
def putD (k : Str) (v : PV) : List (Str × PV) → List (Str × PV)
  | [] => [(k, v)]
  | (j, x) :: r => if j = k then (j, v) :: r else (j, x) :: putD k v r
/-- in its place, or at the end -/
def putKs {α : Type} (kvs : List (Str × α)) (k : Str) (v : α) : List (Str × α) :=
  if (kvs.any fun p => decide (p.1 = k)) = true then kvs.map (fun p => if p.1 = k then (p.1, v) else p) else kvs ++ [(k, v)]
def opI (x y : PV) (S : Sto) : M PV := match x, y with
  | .tup l, .int i => one (atP l i) S
  | .ref n, .int i => (match S[n]? with
    | some (.lst l) => one (atP l i) S
    | some (.fro l) => one (atP l i) S
    | _ => .bad)
  | .ref n, .str k => (match S[n]? with
    | some (.dct kvs) => one (getD_ kvs k) S
    | _ => .bad)
  | _, _ => .bad
def sIxP (n d : Nat) : Option Int → Nat
  | none => d
  | some i => if i < 0 then (i + (n : Int)).toNat else min i.toNat n
def cutP (l : List PV) (lo hi : Option Int) : List PV := (l.drop (sIxP l.length 0 lo)).take (sIxP l.length l.length hi - sIxP l.length 0 lo)
def opS (x : PV) (lo hi : Option Int) (S : Sto) : M PV := match x with
  | .tup l => .ok (.tup (cutP l lo hi)) S
  | .ref n => (match S[n]? with
    | some (.lst l) => .ok (.ref S.length) (S ++ [.lst (cutP l lo hi)])
    | some (.fro l) => .ok (.ref S.length) (S ++ [.lst (cutP l lo hi)])
    | _ => .bad)
  | _ => .bad
def isT : PV → Sto → TyN → Option Bool
  | .non, _, _ => some false
  | .bl _, _, t => some (match t with | .int => true | .bool => true | _ => false)
  | .int _, _, t => some (match t with | .int => true | _ => false)
  | .str _, _, t => some (match t with | .str => true | _ => false)
  | .tup _, _, t => some (match t with | .tuple => true | _ => false)
  | .ref n, S, t => match S[n]? with
    | some (.lst _) => some (match t with | .list => true | _ => false)
    | some (.fro _) => some (match t with | .list => true | _ => false)
    | _ => none
def intsP : List PV → Option (List Int)
  | [] => some []
  | .int i :: r => (intsP r).map (i :: ·)
  | _ :: _ => none
def boolsP : List PV → Option (List Bool)
  | [] => some []
  | .bl b :: r => (boolsP r).map (b :: ·)
  | _ :: _ => none
def opBI (b : BI) (xs : List PV) (S : Sto) : M PV := match b, xs with
  | .len, [.str s] => if s.length ≤ sizeLine then .ok (.int s.length) S else .bad
  | .len, [x] => (match items S x with
    | some l => .ok (.int l.length) S
    | none => .bad)
  | .abs, [.int i] => .ok (.int (if i < 0 then -i else i)) S
  | .min2, [.int i, .int j] => .ok (.int (if j < i then j else i)) S
  | .max2, [.int i, .int j] => .ok (.int (if j > i then j else i)) S
  | .int, [.int i] => .ok (.int i) S
  | .int, [.bl k] => .ok (.int (if k then 1 else 0)) S
  | .sum, [.ref n] => (match S[n]? with
    | some (.lst l) => (match intsP l with
      | some ns => .ok (.int ns.sum) S
      | none => .bad)
    | _ => .bad)
  | .all, [.ref n] => (match S[n]? with
    | some (.lst l) => (match boolsP l with
      | some bs => .ok (.bl (bs.all id)) S
      | none => .bad)
    | _ => .bad)
  | .any, [.ref n] => (match S[n]? with
    | some (.lst l) => (match boolsP l with
      | some bs => .ok (.bl (bs.any id)) S
      | none => .bad)
    | _ => .bad)
  | .tuple, [x] => (match items S x with
    | some l => .ok (.tup l) S
    | none => .bad)
  | .list, [x] => (match items S x with
    | some l => .ok (.ref S.length) (S ++ [.lst l])
    | none => .bad)
  | _, _ => .bad
def opM (m : MT) (o : PV) (xs : List PV) (S : Sto) : M PV := match m, o, xs with
  | .append, .ref n, [x] => (match S[n]? with
    | some (.lst l) => if l.length < sizeLine then .ok .non (S.set n (.lst (l ++ [x]))) else .bad
    | _ => .bad)
  | .extend, .ref n, [.ref k] => (match S[n]?, S[k]? with
    | some (.lst l), some (.lst r) => if l.length + r.length ≤ sizeLine then .ok .non (S.set n (.lst (l ++ r))) else .bad
    | _, _ => .bad)
  | _, _, _ => .bad
def opF (fl : Nat → Str → Bool) (o : PV) (x : Str) (S : Sto) : M PV := match o with
  | .ref n => (match S[n]? with
    | some (.ins c fs) => if fl c x then one (fs.lookup x) S else .bad
    | _ => .bad)
  | _ => .bad

/-! ### walks -/
/-- what is walked: a row that stands still, or a list by its place in the store -/
inductive Wk where
  | row (l : List PV)
  | lst (n : Nat)
  | enl (n : Nat)
/-- the i-th of it: none: it can't be told; some none: the end -/
def Wk.at (S : Sto) : Wk → Nat → Option (Option PV)
  | .row l, i => some l[i]?
  | .lst n, i => match S[n]? with
    | some (.lst l) => some l[i]?
    | some (.fro l) => some l[i]?
    | _ => none
  | .enl n, i => match S[n]? with
    | some (.lst l) => some (l[i]?.map fun x => .tup [.int i, x])
    | some (.fro l) => some (l[i]?.map fun x => .tup [.int i, x])
    | _ => none
def Wk.len (S : Sto) : Wk → Nat
  | .row l => l.length
  | .lst n => match S[n]? with
    | some (.lst l) => l.length
    | some (.fro l) => l.length
    | _ => 0
  | .enl n => match S[n]? with
    | some (.lst l) => l.length
    | some (.fro l) => l.length
    | _ => 0
def rngP (lo : Int) (n : Nat) : List PV := (List.range n).map fun i => .int (lo + (i : Nat))
def enmP (l : List PV) : List PV := (List.range l.length).zip l |>.map fun p => .tup [.int p.1, p.2]
def zipP (l r : List PV) : List PV := (l.zip r).map fun p => .tup [p.1, p.2]
def inRange (i : Int) : Bool := decide (-(2 ^ 62) ≤ i ∧ i < 2 ^ 62)

/-! ### expressions -/
def setAll : Env1 → List Nat → List PV → Option Env1
  | env, [], [] => some env
  | env, i :: is, v :: vs => if i < env.length then setAll (env.set i (some v)) is vs else none
  | _, _, _ => none
/-- a target of one name, or a tuple of names -/
def putT (env : Env1) (tg : List Nat) (v : PV) : Option Env1 := match tg with
  | [i] => setAll env [i] [v]
  | is => match v with
    | .tup vs => setAll env is vs
    | _ => none
def wipeE : Env1 → List Nat → Env1
  | env, [] => env
  | env, i :: is => wipeE (env.set i none) is
/-- the arguments by the parameters' names -/
def kwArgs {α : Type} (ps : List Str) (vs : List α) (ks : List Str) (ws : List α) : Option (List α) :=
  if vs.length + ks.length = ps.length ∧ ks.length = ws.length then ((ps.drop vs.length).mapM fun p => (ks.zip ws).lookup p).map (vs ++ ·) else none

/-- the literal ones -/
def xlit : XE → Option PV
  | .str s => some (.str s)
  | .tup [.str s] => some (.tup [.str s])
  | _ => none
section
variable (sub : Nat → Nat → Option Bool) (xf : Nat → Option Str) (vs : Nat → Bool) (c : Nat) (v : PV)
/-- .. but tuples -/
def xev1 : XE → Option PV
  | .str s => some (.str s)
  | .fld f => if xf c = some f then some v else none
  | .isi d => (sub c d).map .bl
  | .isv => if vs c then some (.bl true) else none
  | _ => none
def xev : XE → Option PV
  | .tup l => (l.mapM (xev1 sub xf vs c v)).bind fun us => if us.length ≤ 100 then some (.tup us) else none
  | .ite d a b => (match xev1 sub xf vs c v d with
    | some (.bl true) => xev1 sub xf vs c v a
    | some (.bl false) => xev1 sub xf vs c v b
    | _ => none)
  | x => xev1 sub xf vs c v x
end
def pick (sub : Nat → Nat → Option Bool) (c : Nat) : List (Nat × Bool × XE) → Option XE
  | [] => none
  | (d, _, x) :: r => (match sub c d with
    | some true => some x
    | some false => pick sub c r
    | none => none)
def ctK (sub : Nat → Nat → Option Bool) (xf : Nat → Option Str) (vs : Nat → Bool) (D : Option Ct) (m : M PV) : M PV := match D with
  | none => .bad
  | some D => (match m with
    | .ok _ S => one (xlit D.e0) S
    | .exc c v S => one ((pick sub c D.hs).bind (xev sub xf vs c v)) S
    | .bad => .bad)
/-- what is around: the defs' worths, their parameters; classes: their makers, their methods; which class stands below which; what a catcher makes of what it calls; turns of a while -/
structure Ar where
  cl : Nat → List PV → Sto → M PV
  ps : Nat → Option (List Str)
  gv : Nat → Option PV
  mkr : Nat → Option Nat
  mt : Nat → Str → Option Nat
  fl : Nat → Str → Bool
  sub : Nat → Nat → Option Bool
  xf : Nat → Option Str
  vs : Nat → Bool
  ct : Nat → Option Ct
  fu : Nat

def test (t : Bool) (x : PV) (S : Sto) : M PV := if t then oneB (tru S x) S else .ok x S
def noX {α : Type} (m : M α) : M α := match m with
  | .ok a S => .ok a S
  | _ => .bad
/-- the turns of a comprehension: its list stands in the store at n -/
def loopC (f c : Env1 → Sto → M PV) (tg : List Nat) (w : Wk) (env : Env1) (n : Nat) : Nat → Nat → Sto → M Unit
  | k, i, S => match w.at S i with
    | none => .bad
    | some none => .ok () S
    | some (some v) => match k with
      | 0 => .bad
      | k + 1 => match putT env tg v with
        | none => .bad
        | some env' => (noX (c env' S)).bind fun b S => match b with
          | .bl true => (noX (f env' S)).bind fun y S => match S[n]? with
            | some (.lst acc) => if acc.length < sizeLine then loopC f c tg w env n k (i + 1) (S.set n (.lst (acc ++ [y]))) else .bad
            | _ => .bad
          | .bl false => loopC f c tg w env n k (i + 1) S
          | _ => .bad
/-- small steps, by what has been computed -/
def mkTup (vs : List PV) (S : Sto) : M PV := if vs.length ≤ sizeLine then .ok (.tup vs) S else .bad
def mkLst (vs : List PV) (S : Sto) : M PV := if vs.length ≤ sizeLine then .ok (.ref S.length) (S ++ [.lst vs]) else .bad
def opN (x : PV) (S : Sto) : M PV := match x with
  | .int i => .ok (.int (-i)) S
  | _ => .bad
def asInt (v : PV) (S : Sto) : M (Option Int) := match v with
  | .int i => .ok (some i) S
  | _ => .bad
def newI (c : Nat) (r : Option (M PV)) (n : Nat) : M PV := match r with
  | some (.ok .non S) => .ok (.ref n) S
  | some (.exc c v S) => .exc c v S
  | _ => .bad
def mkDct (ks : List Str) (n : Nat) (vs : List PV) (S : Sto) : M PV := match S[n]? with
  | some (.dct []) => if vs.length = ks.length ∧ ks.Nodup ∧ ks.length ≤ 15 then .ok (.ref n) (S.set n (.dct (ks.zip vs))) else .bad
  | _ => .bad
def wkSeq (v : PV) (S : Sto) : M Wk := match v with
  | .tup l => .ok (.row l) S
  | .ref n => (match S[n]? with
    | some (.lst _) => .ok (.lst n) S
    | some (.fro _) => .ok (.lst n) S
    | _ => .bad)
  | _ => .bad
def wkRng1 (v : PV) (S : Sto) : M Wk := match v with
  | .int j => if inRange j then .ok (.row (rngP 0 j.toNat)) S else .bad
  | _ => .bad
def wkRng2 (x y : PV) (S : Sto) : M Wk := match x, y with
  | .int i, .int j => if inRange i && inRange j then .ok (.row (rngP i (j - i).toNat)) S else .bad
  | _, _ => .bad
def wkEnm (v : PV) (S : Sto) : M Wk := match v with
  | .tup l => .ok (.row (enmP l)) S
  | .ref n => (match S[n]? with
    | some (.lst _) => .ok (.enl n) S
    | some (.fro _) => .ok (.enl n) S
    | _ => .bad)
  | _ => .bad
def wkZip (x y : PV) (S : Sto) : M Wk := match x, y with
  | .tup l, .tup r => if l.length = r.length then .ok (.row (zipP l r)) S else .bad
  | _, _ => .bad
def isL (x : PV) (S : Sto) : Bool := match x with
  | .ref n => (match S[n]? with
    | some (.lst _) => true
    | _ => false)
  | _ => false
/-- the method of an instance -/
def methOf (A : Ar) (m : Str) (x : PV) (S : Sto) : Option (Nat × Nat) := match x with
  | .ref n => (match S[n]? with
    | some (.ins c fs) => (match fs.lookup m, A.mt c m with
      | none, some f => some (n, f)
      | _, _ => none)
    | _ => none)
  | _ => none

def invK (x : PV) (S : Sto) : M PV := match x with
  | .bl b => .ok (.bl (!b)) S
  | _ => .bad
def andK (m : Sto → M PV) (x : PV) (S : Sto) : M PV := match x with
  | .bl true => m S
  | .bl false => .ok (.bl false) S
  | _ => .bad
def orK (m : Sto → M PV) (x : PV) (S : Sto) : M PV := match x with
  | .bl false => m S
  | .bl true => .ok (.bl true) S
  | _ => .bad
def iteK (m n : Sto → M PV) (x : PV) (S : Sto) : M PV := match x with
  | .bl true => m S
  | .bl false => n S
  | _ => .bad

mutual
def ev (A : Ar) (e : E) (t : Bool) (env : Env1) (S : Sto) : M PV := match e with
  | .non => test t .non S
  | .bl b => test t (.bl b) S
  | .int i => test t (.int i) S
  | .str s => test t (.str s) S
  | .loc i => (one (env[i]?.join) S).bind (test t)
  | .glo g => (one (A.gv g) S).bind (test t)
  | .tup es => ((evs A es env S).bind mkTup).bind (test t)
  | .lst es => ((evs A es env S).bind mkLst).bind (test t)
  | .bin op a b => ((ev A a false env S).bind fun x S => (ev A b false env S).bind fun y S => opB op x y S).bind (test t)
  | .neg a => ((ev A a false env S).bind opN).bind (test t)
  | .inv a => (ev A a t env S).bind invK
  | .and a b => (ev A a t env S).bind (andK (ev A b t env))
  | .or a b => (ev A a t env S).bind (orK (ev A b t env))
  | .cmp op a b => (ev A a false env S).bind fun x S => (ev A b false env S).bind fun y S => opC op x y S
  | .chn op op' a b c => (ev A a false env S).bind fun x S => (ev A b false env S).bind fun y S => (opC op x y S).bind (andK fun S => (ev A c false env S).bind fun w S => opC op' y w S)
  | .ite c a b => (ev A c true env S).bind (iteK (ev A a t env) (ev A b t env))
  | .idx a b => ((ev A a false env S).bind fun x S => (ev A b false env S).bind fun y S => opI x y S).bind (test t)
  | .slc a lo hi => ((ev A a false env S).bind fun x S => (evo A lo env S).bind fun l S => (evo A hi env S).bind fun h S => opS x l h S).bind (test t)
  | .call f es => ((evs A es env S).bind fun vs S => A.cl f vs S).bind (test t)
  | .calk f es ks kes => ((evs A es env S).bind fun vs S => (evs A kes env S).bind fun ws S => (match (A.ps f).bind fun ps => kwArgs ps vs ks ws with
    | some us => A.cl f us S
    | none => .bad)).bind (test t)
  | .bi b es => ((evs A es env S).bind fun vs S => opBI b vs S).bind (test t)
  | .isi a ty => ((ev A a false env S).bind fun x S => oneB (isT x S ty) S).bind (test t)
  | .meth m o es => ((ev A o false env S).bind fun x S => if isL x S then (evs A es env S).bind fun vs S => opM m x vs S else .bad).bind (test t)
  | .fld o x => ((ev A o false env S).bind fun v S => opF A.fl v x S).bind (test t)
  | .new c es => ((evs A es env S).bind fun vs S => newI c ((A.mkr c).map fun f => A.cl f (.ref S.length :: vs) (S ++ [.ins c []])) S.length).bind (test t)
  | .mca m o es => ((ev A o false env S).bind fun x S => (match methOf A m x S with
    | some (n, f) => (evs A es env S).bind fun vs S => A.cl f (.ref n :: vs) S
    | none => .bad)).bind (test t)
  | .dct ks es => ((evs A es env (S ++ [.dct []])).bind fun vs S' => mkDct ks S.length vs S').bind (test t)
  | .comp own tg elt src c => ((evr A src env S).bind fun w S =>
      (loopC (fun env S => ev A elt false env S) (fun env S => evc A c env S) tg w (wipeE env own) S.length (w.len S) 0 (S ++ [.lst []])).bind fun _ S' => .ok (.ref S.length) S').bind (test t)
  | .lam g e => (ctK A.sub A.xf A.vs (A.ct g) (ev A e false env S)).bind (test t)
def evs (A : Ar) (es : Es) (env : Env1) (S : Sto) : M (List PV) := match es with
  | .nil => .ok [] S
  | .cons e es => (ev A e false env S).bind fun v S => (evs A es env S).bind fun vs S => .ok (v :: vs) S
def evo (A : Ar) (e : Eo) (env : Env1) (S : Sto) : M (Option Int) := match e with
  | .no => .ok none S
  | .so e => (ev A e false env S).bind asInt
def evc (A : Ar) (e : Eo) (env : Env1) (S : Sto) : M PV := match e with
  | .no => .ok (.bl true) S
  | .so e => ev A e true env S
def evr (A : Ar) (src : Sr) (env : Env1) (S : Sto) : M Wk := match src with
  | .seq e => (ev A e false env S).bind wkSeq
  | .rng1 e => (ev A e false env S).bind wkRng1
  | .rng2 a b => (ev A a false env S).bind fun x S => (ev A b false env S).bind fun y S => wkRng2 x y S
  | .enm e => (ev A e false env S).bind wkEnm
  | .zip a b => (ev A a false env S).bind fun x S => (ev A b false env S).bind fun y S => wkZip x y S
end
theorem bind_test0 (m : M PV) : m.bind (test false) = m := by cases m <;> rfl

/-! ### statements -/
inductive Fl where
  | nx | ret (v : PV) | brk | cnt
/-- the turns of a for -/
def loopF (b : Env1 → Sto → M (Fl × Env1)) (tg : List Nat) (w : Wk) : Nat → Nat → Env1 → Sto → M (Fl × Env1)
  | k, i, env, S => match w.at S i with
    | none => .bad
    | some none => .ok (.nx, env) S
    | some (some v) => match k with
      | 0 => .bad
      | k + 1 => match putT env tg v with
        | none => .bad
        | some env => (b env S).bind fun r S => match r with
          | (.nx, env) => loopF b tg w k (i + 1) env S
          | (.cnt, env) => loopF b tg w k (i + 1) env S
          | (.brk, env) => .ok (.nx, env) S
          | (.ret v, env) => .ok (.ret v, env) S
def loopW (c : Env1 → Sto → M PV) (b : Env1 → Sto → M (Fl × Env1)) : Nat → Env1 → Sto → M (Fl × Env1)
  | 0, _, _ => .bad
  | k + 1, env, S => (c env S).bind fun x S => match x with
    | .bl false => .ok (.nx, env) S
    | .bl true => (b env S).bind fun r S => match r with
      | (.nx, env) => loopW c b k env S
      | (.cnt, env) => loopW c b k env S
      | (.brk, env) => .ok (.nx, env) S
      | (.ret v, env) => .ok (.ret v, env) S
    | _ => .bad
/-- o[i] = v; o.x = v -/
def setI (o i v : PV) (S : Sto) : M Unit := match o, i with
  | .ref n, .int j => (match S[n]? with
    | some (.lst l) => (match ixP l.length j with
      | some k => .ok () (S.set n (.lst (l.set k v)))
      | none => .bad)
    | _ => .bad)
  | .ref n, .str k => (match S[n]? with
    | some (.dct kvs) => if kvs.length < 100 then .ok () (S.set n (.dct (putKs kvs k v))) else .bad
    | _ => .bad)
  | _, _ => .bad
def setF (fl : Nat → Str → Bool) (o : PV) (x : Str) (v : PV) (S : Sto) : M Unit := match o with
  | .ref n => (match S[n]? with
    | some (.ins c fs) => if fl c x && decide (fs.length < 100) then .ok () (S.set n (.ins c (putD x v fs))) else .bad
    | _ => .bad)
  | _ => .bad
def seqK (fb : Env1 → Sto → M (Fl × Env1)) (r : Fl × Env1) (S : Sto) : M (Fl × Env1) := match r with
  | (.nx, env) => fb env S
  | r => .ok r S
def ifK (fa fb : Sto → M (Fl × Env1)) (x : PV) (S : Sto) : M (Fl × Env1) := match x with
  | .bl true => fa S
  | .bl false => fb S
  | _ => .bad
def putK1 (tg : List Nat) (env : Env1) (v : PV) (S : Sto) : M (Fl × Env1) := match putT env tg v with
  | some env => .ok (.nx, env) S
  | none => .bad
def parK (is : List Nat) (env : Env1) (vs : List PV) (S : Sto) : M (Fl × Env1) := match setAll env is vs with
  | some env => .ok (.nx, env) S
  | none => .bad
def setIK (env : Env1) (o i v : PV) (S : Sto) : M (Fl × Env1) := (setI o i v S).bind fun _ S => .ok (.nx, env) S
def setFK (fl : Nat → Str → Bool) (x : Str) (env : Env1) (o v : PV) (S : Sto) : M (Fl × Env1) := (setF fl o x v S).bind fun _ S => .ok (.nx, env) S
/-- what a literal says -/
def litV : E → Option PV
  | .non => some .non
  | .bl b => some (.bl b)
  | .int i => some (.int i)
  | .str s => some (.str s)
  | _ => none
def tryK (A : Ar) (c : Nat) (v : E) (env : Env1) (m : M PV) : M (Fl × Env1) := match m with
  | .ok _ S => .ok (.nx, env) S
  | .exc c' w S => (match A.sub c' c with
    | some true => (match litV v with
      | some x => .ok (.ret x, env) S
      | none => .bad)
    | some false => .exc c' w S
    | none => .bad)
  | .bad => .bad
def raiK (c : Nat) (vs : List PV) (S : Sto) : M (Fl × Env1) := match vs with
  | [v] => .exc c v S
  | _ => .bad
/-- in place -/
def opA (op : BOp) (x y : PV) (S : Sto) : M PV := match op, x, y with
  | .add, .int i, .int j => .ok (.int (i + j)) S
  | .sub, .int i, .int j => .ok (.int (i - j)) S
  | _, _, _ => .bad
mutual
def ex (A : Ar) (s : S) (env : Env1) (S : Sto) : M (Fl × Env1) := match s with
  | .exp e => (ev A e false env S).bind fun _ S => .ok (.nx, env) S
  | .asg t e => (match t with
    | .loc i => (ev A e false env S).bind (putK1 [i] env)
    | .tup is => (ev A e false env S).bind (putK1 is env)
    | .idx o i => (ev A e false env S).bind fun v S => (ev A o false env S).bind fun ov S => (ev A i false env S).bind fun iv S => setIK env ov iv v S
    | .fld o x => (ev A e false env S).bind fun v S => (ev A o false env S).bind fun ov S => setFK A.fl x env ov v S)
  | .par is es => (evs A es env S).bind (parK is env)
  | .aug i op e => (match env[i]? with
    | some (some x) => (ev A e false env S).bind fun y S => (opA op x y S).bind fun z S => .ok (.nx, env.set i (some z)) S
    | _ => .bad)
  | .ret e => (ev A e false env S).bind fun v S => .ok (.ret v, env) S
  | .retN => .ok (.ret .non, env) S
  | .pass => .ok (.nx, env) S
  | .brk => .ok (.brk, env) S
  | .cnt => .ok (.cnt, env) S
  | .ife c a b => (ev A c true env S).bind (ifK (exs A a env) (exs A b env))
  | .for_ tg src b => (evr A src env S).bind fun w S => loopF (fun env S => exs A b env S) tg w (w.len S) 0 env S
  | .whl c b => loopW (fun env S => ev A c true env S) (fun env S => exs A b env S) A.fu env S
  | .rai c es => (evs A es env S).bind (raiK c)
  | .tryR e c v => tryK A c v env (ev A e false env S)
def exs (A : Ar) (ss : Ss) (env : Env1) (S : Sto) : M (Fl × Env1) := match ss with
  | .nil => .ok (.nx, env) S
  | .cons s ss => (ex A s env S).bind (seqK (exs A ss))
end

/-! ### a program -/
structure Pr where
  df : Nat → Option Df
  gv : Nat → Option PV
  mkr : Nat → Option Nat
  mt : Nat → Str → Option Nat
  fl : Nat → Str → Bool
  sub : Nat → Nat → Option Bool
  xf : Nat → Option Str
  vs : Nat → Bool
  ct : Nat → Option Ct
  fu : Nat
def Pr.ar (P : Pr) (cl : Nat → List PV → Sto → M PV) : Ar := ⟨cl, fun f => (P.df f).map Df.ps, P.gv, P.mkr, P.mt, P.fl, P.sub, P.xf, P.vs, P.ct, P.fu⟩
def start1 (n : Nat) (vs : List PV) : Env1 := vs.map some ++ List.replicate (n - vs.length) none
def fin (r : M (Fl × Env1)) : M PV := r.bind fun r S => match r with
  | (.ret v, _) => .ok v S
  | (.nx, _) => .ok .non S
  | _ => .bad
/-- a def called, d calls deep -/
def Pr.cl (P : Pr) : Nat → Nat → List PV → Sto → M PV
  | 0, _, _, _ => .bad
  | d + 1, f, vs, S => match P.df f with
    | none => .bad
    | some D => if vs.length = D.ps.length then fin (exs (P.ar (P.cl d)) D.body (start1 D.n vs) S) else .bad
end Mi
end

section
set_option Elab.async false
set_option linter.all false
set_option maxRecDepth 100000
set_option maxHeartbeats 4000000
/-! Mi: how plain values and the store lie in the hand layer's heap. -/
namespace Mi
open PySem PySem.Spec L2
open PyProof.Rows hiding St

mutual
inductive R (K : PySem.W.Frag) (φ : List Addr) (H : Hp) : PV → V → Prop
  | non : R K φ H .non .non
  | bl (b : Bool) : R K φ H (.bl b) (.bl b)
  | int (i : Int) : R K φ H (.int i) (.int i)
  | str (s : Str) : R K φ H (.str s) (.str s)
  | tup {l : List PV} {vs : List V} {a : Addr} (h : SqT K H a vs) (r : RA K φ H l vs) : R K φ H (.tup l) (.ref a)
  | ref {n : Nat} {a : Addr} (h : φ[n]? = some a) : R K φ H (.ref n) (.ref a)
inductive RA (K : PySem.W.Frag) (φ : List Addr) (H : Hp) : List PV → List V → Prop
  | nil : RA K φ H [] []
  | cons {v : PV} {x : V} {l : List PV} {xs : List V} (h : R K φ H v x) (r : RA K φ H l xs) : RA K φ H (v :: l) (x :: xs)
end

/-- what never changes once it is tracked -/
def Firm : HO → Prop
  | .tup _ => True
  | .frz _ _ => True
  | .ext _ => True
  | _ => False
structure Le (φ : List Addr) (H : Hp) (φ' : List Addr) (H' : Hp) : Prop where
  pre : ∃ more, φ' = φ ++ more
  firm : ∀ a o, Firm o → H a = some o → H' a = some o
theorem Le.refl {φ : List Addr} {H : Hp} : Le φ H φ H := ⟨⟨[], by simp⟩, fun _ _ _ h => h⟩
theorem Le.trans {φ φ1 φ2 : List Addr} {H H1 H2 : Hp} (a : Le φ H φ1 H1) (b : Le φ1 H1 φ2 H2) : Le φ H φ2 H2 := by
  obtain ⟨m, rfl⟩ := a.pre
  obtain ⟨m2, rfl⟩ := b.pre
  exact ⟨⟨m ++ m2, by rw [List.append_assoc]⟩, fun c o f h => b.firm c o f (a.firm c o f h)⟩
theorem Le.at {φ φ' : List Addr} {H H' : Hp} (l : Le φ H φ' H') {n : Nat} {a : Addr} (h : φ[n]? = some a) : φ'[n]? = some a := by
  obtain ⟨m, rfl⟩ := l.pre
  have hn : n < φ.length := (List.getElem?_eq_some_iff.mp h).1
  rw [List.getElem?_append_left hn]
  exact h
theorem Le.sqT {K : PySem.W.Frag} {φ φ' : List Addr} {H H' : Hp} (l : Le φ H φ' H') {a : Addr} {xs : List V} (h : SqT K H a xs) : SqT K H' a xs := by
  rcases h with (h | ⟨o, h⟩) | h
  · exact .inl (.inl (l.firm _ _ True.intro h))
  · exact .inl (.inr ⟨o, l.firm _ _ True.intro h⟩)
  · exact .inr h
section
variable {K : PySem.W.Frag} {φ φ' : List Addr} {H H' : Hp}
mutual
theorem R.mono (l : Le φ H φ' H') : ∀ {v : PV} {x : V}, R K φ H v x → R K φ' H' v x
  | _, _, .non => .non
  | _, _, .bl b => .bl b
  | _, _, .int i => .int i
  | _, _, .str s => .str s
  | _, _, .tup h r => .tup (l.sqT h) (RA.mono l r)
  | _, _, .ref h => .ref (l.at h)
theorem RA.mono (l : Le φ H φ' H') : ∀ {v : List PV} {x : List V}, RA K φ H v x → RA K φ' H' v x
  | _, _, .nil => .nil
  | _, _, .cons h r => .cons (R.mono l h) (RA.mono l r)
end
theorem RA.length : ∀ {l : List PV} {xs : List V}, RA K φ H l xs → l.length = xs.length
  | _, _, .nil => rfl
  | _, _, .cons _ r => congrArg (· + 1) r.length
theorem RA.get : ∀ {l : List PV} {xs : List V} {i : Nat} {v : PV}, RA K φ H l xs → l[i]? = some v → ∃ x, xs[i]? = some x ∧ R K φ H v x
  | _, _, _, _, .nil, e => by simp at e
  | _, _, 0, _, .cons h _, e => by simp at e; subst e; exact ⟨_, rfl, h⟩
  | _, _, i + 1, _, .cons _ r, e => by
    obtain ⟨x, h1, h2⟩ := r.get (i := i) (by simpa using e)
    exact ⟨x, by simpa using h1, h2⟩
theorem RA.getV : ∀ {l : List PV} {xs : List V} {i : Nat} {x : V}, RA K φ H l xs → xs[i]? = some x → ∃ v, l[i]? = some v ∧ R K φ H v x
  | _, _, _, _, .nil, e => by simp at e
  | _, _, 0, _, .cons h _, e => by simp at e; subst e; exact ⟨_, rfl, h⟩
  | _, _, i + 1, _, .cons _ r, e => by
    obtain ⟨x, h1, h2⟩ := r.getV (i := i) (by simpa using e)
    exact ⟨x, by simpa using h1, h2⟩
theorem RA.append : ∀ {l r : List PV} {xs ys : List V}, RA K φ H l xs → RA K φ H r ys → RA K φ H (l ++ r) (xs ++ ys)
  | _, _, _, _, .nil, s => s
  | _, _, _, _, .cons h r, s => .cons h (RA.append r s)
theorem RA.drop : ∀ {l : List PV} {xs : List V} (n : Nat), RA K φ H l xs → RA K φ H (l.drop n) (xs.drop n)
  | _, _, 0, r => r
  | _, _, _ + 1, .nil => .nil
  | _, _, n + 1, .cons _ r => RA.drop n r
theorem RA.take : ∀ {l : List PV} {xs : List V} (n : Nat), RA K φ H l xs → RA K φ H (l.take n) (xs.take n)
  | _, _, 0, _ => .nil
  | _, _, _ + 1, .nil => .nil
  | _, _, n + 1, .cons h r => .cons h (RA.take n r)
theorem RA.set {v : PV} {x : V} (q : R K φ H v x) : ∀ {l : List PV} {xs : List V} (i : Nat), RA K φ H l xs → RA K φ H (l.set i v) (xs.set i x)
  | _, _, _, .nil => .nil
  | _, _, 0, .cons _ r => .cons q r
  | _, _, i + 1, .cons h r => .cons h (RA.set q i r)
theorem RA.nil_iff {l : List PV} {xs : List V} (r : RA K φ H l xs) : l = [] ↔ xs = [] := by
  cases r <;> simp
theorem RA.empty {l : List PV} {xs : List V} (r : RA K φ H l xs) : l.isEmpty = xs.isEmpty := by
  cases r <;> rfl
end

/-- a list of the written part -/
def KL (K : PySem.W.Frag) (a : Addr) (xs : List V) : Prop :=
  ∃ (o : Obj) (its : Array Value) (n : Nat), K.lookup a = some o ∧ o.cls = .type "list" ∧ o.dict = none ∧ o.data = .seq its n ∧ its.size ≤ sizeLine ∧ Vals xs its.toList
/-- what stays: the written part, lambdas' tables, where the classes stand, exceptions' own names -/
structure Cn where
  K : PySem.W.Frag
  T : List (Addr × Str)
  ca : Nat → Addr
  fa : Nat → Addr
  xa : Nat → Option Str
def KRw (K : PySem.W.Frag) (φ : List Addr) (H : Hp) (kvs : List (Str × PV)) (ws : List (Str × V)) : Prop := kvs.map (·.1) = ws.map (·.1) ∧ RA K φ H (kvs.map (·.2)) (ws.map (·.2))
def dkOf (ws : List (Str × V)) : List (Key × V) := ws.map fun p => (Sum.inr p.1, p.2)
def ObR (C : Cn) (φ : List Addr) (H : Hp) (o : Ob) (a : Addr) : Prop := match o with
  | .lst l => ∃ vs, H a = some (.lst vs) ∧ RA C.K φ H l vs
  | .fro l => (∃ o vs, H a = some (.frz o (.lst vs)) ∧ RA C.K φ H l vs) ∨ ∃ vs, KL C.K a vs ∧ RA C.K φ H l vs
  | .dct kvs => ∃ ws, H a = some (.dK (dkOf ws)) ∧ KRw C.K φ H kvs ws
  | .ins c fs => ∃ dx ws, H a = some (.ins (C.ca c) dx ws) ∧ KRw C.K φ H fs ws
/-- the n-th of the store is a list of the written part -/
def Kb (C : Cn) (φ : List Addr) (S : Sto) (n : Nat) : Prop := ∃ l a vs, S[n]? = some (.fro l) ∧ φ[n]? = some a ∧ KL C.K a vs
structure RS (C : Cn) (φ : List Addr) (H : Hp) (S : Sto) : Prop where
  len : S.length = φ.length
  ob : ∀ (n : Nat) (o : Ob) (a : Addr), S[n]? = some o → φ[n]? = some a → ObR C φ H o a
  inj : ∀ (n m : Nat) (a : Addr), φ[n]? = some a → φ[m]? = some a → n = m ∨ Kb C φ S n ∨ Kb C φ S m
  tab : LamX.Tabs C.T H
structure At (C : Cn) (φ : List Addr) (env : Env1) (S : Sto) (σ : St) (H : Hp) : Prop where
  re : env.length = σ.length ∧ ∀ (i : Nat) v, env[i]? = some (some v) → ∃ x, σ[i]? = some (some x) ∧ R C.K φ H v x
  rs : RS C φ H S
section
variable {C : Cn} {φ φ' : List Addr} {H H' : Hp} {S S' : Sto} {env : Env1} {σ : St}
theorem KRw.mono (l : Le φ H φ' H') {kvs : List (Str × PV)} {ws : List (Str × V)} (h : KRw C.K φ H kvs ws) : KRw C.K φ' H' kvs ws := ⟨h.1, h.2.mono l⟩
theorem At.with (a : At C φ env S σ H) (l : Le φ H φ' H') (rs : RS C φ' H' S') : At C φ' env S' σ H' :=
  ⟨⟨a.re.1, fun i v e => let ⟨x, h1, h2⟩ := a.re.2 i v e; ⟨x, h1, h2.mono l⟩⟩, rs⟩
theorem At.loc (a : At C φ env S σ H) {i : Nat} {v : PV} (e : env[i]? = some (some v)) : ∃ x, σ[i]? = some (some x) ∧ R C.K φ H v x := a.re.2 i v e
theorem RS.get (r : RS C φ H S) {n : Nat} {o : Ob} (e : S[n]? = some o) : ∃ a, φ[n]? = some a ∧ ObR C φ H o a := by
  have hn : n < φ.length := by rw [← r.len]; exact (List.getElem?_eq_some_iff.mp e).1
  exact ⟨φ[n], List.getElem?_eq_getElem hn, r.ob n o _ e (List.getElem?_eq_getElem hn)⟩
theorem firm_ne {a b : Addr} {o : HO} (f : Firm o) (h : H a = some o) (m : ∀ u, H b = some u → ¬ Firm u) : a ≠ b := fun e => by
  subst e
  exact m o h f
theorem Tabs.firm {T : List (Addr × Str)} (t : LamX.Tabs T H) (k : ∀ b o, (Firm o ∨ ∃ ps, o = .tbl ps) → H b = some o → H' b = some o) : LamX.Tabs T H' := fun p hp => by
  obtain ⟨ps, h1, h2, h3⟩ := t p hp
  refine ⟨ps, k _ _ (.inr ⟨ps, rfl⟩) h1, h2, fun pos cv hc => ?_⟩
  obtain ⟨c, e1, e2⟩ := h3 pos cv hc
  exact ⟨c, e1, k _ _ (.inl True.intro) e2⟩
/-- the same store in a heap that keeps all that is tracked -/
theorem RS.ext (r : RS C φ H S) (k : ∀ b o, H b = some o → H' b = some o) : RS C φ H' S := by
  have l : Le φ H φ H' := ⟨⟨[], by simp⟩, fun a o _ h => k a o h⟩
  refine ⟨r.len, fun n o a e1 e2 => ?_, r.inj, Tabs.firm r.tab fun b o _ h => k b o h⟩
  have q := r.ob n o a e1 e2
  cases o with
  | lst xs => obtain ⟨vs, h1, h2⟩ := q; exact ⟨vs, k _ _ h1, h2.mono l⟩
  | fro xs =>
    rcases q with ⟨ob, vs, h1, h2⟩ | ⟨vs, h1, h2⟩
    · exact .inl ⟨ob, vs, k _ _ h1, h2.mono l⟩
    · exact .inr ⟨vs, h1, h2.mono l⟩
  | dct kvs => obtain ⟨ws, h1, h2⟩ := q; exact ⟨ws, k _ _ h1, KRw.mono (C := C) l h2⟩
  | ins c fs => obtain ⟨dx, ws, h1, h2⟩ := q; exact ⟨dx, ws, k _ _ h1, KRw.mono (C := C) l h2⟩
theorem upd_keep {p : Addr} {u : HO} (h : H p = none) : ∀ b o, H b = some o → upd H p u b = some o := fun b o e => by
  rw [upd_ne (ne_of_none e h)]
  exact e
theorem Le.new {p : Addr} {u : HO} (h : H p = none) : Le φ H φ (upd H p u) := ⟨⟨[], by simp⟩, fun a o _ e => upd_keep h a o e⟩
theorem Le.push {p : Addr} {u : HO} (h : H p = none) : Le φ H (φ ++ [p]) (upd H p u) := ⟨⟨[p], rfl⟩, fun a o _ e => upd_keep h a o e⟩
/-- a new object that is not told of -/
theorem RS.new (r : RS C φ H S) {p : Addr} {u : HO} (h : H p = none) : RS C φ (upd H p u) S := r.ext (upd_keep h)
theorem get_push {α : Type} {l : List α} {x y : α} {n : Nat} (e : (l ++ [x])[n]? = some y) : (n < l.length ∧ l[n]? = some y) ∨ (n = l.length ∧ y = x) := by
  by_cases hn : n < l.length
  · rw [List.getElem?_append_left hn] at e
    exact .inl ⟨hn, e⟩
  · rw [List.getElem?_append_right (by omega)] at e
    have h0 : n - l.length = 0 := by
      by_cases z : n - l.length = 0
      · exact z
      · obtain ⟨k, hk⟩ : ∃ k, n - l.length = k + 1 := ⟨n - l.length - 1, by omega⟩
        rw [hk] at e
        simp at e
    rw [h0] at e
    simp at e
    exact .inr ⟨by omega, e.symm⟩
theorem ObR.mono1 {o : Ob} {a : Addr} (l : Le φ H φ' H') (k : ∀ u, H a = some u → H' a = some u) (q : ObR C φ H o a) : ObR C φ' H' o a := by
  cases o with
  | lst xs => obtain ⟨vs, h1, h2⟩ := q; exact ⟨vs, k _ h1, h2.mono l⟩
  | fro xs =>
    rcases q with ⟨ob, vs, h1, h2⟩ | ⟨vs, h1, h2⟩
    · exact .inl ⟨ob, vs, k _ h1, h2.mono l⟩
    · exact .inr ⟨vs, h1, h2.mono l⟩
  | dct kvs => obtain ⟨ws, h1, h2⟩ := q; exact ⟨ws, k _ h1, KRw.mono (C := C) l h2⟩
  | ins c fs => obtain ⟨dx, ws, h1, h2⟩ := q; exact ⟨dx, ws, k _ h1, KRw.mono (C := C) l h2⟩
/-- an object of the store is tracked, or it is a list of the written part -/
theorem RS.there (r : RS C φ H S) {n : Nat} {a : Addr} (e : φ[n]? = some a) : (∃ u, H a = some u) ∨ Kb C φ S n := by
  have hn : n < S.length := by rw [r.len]; exact (List.getElem?_eq_some_iff.mp e).1
  have q := r.ob n S[n] a (List.getElem?_eq_getElem hn) e
  cases h : S[n] with
  | lst l => rw [h] at q; obtain ⟨vs, h1, _⟩ := q; exact .inl ⟨_, h1⟩
  | fro l =>
    rw [h] at q
    rcases q with ⟨o, vs, h1, _⟩ | ⟨vs, h1, _⟩
    · exact .inl ⟨_, h1⟩
    · exact .inr ⟨l, a, vs, by rw [List.getElem?_eq_getElem hn, h], e, h1⟩
  | dct kvs => rw [h] at q; obtain ⟨ws, h1, _⟩ := q; exact .inl ⟨_, h1⟩
  | ins c fs => rw [h] at q; obtain ⟨dx, ws, h1, _⟩ := q; exact .inl ⟨_, h1⟩
theorem Kb.push {n : Nat} {x : Ob} {p : Addr} (k : Kb C φ S n) : Kb C (φ ++ [p]) (S ++ [x]) n := by
  obtain ⟨l, a, vs, h1, h2, h3⟩ := k
  have n1 := (List.getElem?_eq_some_iff.mp h1).1
  have n2 := (List.getElem?_eq_some_iff.mp h2).1
  exact ⟨l, a, vs, by rw [List.getElem?_append_left n1]; exact h1, by rw [List.getElem?_append_left n2]; exact h2, h3⟩
/-- a new object onto the store -/
theorem RS.push (r : RS C φ H S) {p : Addr} {u : HO} {o : Ob} (h : H p = none) (q : ObR C (φ ++ [p]) (upd H p u) o p) : RS C (φ ++ [p]) (upd H p u) (S ++ [o]) := by
  refine ⟨by simp [r.len], fun n ob a e1 e2 => ?_, fun n m a e1 e2 => ?_, Tabs.firm r.tab fun b o _ e => upd_keep h b o e⟩
  · rcases get_push e1 with ⟨n1, e1⟩ | ⟨n1, rfl⟩
    · rcases get_push e2 with ⟨n2, e2⟩ | ⟨n2, rfl⟩
      · exact ObR.mono1 (Le.push h) (fun u e => upd_keep h a u e) (r.ob n ob a e1 e2)
      · rw [r.len] at n1; omega
    · rcases get_push e2 with ⟨n2, e2⟩ | ⟨n2, rfl⟩
      · rw [n1, r.len] at n2; omega
      · exact q
  · rcases get_push e1 with ⟨n1, e1⟩ | ⟨n1, z1⟩
    · rcases get_push e2 with ⟨n2, e2⟩ | ⟨n2, z2⟩
      · rcases r.inj n m a e1 e2 with z | z | z
        · exact .inl z
        · exact .inr (.inl z.push)
        · exact .inr (.inr z.push)
      · rcases r.there e1 with ⟨u, z⟩ | z
        · exact absurd (z2 ▸ rfl) (ne_of_none z h)
        · exact .inr (.inl z.push)
    · rcases get_push e2 with ⟨n2, e2⟩ | ⟨n2, z2⟩
      · rcases r.there e2 with ⟨u, z⟩ | z
        · exact absurd (z1 ▸ rfl) (ne_of_none z h)
        · exact .inr (.inr z.push)
      · exact .inl (n1.trans n2.symm)
theorem Kb.set {n m : Nat} {x : Ob} (k : Kb C φ S m) (h : n ≠ m) : Kb C φ (S.set n x) m := by
  obtain ⟨l, a, vs, h1, h2, h3⟩ := k
  exact ⟨l, a, vs, by rw [List.getElem?_set_ne h]; exact h1, h2, h3⟩
theorem Le.upd {a : Addr} {u : HO} (m : ∀ o, H a = some o → ¬ Firm o) : Le φ H φ (upd H a u) := ⟨⟨[], by simp⟩, fun b o f e => by rw [upd_ne (firm_ne f e m)]; exact e⟩
/-- an object of the store changed -/
theorem RS.set (r : RS C φ H S) {n : Nat} {a : Addr} {o' : Ob} {u u' : HO} (hn : φ[n]? = some a) (hu : H a = some u) (m : ¬ Firm u) (mt : ∀ ps, u ≠ .tbl ps) (hk : ¬ Kb C φ S n) (q : ObR C φ (upd H a u') o' a) : RS C φ (upd H a u') (S.set n o') := by
  have mm : ∀ o, H a = some o → ¬ Firm o := fun o e => by rw [hu] at e; cases e; exact m
  have hl : n < S.length := by rw [r.len]; exact (List.getElem?_eq_some_iff.mp hn).1
  refine ⟨by simp [r.len], fun k ob b e1 e2 => ?_, fun k j b e1 e2 => ?_, Tabs.firm r.tab fun b o f e => ?_⟩
  · by_cases hkn : n = k
    · subst hkn
      rw [List.getElem?_set_self hl] at e1
      cases e1
      rw [hn] at e2
      cases e2
      exact q
    · rw [List.getElem?_set_ne hkn] at e1
      have z := r.ob k ob b e1 e2
      by_cases hb : b = a
      · subst hb
        rcases r.inj n k b hn e2 with w | w | w
        · exact absurd w hkn
        · exact absurd w hk
        · obtain ⟨l, b', vs, w1, w2, w3⟩ := w
          rw [e1] at w1
          cases w1
          rw [e2] at w2
          cases w2
          rcases z with ⟨ob, ws, z1, z2⟩ | ⟨ws, z1, z2⟩
          · exact absurd True.intro (mm _ z1)
          · exact .inr ⟨ws, z1, z2.mono (Le.upd mm)⟩
      · exact ObR.mono1 (Le.upd mm) (fun u e => by rw [upd_ne hb]; exact e) z
  · rcases r.inj k j b e1 e2 with z | z | z
    · exact .inl z
    · by_cases hkn : n = k
      · subst hkn; exact absurd z hk
      · exact .inr (.inl (z.set hkn))
    · by_cases hkn : n = j
      · subst hkn; exact absurd z hk
      · exact .inr (.inr (z.set hkn))
  · rcases f with f | ⟨ps, rfl⟩
    · rw [upd_ne (firm_ne f e mm)]; exact e
    · rw [upd_ne (fun z => by subst z; rw [hu] at e; exact mt ps (Option.some.inj e))]; exact e
theorem RS.noKb (r : RS C φ H S) {n : Nat} {o : Ob} (e : S[n]? = some o) (h : ∀ l, o ≠ .fro l) : ¬ Kb C φ S n := fun ⟨l, _, _, h1, _⟩ => by
  rw [e] at h1
  exact h l (Option.some.inj h1)
end

/-! ### what is wanted behind -/
/-- an exception in the air: its class, its own dict -/
def ExR (C : Cn) (φ : List Addr) (H : Hp) (c : Nat) (v : PV) (cls : Value) (d : Option Addr) : Prop :=
  cls = .ref (C.ca c) ∧ match C.xa c with
    | none => d = none ∧ v = .non
    | some f => ∃ dd x, d = some dd ∧ H dd = some (.xd [(f, x)]) ∧ R C.K φ H v x
section
variable (C : Cn) (W : WX)
def Post {α β : Type} (Rel : List Addr → Hp → α → β → Prop) (φ : List Addr) (H : Hp) (σ : St) (Q : β → Hp → Prop) : M α → Prop
  | .ok v S => ∀ φ' H' x, Le φ H φ' H' → RS C φ' H' S → Rel φ' H' v x → Q x H'
  | .exc c v S => ∀ φ' H' cls d, Le φ H φ' H' → RS C φ' H' S → ExR C φ' H' c v cls d → W cls d σ H'
  | .bad => False
/-- a reading: what f computes is wanted -/
def lE (f : Env1 → Sto → M PV) : TE := fun σ H Q => ∃ φ env S, At C φ env S σ H ∧ Post C W (R C.K) φ H σ Q (f env S)
def lA (f : Env1 → Sto → M (List PV)) : TA := fun σ H Q => ∃ φ env S, At C φ env S σ H ∧ Post C W (RA C.K) φ H σ Q (f env S)
def lT (f : Env1 → Sto → M PV) : TT := fun σ H Q => ∃ φ env S, At C φ env S σ H ∧ Post C W (R C.K) φ H σ (fun x H' => ∃ b, x = .bl b ∧ Q b H') (f env S)
end
section
variable {C : Cn} {W : WX} {α β γ δ : Type} {Rel : List Addr → Hp → α → β → Prop} {Rel2 : List Addr → Hp → γ → δ → Prop} {φ φ' : List Addr} {H H' : Hp} {σ : St} {Q : β → Hp → Prop} {S : Sto} {env : Env1}
theorem Post.mono {m : M α} (l : Le φ H φ' H') (h : Post C W Rel φ H σ Q m) : Post C W Rel φ' H' σ Q m := by
  cases m with
  | ok v S => exact fun φ2 H2 x l2 r q => h φ2 H2 x (l.trans l2) r q
  | exc c v S => exact fun φ2 H2 cls d l2 r q => h φ2 H2 cls d (l.trans l2) r q
  | bad => exact h
theorem Post.imp {m : M α} {Q' : β → Hp → Prop} (h : Post C W Rel φ H σ Q m) (i : ∀ x H', Q x H' → Q' x H') : Post C W Rel φ H σ Q' m := by
  cases m with
  | ok v S => exact fun φ2 H2 x l2 r q => i _ _ (h φ2 H2 x l2 r q)
  | exc c v S => exact h
  | bad => exact h
/-- THE STEP: first m, then what it hands on -/
theorem Post.bind {m : M α} {k : α → Sto → M γ} {P : δ → Hp → Prop} (a : At C φ env S σ H) (h : Post C W Rel2 φ H σ P (m.bind k))
    (n : ∀ φ1 H1 v S1 x, Le φ H φ1 H1 → At C φ1 env S1 σ H1 → Rel φ1 H1 v x → Post C W Rel2 φ1 H1 σ P (k v S1) → Q x H1) : Post C W Rel φ H σ Q m := by
  cases m with
  | ok v S1 => exact fun φ1 H1 x l r q => n φ1 H1 v S1 x l (a.with l r) q (Post.mono l h)
  | exc c v S1 => exact h
  | bad => exact h
/-- what stands is handed on -/
theorem Post.ok {v : α} {x : β} (h : Post C W Rel φ H σ Q (.ok v S)) (r : RS C φ H S) (q : Rel φ H v x) : Q x H := h φ H x Le.refl r q
theorem Post.at {v : α} {x : β} (h : Post C W Rel φ H σ Q (.ok v S)) (l : Le φ H φ' H') (r : RS C φ' H' S) (q : Rel φ' H' v x) : Q x H' := h φ' H' x l r q
end
end Mi
end

section
set_option Elab.async false
set_option linter.all false
set_option maxRecDepth 100000
set_option maxHeartbeats 4000000
/-! Mi: operators by values. -/
namespace Mi
open PySem PySem.Spec L2
open PyProof.Rows hiding St
section
variable {C : Cn} {W : WX} {φ φ' : List Addr} {H H' : Hp} {σ : St} {S : Sto} {env : Env1}
/-- the items of a tuple, a list -/
theorem items_ok {v : PV} {x : V} {l : List PV} (r : RS C φ H S) (rv : R C.K φ H v x) (h : items S v = some l) :
    ∃ a xs, x = .ref a ∧ (SqL C.K H a xs ∨ SqT C.K H a xs) ∧ RA C.K φ H l xs := by
  cases rv with
  | @tup l' vs a hs ra =>
    cases h
    exact ⟨a, vs, rfl, .inr hs, ra⟩
  | @ref n a hn =>
    have h2 : (match S[n]? with
      | some (.lst l) => some l
      | some (.fro l) => some l
      | _ => none) = some l := h
    cases e : S[n]? with
    | none => rw [e] at h2; cases h2
    | some o =>
      rw [e] at h2
      have q := r.ob n o a e hn
      cases o with
      | lst l0 =>
        cases h2
        obtain ⟨vs, h1, ra⟩ := q
        exact ⟨a, vs, rfl, .inl (SqL.of h1), ra⟩
      | fro l0 =>
        cases h2
        rcases q with ⟨ob, vs, h1, ra⟩ | ⟨vs, h1, ra⟩
        · exact ⟨a, vs, rfl, .inl (.inl (.inr ⟨ob, h1⟩)), ra⟩
        · exact ⟨a, vs, rfl, .inl (.inr h1), ra⟩
      | _ => cases h2
  | _ => cases h
theorem sqT_of {v : PV} {x : V} {l : List PV} (rv : R C.K φ H (.tup l) x) : ∃ a xs, x = .ref a ∧ SqT C.K H a xs ∧ RA C.K φ H l xs := by
  cases rv with
  | tup hs ra => exact ⟨_, _, rfl, hs, ra⟩
/-- data -/
theorem mapM_cons {α β : Type} (f : α → Option β) (a : α) (l : List α) : (a :: l).mapM f = (f a).bind fun b => (l.mapM f).bind fun bs => some (b :: bs) := by
  rw [List.mapM_cons]; rfl
theorem toD_all {k : Nat} (ih : ∀ (v : PV) (x : V) (d : PyData), R C.K φ H v x → toD S k v = some d → Dp C.K H x d) : ∀ (l : List PV) (xs : List V) (ds : List PyData), RA C.K φ H l xs → l.mapM (toD S k) = some ds → DpAll C.K H xs ds
  | [], _, _, .nil, h => by
    rw [List.mapM_nil] at h
    cases h
    exact .nil
  | a :: l, _, ds, .cons r1 r2, h => by
    rw [mapM_cons] at h
    cases e1 : toD S k a with
    | none => rw [e1] at h; cases h
    | some d =>
      rw [e1] at h
      cases e2 : l.mapM (toD S k) with
      | none =>
        have h2 : ((l.mapM (toD S k)).bind fun bs => some (d :: bs)) = some ds := h
        rw [e2] at h2; cases h2
      | some ds' =>
        have h2 : ((l.mapM (toD S k)).bind fun bs => some (d :: bs)) = some ds := h
        rw [e2] at h2
        cases h2
        exact .cons (ih _ _ _ r1 e1) (toD_all ih l _ _ r2 e2)
theorem toD_ok (r : RS C φ H S) : ∀ (k : Nat) (v : PV) (x : V) (d : PyData), R C.K φ H v x → toD S k v = some d → Dp C.K H x d
  | 0, _, _, _, _, h => by cases h
  | k + 1, v, x, d, rv, h => by
    have ih := toD_all (toD_ok r k)
    cases rv with
    | non => cases h; exact .non
    | bl b => cases h; exact .bl b
    | int i => cases h; exact .int i
    | str s => cases h; exact .str s
    | @tup l vs a hs ra =>
      have h2 : (l.mapM (toD S k)).map PyData.tuple = some d := h
      cases e : l.mapM (toD S k) with
      | none => rw [e] at h2; cases h2
      | some ds =>
        rw [e] at h2
        cases h2
        exact .tup hs (ih l vs ds ra e)
    | @ref n a hn =>
      have h2 : (match S[n]? with
        | some (.lst l) => (l.mapM (toD S k)).map PyData.list
        | some (.fro l) => (l.mapM (toD S k)).map PyData.list
        | _ => none) = some d := h
      cases e : S[n]? with
      | none => rw [e] at h2; cases h2
      | some o =>
        rw [e] at h2
        have q := r.ob n o a e hn
        cases o with
        | lst l =>
          have h3 : (l.mapM (toD S k)).map PyData.list = some d := h2
          cases e2 : l.mapM (toD S k) with
          | none => rw [e2] at h3; cases h3
          | some ds =>
            rw [e2] at h3
            cases h3
            obtain ⟨vs, h1, ra⟩ := q
            exact .lst (SqL.of h1) (ih l vs ds ra e2)
        | fro l =>
          have h3 : (l.mapM (toD S k)).map PyData.list = some d := h2
          cases e2 : l.mapM (toD S k) with
          | none => rw [e2] at h3; cases h3
          | some ds =>
            rw [e2] at h3
            cases h3
            rcases q with ⟨ob, vs, h1, ra⟩ | ⟨vs, h1, ra⟩
            · exact .lst (.inl (.inr ⟨ob, h1⟩)) (ih l vs ds ra e2)
            · exact .lst (.inr h1) (ih l vs ds ra e2)
        | _ => cases h2
theorem flat_ok {v : PV} {x : V} (rv : R C.K φ H v x) (f : flat v = true) : flatV x = true := by
  cases rv <;> first | rfl | cases f
theorem flats_ok : ∀ {l : List PV} {xs : List V}, RA C.K φ H l xs → l.all flat = true → xs.all flatV = true
  | _, _, .nil, _ => rfl
  | _, _, .cons r1 r2, f => by
    rw [List.all_cons, Bool.and_eq_true] at f
    rw [List.all_cons, flat_ok r1 f.1, flats_ok r2 f.2]
    rfl
theorem eqF_ok {v w : PV} {x y : V} (rv : R C.K φ H v x) (rw_ : R C.K φ H w y) (f : flat v = true) : eqV x y = eqF v w := by
  cases rv <;> cases rw_ <;> first | rfl | cases f
theorem anyF_ok {v : PV} {x : V} (rv : R C.K φ H v x) : ∀ {l : List PV} {xs : List V}, RA C.K φ H l xs → l.all flat = true → inV x xs = l.any fun z => eqF z v
  | _, _, .nil, _ => rfl
  | _, _, .cons r1 r2, f => by
    rw [List.all_cons, Bool.and_eq_true] at f
    have ih := anyF_ok rv r2 f.2
    unfold inV at ih ⊢
    rw [List.any_cons, List.any_cons, ih, eqF_ok r1 rv f.1]

/-! ### the operators -/
variable {X : Cx} {v w : PV} {x y : V} {Q : VK}
def rB : BOp → PySem.W.Frag → R2
  | .add, K => fun x y H Q => rI0 (fun i j => .int (i + j)) x y H Q ∨ rCatA K x y H Q
  | .sub, _ => rI0 fun i j => .int (i - j)
  | .mul, _ => fun x y H Q => rI CMul (fun i j => .int (i * j)) x y H Q ∨ rI CMulW (fun i j => .int (i * j)) x y H Q
  | .fdv, _ => rI CDivW fun i j => .int (i / j)
  | .mod, _ => rI (fun _ j => 0 < j) fun i j => .int (i % j)
  | .pow, _ => rI CPow fun i j => .int (i ^ j.toNat)
def opOf : Operator → Option BOp
  | .Add => some .add | .Sub => some .sub | .Mult => some .mul | .FloorDiv => some .fdv | .Mod => some .mod | .Pow => some .pow
  | _ => none
theorem rB_ok (o : Operator) (op : BOp) (e : opOf o = some op) : OpR X (binaryOp o) (rB op X.K) := by
  cases o <;> simp only [opOf, Option.some.injEq, reduceCtorEq] at e <;> subst e
  · exact OpR.or op_add op_catA
  · exact op_sub
  · exact OpR.or op_mul op_mulW
  · exact op_mod
  · exact op_pow
  · exact op_fdivW
theorem opB_ok {op : BOp} (a : At C φ env S σ H) (rv : R C.K φ H v x) (rw_ : R C.K φ H w y) (p : Post C W (R C.K) φ H σ Q (opB op v w S)) : rB op C.K x y H Q := by
  cases rv with
  | int i =>
    cases rw_ with
    | int j =>
      cases op with
      | add => exact .inl ⟨i, j, rfl, rfl, Post.ok p a.rs (.int _)⟩
      | sub => exact ⟨i, j, rfl, rfl, Post.ok p a.rs (.int _)⟩
      | mul =>
        have p2 : Post C W (R C.K) φ H σ Q (if small i || small j || decide (i.natAbs.log2 + j.natAbs.log2 < 1000000) then .ok (.int (i * j)) S else .bad) := p
        by_cases c : (small i || small j || decide (i.natAbs.log2 + j.natAbs.log2 < 1000000)) = true
        · rw [if_pos c] at p2
          rw [Bool.or_eq_true, Bool.or_eq_true] at c
          rcases c with (c | c) | c
          · exact .inl ⟨i, j, rfl, rfl, .inl (of_decide_eq_true c), Post.ok p2 a.rs (.int _)⟩
          · exact .inl ⟨i, j, rfl, rfl, .inr (of_decide_eq_true c), Post.ok p2 a.rs (.int _)⟩
          · exact .inr ⟨i, j, rfl, rfl, (show i.natAbs.log2 + j.natAbs.log2 < 1000000 from of_decide_eq_true c), Post.ok p2 a.rs (.int _)⟩
        · rw [if_neg c] at p2; exact p2.elim
      | fdv =>
        have p2 : Post C W (R C.K) φ H σ Q (if decide (0 < j ∧ j.natAbs.log2 < 9000) then .ok (.int (i / j)) S else .bad) := p
        by_cases c : decide (0 < j ∧ j.natAbs.log2 < 9000) = true
        · rw [if_pos c] at p2
          exact ⟨i, j, rfl, rfl, (show 0 < j ∧ j.natAbs.log2 < 9000 from of_decide_eq_true c), Post.ok p2 a.rs (.int _)⟩
        · rw [if_neg c] at p2; exact p2.elim
      | mod =>
        have p2 : Post C W (R C.K) φ H σ Q (if decide (0 < j) then .ok (.int (i % j)) S else .bad) := p
        by_cases c : decide (0 < j) = true
        · rw [if_pos c] at p2
          exact ⟨i, j, rfl, rfl, of_decide_eq_true c, Post.ok p2 a.rs (.int _)⟩
        · rw [if_neg c] at p2; exact p2.elim
      | pow =>
        have p2 : Post C W (R C.K) φ H σ Q (if decide (0 ≤ j ∧ j ≤ 1000 ∧ i.natAbs < 1000) then .ok (.int (i ^ j.toNat)) S else .bad) := p
        by_cases c : decide (0 ≤ j ∧ j ≤ 1000 ∧ i.natAbs < 1000) = true
        · rw [if_pos c] at p2
          obtain ⟨c1, c2, c3⟩ := of_decide_eq_true c
          exact ⟨i, j, rfl, rfl, ⟨c1, by omega, by omega⟩, Post.ok p2 a.rs (.int _)⟩
        · rw [if_neg c] at p2; exact p2.elim
    | _ => cases op <;> exact p.elim
  | @tup l xs b hs ra =>
    cases rw_ with
    | @tup l2 ys b2 hs2 ra2 =>
      cases op with
      | add =>
        have p2 : Post C W (R C.K) φ H σ Q (if l.length + l2.length ≤ sizeLine then .ok (.tup (l ++ l2)) S else .bad) := p
        by_cases c : l.length + l2.length ≤ sizeLine
        · rw [if_pos c] at p2
          refine .inr ⟨b, b2, xs, ys, rfl, rfl, hs, hs2, by rw [← ra.length, ← ra2.length]; exact c, fun e => ?_, fun _ e => ?_, fun _ _ q hq => ?_⟩
          · have e2 := ra.nil_iff.mpr e
            subst e2
            exact Post.ok p2 a.rs (.tup hs2 ra2)
          · have e2 := ra2.nil_iff.mpr e
            subst e2
            rw [List.append_nil] at p2
            exact Post.ok p2 a.rs (.tup hs ra)
          · exact Post.at p2 (Le.new hq) (a.rs.new hq) (.tup (SqT.of upd_same) ((ra.append ra2).mono (Le.new hq)))
        · rw [if_neg c] at p2; exact p2.elim
      | _ => exact p.elim
    | _ => cases op <;> exact p.elim
  | _ => cases op <;> cases rw_ <;> exact p.elim

/-! ### comparisons -/
def cOf : CmpOp → COp
  | .Eq => .eq | .NotEq => .ne | .Lt => .lt | .LtE => .le | .Gt => .gt | .GtE => .ge | .Is => .is | .IsNot => .isn | .In => .inn | .NotIn => .nin
def rC : COp → PySem.W.Frag → R2
  | .eq, K => fun x y H Q => rEq x y H Q ∨ rEqD K x y H Q
  | .ne, K => fun x y H Q => rNe x y H Q ∨ rNeD K x y H Q
  | .lt, _ => rI0 fun i j => .bl (decide (i < j))
  | .le, _ => rI0 fun i j => .bl (decide (i ≤ j))
  | .gt, _ => rI0 fun i j => .bl (decide (j < i))
  | .ge, _ => rI0 fun i j => .bl (decide (j ≤ i))
  | .is, _ => fun x y H Q => y = .non ∧ Q (.bl (decide (x = .non))) H
  | .isn, _ => fun x y H Q => y = .non ∧ Q (.bl (!decide (x = .non))) H
  | .inn, K => rIn K false
  | .nin, K => rIn K true
theorem rC_ok (hu : X.A.units + 64 < cLine) (o : CmpOp) : OpR X (compareOp o) (rC (cOf o) X.K) := by
  cases o
  · exact OpR.or op_eq (op_eqD hu)
  · exact OpR.or op_ne (op_neD hu)
  · exact op_lt
  · exact op_le
  · exact op_gt
  · exact op_ge
  · exact op_isN
  · exact op_notN
  · exact op_in_seq
  · exact op_notIn_seq
theorem pyEq_ok {b : Bool} (a : At C φ env S σ H) (rv : R C.K φ H v x) (rw_ : R C.K φ H w y) (e : pyEq S v w = some b) : (scal x y = true ∧ decide (x = y) = b) ∨ ∃ d f, Dp C.K H x d ∧ Dp C.K H y f ∧ SeqAt.shaped d = true ∧ SeqAt.shaped f = true ∧ PyData.eqv d f = b := by
  have gen : (match toD S 60 v, toD S 60 w with
      | some d, some e => if SeqAt.shaped d && SeqAt.shaped e then some (PyData.eqv d e) else none
      | _, _ => none) = some b → ∃ d f, Dp C.K H x d ∧ Dp C.K H y f ∧ SeqAt.shaped d = true ∧ SeqAt.shaped f = true ∧ PyData.eqv d f = b := by
    intro h
    cases e1 : toD S 60 v with
    | none => rw [e1] at h; cases h
    | some d =>
      cases e2 : toD S 60 w with
      | none => rw [e1, e2] at h; cases h
      | some f =>
        rw [e1, e2] at h
        have h2 : (if SeqAt.shaped d && SeqAt.shaped f then some (PyData.eqv d f) else none) = some b := h
        by_cases c : (SeqAt.shaped d && SeqAt.shaped f) = true
        · rw [if_pos c] at h2
          rw [Bool.and_eq_true] at c
          exact ⟨d, f, toD_ok a.rs 60 v x d rv e1, toD_ok a.rs 60 w y f rw_ e2, c.1, c.2, Option.some.inj h2⟩
        · rw [if_neg c] at h2; cases h2
  cases rv with
  | int i =>
    cases rw_ with
    | int j =>
      have e' : some (decide (i = j)) = some b := e
      refine .inl ⟨rfl, ?_⟩
      rw [← Option.some.inj e']
      simp
    | _ => exact .inr (gen e)
  | str i =>
    cases rw_ with
    | str j =>
      have e' : some (decide (i = j)) = some b := e
      refine .inl ⟨rfl, ?_⟩
      rw [← Option.some.inj e']
      simp
    | _ => exact .inr (gen e)
  | bl i =>
    cases rw_ with
    | bl j =>
      have e' : some (decide (i = j)) = some b := e
      refine .inl ⟨rfl, ?_⟩
      rw [← Option.some.inj e']
      simp
    | _ => exact .inr (gen e)
  | non =>
    cases rw_ with
    | non =>
      have e' : some true = some b := e
      refine .inl ⟨rfl, ?_⟩
      rw [← Option.some.inj e']
      simp
    | _ => exact .inr (gen e)
  | tup hs ra => cases rw_ <;> exact .inr (gen e)
  | ref hn => cases rw_ <;> exact .inr (gen e)
theorem oneB_ok {o : Option Bool} (p : Post C W (R C.K) φ H σ Q (oneB o S)) : ∃ b, o = some b ∧ Post C W (R C.K) φ H σ Q (.ok (.bl b) S) := by
  cases o with
  | none => exact (show False from p).elim
  | some b => exact ⟨b, rfl, p⟩
theorem isIn_ok {b : Bool} (a : At C φ env S σ H) (rv : R C.K φ H v x) (rw_ : R C.K φ H w y) (e : isIn S v w = some b) : ∃ p xs, y = .ref p ∧ (SqL C.K H p xs ∨ SqT C.K H p xs) ∧ flatV x = true ∧ xs.all flatV = true ∧ inV x xs = b := by
  unfold isIn at e
  cases e1 : items S w with
  | none => rw [e1] at e; cases e
  | some l =>
    rw [e1] at e
    have e2 : (if flat v && l.all flat then some (l.any fun z => eqF z v) else none) = some b := e
    by_cases c : (flat v && l.all flat) = true
    · rw [if_pos c] at e2
      rw [Bool.and_eq_true] at c
      obtain ⟨p, xs, h1, h2, ra⟩ := items_ok a.rs rw_ e1
      exact ⟨p, xs, h1, h2, flat_ok rv c.1, flats_ok ra c.2, by rw [anyF_ok rv ra c.2]; exact Option.some.inj e2⟩
    · rw [if_neg c] at e2; cases e2
theorem opC_ok {op : COp} (a : At C φ env S σ H) (rv : R C.K φ H v x) (rw_ : R C.K φ H w y) (p : Post C W (R C.K) φ H σ Q (opC op v w S)) : rC op C.K x y H Q := by
  have fin : ∀ {b : Bool}, Post C W (R C.K) φ H σ Q (.ok (.bl b) S) → Q (.bl b) H := fun q => Post.ok q a.rs (.bl _)
  cases op with
  | eq =>
    obtain ⟨b, e, p2⟩ := oneB_ok p
    rcases pyEq_ok a rv rw_ e with ⟨h1, rfl⟩ | ⟨d, f, h1, h2, h3, h4, rfl⟩
    · exact .inl ⟨h1, fin p2⟩
    · exact .inr ⟨d, f, h1, h2, h3, h4, fin p2⟩
  | ne =>
    obtain ⟨b, e, p2⟩ := oneB_ok p
    cases e2 : pyEq S v w with
    | none => rw [e2] at e; cases e
    | some b' =>
      rw [e2] at e
      cases e
      rcases pyEq_ok a rv rw_ e2 with ⟨h1, rfl⟩ | ⟨d, f, h1, h2, h3, h4, rfl⟩
      · exact .inl ⟨h1, fin p2⟩
      · exact .inr ⟨d, f, h1, h2, h3, h4, fin p2⟩
  | inn =>
    obtain ⟨b, e, p2⟩ := oneB_ok p
    obtain ⟨q, xs, h1, h2, h3, h4, rfl⟩ := isIn_ok a rv rw_ e
    exact ⟨q, xs, h1, h2, h3, h4, fin p2⟩
  | nin =>
    obtain ⟨b, e, p2⟩ := oneB_ok p
    cases e2 : isIn S v w with
    | none => rw [e2] at e; cases e
    | some b' =>
      rw [e2] at e
      cases e
      obtain ⟨q, xs, h1, h2, h3, h4, rfl⟩ := isIn_ok a rv rw_ e2
      exact ⟨q, xs, h1, h2, h3, h4, fin p2⟩
  | is =>
    cases rw_ with
    | non =>
      refine ⟨rfl, ?_⟩
      cases rv <;> exact fin p
    | _ => cases rv <;> exact (show False from p).elim
  | isn =>
    cases rw_ with
    | non =>
      refine ⟨rfl, ?_⟩
      cases rv <;> exact fin p
    | _ => cases rv <;> exact (show False from p).elim
  | lt =>
    cases rv with
    | int i => cases rw_ with
      | int j => exact ⟨i, j, rfl, rfl, fin p⟩
      | _ => exact (show False from p).elim
    | _ => cases rw_ <;> exact (show False from p).elim
  | le =>
    cases rv with
    | int i => cases rw_ with
      | int j => exact ⟨i, j, rfl, rfl, fin p⟩
      | _ => exact (show False from p).elim
    | _ => cases rw_ <;> exact (show False from p).elim
  | gt =>
    cases rv with
    | int i => cases rw_ with
      | int j => exact ⟨i, j, rfl, rfl, fin p⟩
      | _ => exact (show False from p).elim
    | _ => cases rw_ <;> exact (show False from p).elim
  | ge =>
    cases rv with
    | int i => cases rw_ with
      | int j => exact ⟨i, j, rfl, rfl, fin p⟩
      | _ => exact (show False from p).elim
    | _ => cases rw_ <;> exact (show False from p).elim
end
end Mi
end

section
set_option Elab.async false
set_option linter.all false
set_option maxRecDepth 100000
set_option maxHeartbeats 4000000
/-! Mi: places, slices, kinds, built-ins, methods, by values. -/
namespace Mi
open PySem PySem.Spec L2
open PyProof.Rows hiding St
section
variable {C : Cn} {W : WX} {φ φ' : List Addr} {H H' : Hp} {σ : St} {S : Sto} {env : Env1} {X : Cx} {v w : PV} {x y : V} {Q : VK}
theorem one_ok {o : Option PV} (p : Post C W (R C.K) φ H σ Q (one o S)) : ∃ b, o = some b ∧ Post C W (R C.K) φ H σ Q (.ok b S) := by
  cases o with
  | none => exact (show False from p).elim
  | some b => exact ⟨b, rfl, p⟩
theorem ixP_eq (n : Nat) (i : Int) : ixP n i = ixN n i := rfl
theorem atP_ok {l : List PV} {xs : List V} {i : Int} {b : PV} (ra : RA C.K φ H l xs) (e : atP l i = some b) : ∃ z, atI xs i = some z ∧ R C.K φ H b z := by
  unfold atP at e
  rw [ixP_eq, ra.length] at e
  unfold atI
  cases h : ixN xs.length i with
  | none => rw [h] at e; cases e
  | some j =>
    rw [h] at e
    obtain ⟨z, h1, h2⟩ := ra.get e
    exact ⟨z, h1, h2⟩

/-! ### a dict's pairs -/
theorem valV_dk (k : Str) : ∀ ws : List (Str × V), valV (dkOf ws) (Sum.inr k : Key) = ws.lookup k
  | [] => rfl
  | (j, z) :: r => by
    have ih := valV_dk k r
    unfold valV at ih ⊢
    show Option.map (·.2) (List.find? (fun kv => decide (kv.1 = Sum.inr k)) ((Sum.inr j, z) :: dkOf r)) = List.lookup k ((j, z) :: r)
    by_cases h : j = k
    · subst h
      rw [List.find?_cons_of_pos (by simp)]
      simp [List.lookup]
    · have h1 : decide ((Sum.inr j : Key) = Sum.inr k) = false := by
        rw [key_rr]; exact decide_eq_false h
      have h0 : List.find? (fun kv => decide (kv.1 = (Sum.inr k : Key))) ((Sum.inr j, z) :: dkOf r) = List.find? (fun kv => decide (kv.1 = (Sum.inr k : Key))) (dkOf r) := by
        rw [List.find?_cons]
        show (match decide ((Sum.inr j : Key) = Sum.inr k) with | true => _ | false => _) = _
        rw [h1]
      rw [h0, ih]
      have h2 : (k == j) = false := beq_eq_false_iff_ne.mpr (fun e => h e.symm)
      simp only [List.lookup, h2]
theorem KRw.look {k : Str} {b : PV} : ∀ {kvs : List (Str × PV)} {ws : List (Str × V)}, KRw C.K φ H kvs ws → kvs.lookup k = some b → ∃ z, ws.lookup k = some z ∧ R C.K φ H b z
  | [], _, _, e => by simp [List.lookup] at e
  | (j, v) :: r, [], h, _ => by simp [KRw] at h
  | (j, v) :: r, (j2, z) :: ws, ⟨h1, h2⟩, e => by
    simp only [List.map_cons, List.cons.injEq] at h1
    obtain ⟨h1, h1r⟩ := h1
    simp only [List.map_cons] at h2
    cases h2 with
    | cons h2 h2r =>
      subst h1
      cases hk : (k == j) with
      | true =>
        simp only [List.lookup, hk] at e
        cases e
        exact ⟨z, by simp only [List.lookup, hk], h2⟩
      | false =>
        simp only [List.lookup, hk] at e
        obtain ⟨z', e1, e2⟩ := KRw.look (ws := ws) ⟨h1r, h2r⟩ e
        exact ⟨z', by simp only [List.lookup, hk]; exact e1, e2⟩
theorem KRw.none {k : Str} : ∀ {kvs : List (Str × PV)} {ws : List (Str × V)}, KRw C.K φ H kvs ws → kvs.lookup k = none → ws.lookup k = none
  | [], [], _, _ => rfl
  | [], _ :: _, h, _ => by simp [KRw] at h
  | (j, v) :: r, [], h, _ => by simp [KRw] at h
  | (j, v) :: r, (j2, z) :: ws, ⟨h1, h2⟩, e => by
    simp only [List.map_cons, List.cons.injEq] at h1
    obtain ⟨h1, h1r⟩ := h1
    simp only [List.map_cons] at h2
    cases h2 with
    | cons h2 h2r =>
      subst h1
      cases hk : (k == j) with
      | true => simp only [List.lookup, hk] at e; cases e
      | false =>
        simp only [List.lookup, hk] at e ⊢
        exact KRw.none (ws := ws) ⟨h1r, h2r⟩ e
theorem KRw.len {kvs : List (Str × PV)} {ws : List (Str × V)} (h : KRw C.K φ H kvs ws) : kvs.length = ws.length := by
  have e := congrArg List.length h.1
  simpa using e
/-- the hand layer's store of a field is ours -/
theorem KRw.putF {k : Str} {b : PV} {z : V} (r : R C.K φ H b z) : ∀ {kvs : List (Str × PV)} {ws : List (Str × V)}, KRw C.K φ H kvs ws → KRw C.K φ H (putD k b kvs) (L2.putF k z ws)
  | [], [], _ => ⟨rfl, .cons r .nil⟩
  | [], _ :: _, h => by simp [KRw] at h
  | (j, v) :: t, [], h => by simp [KRw] at h
  | (j, v) :: t, (j2, u) :: ws, ⟨h1, h2⟩ => by
    simp only [List.map_cons, List.cons.injEq] at h1
    obtain ⟨h1, h1r⟩ := h1
    simp only [List.map_cons] at h2
    cases h2 with
    | cons h2 h2r =>
      subst h1
      show KRw C.K φ H (if j = k then (j, b) :: t else (j, v) :: putD k b t) (if j = k then (j, z) :: ws else (j, u) :: L2.putF k z ws)
      by_cases hk : j = k
      · rw [if_pos hk, if_pos hk]
        exact ⟨by simp only [List.map_cons, h1r], .cons r h2r⟩
      · rw [if_neg hk, if_neg hk]
        obtain ⟨q1, q2⟩ := KRw.putF r (kvs := t) (ws := ws) ⟨h1r, h2r⟩
        exact ⟨by simp only [List.map_cons, q1], .cons h2 q2⟩
theorem any_dk (k : Str) : ∀ ws : List (Str × V), ((dkOf ws).any fun p => decide (p.1 = (Sum.inr k : Key))) = ws.any fun p => decide (p.1 = k)
  | [] => rfl
  | (j, z) :: r => by
    have ih := any_dk k r
    show (decide ((Sum.inr j : Key) = Sum.inr k) || ((dkOf r).any fun p => decide (p.1 = (Sum.inr k : Key)))) = (decide (j = k) || (r.any fun p => decide (p.1 = k)))
    rw [ih, key_rr]
theorem map_dk (k : Str) (z : V) : ∀ ws : List (Str × V), ((dkOf ws).map fun p => if p.1 = (Sum.inr k : Key) then (p.1, z) else p) = dkOf (ws.map fun p => if p.1 = k then (p.1, z) else p)
  | [] => rfl
  | (j, u) :: r => by
    have ih := map_dk k z r
    show (if (Sum.inr j : Key) = Sum.inr k then ((Sum.inr j : Key), z) else (Sum.inr j, u)) :: ((dkOf r).map fun p => if p.1 = (Sum.inr k : Key) then (p.1, z) else p) = dkOf ((if j = k then (j, z) else (j, u)) :: (r.map fun p => if p.1 = k then (p.1, z) else p))
    rw [ih]
    by_cases h : j = k
    · rw [if_pos (congrArg Sum.inr h), if_pos h]; rfl
    · rw [if_neg (fun e => h (Sum.inr.inj e)), if_neg h]; rfl
theorem putK_dk (ws : List (Str × V)) (k : Str) (z : V) : putK (dkOf ws) (Sum.inr k : Key) z = dkOf (putKs ws k z) := by
  unfold putK putKs
  rw [any_dk, map_dk]
  by_cases h : (ws.any fun p => decide (p.1 = k)) = true
  · rw [if_pos h, if_pos h]
  · rw [if_neg h, if_neg h]
    show dkOf ws ++ [(Sum.inr k, z)] = dkOf (ws ++ [(k, z)])
    unfold dkOf
    rw [List.map_append]; rfl
theorem any_keys {α β : Type} (k : Str) : ∀ {kvs : List (Str × α)} {ws : List (Str × β)}, kvs.map (·.1) = ws.map (·.1) → (kvs.any fun p => decide (p.1 = k)) = ws.any fun p => decide (p.1 = k) := by
  intro kvs ws h
  have e : ∀ {γ : Type} (l : List (Str × γ)), (l.any fun p => decide (p.1 = k)) = (l.map (·.1)).any fun x => decide (x = k) := fun l => by rw [List.any_map]; rfl
  rw [e, e, h]
theorem KRw.put {k : Str} {b : PV} {z : V} (r : R C.K φ H b z) {kvs : List (Str × PV)} {ws : List (Str × V)} (h : KRw C.K φ H kvs ws) : KRw C.K φ H (putKs kvs k b) (putKs ws k z) := by
  unfold putKs
  rw [any_keys k h.1]
  by_cases c : (ws.any fun p => decide (p.1 = k)) = true
  · rw [if_pos c, if_pos c]
    clear c
    induction kvs generalizing ws with
    | nil =>
      cases ws with
      | nil => exact ⟨rfl, .nil⟩
      | cons _ _ => simp [KRw] at h
    | cons p t ih =>
      cases ws with
      | nil => simp [KRw] at h
      | cons q ws =>
        obtain ⟨h1, h2⟩ := h
        simp only [List.map_cons, List.cons.injEq] at h1
        simp only [List.map_cons] at h2
        cases h2 with
        | cons h2 h2r =>
          obtain ⟨q1, q2⟩ := ih (ws := ws) ⟨h1.2, h2r⟩
          obtain ⟨j, v⟩ := p
          obtain ⟨j2, u⟩ := q
          have e : j = j2 := h1.1
          subst e
          by_cases hk : j = k
          · refine ⟨?_, ?_⟩
            · simp only [List.map_cons, if_pos hk, q1]
            · simp only [List.map_cons, if_pos hk]; exact .cons r q2
          · refine ⟨?_, ?_⟩
            · simp only [List.map_cons, if_neg hk, q1]
            · simp only [List.map_cons, if_neg hk]; exact .cons h2 q2
  · rw [if_neg c, if_neg c]
    refine ⟨by rw [List.map_append, List.map_append, h.1]; rfl, ?_⟩
    rw [List.map_append, List.map_append]
    exact h.2.append (.cons r .nil)
theorem putKs_len {α : Type} (kvs : List (Str × α)) (k : Str) (v : α) : (putKs kvs k v).length ≤ kvs.length + 1 := by
  unfold putKs
  by_cases c : (kvs.any fun p => decide (p.1 = k)) = true
  · rw [if_pos c, List.length_map]; omega
  · rw [if_neg c, List.length_append]; exact Nat.le_refl _

/-! ### o[i] -/
def rDI : R2 := fun x y H Q => ∃ a v, x = .ref a ∧ DGet H a y (some v) ∧ Q v H
theorem ix_dict (hu : X.A.units + 1 < cLine) : IxR X rDI := by
  intro value slice pins s σ H x y v u Q I rx ry h hs
  obtain ⟨a, z, rfl, g, q⟩ := h
  cases rx
  exact tail_any (dict_typeIs I g) PySem.F.slot_dict_getitem.lookup (d_getItem hu I g ry fun w' s' I' rw' => ⟨z, H, I', rw', q⟩) hs
def rI2 (K : PySem.W.Frag) : R2 := fun x y H Q => rIx K x y H Q ∨ rDI x y H Q
theorem ix_all (hu : X.A.units + 1 < cLine) : IxR X (rI2 X.K) := ix_seq.or (ix_dict hu)
theorem opI_ok (a : At C φ env S σ H) (rv : R C.K φ H v x) (rw_ : R C.K φ H w y) (p : Post C W (R C.K) φ H σ Q (opI v w S)) : rI2 C.K x y H Q := by
  cases rv with
  | @tup l xs b hs ra =>
    cases rw_ with
    | int i =>
      obtain ⟨z, e, p2⟩ := one_ok (o := atP l i) p
      obtain ⟨u, h1, h2⟩ := atP_ok ra e
      exact .inl (.inr (.inl ⟨b, xs, i, u, rfl, rfl, hs, h1, Post.ok p2 a.rs h2⟩))
    | _ => exact (show False from p).elim
  | @ref n b hn =>
    cases rw_ with
    | int i =>
      have p1 : Post C W (R C.K) φ H σ Q (match S[n]? with
        | some (.lst l) => one (atP l i) S
        | some (.fro l) => one (atP l i) S
        | _ => .bad) := p
      cases e : S[n]? with
      | none => rw [e] at p1; exact p1.elim
      | some o =>
        rw [e] at p1
        have q := a.rs.ob n o b e hn
        cases o with
        | lst l =>
          obtain ⟨z, e, p2⟩ := one_ok (o := atP l i) p1
          obtain ⟨vs, h1, ra⟩ := q
          obtain ⟨u, h2, h3⟩ := atP_ok ra e
          exact .inl (.inl ⟨b, vs, i, u, rfl, rfl, SqL.of h1, h2, Post.ok p2 a.rs h3⟩)
        | fro l =>
          obtain ⟨z, e, p2⟩ := one_ok (o := atP l i) p1
          rcases q with ⟨ob, vs, h1, ra⟩ | ⟨vs, h1, ra⟩
          · obtain ⟨u, h2, h3⟩ := atP_ok ra e
            exact .inl (.inl ⟨b, vs, i, u, rfl, rfl, .inl (.inr ⟨ob, h1⟩), h2, Post.ok p2 a.rs h3⟩)
          · obtain ⟨u, h2, h3⟩ := atP_ok ra e
            exact .inl (.inl ⟨b, vs, i, u, rfl, rfl, .inr h1, h2, Post.ok p2 a.rs h3⟩)
        | _ => exact p1.elim
    | str k =>
      have p1 : Post C W (R C.K) φ H σ Q (match S[n]? with
        | some (.dct kvs) => one (getD_ kvs k) S
        | _ => .bad) := p
      cases e : S[n]? with
      | none => rw [e] at p1; exact p1.elim
      | some o =>
        rw [e] at p1
        have q := a.rs.ob n o b e hn
        cases o with
        | dct kvs =>
          obtain ⟨z, e, p2⟩ := one_ok (o := getD_ kvs k) p1
          obtain ⟨ws, h1, h2⟩ := q
          obtain ⟨u, h3, h4⟩ := h2.look e
          refine .inr ⟨b, u, rfl, ?_, Post.ok p2 a.rs h4⟩
          have g := DGet.k (k := Sum.inr k) h1
          rw [valV_dk, h3] at g
          exact g
        | _ => exact p1.elim
    | _ => exact (show False from p).elim
  | _ => cases rw_ <;> exact (show False from p).elim

/-! ### o[i] = v -/
def rSD : V → V → V → Hp → (Hp → Prop) → Prop := fun o i v H Q => ∃ a H', o = .ref a ∧ DPut H a i v H' ∧ Q H'
theorem set_dict (hu : X.A.units + 1 < cLine) : PSet X rSD := by
  intro pins s σ H o i v ov iv u Q I ro ri rv h
  obtain ⟨a, H', rfl, g, q⟩ := h
  cases ro
  exact d_setItem hu I g ri rv fun s' I' => ⟨H', I', q⟩
def rS2 : V → V → V → Hp → (Hp → Prop) → Prop := fun o i v H Q => rSetL o i v H Q ∨ rSD o i v H Q
theorem set_all (hu : X.A.units + 1 < cLine) : PSet X rS2 := by
  intro pins s σ H o i v ov iv u Q I ro ri rv h
  rcases h with h | h
  · exact set_list pins s σ H o i v ov iv u Q I ro ri rv h
  · exact set_dict hu pins s σ H o i v ov iv u Q I ro ri rv h
def RU : List Addr → Hp → Unit → Unit → Prop := fun _ _ _ _ => True
theorem setI_ok {u : PV} {z : V} {Qu : Unit → Hp → Prop} (a : At C φ env S σ H) (rv : R C.K φ H v x) (rw_ : R C.K φ H w y) (ru : R C.K φ H u z) (p : Post C W RU φ H σ Qu (setI v w u S)) : rS2 x y z H (Qu ()) := by
  cases rv with
  | @ref n b hn =>
    cases rw_ with
    | int i =>
      have p1 : Post C W RU φ H σ Qu (match S[n]? with
        | some (.lst l) => (match ixP l.length i with
          | some k => .ok () (S.set n (.lst (l.set k u)))
          | none => .bad)
        | _ => .bad) := p
      cases e : S[n]? with
      | none => rw [e] at p1; exact p1.elim
      | some o =>
        rw [e] at p1
        have q := a.rs.ob n o b e hn
        cases o with
        | lst l =>
          have p2 : Post C W RU φ H σ Qu (match ixP l.length i with
            | some k => .ok () (S.set n (.lst (l.set k u)))
            | none => .bad) := p1
          obtain ⟨vs, h1, ra⟩ := q
          cases e2 : ixP l.length i with
          | none => rw [e2] at p2; exact p2.elim
          | some k =>
            rw [e2] at p2
            rw [ixP_eq, ra.length] at e2
            refine .inl ⟨b, vs, i, k, rfl, rfl, h1, e2, ?_⟩
            have le : Le φ H φ (upd H b (.lst (vs.set k z))) := Le.upd fun o e => by rw [h1] at e; cases e; exact id
            exact Post.at p2 le (a.rs.set hn h1 id (fun ps z => by cases z) (a.rs.noKb e fun l z => by cases z) ⟨_, upd_same, (RA.set ru k ra).mono le⟩) True.intro
        | _ => exact p1.elim
    | str k =>
      have p1 : Post C W RU φ H σ Qu (match S[n]? with
        | some (.dct kvs) => if kvs.length < 100 then .ok () (S.set n (.dct (putKs kvs k u))) else .bad
        | _ => .bad) := p
      cases e : S[n]? with
      | none => rw [e] at p1; exact p1.elim
      | some o =>
        rw [e] at p1
        have q := a.rs.ob n o b e hn
        cases o with
        | dct kvs =>
          have p2 : Post C W RU φ H σ Qu (if kvs.length < 100 then .ok () (S.set n (.dct (putKs kvs k u))) else .bad) := p1
          by_cases c : kvs.length < 100
          · rw [if_pos c] at p2
            obtain ⟨ws, h1, h2⟩ := q
            have hl : (dkOf ws).length < sizeLine := by
              unfold dkOf
              rw [List.length_map, ← h2.len, sizeLine_eq]
              omega
            refine .inr ⟨b, _, rfl, DPut.k (k := Sum.inr k) h1 hl, ?_⟩
            have le : Le φ H φ (upd H b (.dK (putK (dkOf ws) (Sum.inr k) z))) := Le.upd fun o e => by rw [h1] at e; cases e; exact id
            refine Post.at p2 le (a.rs.set hn h1 id (fun ps z => by cases z) (a.rs.noKb e fun l z => by cases z) ⟨putKs ws k z, ?_, KRw.mono (C := C) le (KRw.put ru h2)⟩) True.intro
            rw [upd_same, putK_dk]
          · rw [if_neg c] at p2; exact p2.elim
        | _ => exact p1.elim
    | _ => exact (show False from p).elim
  | _ => cases rw_ <;> exact (show False from p).elim

/-! ### slices -/
theorem sIxP_eq (n d : Nat) (o : Option Int) : sIxP n d o = HT.sIx n d o := by
  cases o <;> rfl
theorem cutP_ok {l : List PV} {xs : List V} (lo hi : Option Int) (ra : RA C.K φ H l xs) : RA C.K φ H (cutP l lo hi) (cutV xs lo hi) := by
  unfold cutP cutV
  rw [sIxP_eq, sIxP_eq, ra.length]
  exact (ra.drop _).take _
theorem sIx_whole {α : Type} {l : List α} {lo hi : Option Int} (h : HT.sIx l.length 0 lo = 0 ∧ HT.sIx l.length l.length hi = l.length) : (l.drop (HT.sIx l.length 0 lo)).take (HT.sIx l.length l.length hi - HT.sIx l.length 0 lo) = l := by
  rw [h.1, h.2]
  simp
def rS3 (K : PySem.W.Frag) : V → Option Int → Option Int → Hp → VK → Prop := fun x lo hi H Q => rSlA K x lo hi H Q ∨ rSlL K x lo hi H Q
theorem sl_all : SlR X (rS3 X.K) := sl_tupA.or sl_list
theorem opS_ok {lo hi : Option Int} (a : At C φ env S σ H) (rv : R C.K φ H v x) (p : Post C W (R C.K) φ H σ Q (opS v lo hi S)) : rS3 C.K x lo hi H Q := by
  cases rv with
  | @tup l xs b hs ra =>
    have p1 : Post C W (R C.K) φ H σ Q (.ok (.tup (cutP l lo hi)) S) := p
    refine .inl ⟨b, xs, rfl, hs, fun h => ?_, fun h q hq => ?_⟩
    · have e : cutP l lo hi = l := by
        unfold cutP
        rw [sIxP_eq, sIxP_eq]
        rw [← ra.length] at h
        exact sIx_whole h
      rw [e] at p1
      exact Post.ok p1 a.rs (.tup hs ra)
    · exact Post.at p1 (Le.new hq) (a.rs.new hq) (.tup (SqT.of upd_same) ((cutP_ok lo hi ra).mono (Le.new hq)))
  | @ref n b hn =>
    have p1 : Post C W (R C.K) φ H σ Q (match S[n]? with
      | some (.lst l) => .ok (.ref S.length) (S ++ [.lst (cutP l lo hi)])
      | some (.fro l) => .ok (.ref S.length) (S ++ [.lst (cutP l lo hi)])
      | _ => .bad) := p
    have fin : ∀ {l : List PV} {vs : List V}, RA C.K φ H l vs → Post C W (R C.K) φ H σ Q (.ok (.ref S.length) (S ++ [.lst (cutP l lo hi)])) → ∀ q, H q = none → Q (.ref q) (upd H q (.lst (cutV vs lo hi))) := fun {l vs} ra p2 q hq =>
      Post.at p2 (Le.push hq) (a.rs.push hq ⟨_, upd_same, (cutP_ok lo hi ra).mono (Le.push hq)⟩) (.ref (by rw [a.rs.len]; simp))
    cases e : S[n]? with
    | none => rw [e] at p1; exact p1.elim
    | some o =>
      rw [e] at p1
      have q := a.rs.ob n o b e hn
      cases o with
      | lst l =>
        obtain ⟨vs, h1, ra⟩ := q
        exact .inr ⟨b, vs, rfl, SqL.of h1, fin ra p1⟩
      | fro l =>
        rcases q with ⟨ob, vs, h1, ra⟩ | ⟨vs, h1, ra⟩
        · exact .inr ⟨b, vs, rfl, .inl (.inr ⟨ob, h1⟩), fin ra p1⟩
        · exact .inr ⟨b, vs, rfl, .inr h1, fin ra p1⟩
      | _ => exact p1.elim
  | _ => exact (show False from p).elim

/-! ### isinstance -/
def tyS : TyN → String
  | .int => "int" | .bool => "bool" | .str => "str" | .tuple => "tuple" | .list => "list"
theorem kit_non (t : TyN) : PySem.W.kitOne C.K (.type "NoneType") (.type (tyS t)) = some false := by cases t <;> exact kit_ty (by decide +kernel)
theorem kit_bl (t : TyN) : PySem.W.kitOne C.K (.type "bool") (.type (tyS t)) = some (match t with | .int => true | .bool => true | _ => false) := by cases t <;> exact kit_ty (by decide +kernel)
theorem kit_int (t : TyN) : PySem.W.kitOne C.K (.type "int") (.type (tyS t)) = some (match t with | .int => true | _ => false) := by cases t <;> exact kit_ty (by decide +kernel)
theorem kit_str (t : TyN) : PySem.W.kitOne C.K (.type "str") (.type (tyS t)) = some (match t with | .str => true | _ => false) := by cases t <;> exact kit_ty (by decide +kernel)
theorem kit_tup (t : TyN) : PySem.W.kitOne C.K (.type "tuple") (.type (tyS t)) = some (match t with | .tuple => true | _ => false) := by cases t <;> exact kit_ty (by decide +kernel)
theorem kit_lst (t : TyN) : PySem.W.kitOne C.K (.type "list") (.type (tyS t)) = some (match t with | .list => true | _ => false) := by cases t <;> exact kit_ty (by decide +kernel)
theorem tyx_tup {K : PySem.W.Frag} {a : Addr} {xs : List V} (h : SqT K H a xs) : TyX K H (.ref a) (.type "tuple") := by
  rcases h with (h | ⟨o, h⟩) | ⟨o, its, n, h1, h2, _⟩
  · exact .base (.tup h)
  · exact .fTuple h
  · exact .kTuple h1 h2
theorem isT_ok {t : TyN} {b : Bool} (a : At C φ env S σ H) (rv : R C.K φ H v x) (e : isT v S t = some b) : ∃ ty, TyX C.K H x ty ∧ PySem.W.kitOne C.K ty (.type (tyS t)) = some b := by
  cases rv with
  | non => exact ⟨_, .base .non, (kit_non t).trans e⟩
  | bl k => exact ⟨_, .base (.bl k), (kit_bl t).trans e⟩
  | int i => exact ⟨_, .base (.int i), (kit_int t).trans e⟩
  | str s => exact ⟨_, .base (.str s), (kit_str t).trans e⟩
  | tup hs ra => exact ⟨_, tyx_tup hs, (kit_tup t).trans e⟩
  | @ref n ad hn =>
    have e1 : (match S[n]? with
      | some (.lst _) => some (match (generalizing := false) t with | .list => true | _ => false)
      | some (.fro _) => some (match (generalizing := false) t with | .list => true | _ => false)
      | _ => none) = some b := e
    cases e2 : S[n]? with
    | none => rw [e2] at e1; cases e1
    | some o =>
      rw [e2] at e1
      have q := a.rs.ob n o ad e2 hn
      cases o with
      | lst l =>
        obtain ⟨vs, h1, ra⟩ := q
        exact ⟨_, .base (.lst h1), (kit_lst t).trans e1⟩
      | fro l =>
        rcases q with ⟨ob, vs, h1, ra⟩ | ⟨vs, ⟨o, its, k, h1, h2, _⟩, ra⟩
        · exact ⟨_, .base (.frz h1), (kit_lst t).trans e1⟩
        · exact ⟨_, .kList h1 h2, (kit_lst t).trans e1⟩
      | _ => cases e1

/-! ### built-ins of values -/
theorem ra1 {l : List PV} {v : PV} {xs : List V} (h : RA C.K φ H [v] xs) : ∃ x, xs = [x] ∧ R C.K φ H v x := by
  cases h with
  | cons h r => cases r; exact ⟨_, rfl, h⟩
theorem ra2 {v w : PV} {xs : List V} (h : RA C.K φ H [v, w] xs) : ∃ x y, xs = [x, y] ∧ R C.K φ H v x ∧ R C.K φ H w y := by
  cases h with
  | cons h r => cases r with
    | cons h2 r => cases r; exact ⟨_, _, rfl, h, h2⟩
theorem r_int {i : Int} {x : V} (h : R C.K φ H (.int i) x) : x = .int i := by cases h; rfl
theorem r_bl {i : Bool} {x : V} (h : R C.K φ H (.bl i) x) : x = .bl i := by cases h; rfl
theorem ints_ok : ∀ {l : List PV} {ns : List Int} {xs : List V}, RA C.K φ H l xs → intsP l = some ns → xs = ns.map V.int
  | [], _, _, .nil, e => by cases e; rfl
  | .int i :: r, ns, _, .cons h1 h2, e => by
    have e1 : (intsP r).map (i :: ·) = some ns := e
    cases e2 : intsP r with
    | none => rw [e2] at e1; cases e1
    | some ms =>
      rw [e2] at e1
      cases e1
      rw [r_int h1, ints_ok h2 e2]
      rfl
  | .non :: r, _, _, _, e => by cases e
  | .bl _ :: r, _, _, _, e => by cases e
  | .str _ :: r, _, _, _, e => by cases e
  | .tup _ :: r, _, _, _, e => by cases e
  | .ref _ :: r, _, _, _, e => by cases e
theorem bools_ok : ∀ {l : List PV} {ns : List Bool} {xs : List V}, RA C.K φ H l xs → boolsP l = some ns → xs = ns.map V.bl
  | [], _, _, .nil, e => by cases e; rfl
  | .bl i :: r, ns, _, .cons h1 h2, e => by
    have e1 : (boolsP r).map (i :: ·) = some ns := e
    cases e2 : boolsP r with
    | none => rw [e2] at e1; cases e1
    | some ms =>
      rw [e2] at e1
      cases e1
      rw [r_bl h1, bools_ok h2 e2]
      rfl
  | .non :: r, _, _, _, e => by cases e
  | .int _ :: r, _, _, _, e => by cases e
  | .str _ :: r, _, _, _, e => by cases e
  | .tup _ :: r, _, _, _, e => by cases e
  | .ref _ :: r, _, _, _, e => by cases e
end
end Mi
end

section
set_option Elab.async false
set_option linter.all false
set_option maxRecDepth 100000
set_option maxHeartbeats 4000000
/-! Mi: built-ins, methods, fields by values; readings that are handed on. -/
namespace Mi
open PySem PySem.Spec L2
open PyProof.Rows hiding St
section
variable {C : Cn} {W : WX} {φ φ' : List Addr} {H H' : Hp} {σ : St} {S : Sto} {env : Env1} {X : Cx} {v w : PV} {x y : V} {Q : VK}
/-! ### built-ins -/
def rBI : BI → PySem.W.Frag → List V → Hp → VK → Prop
  | .len, K => fun xs H Q => ∃ x n, xs = [x] ∧ LenV K x H n ∧ Q (.int n) H
  | .abs, _ => fun xs H Q => ∃ i, xs = [.int i] ∧ Q (.int (if i < 0 then -i else i)) H
  | .min2, _ => fun xs H Q => ∃ i j, xs = [.int i, .int j] ∧ Q (.int (if j < i then j else i)) H
  | .max2, _ => fun xs H Q => ∃ i j, xs = [.int i, .int j] ∧ Q (.int (if j > i then j else i)) H
  | .int, _ => fun xs H Q => (∃ i, xs = [.int i] ∧ Q (.int i) H) ∨ ∃ k, xs = [.bl k] ∧ Q (.int (if k then 1 else 0)) H
  | .sum, K => rSum K
  | .all, K => rAll K
  | .any, K => rAny K
  | .tuple, K => fun xs H Q => ∃ p ys, xs = [.ref p] ∧ ((SqL K H p ys ∧ ∀ l, H l = none → Q (.ref l) (upd H l (.tup ys))) ∨ (SqT K H p ys ∧ Q (.ref p) H))
  | .list, K => fun xs H Q => ∃ p ys, xs = [.ref p] ∧ (SqL K H p ys ∨ SqT K H p ys) ∧ ∀ l, H l = none → Q (.ref l) (upd H l (.lst ys))
  | .gcd, _ => fun _ _ _ => False
def biN : BI → Str
  | .len => "len" | .abs => "abs" | .min2 => "min" | .max2 => "max" | .int => "int" | .sum => "sum" | .all => "all" | .any => "any" | .tuple => "tuple" | .list => "list" | .gcd => "gcd"
def biV : BI → Value
  | .len => .builtin "len" | .abs => .builtin "abs" | .min2 => .builtin "min" | .max2 => .builtin "max" | .int => .type "int" | .sum => .builtin "sum" | .all => .builtin "all" | .any => .builtin "any"
  | .tuple => .type "tuple" | .list => .type "list" | .gcd => .builtin "math.gcd"
theorem rBI_ok (hc : X.calm = true) (b : BI) : CallR X (biV b) (rBI b X.K) := by
  cases b
  · exact call_len
  · exact call_abs
  · exact call_min2 hc
  · exact call_max2 hc
  · exact cr_sum hc
  · exact cr_all hc
  · exact cr_any hc
  · exact call_int1
  · exact call_tuple_of
  · exact call_list_of
  · exact fun _ _ _ _ _ _ _ _ _ h => h.elim
theorem ra_one {v : PV} {r : List PV} {xs : List V} (h : RA C.K φ H (v :: r) xs) : ∃ x ys, xs = x :: ys ∧ R C.K φ H v x ∧ RA C.K φ H r ys := by
  cases h with
  | cons h r => exact ⟨_, _, rfl, h, r⟩
/-- a list that is summed -/
theorem lst_at {n : Nat} {x : V} {l : List PV} (r : RS C φ H S) (rv : R C.K φ H (.ref n) x) (e : S[n]? = some (.lst l)) : ∃ a vs, x = .ref a ∧ φ[n]? = some a ∧ H a = some (.lst vs) ∧ RA C.K φ H l vs := by
  cases rv with
  | @ref _ a hn =>
    obtain ⟨vs, h1, ra⟩ := r.ob n _ a e hn
    exact ⟨a, vs, rfl, hn, h1, ra⟩
theorem opBI_ok {b : BI} {vs : List PV} {xs : List V} (a : At C φ env S σ H) (ra : RA C.K φ H vs xs) (p : Post C W (R C.K) φ H σ Q (opBI b vs S)) : rBI b C.K xs H Q := by
  have seq : ∀ {v : PV} {f : List PV → M PV}, (Post C W (R C.K) φ H σ Q (match items S v with
      | some l => f l
      | none => .bad)) → ∃ l, items S v = some l ∧ Post C W (R C.K) φ H σ Q (f l) := fun {v f} p => by
    cases e : items S v with
    | none => rw [e] at p; exact (show False from p).elim
    | some l => rw [e] at p; exact ⟨l, rfl, p⟩
  cases ra with
  | nil => cases b <;> exact (show False from p).elim
  | @cons v x r xs rv ra =>
    cases b with
    | len =>
      cases ra with
      | cons _ _ => exact (show False from by cases rv <;> exact p).elim
      | nil =>
        have go : ∀ {l : List PV}, items S v = some l → Post C W (R C.K) φ H σ Q (.ok (.int l.length) S) → rBI .len C.K [x] H Q := fun {l} e p2 => by
          obtain ⟨q, ys, rfl, hs, rl⟩ := items_ok a.rs rv e
          refine ⟨_, l.length, rfl, ?_, Post.ok p2 a.rs (.int _)⟩
          rw [rl.length]
          rcases hs with hs | hs
          · exact .inl ⟨ys, hs, rfl⟩
          · exact .inr ⟨ys, hs, rfl⟩
        cases rv with
        | str s =>
          have p1 : Post C W (R C.K) φ H σ Q (if s.length ≤ sizeLine then .ok (.int s.length) S else .bad) := p
          by_cases c : s.length ≤ sizeLine
          · rw [if_pos c] at p1
            exact ⟨_, s.length, rfl, ⟨c, rfl⟩, Post.ok p1 a.rs (.int _)⟩
          · rw [if_neg c] at p1; exact (show False from p1).elim
        | tup hs rl => exact go (l := _) rfl p
        | @ref n ad hn =>
          obtain ⟨l, e, p2⟩ := seq (f := fun l => .ok (.int l.length) S) p
          exact go e p2
        | _ => exact (show False from p).elim
    | abs =>
      cases ra with
      | cons _ _ => exact (show False from by cases rv <;> exact p).elim
      | nil =>
        cases rv with
        | int i => exact ⟨i, rfl, Post.ok p a.rs (.int _)⟩
        | _ => exact (show False from p).elim
    | min2 =>
      cases ra with
      | nil => exact (show False from by cases rv <;> exact p).elim
      | cons rv2 ra =>
        cases ra with
        | cons _ _ => exact (show False from by cases rv <;> cases rv2 <;> exact p).elim
        | nil =>
          cases rv with
          | int i =>
            cases rv2 with
            | int j => exact ⟨i, j, rfl, Post.ok p a.rs (.int _)⟩
            | _ => exact (show False from p).elim
          | _ => exact (show False from by cases rv2 <;> exact p).elim
    | max2 =>
      cases ra with
      | nil => exact (show False from by cases rv <;> exact p).elim
      | cons rv2 ra =>
        cases ra with
        | cons _ _ => exact (show False from by cases rv <;> cases rv2 <;> exact p).elim
        | nil =>
          cases rv with
          | int i =>
            cases rv2 with
            | int j => exact ⟨i, j, rfl, Post.ok p a.rs (.int _)⟩
            | _ => exact (show False from p).elim
          | _ => exact (show False from by cases rv2 <;> exact p).elim
    | int =>
      cases ra with
      | cons _ _ => exact (show False from by cases rv <;> exact p).elim
      | nil =>
        cases rv with
        | int i => exact .inl ⟨i, rfl, Post.ok p a.rs (.int _)⟩
        | bl k => exact .inr ⟨k, rfl, Post.ok p a.rs (.int _)⟩
        | _ => exact (show False from p).elim
    | sum =>
      cases ra with
      | cons _ _ => exact (show False from by cases rv <;> exact p).elim
      | nil =>
        cases rv with
        | @ref n ad hn =>
          have p1 : Post C W (R C.K) φ H σ Q (match S[n]? with
            | some (.lst l) => (match intsP l with
              | some ns => .ok (.int ns.sum) S
              | none => .bad)
            | _ => .bad) := p
          cases e : S[n]? with
          | none => rw [e] at p1; exact (show False from p1).elim
          | some o =>
            rw [e] at p1
            cases o with
            | lst l =>
              obtain ⟨a2, us, e1, _, h1, rl⟩ := lst_at a.rs (R.ref (K := C.K) (H := H) hn) e
              cases e1
              have p2 : Post C W (R C.K) φ H σ Q (match intsP l with
                | some ns => .ok (.int ns.sum) S
                | none => .bad) := p1
              cases e2 : intsP l with
              | none => rw [e2] at p2; exact (show False from p2).elim
              | some ns =>
                rw [e2] at p2
                have e3 := ints_ok rl e2
                subst e3
                exact ⟨ad, ns, rfl, SqL.of h1, Post.ok p2 a.rs (.int _)⟩
            | _ => exact (show False from p1).elim
        | _ => exact (show False from p).elim
    | all =>
      cases ra with
      | cons _ _ => exact (show False from by cases rv <;> exact p).elim
      | nil =>
        cases rv with
        | @ref n ad hn =>
          have p1 : Post C W (R C.K) φ H σ Q (match S[n]? with
            | some (.lst l) => (match boolsP l with
              | some bs => .ok (.bl (bs.all id)) S
              | none => .bad)
            | _ => .bad) := p
          cases e : S[n]? with
          | none => rw [e] at p1; exact (show False from p1).elim
          | some o =>
            rw [e] at p1
            cases o with
            | lst l =>
              obtain ⟨a2, us, e1, _, h1, rl⟩ := lst_at a.rs (R.ref (K := C.K) (H := H) hn) e
              cases e1
              have p2 : Post C W (R C.K) φ H σ Q (match boolsP l with
                | some bs => .ok (.bl (bs.all id)) S
                | none => .bad) := p1
              cases e2 : boolsP l with
              | none => rw [e2] at p2; exact (show False from p2).elim
              | some ns =>
                rw [e2] at p2
                have e3 := bools_ok rl e2
                subst e3
                exact ⟨ad, ns, rfl, SqL.of h1, Post.ok p2 a.rs (.bl _)⟩
            | _ => exact (show False from p1).elim
        | _ => exact (show False from p).elim
    | any =>
      cases ra with
      | cons _ _ => exact (show False from by cases rv <;> exact p).elim
      | nil =>
        cases rv with
        | @ref n ad hn =>
          have p1 : Post C W (R C.K) φ H σ Q (match S[n]? with
            | some (.lst l) => (match boolsP l with
              | some bs => .ok (.bl (bs.any id)) S
              | none => .bad)
            | _ => .bad) := p
          cases e : S[n]? with
          | none => rw [e] at p1; exact (show False from p1).elim
          | some o =>
            rw [e] at p1
            cases o with
            | lst l =>
              obtain ⟨a2, us, e1, _, h1, rl⟩ := lst_at a.rs (R.ref (K := C.K) (H := H) hn) e
              cases e1
              have p2 : Post C W (R C.K) φ H σ Q (match boolsP l with
                | some bs => .ok (.bl (bs.any id)) S
                | none => .bad) := p1
              cases e2 : boolsP l with
              | none => rw [e2] at p2; exact (show False from p2).elim
              | some ns =>
                rw [e2] at p2
                have e3 := bools_ok rl e2
                subst e3
                exact ⟨ad, ns, rfl, SqL.of h1, Post.ok p2 a.rs (.bl _)⟩
            | _ => exact (show False from p1).elim
        | _ => exact (show False from p).elim
    | tuple =>
      cases ra with
      | cons _ _ => exact (show False from by cases rv <;> exact p).elim
      | nil =>
        cases rv with
        | @tup l ys q hs rl =>
          have p2 : Post C W (R C.K) φ H σ Q (.ok (.tup l) S) := p
          exact ⟨q, ys, rfl, .inr ⟨hs, Post.ok p2 a.rs (.tup hs rl)⟩⟩
        | @ref n ad hn =>
          obtain ⟨l, e, p2⟩ := seq (f := fun l => .ok (.tup l) S) p
          obtain ⟨q, ys, e1, hs, rl⟩ := items_ok a.rs (R.ref (K := C.K) (H := H) hn) e
          cases e1
          rcases hs with hs | hs
          · exact ⟨ad, ys, rfl, .inl ⟨hs, fun q hq => Post.at p2 (Le.new hq) (a.rs.new hq) (.tup (SqT.of upd_same) (rl.mono (Le.new hq)))⟩⟩
          · exact ⟨ad, ys, rfl, .inr ⟨hs, Post.ok p2 a.rs (.tup hs rl)⟩⟩
        | _ => exact (show False from p).elim
    | list =>
      cases ra with
      | cons _ _ => exact (show False from by cases rv <;> exact p).elim
      | nil =>
        have go : ∀ {l : List PV}, items S v = some l → Post C W (R C.K) φ H σ Q (.ok (.ref S.length) (S ++ [.lst l])) → rBI .list C.K [x] H Q := fun {l} e p2 => by
          obtain ⟨q, ys, rfl, hs, rl⟩ := items_ok a.rs rv e
          exact ⟨q, ys, rfl, hs, fun q hq => Post.at p2 (Le.push hq) (a.rs.push hq ⟨_, upd_same, rl.mono (Le.push hq)⟩) (.ref (by rw [a.rs.len]; simp))⟩
        cases rv with
        | tup hs rl => exact go (l := _) rfl p
        | @ref n ad hn =>
          obtain ⟨l, e, p2⟩ := seq (v := PV.ref n) (f := fun l => M.ok (PV.ref S.length) (S ++ [Ob.lst l])) p
          exact go e p2
        | _ => exact (show False from p).elim
    | gcd => exact (show False from p).elim

/-! ### methods of lists -/
def mtN : MT → Str
  | .append => "append" | .extend => "extend" | .pop => "pop" | .popAt => "pop"
def mtI : MT → String
  | .append => "list.append" | .extend => "list.extend" | .pop => "list.pop" | .popAt => "list.pop"
def rMT : MT → V → List V → Hp → VK → Prop
  | .append => rAppend
  | .extend => rExtend
  | _ => fun _ _ _ _ => False
theorem rMT_ok (m : MT) : MtR X (mtI m) (rMT m) := by
  cases m
  · exact mt_append
  · exact mt_extend
  · exact fun _ _ _ _ _ _ _ _ _ _ _ _ h => h.elim
  · exact fun _ _ _ _ _ _ _ _ _ _ _ _ h => h.elim
theorem opM_ok {m : MT} {vs : List PV} {xs : List V} (a : At C φ env S σ H) (rv : R C.K φ H v x) (ra : RA C.K φ H vs xs) (p : Post C W (R C.K) φ H σ Q (opM m v vs S)) : rMT m x xs H Q := by
  cases m with
  | append =>
    cases rv with
    | @ref n ad hn =>
      cases ra with
      | nil => exact (show False from p).elim
      | @cons u z _ _ ru ra =>
        cases ra with
        | cons _ _ => exact (show False from p).elim
        | nil =>
          have p1 : Post C W (R C.K) φ H σ Q (match S[n]? with
            | some (.lst l) => if l.length < sizeLine then .ok .non (S.set n (.lst (l ++ [u]))) else .bad
            | _ => .bad) := p
          cases e : S[n]? with
          | none => rw [e] at p1; exact (show False from p1).elim
          | some o =>
            rw [e] at p1
            cases o with
            | lst l =>
              obtain ⟨a2, us, e1, _, h1, rl⟩ := lst_at a.rs (R.ref (K := C.K) (H := H) hn) e
              cases e1
              have p2 : Post C W (R C.K) φ H σ Q (if l.length < sizeLine then .ok .non (S.set n (.lst (l ++ [u]))) else .bad) := p1
              by_cases c : l.length < sizeLine
              · rw [if_pos c] at p2
                have le : Le φ H φ (upd H ad (.lst (us ++ [z]))) := Le.upd fun o e => by rw [h1] at e; cases e; exact id
                refine ⟨ad, us, z, rfl, rfl, h1, by rw [← rl.length]; exact c, Post.at p2 le (a.rs.set hn h1 id (fun ps z => by cases z) (a.rs.noKb e fun l z => by cases z) ⟨_, upd_same, (rl.append (.cons ru .nil)).mono le⟩) .non⟩
              · rw [if_neg c] at p2; exact (show False from p2).elim
            | _ => exact (show False from p1).elim
    | _ => exact (show False from p).elim
  | extend =>
    cases rv with
    | @ref n ad hn =>
      cases ra with
      | nil => exact (show False from p).elim
      | @cons u z _ _ ru ra =>
        cases ra with
        | cons _ _ => exact (show False from by cases ru <;> exact p).elim
        | nil =>
          cases ru with
          | @ref k bd hk =>
            have p1 : Post C W (R C.K) φ H σ Q (match S[n]?, S[k]? with
              | some (.lst l), some (.lst r) => if l.length + r.length ≤ sizeLine then .ok .non (S.set n (.lst (l ++ r))) else .bad
              | _, _ => .bad) := p
            cases e : S[n]? with
            | none => rw [e] at p1; exact (show False from p1).elim
            | some o =>
              cases e2 : S[k]? with
              | none => rw [e, e2] at p1; cases o <;> exact (show False from p1).elim
              | some o2 =>
                rw [e, e2] at p1
                cases o with
                | lst l =>
                  cases o2 with
                  | lst r =>
                    obtain ⟨a2, us, e1, _, h1, rl⟩ := lst_at a.rs (R.ref (K := C.K) (H := H) hn) e
                    cases e1
                    obtain ⟨a3, ws, e1, _, h2, rl2⟩ := lst_at a.rs (R.ref (K := C.K) (H := H) hk) e2
                    cases e1
                    have p2 : Post C W (R C.K) φ H σ Q (if l.length + r.length ≤ sizeLine then .ok .non (S.set n (.lst (l ++ r))) else .bad) := p1
                    by_cases c : l.length + r.length ≤ sizeLine
                    · rw [if_pos c] at p2
                      have le : Le φ H φ (upd H ad (.lst (us ++ ws))) := Le.upd fun o e => by rw [h1] at e; cases e; exact id
                      refine ⟨ad, bd, us, ws, rfl, rfl, h1, h2, by rw [← rl.length, ← rl2.length]; exact c, Post.at p2 le (a.rs.set hn h1 id (fun ps z => by cases z) (a.rs.noKb e fun l z => by cases z) ⟨_, upd_same, (rl.append rl2).mono le⟩) .non⟩
                    · rw [if_neg c] at p2; exact (show False from p2).elim
                  | _ => exact (show False from p1).elim
                | _ => cases o2 <;> exact (show False from p1).elim
          | _ => exact (show False from p).elim
    | _ => exact (show False from p).elim
  | pop => exact (show False from by cases rv <;> exact p).elim
  | popAt => exact (show False from by cases rv <;> exact p).elim
theorem opM_ty {m : MT} {vs : List PV} (r : RS C φ H S) (rv : R C.K φ H v x) (h : ∃ l n, v = .ref n ∧ S[n]? = some (.lst l)) : tyV C.K "list" x H := by
  obtain ⟨l, n, rfl, e⟩ := h
  obtain ⟨a, us, rfl, _, h1, _⟩ := lst_at r rv e
  exact .inl ⟨rfl, us, SqL.of h1⟩

/-! ### fields -/
theorem putF_putD (f : Str) : ∀ {fs : List (Str × PV)} {ws : List (Str × V)} {v : PV} {x : V}, R C.K φ H v x → KRw C.K φ H fs ws → KRw C.K φ H (putD f v fs) (putF f x ws)
  | [], [], v, x, r, h => ⟨rfl, .cons r .nil⟩
  | [], _ :: _, _, _, _, h => by simp [KRw] at h
  | _ :: _, [], _, _, _, h => by simp [KRw] at h
  | (j, u) :: fs, (j2, z) :: ws, v, x, r, h => by
    obtain ⟨h1, h2⟩ := h
    simp only [List.map_cons, List.cons.injEq] at h1
    obtain ⟨h1, h3⟩ := h1
    subst h1
    simp only [List.map_cons] at h2
    cases h2 with
    | cons q1 q2 =>
      have ih := putF_putD f r (⟨h3, q2⟩ : KRw C.K φ H fs ws)
      by_cases hj : j = f
      · have e1 : putD f v ((j, u) :: fs) = (j, v) :: fs := if_pos hj
        have e2 : putF f x ((j, z) :: ws) = (j, x) :: ws := if_pos hj
        rw [e1, e2]
        exact ⟨by simp [h3], .cons r q2⟩
      · have e1 : putD f v ((j, u) :: fs) = (j, u) :: putD f v fs := if_neg hj
        have e2 : putF f x ((j, z) :: ws) = (j, z) :: putF f x ws := if_neg hj
        rw [e1, e2]
        exact ⟨by simp [ih.1], .cons q1 ih.2⟩
end
end Mi
end

section
set_option Elab.async false
set_option linter.all false
set_option maxRecDepth 100000
set_option maxHeartbeats 4000000
/-! Mi: enumerate over a tuple; a walk over a list or a tuple. -/
namespace Mi
open PySem PySem.Spec L2
open PyProof.Rows hiding St

/-- enumerate(v): v begins its iterator o -/
theorem enumNew {v : Value} {o : Obj} {G : Heap → Prop} (B : Begins v o G) :
    Meets (Builtin.«enumerate.__new__» ⟨[.type "enumerate", v], []⟩) (fun _ R s => G s.heap ∧
      R (.ok (.ret (.ref (s.heap.push o).objs.size))) { s with heap := (s.heap.push o).push { cls := .type "enumerate", data := .fields #[.none, .bool false, .ref s.heap.objs.size, rawInt 0, .none, .none] } }) :=
  .of_wp fun prog w A R s hh => by
    obtain ⟨h, g, d, tk, os⟩ := s
    obtain ⟨hG, hR⟩ := hh
    have es := sub_enumerate
    have step : ∀ {A2 : Around} {E2 : Value → Shared → Prop} {Q2 : Value → Shared → Prop}, Q2 (.ref h.objs.size) ⟨h.push o, g, d, tk, os⟩ → wpAny (model prog w) A2 (pyIter v) Q2 E2 ⟨h, g, d, tk, os⟩ :=
      fun q => B.iter prog w _ _ ⟨h, g, d, tk, os⟩ _ hG q
    wp_walk using step
    refine wpAny_stack_any fun _ => wpAny_pure ?_
    split
    · rename_i cc _ _ _ _ _
      cases (cc == Value.type "enumerate") <;> (wp_walk using step; exact ⟨_, rfl, hR⟩)
    · wp_walk using step
      exact ⟨_, rfl, hR⟩
section
variable {prog : Program} {w : World} {A : Around} {E : Value → Shared → Prop} {s : Shared}
theorem enumTup {t : Addr} {items : Array Value} {Q : Value → Shared → Prop} (ht : s.heap.IsTuple t items)
    (k : ∀ h', IsEnum h' (s.heap.objs.size + 1) s.heap.objs.size 0 .none → h'.IsTupleIter s.heap.objs.size t 0 → (∀ b o, s.heap.get? b = some o → h'.get? b = some o) → Q (.ref (s.heap.objs.size + 1)) { s with heap := h' }) :
    wpAny (model prog w) A (call (.type "enumerate") [.ref t]) Q E s := by
  refine callType_new F.called_enumerate (by decide) (F.typeCall_enumerate_1 _) (F.newCall_enumerate_1 _) (fun ob => F.args_object_init_2 ob _) F.entry_enumerate_new (enumNew (begins_tuple t items)) ⟨ht, ?_⟩
  generalize ho : ({ cls := .type "tuple_iterator", data := .fields #[.ref t, .int 0 0] } : Obj) = o
  have fo : o.isFreed = false := by rw [← ho]; rfl
  have sz : (s.heap.push o).objs.size = s.heap.objs.size + 1 := Heap.size_push ..
  have e2 := Heap.get?_push_size (s.heap.push o) (o := { cls := .type "enumerate", data := .fields #[.none, .bool false, .ref s.heap.objs.size, rawInt 0, .none, .none] }) rfl
  rw [sz] at e2
  show _ ∧ _
  rw [sz]
  refine ⟨⟨_, e2, rfl⟩, k _ e2 ⟨o, Heap.get?_push_of_some _ (Heap.get?_push_size _ fo), by rw [← ho], by rw [← ho]; rfl⟩ fun b ob z => Heap.get?_push_of_some _ (Heap.get?_push_of_some _ z)⟩
end
/-- the tuple at a, its items with their numbers in new pairs -/
def IteT (K : PySem.W.Frag) (a : Addr) : It where
  go := fun i H => ∃ (xs : List V) (x : V), SqT K H a xs ∧ xs[i]? = some x
  yld := fun i H v H' => ∃ T x, v = .ref T ∧ H T = none ∧ H' = upd H T (.tup [.int (i : Nat), x]) ∧ ∀ xs, SqT K H a xs → xs[i]? = some x
  stop := fun i H => ∃ xs : List V, SqT K H a xs ∧ xs.length ≤ i
theorem turnEnumT {P : Program} {w : World} {K : PySem.W.Frag} {elts : List Expr} {kk : Nat} {tp : Pos} (a e it : Addr) :
    Turn P w K (.Tuple elts kk tp) (IteT K a) [e, it] e (fun i h => (∃ old, IsEnum h e it ((i : Nat) : Int) old) ∧ h.IsTupleIter it a i ∧ e ≠ it ∧ a ≠ it ∧ a ≠ e) where
  mem := List.mem_cons_self
  obj := by
    rintro i h ⟨⟨old, h1⟩, ⟨o, h2, _, h3⟩, _⟩ b hb
    rcases List.mem_cons.mp hb with rfl | hb
    · exact ⟨_, h1, fun _ z => nomatch z⟩
    · cases List.mem_singleton.mp hb
      exact ⟨o, h2, fun _ z => by rw [h3] at z; cases z⟩
  keep := by
    rintro i h h' ⟨⟨old, h1⟩, h2, h3⟩ k
    exact ⟨⟨old, k e (by simp) _ h1⟩, h2.at fun o z => k it (by simp) o z, h3⟩
  item := by
    intro X eP ew eK hc i pins s σ H E I hf st hg
    subst eP ew eK
    obtain ⟨⟨old, h1⟩, h2, ne, n2, n3⟩ := st
    obtain ⟨xs, x, hq, hx⟩ := hg
    obtain ⟨its, rv, p, _⟩ := I.tuple hq
    obtain ⟨u, hu, ru⟩ := rv.get hx
    have le : e < s.heap.objs.size := Heap.lt_size h1
    have lt : it < s.heap.objs.size := by obtain ⟨_, z, _⟩ := h2; exact Heap.lt_size z
    have hlt : i < its.toArray.size := by simpa using (List.getElem?_eq_some_iff.mp hu).1
    refine wpAny_pyNext_enum_itemD (Draws.tuple (A := X.A.in1) (I.ok.hd hc) it a n2 its.toArray) h1 ⟨h2, p⟩ hlt ne (by simp [ne, Ne.symm n3]) fun z h' tk hz ho st' hT hsz hk => ?_
    have ez : z = u := by
      have q : its.toArray[i]? = some u := by simpa using hu
      rw [q] at hz
      exact (Option.some.inj hz).symm
    subst ez
    refine ⟨_, rfl, wpAny_letOwnedTupleGo_enum (s := { s with heap := h', toks := tk + 1 }) ho fun h'' he' sb => ?_⟩
    have hT2 : h''.get? s.heap.objs.size = some { cls := .type "tuple", data := .seq #[.int i tk, z] } := (sb.2 _ (Nat.ne_of_gt le)).trans hT
    have nw : ObjOk X.prog X.w (upd H s.heap.objs.size (.tup [.int (i : Nat), x])) h'' s.heap.objs.size (.tup [.int (i : Nat), x]) := ⟨by show 2 ≤ sizeLine; decide, [.int i tk, z], .cons ⟨_, rfl⟩ (.cons ru .nil), _, hT2, rfl, _, rfl⟩
    have I1 : Inv X pins σ (upd H s.heap.objs.size (.tup [.int (i : Nat), x])) { s with heap := h'', toks := tk + 1 } := by
      refine I.turnedNew (ch := [e, it]) (fun b ob hb q => ?_) hf (Nat.le_refl _) nw
      have b1 : b ≠ e := fun z => hb (by simp [z])
      have b2 : b ≠ it := fun z => hb (by simp [z])
      exact (sb.2 b b1).trans (hk b ob b1 b2 q)
    refine ⟨.ref s.heap.objs.size, _, I1, rfl, ⟨_, x, rfl, I.hok.fresh (Nat.le_refl _), rfl, fun ys hy => by rw [I.tuple_inj hy hq]; exact hx⟩, ⟨⟨z, ?_⟩, st'.1.at fun o q => (sb.2 it (Ne.symm ne)).trans q, ne, n2, n3⟩, fun b hb => ?_⟩
    · rw [show ((i + 1 : Nat) : Int) = (i : Int) + 1 by omega]
      exact he'
    · have hl : b < s.heap.objs.size := by
        rcases List.mem_cons.mp hb with rfl | hb
        · exact le
        · cases List.mem_singleton.mp hb; exact lt
      rw [upd_ne (Nat.ne_of_lt hl)]
      exact (hf b hb).1
  done := by
    intro X eP ew eK hc i pins s σ H E I hf st hg
    subst eP ew eK
    obtain ⟨⟨old, h1⟩, h2, ne, n2, n3⟩ := st
    obtain ⟨xs, hq, hl⟩ := hg
    obtain ⟨its, rv, p, _⟩ := I.tuple hq
    obtain ⟨f0, f1, f2, f3, f4, f5⟩ := hf it (by simp)
    have l2 := rv.length
    unfold pyNext
    refine wpAny_bind (wpAny_attempt (wpAny_callSpecial?_slot (name := Str.ofString "__next__") ⟨_, h1, rfl⟩ F.slot_enumerate_next (wpAny_call_entry F.slot_enumerate_next ⟨_, h1, rfl⟩ F.entry_enumerate_next ?_ (F.args_enumerate_next_1 _))))
    show wpAny _ _ (field (.ref e) 2 >>= _) _ _ _
    refine wpAny_bind (wpAny_field h1 rfl (x := .ref it) rfl (wpAny_bind (wpAny_nextOf_tuple_end (I.ok.hd hc) h2 (show s.heap.IsTuple a its.toArray from p) (by simp; omega) fun h' x hx hy => ?_)))
    obtain ⟨o, ho, oc⟩ := hy
    refine wpAny_bind (wpAny_isInstance (T := "StopIteration") (b := true) ⟨o, ho, oc⟩ isSubtype_stop ?_)
    exact wpAny_pure ⟨rfl, I.turned (t' := s.toks) (fun b o hb q => hx b o hb q) f0 f1 f3 f4 f5⟩
  self := by
    rintro A i s Q E ⟨⟨_, h1⟩, _⟩ h
    exact wpAny_pyIter_enum h1 h
section
variable {X : Cx}
/-- enumerate(e), e a list or a tuple -/
def iEnumA (K : PySem.W.Frag) (ta : TA) : TI := fun σ H Rr => ta σ H fun vs H1 => ∃ a xs, vs = [.ref a] ∧ ((SqL K H1 a xs ∧ Rr (Ite K a) H1) ∨ (SqT K H1 a xs ∧ Rr (IteT K a) H1))
theorem pi_enumA {e : Expr} {ta : TA} {p pos tpos : Pos} {elts : List Expr} {kk : Nat} (hg : Gl X "enumerate") (hm : X.mg "enumerate" = none) (ha : PA X [e] ta) (hs : starEach [e] X.env = [(false, eval e X.env)]) :
    PI X (.Tuple elts kk tpos) (.Call (.Name "enumerate" p) [e] [] pos) (iEnumA X.K ta) := by
  refine ⟨fun pins s σ H Rr I h => Call_ (ld_blt I hg hm boot_enumerate (PyProof.Rows.callWith_type1 (thn (ha.run pos pins s σ H _ I h) ?_) hs rfl))⟩
  rintro us s1 ⟨vs, H1, I1, r1, a, xs, rfl, q1⟩
  have eu := Vals.ref1 r1
  subst eu
  have fr : ∀ b, b ∈ [s1.heap.objs.size + 1, s1.heap.objs.size] → FpOk X pins H1 b := fun b hb => by
    have hl : s1.heap.objs.size ≤ b := by
      rcases List.mem_cons.mp hb with rfl | hb
      · exact Nat.le_succ _
      · cases List.mem_singleton.mp hb; exact Nat.le_refl _
    exact I1.fpOk hl (I1.hok.fresh hl)
  rcases q1 with ⟨hq, q⟩ | ⟨hq, q⟩
  · obtain ⟨its, rv, pl, _⟩ := I1.list hq
    refine call_enumerate_list pl.isList fun h' he hit _ hk => wpAny_pyIter_enum he ?_
    exact ⟨_, [s1.heap.objs.size + 1, s1.heap.objs.size], _, _, H1, rfl, I1.kept (h' := h') (t' := s1.toks) hk, turn_enum a (s1.heap.objs.size + 1) s1.heap.objs.size, ⟨⟨.none, he⟩, hit, Nat.succ_ne_self _⟩, fr, q⟩
  · obtain ⟨its, rv, pl, _⟩ := I1.tuple hq
    have la : a < s1.heap.objs.size := by obtain ⟨_, z, _⟩ := id pl; exact Heap.lt_size z
    refine enumTup (show s1.heap.IsTuple a its.toArray from pl) fun h' he hit hk => wpAny_pyIter_enum he ?_
    exact ⟨_, [s1.heap.objs.size + 1, s1.heap.objs.size], _, _, H1, rfl, I1.kept (h' := h') (t' := s1.toks) hk, turnEnumT a (s1.heap.objs.size + 1) s1.heap.objs.size,
      ⟨⟨.none, he⟩, hit, Nat.succ_ne_self _, Nat.ne_of_lt la, Nat.ne_of_lt (Nat.lt_succ_of_lt la)⟩, fr, q⟩
/-- e, a list or a tuple -/
def iSeqA (K : PySem.W.Frag) (tl : TE) : TI := fun σ H Rr => tl σ H fun x H1 => ∃ a xs, x = .ref a ∧ ((SqL K H1 a xs ∧ Rr (Itl K a) H1) ∨ (SqT K H1 a xs ∧ Rr (Itt K a) H1))
theorem pi_seqA {tg l : Expr} {tl : TE} (hl : PE X l tl) : PI X tg l (iSeqA X.K tl) := by
  refine ⟨fun pins s σ H Rr I h => thn (hl.run pins s σ H _ I h) ?_⟩
  rintro v s1 ⟨x, H1, I1, r1, a, xs, rfl, q1⟩
  cases (show v = Value.ref a from r1)
  have fr : ∀ b, b ∈ [s1.heap.objs.size] → FpOk X pins H1 b := fun b hb => by
    cases List.mem_singleton.mp hb
    exact I1.fpOk (Nat.le_refl _) (I1.hok.fresh (Nat.le_refl _))
  rcases q1 with ⟨hq, q⟩ | ⟨hq, q⟩
  · obtain ⟨its, rv, pl, _⟩ := I1.list hq
    exact wpAny_pyIter_list pl.isList ⟨_, [s1.heap.objs.size], _, _, H1, rfl, I1.kept (t' := s1.toks) fun b o z => Heap.get?_push_of_some _ z, turn_list a _, ⟨_, Heap.get?_push_size _ rfl, rfl, rfl⟩, fr, q⟩
  · obtain ⟨its, rv, pl, _⟩ := I1.tuple hq
    exact wpAny_pyIter_tuple (show s1.heap.IsTuple a its.toArray from pl) ⟨_, [s1.heap.objs.size], _, _, H1, rfl, I1.kept (t' := s1.toks) fun b o z => Heap.get?_push_of_some _ z, turn_tuple a _, ⟨_, Heap.get?_push_size _ rfl, rfl, rfl⟩, fr, q⟩
end
end Mi
end

section
set_option Elab.async false
set_option linter.all false
set_option maxRecDepth 100000
set_option maxHeartbeats 4000000
/-! Mi: expressions, one construct after another: readings. -/
namespace Mi
open PySem PySem.Spec L2
open PyProof.Rows hiding St

theorem pe_imp {X : Cx} {e : Expr} {t t' : TE} (h : PE X e t) (i : ∀ σ H Q, t' σ H Q → t σ H Q) : PE X e t' := ⟨fun pins s σ H Q I w => h.run pins s σ H Q I (i σ H Q w)⟩
theorem pt_imp {X : Cx} {e : Expr} {t t' : TT} (h : PT X e t) (i : ∀ σ H Q, t' σ H Q → t σ H Q) : PT X e t' := ⟨fun pins s σ H Q I w => h.run pins s σ H Q I (i σ H Q w)⟩
theorem pw_imp {X : Cx} {e : Expr} {t t' : TT} (h : PW X e t) (i : ∀ σ H Q, t' σ H Q → t σ H Q) : PW X e t' := ⟨fun wh pins s σ H Q I w => h.run wh pins s σ H Q I (i σ H Q w)⟩
theorem pa_imp {X : Cx} {e : List Expr} {t t' : TA} (h : PA X e t) (i : ∀ σ H Q, t' σ H Q → t σ H Q) : PA X e t' := ⟨fun pos pins s σ H Q I w => h.run pos pins s σ H Q I (i σ H Q w)⟩

section
variable {C : Cn} {W : WX} {X : Cx}
def RO : List Addr → Hp → Option Int → Option Int → Prop := fun _ _ a b => a = b
/-- a slice's bound -/
def lO (C : Cn) (W : WX) (f : Env1 → Sto → M (Option Int)) : TO := fun σ H Q => ∃ φ env S, At C φ env S σ H ∧ Post C W RO φ H σ Q (f env S)
/-- what is walked -/
def WkR (C : Cn) (φ : List Addr) (H : Hp) (w : Wk) (J : It) : Prop := ∀ φ' H' S, Le φ H φ' H' → RS C φ' H' S → ∀ i,
  (w.at S i = some none → J.stop i H') ∧ ∀ v, w.at S i = some (some v) → J.go i H' ∧ ∀ x H2, J.yld i H' x H2 → ∃ φ2, Le φ' H' φ2 H2 ∧ RS C φ2 H2 S ∧ R C.K φ2 H2 v x
theorem WkR.mono {φ φ' : List Addr} {H H' : Hp} {w : Wk} {J : It} (h : WkR C φ H w J) (l : Le φ H φ' H') : WkR C φ' H' w J := fun φ2 H2 S l2 r i => h φ2 H2 S (l.trans l2) r i
def lI (C : Cn) (W : WX) (f : Env1 → Sto → M Wk) : TI := fun σ H Rr => ∃ φ env S, At C φ env S σ H ∧ Post C W (WkR C) φ H σ Rr (f env S)

variable {f g h : Env1 → Sto → M PV} {fs gs : Env1 → Sto → M (List PV)} {e a b c : Expr} {es : List Expr} {pos : Pos}
/-! ### readings put together -/
theorem lE2 {r : R2} {k : PV → PV → Sto → M PV} (hk : ∀ {φ env S σ H v w x y Q}, At C φ env S σ H → R C.K φ H v x → R C.K φ H w y → Post C W (R C.K) φ H σ Q (k v w S) → r x y H Q) (σ : St) (H : Hp) (Q : VK)
    (q : lE C W (fun env S => (f env S).bind fun x S => (g env S).bind fun y S => k x y S) σ H Q) : tOp r (lE C W f) (lE C W g) σ H Q := by
  obtain ⟨φ, env, S, a, p⟩ := q
  exact ⟨φ, env, S, a, Post.bind a p fun φ1 H1 v S1 x l a1 rv p1 => ⟨φ1, env, S1, a1, Post.bind a1 p1 fun φ2 H2 w S2 y l2 a2 rw_ p2 => hk a2 (rv.mono l2) rw_ p2⟩⟩
theorem lE1 {r : V → Hp → VK → Prop} {k : PV → Sto → M PV} (hk : ∀ {φ env S σ H v x Q}, At C φ env S σ H → R C.K φ H v x → Post C W (R C.K) φ H σ Q (k v S) → r x H Q) (σ : St) (H : Hp) (Q : VK)
    (q : lE C W (fun env S => (f env S).bind k) σ H Q) : lE C W f σ H fun x H1 => r x H1 Q := by
  obtain ⟨φ, env, S, a, p⟩ := q
  exact ⟨φ, env, S, a, Post.bind a p fun φ1 H1 v S1 x l a1 rv p1 => hk a1 rv p1⟩
theorem lEA {r : List V → Hp → VK → Prop} {k : List PV → Sto → M PV} (hk : ∀ {φ env S σ H v x Q}, At C φ env S σ H → RA C.K φ H v x → Post C W (R C.K) φ H σ Q (k v S) → r x H Q) (σ : St) (H : Hp) (Q : VK)
    (q : lE C W (fun env S => (fs env S).bind k) σ H Q) : lA C W fs σ H fun x H1 => r x H1 Q := by
  obtain ⟨φ, env, S, a, p⟩ := q
  exact ⟨φ, env, S, a, Post.bind a p fun φ1 H1 v S1 x l a1 rv p1 => hk a1 rv p1⟩
theorem lEA1 {r : V → List V → Hp → VK → Prop} {k : PV → List PV → Sto → M PV} (hk : ∀ {φ env S σ H v w x y Q}, At C φ env S σ H → R C.K φ H v x → RA C.K φ H w y → Post C W (R C.K) φ H σ Q (k v w S) → r x y H Q) (σ : St) (H : Hp) (Q : VK)
    (q : lE C W (fun env S => (f env S).bind fun x S => (fs env S).bind fun y S => k x y S) σ H Q) : lE C W f σ H fun x H1 => lA C W fs σ H1 fun y H2 => r x y H2 Q := by
  obtain ⟨φ, env, S, a, p⟩ := q
  exact ⟨φ, env, S, a, Post.bind a p fun φ1 H1 v S1 x l a1 rv p1 => ⟨φ1, env, S1, a1, Post.bind a1 p1 fun φ2 H2 w S2 y l2 a2 rw_ p2 => hk a2 (rv.mono l2) rw_ p2⟩⟩

/-! ### lists of expressions -/
theorem a_nil : PA X [] (lA C W fun _ S => .ok [] S) := pa_imp pa_nil fun σ H Q ⟨φ, env, S, a, p⟩ => Post.ok p a.rs .nil
theorem a_cons (ha : PE X e (lE C W f)) (hr : PA X es (lA C W fs)) (hs : starEach (e :: es) X.env = (false, eval e X.env) :: starEach es X.env) :
    PA X (e :: es) (lA C W fun env S => (f env S).bind fun v S => (fs env S).bind fun vs S => .ok (v :: vs) S) := pa_imp (pa_cons ha hr hs) fun σ H Q ⟨φ, env, S, a, p⟩ =>
  ⟨φ, env, S, a, Post.bind a p fun φ1 H1 v S1 x l a1 rv p1 => ⟨φ1, env, S1, a1, Post.bind a1 p1 fun φ2 H2 w S2 y l2 a2 rw_ p2 => Post.ok p2 a2.rs (.cons (rv.mono l2) rw_)⟩⟩

/-! ### plain things -/
theorem e_lit {v : PV} {x : V} (h : PE X e (tC x)) (r : ∀ φ H, R C.K φ H v x) : PE X e (lE C W fun _ S => .ok v S) := pe_imp h fun σ H Q ⟨φ, env, S, a, p⟩ => Post.ok p a.rs (r _ _)
theorem e_loc {i : Nat} (h : PE X e (tVar i)) : PE X e (lE C W fun env S => one (env[i]?.join) S) := pe_imp h fun σ H Q ⟨φ, env, S, a, p⟩ => by
  obtain ⟨v, e, p⟩ := one_ok p
  have e2 : env[i]? = some (some v) := by
    cases q : env[i]? with
    | none => rw [q] at e; cases e
    | some o => rw [q] at e; cases (show o = some v from e); rfl
  obtain ⟨x, h1, h2⟩ := a.loc e2
  exact ⟨x, h1, Post.ok p a.rs h2⟩
theorem e_tup {k : Nat} (h : PA X es (lA C W fs)) : PE X (.Tuple es k pos) (lE C W fun env S => (fs env S).bind mkTup) := pe_imp (pe_tup h) (lEA fun {φ env S σ H v x Q} a r p => by
  unfold mkTup at p
  by_cases c : v.length ≤ sizeLine
  · rw [if_pos c] at p
    exact ⟨by rw [← r.length]; exact c, fun q hq => Post.at p (Le.new hq) (a.rs.new hq) (.tup (SqT.of upd_same) (r.mono (Le.new hq)))⟩
  · rw [if_neg c] at p; exact (show False from p).elim)
theorem e_lst (h : PA X es (lA C W fs)) : PE X (.List es pos) (lE C W fun env S => (fs env S).bind mkLst) := pe_imp (pe_lst h) (lEA fun {φ env S σ H v x Q} a r p => by
  unfold mkLst at p
  by_cases c : v.length ≤ sizeLine
  · rw [if_pos c] at p
    exact ⟨by rw [← r.length]; exact c, fun q hq => Post.at p (Le.push hq) (a.rs.push hq ⟨_, upd_same, r.mono (Le.push hq)⟩) (.ref (by rw [a.rs.len]; simp))⟩
  · rw [if_neg c] at p; exact (show False from p).elim)
theorem e_bin {o : Operator} {op : BOp} (hK : X.K = C.K) (ho : opOf o = some op) (ha : PE X a (lE C W f)) (hb : PE X b (lE C W g)) :
    PE X (.BinOp a o b pos) (lE C W fun env S => (f env S).bind fun x S => (g env S).bind fun y S => opB op x y S) := by
  have z := pe_op (pos := pos) (rB_ok (X := X) o op ho) ha hb
  rw [hK] at z
  exact pe_imp z (lE2 opB_ok)
theorem e_neg (ha : PE X a (lE C W f)) : PE X (.UnaryOp .USub a pos) (lE C W fun env S => (f env S).bind opN) := pe_imp (pe_un (un_neg (X := X)) ha) (lE1 fun {φ env S σ H v x Q} a r p => by
  cases r with
  | int i => exact ⟨i, rfl, Post.ok p a.rs (.int _)⟩
  | _ => exact (show False from p).elim)
theorem e_idx (hK : X.K = C.K) (hu : X.A.units + 1 < cLine) (hp : PlainIx b) (ha : PE X a (lE C W f)) (hb : PE X b (lE C W g)) :
    PE X (.Subscript a b pos) (lE C W fun env S => (f env S).bind fun x S => (g env S).bind fun y S => opI x y S) := by
  have z := pe_ix (pos := pos) (ix_all (X := X) hu) ha hb hp
  rw [hK] at z
  exact pe_imp z (lE2 opI_ok)
theorem o_no : PO X none (lO C W fun _ S => .ok none S) := ⟨fun pins s σ H Q I ⟨φ, env, S, a, p⟩ => po_none.run pins s σ H Q I (show tNoPart σ H Q from Post.ok p a.rs rfl)⟩
theorem o_so (h : PE X e (lE C W f)) : PO X (some e) (lO C W fun env S => (f env S).bind asInt) := ⟨fun pins s σ H Q I ⟨φ, env, S, a, p⟩ => (po_some h).run pins s σ H Q I
  ⟨φ, env, S, a, Post.bind a p fun φ1 H1 v S1 x l a1 rv p1 => by
    cases rv with
    | int i => exact ⟨i, rfl, Post.ok p1 a1.rs rfl⟩
    | _ => exact (show False from p1).elim⟩⟩
theorem e_slc {lo hi : Option Expr} {p2 : Pos} {fl fh : Env1 → Sto → M (Option Int)} (hK : X.K = C.K) (ha : PE X a (lE C W f)) (hl : PO X lo (lO C W fl)) (hh : PO X hi (lO C W fh)) :
    PE X (.Subscript a (.Slice lo hi none p2) pos) (lE C W fun env S => (f env S).bind fun x S => (fl env S).bind fun l S => (fh env S).bind fun h S => opS x l h S) := by
  have z := pe_slice (pos := pos) (p2 := p2) (sl_all (X := X)) ha hl hh
  rw [hK] at z
  refine pe_imp z ?_
  rintro σ H Q ⟨φ, env, S, a, p⟩
  exact ⟨φ, env, S, a, Post.bind a p fun φ1 H1 v S1 x l a1 rv p1 => ⟨φ1, env, S1, a1, Post.bind a1 p1 fun φ2 H2 w S2 y l2 a2 e2 p2 => ⟨φ2, env, S2, a2, Post.bind a2 p2 fun φ3 H3 w' S3 y' l3 a3 e3 p3 => by
    cases (show w = y from e2)
    cases (show w' = y' from e3)
    exact opS_ok a3 ((rv.mono l2).mono l3) p3⟩⟩⟩

/-! ### tests -/
theorem lT_def (σ : St) (H : Hp) (Q : Bool → Hp → Prop) (q : lT C W f σ H Q) : tTest (lE C W f) σ H Q := q
theorem e_cmp {o : CmpOp} (hK : X.K = C.K) (hu : X.A.units + 64 < cLine) (hm : behindInMarks o b = false) (hi : (o = .Is ∨ o = .IsNot) → True) (ha : PE X a (lE C W f)) (hb : PE X b (lE C W g)) :
    PE X (.Compare a [o] [b] pos) (lE C W fun env S => (f env S).bind fun x S => (g env S).bind fun y S => opC (cOf o) x y S) ∧
    PT X (.Compare a [o] [b] pos) (lT C W fun env S => (f env S).bind fun x S => (g env S).bind fun y S => opC (cOf o) x y S) := by
  have z := pe_cmpR (pos := pos) (rC_ok (X := X) hu o) ha hb hm
  have z2 := pt_cmpR (pos := pos) (rC_ok (X := X) hu o) ha hb hm
  rw [hK] at z z2
  exact ⟨pe_imp z (lE2 opC_ok), pt_imp z2 fun σ H Q q => lE2 opC_ok σ H _ q⟩
theorem e_chn {o o' : CmpOp} (hK : X.K = C.K) (hu : X.A.units + 64 < cLine) (hm : lastMarks [o, o'] [b, c] = false) (ha : PE X a (lE C W f)) (hb : PE X b (lE C W g)) (hc : PE X c (lE C W h)) :
    PE X (.Compare a [o, o'] [b, c] pos) (lE C W fun env S => (f env S).bind fun x S => (g env S).bind fun y S => (opC (cOf o) x y S).bind (andK fun S => (h env S).bind fun w S => opC (cOf o') y w S)) ∧
    PT X (.Compare a [o, o'] [b, c] pos) (lT C W fun env S => (f env S).bind fun x S => (g env S).bind fun y S => (opC (cOf o) x y S).bind (andK fun S => (h env S).bind fun w S => opC (cOf o') y w S)) := by
  have z := pe_chain (pos := pos) (rC_ok (X := X) hu o) (rC_ok (X := X) hu o') ha hb hc hm
  have z2 := pt_chain (pos := pos) (rC_ok (X := X) hu o) (rC_ok (X := X) hu o') ha hb hc hm
  rw [hK] at z z2
  have go : ∀ σ H Q, lE C W (fun env S => (f env S).bind fun x S => (g env S).bind fun y S => (opC (cOf o) x y S).bind (andK fun S => (h env S).bind fun w S => opC (cOf o') y w S)) σ H Q → tChain (rC (cOf o) C.K) (rC (cOf o') C.K) (lE C W f) (lE C W g) (lE C W h) σ H Q := by
    rintro σ H Q ⟨φ, env, S, a, p⟩
    refine ⟨φ, env, S, a, Post.bind a p fun φ1 H1 v S1 x l a1 rv p1 => ⟨φ1, env, S1, a1, Post.bind a1 p1 fun φ2 H2 w S2 y l2 a2 rw_ p2 => ?_⟩⟩
    refine opC_ok (W := W) (σ := σ) a2 (rv.mono l2) rw_ ?_
    refine Post.bind a2 p2 fun φ3 H3 z S3 x3 l3 a3 r3 p3 => ?_
    cases r3 with
    | bl k =>
      refine ⟨k, rfl, ?_⟩
      cases k with
      | true => exact iteT ⟨φ3, env, S3, a3, Post.bind a3 p3 fun φ4 H4 w4 S4 y4 l4 a4 r4 p4 => opC_ok a4 ((rw_.mono l3).mono l4) r4 p4⟩
      | false => exact iteF (Post.ok p3 a3.rs (.bl false))
    | _ => exact (show False from p3).elim
  exact ⟨pe_imp z go, pt_imp z2 fun σ H Q q => go σ H _ q⟩
theorem e_not (ha : PE X a (lE C W f)) : PE X (.UnaryOp .Not a pos) (lE C W fun env S => (f env S).bind invK) := pe_imp (pe_not ha) fun σ H Q ⟨φ, env, S, a, p⟩ =>
  ⟨φ, env, S, a, Post.bind a p fun φ1 H1 v S1 x l a1 rv p1 => by
    cases rv with
    | bl k => exact ⟨k, rfl, Post.ok p1 a1.rs (.bl _)⟩
    | _ => exact (show False from p1).elim⟩
theorem t_not (ha : PT X a (lT C W f)) : PT X (.UnaryOp .Not a pos) (lT C W fun env S => (f env S).bind invK) := pt_imp (pt_not ha) fun σ H Q ⟨φ, env, S, a, p⟩ =>
  ⟨φ, env, S, a, Post.bind a p fun φ1 H1 v S1 x l a1 rv p1 => by
    cases rv with
    | bl k =>
      obtain ⟨b, e, q⟩ := Post.ok p1 a1.rs (.bl _)
      cases e
      exact ⟨k, rfl, q⟩
    | _ => exact (show False from p1).elim⟩
theorem r_and {σ : St} {H : Hp} {Q : VK} (q : lE C W (fun env S => (f env S).bind (andK (g env))) σ H Q) : tAndV (lE C W f) (lE C W g) σ H Q := by
  obtain ⟨φ, env, S, a, p⟩ := q
  refine ⟨φ, env, S, a, Post.bind a p fun φ1 H1 v S1 x l a1 rv p1 => ?_⟩
  cases rv with
  | bl k =>
    refine ⟨k, rfl, ?_⟩
    cases k with
    | true => exact iteT ⟨φ1, env, S1, a1, p1⟩
    | false => exact iteF (Post.ok p1 a1.rs (.bl _))
  | _ => exact (show False from p1).elim
theorem r_or {σ : St} {H : Hp} {Q : VK} (q : lE C W (fun env S => (f env S).bind (orK (g env))) σ H Q) : tOrV (lE C W f) (lE C W g) σ H Q := by
  obtain ⟨φ, env, S, a, p⟩ := q
  refine ⟨φ, env, S, a, Post.bind a p fun φ1 H1 v S1 x l a1 rv p1 => ?_⟩
  cases rv with
  | bl k =>
    refine ⟨k, rfl, ?_⟩
    cases k with
    | true => exact iteT (Post.ok p1 a1.rs (.bl _))
    | false => exact iteF ⟨φ1, env, S1, a1, p1⟩
  | _ => exact (show False from p1).elim
theorem q_and {σ : St} {H : Hp} {Q : Bool → Hp → Prop} (q : lT C W (fun env S => (f env S).bind (andK (g env))) σ H Q) : tAnd (lT C W f) (lT C W g) σ H Q := by
  obtain ⟨φ, env, S, a, p⟩ := q
  refine ⟨φ, env, S, a, Post.bind a p fun φ1 H1 v S1 x l a1 rv p1 => ?_⟩
  cases rv with
  | bl k =>
    refine ⟨k, rfl, ?_⟩
    cases k with
    | true => exact iteT ⟨φ1, env, S1, a1, p1⟩
    | false =>
      obtain ⟨b, e, q⟩ := Post.ok p1 a1.rs (.bl _)
      cases e
      exact iteF q
  | _ => exact (show False from p1).elim
theorem q_or {σ : St} {H : Hp} {Q : Bool → Hp → Prop} (q : lT C W (fun env S => (f env S).bind (orK (g env))) σ H Q) : tOr (lT C W f) (lT C W g) σ H Q := by
  obtain ⟨φ, env, S, a, p⟩ := q
  refine ⟨φ, env, S, a, Post.bind a p fun φ1 H1 v S1 x l a1 rv p1 => ?_⟩
  cases rv with
  | bl k =>
    refine ⟨k, rfl, ?_⟩
    cases k with
    | true =>
      obtain ⟨b, e, q⟩ := Post.ok p1 a1.rs (.bl _)
      cases e
      exact iteT q
    | false => exact iteF ⟨φ1, env, S1, a1, p1⟩
  | _ => exact (show False from p1).elim
theorem e_ite (hc : PT X c (lT C W f)) (ha : PE X a (lE C W g)) (hb : PE X b (lE C W h)) : PE X (.IfExp c a b pos) (lE C W fun env S => (f env S).bind (iteK (g env) (h env))) := pe_imp (pe_ifExp hc ha hb) fun σ H Q ⟨φ, env, S, a, p⟩ => by
  refine ⟨φ, env, S, a, Post.bind a p fun φ1 H1 v S1 x l a1 rv p1 => ?_⟩
  cases rv with
  | bl k =>
    refine ⟨k, rfl, ?_⟩
    cases k with
    | true => exact iteT ⟨φ1, env, S1, a1, p1⟩
    | false => exact iteF ⟨φ1, env, S1, a1, p1⟩
  | _ => exact (show False from p1).elim
theorem t_ite (hc : PT X c (lT C W f)) (ha : PT X a (lT C W g)) (hb : PT X b (lT C W h)) : PT X (.IfExp c a b pos) (lT C W fun env S => (f env S).bind (iteK (g env) (h env))) := by
  refine ⟨fun pins s σ H Q I q => ?_⟩
  have q2 : lT C W f σ H fun k H1 => if k = true then lT C W g σ H1 Q else lT C W h σ H1 Q := by
    obtain ⟨φ, env, S, a, p⟩ := q
    refine ⟨φ, env, S, a, Post.bind a p fun φ1 H1 v S1 x l a1 rv p1 => ?_⟩
    cases rv with
    | bl k =>
      refine ⟨k, rfl, ?_⟩
      cases k with
      | true => exact iteT ⟨φ1, env, S1, a1, p1⟩
      | false => exact iteF ⟨φ1, env, S1, a1, p1⟩
    | _ => exact (show False from p1).elim
  show wpAny _ _ (do if ← isTrue c X.env (eval c X.env) then isTrue a X.env (eval a X.env) else isTrue b X.env (eval b X.env)) _ _ _
  refine wpAny_bind (thn (hc.run pins s σ H _ I q2) fun k s1 ⟨H1, I1, q1⟩ => ?_)
  cases k with
  | true =>
    have q3 : lT C W g σ H1 Q := q1
    exact ha.run pins s1 σ H1 Q I1 q3
  | false =>
    have q3 : lT C W h σ H1 Q := q1
    exact hb.run pins s1 σ H1 Q I1 q3
/-- a value's truth -/
theorem tru_R {φ : List Addr} {H : Hp} {S : Sto} {v : PV} {x : V} {k : Bool} (r : RS C φ H S) (rv : R C.K φ H v x) (e : tru S v = some k) : TruV C.K x H k := by
  cases rv with
  | non => cases e; rfl
  | bl b => cases e; rfl
  | int i => cases e; rfl
  | str s =>
    have e1 : (if s.length ≤ sizeLine then some ((s.length : Int) != 0) else none) = some k := e
    by_cases c : s.length ≤ sizeLine
    · rw [if_pos c] at e1; cases e1; exact ⟨c, rfl⟩
    · rw [if_neg c] at e1; cases e1
  | @tup l vs a hs ra =>
    cases e
    exact .inr (.inl ⟨vs, hs, by rw [ra.empty]⟩)
  | @ref n a hn =>
    have e1 : (match S[n]? with
      | some (.lst l) => some (!l.isEmpty)
      | some (.fro l) => some (!l.isEmpty)
      | _ => none) = some k := e
    cases e2 : S[n]? with
    | none => rw [e2] at e1; cases e1
    | some o =>
      rw [e2] at e1
      have q := r.ob n o a e2 hn
      cases o with
      | lst l =>
        obtain ⟨vs, h1, ra⟩ := q
        cases e1
        exact .inl ⟨vs, SqL.of h1, by rw [ra.empty]⟩
      | fro l =>
        cases e1
        rcases q with ⟨ob, vs, h1, ra⟩ | ⟨vs, h1, ra⟩
        · exact .inl ⟨vs, .inl (.inr ⟨ob, h1⟩), by rw [ra.empty]⟩
        · exact .inl ⟨vs, .inr h1, by rw [ra.empty]⟩
      | _ => cases e1
theorem t_val (hK : X.K = C.K) (ha : PE X a (lE C W f)) (he : ∀ whole, isTrue a X.env whole = (do let v ← whole; standAt a.pos; holding [v] (truthy v))) : PT X a (lT C W fun env S => (f env S).bind (test true)) := by
  have z := pt_truth ha he
  rw [hK] at z
  refine pt_imp z ?_
  rintro σ H Q ⟨φ, env, S, a, p⟩
  refine ⟨φ, env, S, a, Post.bind a p fun φ1 H1 v S1 x l a1 rv p1 => ?_⟩
  have p2 : Post C W (R C.K) φ1 H1 σ (fun x H' => ∃ b, x = .bl b ∧ Q b H') (oneB (tru S1 v) S1) := p1
  obtain ⟨k, e, p3⟩ := oneB_ok p2
  obtain ⟨b, e1, q⟩ := Post.ok p3 a1.rs (.bl _)
  cases e1
  exact ⟨k, tru_R a1.rs rv e, q⟩
/-- .. as a value, or as a test -/
theorem both (hK : X.K = C.K) (ha : PE X a (lE C W f)) (he : ∀ whole, isTrue a X.env whole = (do let v ← whole; standAt a.pos; holding [v] (truthy v))) :
    PE X a (lE C W fun env S => (f env S).bind (test false)) ∧ PT X a (lT C W fun env S => (f env S).bind (test true)) := by
  refine ⟨?_, t_val hK ha he⟩
  have e : (fun env S => (f env S).bind (test false)) = f := by
    funext env S
    exact bind_test0 _
  rw [e]
  exact ha
end
end Mi
end

section
set_option Elab.async false
set_option linter.all false
set_option maxRecDepth 100000
set_option maxHeartbeats 4000000
/-! Mi: calls: own defs, built-ins, methods, new instances, dict displays. -/
namespace Mi
open PySem PySem.Spec L2
open PyProof.Rows hiding St

/-! ### what is seen of a text -/
def noStar : Expr → Bool
  | .Starred _ _ => false
  | _ => true
theorem star_eq {e : Expr} (h : noStar e = true) (es : List Expr) (env : Env) : starEach (e :: es) env = (false, eval e env) :: starEach es env := by
  cases e <;> first | rfl | cases h
theorem star_any {pos : Pos} : ∀ {es : List Expr} {env : Env}, es.all noStar = true → (backTo pos (starEach es env)).any (·.1) = false
  | [], _, _ => rfl
  | e :: es, env, h => by
    rw [List.all_cons, Bool.and_eq_true] at h
    rw [star_eq h.1]
    exact star_any h.2
theorem star_all {pos : Pos} : ∀ {es : List Expr} {env : Env}, es.all noStar = true → (backTo pos (starEach es env)).all (fun x => !x.1) = true
  | [], _, _ => rfl
  | e :: es, env, h => by
    rw [List.all_cons, Bool.and_eq_true] at h
    rw [star_eq h.1]
    exact star_all h.2
def noSuper : Expr → Bool
  | .Call (.Name id _) [] [] _ => id != "super"
  | _ => true
theorem attr_eq {e : Expr} (h : noSuper e = true) (m : Str) (env : Env) (whole : Sem Value) : attributeBase e m env whole = whole := by
  unfold attributeBase
  split
  · rename_i id p pos
    have h2 : (id != "super") = true := h
    rw [h2]
    rfl
  · rfl
def noSlice : Expr → Bool
  | .Slice _ _ none _ => false
  | _ => true
theorem ix_eq {b : Expr} (h : noSlice b = true) : PlainIx b := by
  intro o i
  unfold subscripted
  split
  · cases h
  · rename_i z; cases z
  · rfl
theorem mtree {o : Expr} {m : Str} {apos pos : Pos} {es : List Expr} {env : Env} (hb : noSuper o = true) (hl : (apos.endLine == pos.line) = true) (hs : es.all noStar = true) (hn : es.length < 30) :
    eval (.Call (.Attribute o m apos) es [] pos) env = (do
      let ov ← eval o env
      standAt apos.atName
      let (f, first) ← holding [ov] (getMethod ov m (do return (← importBound o env).getD true))
      callWith pos f first (backTo pos (starEach es env)) (backToKw pos (keywordEach [] env))) := by
  have hf : methodCallForm (es.length + ([] : List Keyword).length) (backTo pos (starEach es env)) (backToKw pos (keywordEach [] env)) = true := by
    unfold methodCallForm
    rw [star_all hs]
    have e : decide (es.length < 30) = true := decide_eq_true hn
    exact e
  rw [arm_eval_Call, attr_eq hb]
  unfold methodCall calleeOf methodCallPos
  simp only [hf, hl, if_true, Bool.not_true, Bool.or_true, pure_bind]

section
variable {C : Cn} {W : WX} {X : Cx} {k : Nat} {fa : Addr} {ps : List Str} {kws : List (Nat × List Str)} {g : List PV → Sto → M PV}
variable {f : Env1 → Sto → M PV} {fs gs : Env1 → Sto → M (List PV)} {e o : Expr} {es : List Expr} {pos p apos : Pos} {x : Str}
/-! ### a def's promise -/
def spM (C : Cn) (n : Nat) (g : List PV → Sto → M PV) : Sp := fun vs H Q E => vs.length = n ∧ ∃ φ S pvs, RS C φ H S ∧ RA C.K φ H pvs vs ∧ Post C (fun cls d _ H' => E cls d H') (R C.K) φ H [] Q (g pvs S)
def KwB (fd : FuncData) (ps : List Str) (n : Nat) (ks : List Str) : Prop := ∀ (s : Shared) (us ws zs : List Value), us.length = n → kwArgs ps us ks ws = some zs → BindsTo s fd ⟨us, ks.zip ws⟩ (ps.zip zs)
structure FnD (C : Cn) (X : Cx) (k : Nat) (fa : Addr) (ps : List Str) (kws : List (Nat × List Str)) (g : List PV → Sto → M PV) : Prop where
  ok : ∃ fd, FnOk X.prog X.w X.K X.mg X.base (L2.CX X.prog X.w) k fa fd ps (spM C ps.length g) ∧ Binds X.K fd ps [] ∧ ∀ n ks, (n, ks) ∈ kws → KwB fd ps n ks
  kp : PySem.W.keepIn X.K (.ref fa) = true
  ln : ∀ vs S, vs.length ≠ ps.length → g vs S = .bad
theorem post_w {α β : Type} {Rel : List Addr → Hp → α → β → Prop} {φ : List Addr} {H : Hp} {σ : St} {Q : β → Hp → Prop} {m : M α} (h : Post C W Rel φ H σ Q m) : Post C (fun cls d _ H' => WE W σ cls d H') Rel φ H [] Q m := by
  cases m <;> exact h
theorem sp_of {φ : List Addr} {H : Hp} {σ : St} {S : Sto} {vs : List PV} {xs : List V} {Q : VK} {n : Nat} (r : RS C φ H S) (ra : RA C.K φ H vs xs) (hl : vs.length ≠ n → g vs S = .bad) (h : Post C W (R C.K) φ H σ Q (g vs S)) : spM C n g xs H Q (WE W σ) := by
  by_cases c : vs.length = n
  · exact ⟨by rw [← ra.length]; exact c, φ, S, vs, r, ra, post_w h⟩
  · rw [hl c] at h; exact (show False from h).elim
/-- the callee runs -/
theorem run_it {pins : List (Addr × Obj)} {σ : St} {H : Hp} {s : Shared} {Q : VK} {us : List Value} {vs : List V} (tk : Takes X W) (hr : Room k X.A) (F : FnD C X k fa ps kws g) (I : Inv X pins σ H s) (r : Vals vs us) (h : spM C ps.length g vs H Q (WE W σ)) :
    wpAny (model X.prog X.w) X.A (call (.ref fa) us) (EP X pins σ Q) X.xe s := by
  obtain ⟨fd, F1, B, _⟩ := F.ok
  exact run_fnS F1 hr B (passAt tk σ) I r h

/-! ### f(e, ..) -/
theorem call_go {pins : List (Addr × Obj)} {σ : St} {H : Hp} {s : Shared} {Q : VK} {pre : List PV} {preV : List V} {preU : List Value} (tk : Takes X W) (hr : Room k X.A) (F : FnD C X k fa ps kws g) (hs : es.all noStar = true) (h0 : es = [] → ∀ env S, fs env S = .ok [] S) (ha : PA X es (lA C W fs)) (I : Inv X pins σ H s)
    (rp : Vals preV preU) (h : ∃ φ env S, At C φ env S σ H ∧ RA C.K φ H pre preV ∧ Post C W (R C.K) φ H σ Q ((fs env S).bind fun vs S => g (pre ++ vs) S)) :
    wpAny (model X.prog X.w) X.A (callWith pos (.ref fa) preU (backTo pos (starEach es X.env)) (backToKw pos (keywordEach [] X.env))) (EP X pins σ Q) X.xe s := by
  obtain ⟨φ, env, S, a, rr, p⟩ := h
  cases es with
  | nil =>
    rw [h0 rfl, M.bind_ok, List.append_nil] at p
    refine PySem.W.callWith_K0 I.kIn F.kp ?_
    rw [List.append_nil]
    exact run_it tk hr F I rp (sp_of a.rs rr (F.ln pre S) p)
  | cons e es =>
    have q : lA C W fs σ H fun xs H1 => spM C ps.length g (preV ++ xs) H1 Q (WE W σ) := ⟨φ, env, S, a, Post.bind a p fun φ1 H1 v S1 x l a1 rv p1 => sp_of a1.rs ((rr.mono l).append rv) (F.ln (pre ++ v) S1) p1⟩
    rw [List.all_cons, Bool.and_eq_true] at hs
    refine PySem.W.callWith_K (h₀ := X.base) I.ok.mod.kin F.kp (thn (ha.run pos pins s σ H _ I q) fun us s1 ⟨vs, H1, I1, r, q1⟩ => ⟨I1.kIn, ?_⟩) (star_eq hs.1 es X.env) (star_any hs.2)
    exact run_it tk hr F I1 (rp.append r) q1
theorem e_call (tk : Takes X W) (hr : Room k X.A) (hg : Gl X x) (hm : X.mg x = some (.ref fa)) (F : FnD C X k fa ps kws g) (hdb : (x == ("__debug__" : Str)) = false) (hs : es.all noStar = true) (h0 : es = [] → ∀ env S, fs env S = .ok [] S) (ha : PA X es (lA C W fs)) :
    PE X (.Call (.Name x p) es [] pos) (lE C W fun env S => (fs env S).bind g) := by
  refine ⟨fun pins s σ H Q I h => wpAny_Call_Name_kw (ld_glob I hg hm ?_ hdb)⟩
  obtain ⟨φ, env, S, a, q⟩ := h
  exact call_go (pre := []) (preV := []) (preU := []) tk hr F hs h0 ha I .nil ⟨φ, env, S, a, .nil, q⟩

/-! ### keywords -/
def kwN (nm : Str) (kw : Keyword) : Bool := match kw with
  | ⟨some n, _, _⟩ => decide (n = nm)
  | _ => false
theorem k_nil : PK X [] (lA C W fun _ S => .ok [] S) := ⟨fun pos pins s σ H Q I h => pk_nil.run pos pins s σ H Q I (by
  obtain ⟨φ, env, S, a, p⟩ := h
  exact Post.ok p a.rs .nil)⟩
theorem k_cons {kw : List Keyword} {nm : Option Str} {kp : Pos} (ha : PE X e (lE C W f)) (hr : PK X kw (lA C W fs)) : PK X (⟨nm, e, kp⟩ :: kw) (lA C W fun env S => (f env S).bind fun v S => (fs env S).bind fun vs S => .ok (v :: vs) S) :=
  ⟨fun pos pins s σ H Q I h => (pk_cons ha hr).run pos pins s σ H Q I (by
    obtain ⟨φ, env, S, a, p⟩ := h
    exact ⟨φ, env, S, a, Post.bind a p fun φ1 H1 v S1 x l a1 rv p1 => ⟨φ1, env, S1, a1, Post.bind a1 p1 fun φ2 H2 w S2 y l2 a2 rw_ p2 => Post.ok p2 a2.rs (.cons (rv.mono l2) rw_)⟩⟩)⟩
def kwNames : List Keyword → Option (List Str)
  | [] => some []
  | ⟨some n, _, _⟩ :: r => (kwNames r).map (n :: ·)
  | ⟨none, _, _⟩ :: _ => none
theorem kw_all {pos : Pos} {env : Env} : ∀ {kw : List Keyword} {ks : List Str}, kwNames kw = some ks →
    (backToKw pos (keywordEach kw env)).all (·.1.isSome) = true ∧ (backToKw pos (keywordEach kw env)).filterMap (·.1) = ks ∧ (backToKw pos (keywordEach kw env)).any (·.1.isNone) = false
  | [], ks, h => by cases h; exact ⟨rfl, rfl, rfl⟩
  | ⟨none, _, _⟩ :: _, ks, h => by cases h
  | ⟨some n, v, q⟩ :: r, ks, h => by
    have h2 : (kwNames r).map (n :: ·) = some ks := h
    cases e : kwNames r with
    | none => rw [e] at h2; cases h2
    | some ks' =>
      rw [e] at h2
      cases h2
      obtain ⟨h3, h4, h5⟩ := kw_all (pos := pos) (env := env) e
      refine ⟨h3, ?_, h5⟩
      show n :: (backToKw pos (keywordEach r env)).filterMap (·.1) = n :: ks'
      rw [h4]
/-- the arguments by names, of values and of what they stand for -/
theorem ra_lookup {φ : List Addr} {H : Hp} : ∀ {ks : List Str} {ws : List PV} {zs : List V} {q : Str} {v : PV}, RA C.K φ H ws zs → (ks.zip ws).lookup q = some v → ∃ x, (ks.zip zs).lookup q = some x ∧ R C.K φ H v x
  | [], _, _, _, _, _, h => by simp at h
  | _ :: _, [], _, _, _, _, h => by simp at h
  | j :: ks, w :: ws, _, q, v, .cons r1 r2, h => by
    rw [List.zip_cons_cons, List.lookup_cons] at h
    rw [List.zip_cons_cons, List.lookup_cons]
    cases c : q == j with
    | true => rw [c] at h; cases h; exact ⟨_, rfl, r1⟩
    | false => rw [c] at h; exact ra_lookup r2 h
theorem vals_lookup : ∀ {ks : List Str} {zs : List V} {ws : List Value} {q : Str} {x : V}, Vals zs ws → (ks.zip zs).lookup q = some x → ∃ u, (ks.zip ws).lookup q = some u ∧ RelV x u
  | [], _, _, _, _, _, h => by simp at h
  | _ :: _, _, _, _, _, .nil, h => by simp at h
  | j :: ks, _, _, q, v, .cons r1 r2, h => by
    rw [List.zip_cons_cons, List.lookup_cons] at h
    rw [List.zip_cons_cons, List.lookup_cons]
    cases c : q == j with
    | true => rw [c] at h; cases h; exact ⟨_, rfl, r1⟩
    | false => rw [c] at h; exact vals_lookup r2 h
theorem ra_mapM {φ : List Addr} {H : Hp} {ks : List Str} {ws : List PV} {zs : List V} (r : RA C.K φ H ws zs) : ∀ {ps : List Str} {us : List PV}, ps.mapM (fun p => (ks.zip ws).lookup p) = some us → ∃ xs, ps.mapM (fun p => (ks.zip zs).lookup p) = some xs ∧ RA C.K φ H us xs
  | [], us, h => by rw [List.mapM_nil] at h; cases h; exact ⟨[], by rw [List.mapM_nil]; rfl, .nil⟩
  | p :: ps, us, h => by
    rw [mapM_cons] at h
    cases e1 : (ks.zip ws).lookup p with
    | none => rw [e1] at h; cases h
    | some v =>
      rw [e1, Option.bind_some] at h
      cases e2 : ps.mapM (fun p => (ks.zip ws).lookup p) with
      | none => rw [e2] at h; cases h
      | some vs =>
        rw [e2, Option.bind_some] at h
        cases h
        obtain ⟨x, h1, h2⟩ := ra_lookup r e1
        obtain ⟨xs, h3, h4⟩ := ra_mapM r e2
        refine ⟨x :: xs, ?_, .cons h2 h4⟩
        rw [mapM_cons, h1, h3]
        rfl
theorem vals_mapM {ks : List Str} {zs : List V} {ws : List Value} (r : Vals zs ws) : ∀ {ps : List Str} {xs : List V}, ps.mapM (fun p => (ks.zip zs).lookup p) = some xs → ∃ us, ps.mapM (fun p => (ks.zip ws).lookup p) = some us ∧ Vals xs us
  | [], us, h => by rw [List.mapM_nil] at h; cases h; exact ⟨[], by rw [List.mapM_nil]; rfl, .nil⟩
  | p :: ps, us, h => by
    rw [mapM_cons] at h
    cases e1 : (ks.zip zs).lookup p with
    | none => rw [e1] at h; cases h
    | some v =>
      rw [e1, Option.bind_some] at h
      cases e2 : ps.mapM (fun p => (ks.zip zs).lookup p) with
      | none => rw [e2] at h; cases h
      | some vs =>
        rw [e2, Option.bind_some] at h
        cases h
        obtain ⟨x, h1, h2⟩ := vals_lookup r e1
        obtain ⟨xs, h3, h4⟩ := vals_mapM r e2
        refine ⟨x :: xs, ?_, .cons h2 h4⟩
        rw [mapM_cons, h1, h3]
        rfl
theorem kwArgs_some {α : Type} {ps : List Str} {vs : List α} {ks : List Str} {ws us : List α} (h : kwArgs ps vs ks ws = some us) : vs.length + ks.length = ps.length ∧ ks.length = ws.length ∧ ∃ zs, (ps.drop vs.length).mapM (fun p => (ks.zip ws).lookup p) = some zs ∧ us = vs ++ zs := by
  unfold kwArgs at h
  by_cases c : vs.length + ks.length = ps.length ∧ ks.length = ws.length
  · rw [if_pos c] at h
    cases e : (ps.drop vs.length).mapM (fun p => (ks.zip ws).lookup p) with
    | none => rw [e] at h; cases h
    | some zs => rw [e] at h; cases h; exact ⟨c.1, c.2, zs, rfl, rfl⟩
  · rw [if_neg c] at h; cases h
theorem kwArgs_of {α : Type} {ps : List Str} {vs : List α} {ks : List Str} {ws zs : List α} (h1 : vs.length + ks.length = ps.length) (h2 : ks.length = ws.length) (h3 : (ps.drop vs.length).mapM (fun p => (ks.zip ws).lookup p) = some zs) : kwArgs ps vs ks ws = some (vs ++ zs) := by
  unfold kwArgs
  rw [if_pos ⟨h1, h2⟩, h3]
  rfl
theorem kw_go {pins : List (Addr × Obj)} {σ : St} {H : Hp} {s : Shared} {Q : VK} {us ws : List Value} {vs : List V} {zs : List V} {ks : List Str} {φ : List Addr} {S : Sto} {vp wp up : List PV} (tk : Takes X W) (hr : Room k X.A) (F : FnD C X k fa ps kws g) (hk : (vs.length, ks) ∈ kws)
    (I : Inv X pins σ H s) (r : Vals vs us) (rz : Vals zs ws) (rs : RS C φ H S) (r1 : RA C.K φ H vp vs) (r2 : RA C.K φ H wp zs) (hkw : kwArgs ps vp ks wp = some up) (p : Post C W (R C.K) φ H σ Q (g up S)) :
    wpAny (model X.prog X.w) X.A (call (.ref fa) us (ks.zip ws)) (EP X pins σ Q) X.xe s := by
  obtain ⟨fd, F1, _, B⟩ := F.ok
  obtain ⟨c1, c2, zp, m1, rfl⟩ := kwArgs_some hkw
  obtain ⟨xs, m2, ra⟩ := ra_mapM r2 m1
  obtain ⟨uu, m3, rv⟩ := vals_mapM rz m2
  have l1 := r1.length
  have l2 := r.length
  have l3 := rz.length
  have l4 := r2.length
  have hz : kwArgs ps us ks ws = some (us ++ uu) := kwArgs_of (by omega) (by omega) (by rw [← l2, ← l1]; exact m3)
  have hsp : spM C ps.length g (vs ++ xs) H Q (WE W σ) := sp_of rs (r1.append ra) (F.ln _ S) p
  refine wpAny_call (codeAny_mono (F1.run X.A X.stack s H ⟨us, ks.zip ws⟩ (us ++ uu) (vs ++ xs) Q (WE W σ) hr I.env0 (B _ _ hk s us ws _ l2.symm hz) (r.append rv) hsp) fun res s' hq => ?_)
  cases res with
  | error e => exact passAt tk σ pins H s e s' I hq
  | ok fl =>
    cases fl with
    | ret u => exact I.after hq
    | _ => exact False.elim hq
theorem e_calk {kw : List Keyword} {ks : List Str} (tk : Takes X W) (hr : Room k X.A) (hg : Gl X x) (hm : X.mg x = some (.ref fa)) (F : FnD C X k fa ps kws g) (hk : (es.length, ks) ∈ kws) (hn : kwNames kw = some ks) (hdb : (x == ("__debug__" : Str)) = false) (hs : es.all noStar = true) (h0 : es = [] → ∀ env S, fs env S = .ok [] S)
    (hlen : ∀ env S vs S', fs env S = .ok vs S' → vs.length = es.length) (ha : PA X es (lA C W fs)) (hkw : PK X kw (lA C W gs)) :
    PE X (.Call (.Name x p) es kw pos) (lE C W fun env S => (fs env S).bind fun vs S => (gs env S).bind fun ws S => (match kwArgs ps vs ks ws with
      | some us => g us S
      | none => .bad)) := by
  obtain ⟨a1, a2, a3⟩ := kw_all (pos := pos) (env := X.env) hn
  refine ⟨fun pins s σ H Q I h => wpAny_Call_Name_kw (ld_glob I hg hm ?_ hdb)⟩
  obtain ⟨φ, env, S, a, q⟩ := h
  dsimp only at q
  have fin : ∀ {φ1 : List Addr} {H1 : Hp} {vp wp : List PV} {S1 : Sto} {vs zs : List V} {us ws : List Value} {s1 : Shared}, vs.length = es.length → Inv X pins σ H1 s1 → Vals vs us → Vals zs ws → RS C φ1 H1 S1 → RA C.K φ1 H1 vp vs → RA C.K φ1 H1 wp zs → Post C W (R C.K) φ1 H1 σ Q (match kwArgs ps vp ks wp with
      | some us => g us S1
      | none => .bad) → wpAny (model X.prog X.w) X.A (call (.ref fa) us (ks.zip ws)) (EP X pins σ Q) X.xe s1 := fun {φ1 H1 vp wp S1 vs zs us ws s1} hl I1 r rz rs r1 r2 p => by
    cases e : kwArgs ps vp ks wp with
    | none => rw [e] at p; exact (show False from p).elim
    | some up => rw [e] at p; exact kw_go tk hr F (by rw [hl]; exact hk) I1 r rz rs r1 r2 e p
  cases es with
  | nil =>
    rw [h0 rfl, M.bind_ok] at q
    have q2 : lA C W gs σ H fun zs H1 => ∀ (s1 : Shared) (ws : List Value), Inv X pins σ H1 s1 → Vals zs ws → wpAny (model X.prog X.w) X.A (call (.ref fa) [] (ks.zip ws)) (EP X pins σ Q) X.xe s1 := ⟨φ, env, S, a, Post.bind a q fun φ1 H1 v S1 x l a1 rv p1 => fun s1 ws I1 rz =>
      fin rfl I1 .nil rz a1.rs (.nil (K := C.K)) rv p1⟩
    refine PySem.W.callWith_KW0 (h₀ := X.base) I.ok.mod.kin F.kp a1 (thn (hkw.run pos pins s σ H _ I q2) fun ws s1 ⟨zs, H1, I1, rz, q3⟩ => ⟨I1.kIn, ?_⟩) (by rw [a3]; rfl)
    rw [a2, List.append_nil]
    exact q3 s1 ws I1 rz
  | cons e es =>
    rw [List.all_cons, Bool.and_eq_true] at hs
    have q2 : lA C W fs σ H fun vs H1 => vs.length = (e :: es).length ∧ ∃ φ1 S1 vp, At C φ1 env S1 σ H1 ∧ RA C.K φ1 H1 vp vs ∧ Post C W (R C.K) φ1 H1 σ Q ((gs env S1).bind fun ws S => (match kwArgs ps vp ks ws with
      | some us => g us S
      | none => .bad)) := by
      refine ⟨φ, env, S, a, ?_⟩
      cases e0 : fs env S with
      | ok vs S1 =>
        rw [e0] at q
        exact fun φ1 H1 x l r ra => ⟨by rw [← ra.length]; exact hlen _ _ _ _ e0, φ1, S1, vs, a.with l r, ra, Post.mono l q⟩
      | exc c v S1 => rw [e0] at q; exact q
      | bad => rw [e0] at q; exact q
    refine PySem.W.callWith_KW (h₀ := X.base) I.ok.mod.kin F.kp a1 (thn (ha.run pos pins s σ H _ I q2) fun us s1 ⟨vs, H1, I1, r, hl, φ1, S1, vp, at1, r1, p1⟩ => ?_) (by rw [star_eq hs.1, a3, Bool.or_false]; exact star_any (pos := pos) (env := X.env) hs.2) (star_eq hs.1 es X.env)
    have q3 : lA C W gs σ H1 fun zs H2 => ∀ (s2 : Shared) (ws : List Value), Inv X pins σ H2 s2 → Vals zs ws → wpAny (model X.prog X.w) X.A (call (.ref fa) us (ks.zip ws)) (EP X pins σ Q) X.xe s2 := ⟨φ1, env, S1, at1, Post.bind at1 p1 fun φ2 H2 v S2 x l a2 rv p2 => fun s2 ws I2 rz =>
      fin hl I2 r rz a2.rs (r1.mono l) rv p2⟩
    refine thn (hkw.run pos pins s1 σ H1 _ I1 q3) fun ws s2 ⟨zs, H2, I2, rz, q4⟩ => ⟨I2.kIn, ?_⟩
    rw [a2]
    exact q4 s2 ws I2 rz
end
end Mi
end

section
set_option Elab.async false
set_option linter.all false
set_option maxRecDepth 100000
set_option maxHeartbeats 4000000
/-! Mi: built-ins, isinstance, methods, fields, new instances, dict displays: readings. -/
namespace Mi
open PySem PySem.Spec L2
open PyProof.Rows hiding St
section
variable {C : Cn} {W : WX} {X : Cx} {k : Nat} {fa : Addr} {ps : List Str} {kws : List (Nat × List Str)} {g : List PV → Sto → M PV}
variable {f : Env1 → Sto → M PV} {fs gs : Env1 → Sto → M (List PV)} {e o a b : Expr} {es : List Expr} {pos p q apos : Pos} {x : Str}
theorem boot_bi (b : BI) (h : b ≠ .gcd) : bootBuiltins (biN b) = some (biV b) := by
  cases b <;> first | decide +kernel | exact absurd rfl h
theorem e_bi {bi : BI} (hK : X.K = C.K) (hc : X.calm = true) (hb : bi ≠ .gcd) (hg : Gl X (biN bi)) (hm : X.mg (biN bi) = none) (hs : (e :: es).all noStar = true) (ha : PA X (e :: es) (lA C W fs)) :
    PE X (.Call (.Name (biN bi) p) (e :: es) [] pos) (lE C W fun env S => (fs env S).bind fun vs S => opBI bi vs S) := by
  have bt := boot_bi bi hb
  rw [List.all_cons, Bool.and_eq_true] at hs
  have h1 := star_eq hs.1 es X.env
  have h2 := star_any (pos := pos) (env := X.env) hs.2
  have hr := rBI_ok hc bi
  have z : PE X (.Call (.Name (biN bi) p) (e :: es) [] pos) (tCB (rBI bi X.K) (lA C W fs)) := by
    cases bi
    · exact pe_callB hr hg hm bt ha (by decide) (by decide) h1 h2
    · exact pe_callB hr hg hm bt ha (by decide) (by decide) h1 h2
    · exact pe_callB hr hg hm bt ha (by decide) (by decide) h1 h2
    · exact pe_callB hr hg hm bt ha (by decide) (by decide) h1 h2
    · exact pe_callB hr hg hm bt ha (by decide) (by decide) h1 h2
    · exact pe_callB hr hg hm bt ha (by decide) (by decide) h1 h2
    · exact pe_callB hr hg hm bt ha (by decide) (by decide) h1 h2
    · exact pe_callTy hr hg hm bt ha (by decide) (by decide) h1 h2
    · exact pe_callTy hr hg hm bt ha (by decide) (by decide) h1 h2
    · exact pe_callTy hr hg hm bt ha (by decide) (by decide) h1 h2
    · exact absurd rfl hb
  rw [hK] at z
  exact pe_imp z (lEA opBI_ok)
theorem boot_ty (t : TyN) : bootBuiltins (Str.ofString (tyS t)) = some (.type (tyS t)) := by cases t <;> decide +kernel
theorem e_isi {t : TyN} (hK : X.K = C.K) (hg : Gl X "isinstance") (hm : X.mg "isinstance" = none) (hg2 : Gl X (Str.ofString (tyS t))) (hm2 : X.mg (Str.ofString (tyS t)) = none) (hs : noStar a = true) (ha : PE X a (lE C W f)) :
    PE X (.Call (.Name "isinstance" p) [a, .Name (Str.ofString (tyS t)) q] [] pos) (lE C W fun env S => (f env S).bind fun x S => oneB (isT x S t) S) := by
  have hn : PE X (.Name (Str.ofString (tyS t)) q) (tC (.ty (tyS t))) := pe_bltn hg2 hm2 (boot_ty t) rfl (by cases t <;> decide) (by cases t <;> decide)
  have hA : PA X [a, .Name (Str.ofString (tyS t)) q] (tCons (lE C W f) (tCons (tC (.ty (tyS t))) tNil)) := pa_cons ha (pa_cons hn pa_nil (star_eq rfl _ _)) (star_eq hs _ _)
  have z := pe_callB (pos := pos) (p := p) (call_isi (X := X)) hg hm boot_isinstance hA (by decide) (by decide) (star_eq hs _ _) (by rfl)
  rw [hK] at z
  refine pe_imp z ?_
  rintro σ H Q ⟨φ, env, S, at0, h⟩
  refine ⟨φ, env, S, at0, Post.bind at0 h fun φ1 H1 v S1 y l a1 rv p1 => ?_⟩
  obtain ⟨k, e1, p2⟩ := oneB_ok p1
  obtain ⟨ty, h1, h2⟩ := isT_ok a1 rv e1
  exact ⟨y, _, ty, _, k, rfl, .ty (tyS t), h1, h2, Post.ok p2 a1.rs (.bl _)⟩

/-! ### methods of lists -/
theorem isL_ok {φ : List Addr} {H : Hp} {S : Sto} {v : PV} (h : isL v S = true) : ∃ l n, v = .ref n ∧ S[n]? = some (.lst l) := by
  cases v with
  | ref n =>
    have h2 : (match S[n]? with
      | some (.lst _) => true
      | _ => false) = true := h
    cases e : S[n]? with
    | none => rw [e] at h2; cases h2
    | some o =>
      rw [e] at h2
      cases o with
      | lst l => exact ⟨l, n, rfl, e⟩
      | _ => cases h2
  | _ => cases h
theorem e_meth {m : MT} (hK : X.K = C.K) (hm : m = .append ∨ m = .extend) (hb : noSuper o = true) (hl : (apos.endLine == pos.line) = true) (hs : noStar e = true) (ho : PE X o (lE C W f)) (ha : PA X [e] (lA C W fs)) :
    PE X (.Call (.Attribute o (mtN m) apos) [e] [] pos) (lE C W fun env S => (f env S).bind fun x S => if isL x S then (fs env S).bind fun vs S => opM m x vs S else .bad) := by
  have h1 := attr_eq hb (mtN m) X.env (eval o X.env)
  have h2 : ((backTo pos (starEach [e] X.env)).all (fun x => !x.1) && (backToKw pos (keywordEach [] X.env)).all (fun x => x.1.isSome)
      && decide (([e] : List Expr).length + ([] : List Keyword).length + (if ([] : List Keyword).isEmpty then 0 else 1) < 30)) = true := by
    rw [star_all (by rw [List.all_cons, hs]; rfl)]
    rfl
  have z : PE X (.Call (.Attribute o (mtN m) apos) [e] [] pos) (tBM X.K "list" (rMT m) (lE C W f) (lA C W fs)) := by
    rcases hm with rfl | rfl
    · exact pe_bm PySem.F.plainAttrs_list PySem.F.slot_list_append PySem.F.type_list_append (rMT_ok .append) ho ha h1 h2 hl (star_eq hs _ _) rfl
    · exact pe_bm PySem.F.plainAttrs_list PySem.F.slot_list_extend PySem.F.type_list_extend (rMT_ok .extend) ho ha h1 h2 hl (star_eq hs _ _) rfl
  rw [hK] at z
  refine pe_imp z ?_
  rintro σ H Q ⟨φ, env, S, at0, h⟩
  refine ⟨φ, env, S, at0, Post.bind at0 h fun φ1 H1 v S1 y l a1 rv p1 => ?_⟩
  by_cases c : isL v S1 = true
  · rw [if_pos c] at p1
    exact ⟨opM_ty (m := m) (vs := []) a1.rs rv (isL_ok (φ := φ1) (H := H1) c), φ1, env, S1, a1, Post.bind a1 p1 fun φ2 H2 w S2 ys l2 a2 rw_ p2 => opM_ok a2 (rv.mono l2) rw_ p2⟩
  · rw [if_neg c] at p1; exact (show False from p1).elim

/-! ### instances -/
theorem insAt {φ : List Addr} {H : Hp} {S : Sto} {n c : Nat} {fs : List (Str × PV)} {x : V} (r : RS C φ H S) (rv : R C.K φ H (.ref n) x) (e : S[n]? = some (.ins c fs)) : ∃ a dx ws, x = .ref a ∧ φ[n]? = some a ∧ H a = some (.ins (C.ca c) dx ws) ∧ KRw C.K φ H fs ws := by
  cases rv with
  | @ref _ a hn =>
    obtain ⟨dx, ws, h1, h2⟩ := r.ob n _ a e hn
    exact ⟨a, dx, ws, rfl, hn, h1, h2⟩
theorem lookNone {φ : List Addr} {H : Hp} {fs : List (Str × PV)} {ws : List (Str × V)} {m : Str} (h : KRw C.K φ H fs ws) (e : fs.lookup m = none) : ws.lookup m = none := by
  cases q : ws.lookup m with
  | none => rfl
  | some x =>
    obtain ⟨h1, h2⟩ := h
    have : (fs.map (·.1)).contains m = false := by
      rw [Bool.eq_false_iff]
      intro z
      have z2 := List.contains_iff_mem.mp z
      obtain ⟨p, hp, hq⟩ := List.mem_map.mp z2
      obtain ⟨c', hc⟩ := mem_lookup (l := fs) (n := m) (c := p.2) (by rw [← hq]; exact hp)
      rw [e] at hc; cases hc
    have m2 : m ∈ ws.map (·.1) := List.mem_map.mpr ⟨(m, x), PySem.mem_of_lookup q, rfl⟩
    rw [← h1] at m2
    rw [List.contains_iff_mem.mpr m2] at this
    cases this
theorem opF_R {fl : Nat → Str → Bool} {φ : List Addr} {env : Env1} {S : Sto} {σ : St} {H : Hp} {v : PV} {x : Str} {y : V} {Q : VK} (hfl : ∀ c x, fl c x = true → Cls C.K (C.ca c) ∧ NoAttr C.K (C.ca c) x) (a : At C φ env S σ H) (rv : R C.K φ H v y) (p : Post C W (R C.K) φ H σ Q (opF fl v x S)) :
    ∃ a D dx fs v, y = .ref a ∧ H a = some (.ins D dx fs) ∧ Cls C.K D ∧ NoAttr C.K D x ∧ fs.lookup x = some v ∧ Q v H := by
  cases v with
  | ref n =>
    have p1 : Post C W (R C.K) φ H σ Q (match S[n]? with
      | some (.ins c fs) => if fl c x then one (fs.lookup x) S else .bad
      | _ => .bad) := p
    cases e : S[n]? with
    | none => rw [e] at p1; exact (show False from p1).elim
    | some ob =>
      rw [e] at p1
      cases ob with
      | ins c fs =>
        have p2 : Post C W (R C.K) φ H σ Q (if fl c x then one (fs.lookup x) S else .bad) := p1
        by_cases c2 : fl c x = true
        · rw [if_pos c2] at p2
          obtain ⟨z, e2, p3⟩ := one_ok p2
          obtain ⟨ad, dx, ws, rfl, _, h1, h2⟩ := insAt a.rs rv e
          obtain ⟨u, h3, h4⟩ := h2.look e2
          obtain ⟨g1, g2⟩ := hfl c x c2
          exact ⟨ad, _, dx, ws, u, rfl, h1, g1, g2, h3, Post.ok p3 a.rs h4⟩
        · rw [if_neg c2] at p2; exact (show False from p2).elim
      | _ => exact (show False from p1).elim
  | _ => exact (show False from p).elim
theorem e_fld {fl : Nat → Str → Bool} (hK : X.K = C.K) (hb : noSuper o = true) (hfl : ∀ c x, fl c x = true → Cls C.K (C.ca c) ∧ NoAttr C.K (C.ca c) x) (ho : PE X o (lE C W f)) : PE X (.Attribute o x pos) (lE C W fun env S => (f env S).bind fun v S => opF fl v x S) := by
  have z := pe_fld (f := x) (pos := pos) ho (attr_eq hb x X.env _)
  rw [hK] at z
  exact pe_imp z (lE1 (opF_R hfl))

/-! ### C(e, ..) -/
theorem make_it {pins : List (Addr × Obj)} {σ : St} {H : Hp} {s : Shared} {Q : VK} {us : List Value} {vs : List V} {cA : Addr} (M : Mk X.K cA fa) (tk : Takes X W) (hr : Room (k + 1) X.A) (F : FnD C X k fa ps kws g) (I : Inv X pins σ H s) (r : Vals vs us)
    (h : ∀ x dx, H x = none → H dx = none → dx ≠ x → spM C ps.length g (.ref x :: vs) (upd (upd H dx (.own x)) x (.ins cA dx [])) (fun v H2 => v = .non ∧ Q (.ref x) H2) (WE W σ)) :
    wpAny (model X.prog X.w) X.A (call (.ref cA) us) (EP X pins σ Q) X.xe s := by
  obtain ⟨fd, F1, B, _⟩ := F.ok
  have n0 := I.hok.fresh (Nat.le_refl s.heap.objs.size)
  have n1 := I.hok.fresh (Nat.le_succ s.heap.objs.size)
  have hq := h _ _ n1 n0 (Nat.ne_of_lt (Nat.lt_succ_self _))
  have J := Inv.made (C := cA) I
  have r2 : Vals (V.ref (s.heap.objs.size + 1) :: vs) (Value.ref (s.heap.objs.size + 1) :: us) := .cons rfl r
  have hl : (Value.ref (s.heap.objs.size + 1) :: us).length = ps.length := by rw [← r2.length]; exact F1.len _ _ _ _ hq
  have B2 := B _ (Value.ref (s.heap.objs.size + 1) :: us) J.kIn (by rw [List.append_nil]; exact hl)
  rw [List.append_nil] at B2
  refine wpAny_call (make_map (f := fa) I.kIn M.makes M.init (beq_iff_eq.mp M.fn) (codeAny_mono (F1.run _ X.stack _ _ _ _ _ _ (WE W σ) (hr.make cA us []) (J.env0.make cA us []) B2 r2 hq) fun res s' z => ?_))
  cases res with
  | error e => exact passAt tk σ pins _ _ e s' J z
  | ok fl =>
    cases fl with
    | ret u =>
      obtain ⟨v, H2, J2, rv, rfl, q2⟩ := J.after z
      exact ⟨rv, .ref (s.heap.objs.size + 1), H2, J2, rfl, q2⟩
    | _ => exact False.elim z
theorem new_sp {c : Nat} {φ : List Addr} {env : Env1} {S : Sto} {σ : St} {H : Hp} {Q : VK} {pv : List PV} {vs : List V} (F : FnD C X k fa ps kws g) (a : At C φ env S σ H) (ra : RA C.K φ H pv vs)
    (p : Post C W (R C.K) φ H σ Q (newI c (some (g (.ref S.length :: pv) (S ++ [.ins c []]))) S.length)) : ∀ x dx, H x = none → H dx = none → dx ≠ x → spM C ps.length g (.ref x :: vs) (upd (upd H dx (.own x)) x (.ins (C.ca c) dx [])) (fun v H2 => v = .non ∧ Q (.ref x) H2) (WE W σ) := by
  intro x dx hx hd ne
  have n1 : (upd H dx (.own x)) x = none := by rw [upd_ne (Ne.symm ne)]; exact hx
  have l1 : Le φ H (φ ++ [x]) (upd (upd H dx (.own x)) x (.ins (C.ca c) dx [])) := (Le.new hd).trans (Le.push n1)
  have r1 : RS C (φ ++ [x]) (upd (upd H dx (.own x)) x (.ins (C.ca c) dx [])) (S ++ [.ins c []]) := (a.rs.new hd).push n1 ⟨dx, [], upd_same, rfl, .nil⟩
  have rx : R C.K (φ ++ [x]) (upd (upd H dx (.own x)) x (.ins (C.ca c) dx [])) (.ref S.length) (.ref x) := .ref (by rw [a.rs.len]; simp)
  refine sp_of (σ := σ) (W := W) r1 (.cons rx (ra.mono l1)) (F.ln _ _) ?_
  cases e : g (.ref S.length :: pv) (S ++ [.ins c []]) with
  | ok v S2 =>
    rw [e] at p
    cases v with
    | non =>
      intro φ2 H2 y l2 r2 ry
      cases ry
      exact ⟨rfl, p φ2 H2 _ (l1.trans l2) r2 (rx.mono l2)⟩
    | _ => exact (show False from p).elim
  | exc c' v S2 =>
    rw [e] at p
    exact fun φ2 H2 cls d l2 r2 ex => p φ2 H2 cls d (l1.trans l2) r2 ex
  | bad => rw [e] at p; exact (show False from p).elim
theorem e_new {c : Nat} (hK : X.K = C.K) (tk : Takes X W) (hr : Room (k + 1) X.A) (hg : Gl X x) (hm : X.mg x = some (.ref (C.ca c))) (hM : Mk X.K (C.ca c) fa) (F : FnD C X k fa ps kws g) (hdb : (x == ("__debug__" : Str)) = false) (hs : es.all noStar = true) (h0 : es = [] → ∀ env S, fs env S = .ok [] S) (ha : PA X es (lA C W fs)) :
    PE X (.Call (.Name x p) es [] pos) (lE C W fun env S => (fs env S).bind fun vs S => newI c (some (g (.ref S.length :: vs) (S ++ [.ins c []]))) S.length) := by
  refine ⟨fun pins s σ H Q I h => wpAny_Call_Name_kw (ld_glob I hg hm ?_ hdb)⟩
  obtain ⟨φ, env, S, a, q⟩ := h
  dsimp only at q
  cases es with
  | nil =>
    rw [h0 rfl, M.bind_ok] at q
    refine PySem.W.callWith_K0 I.kIn hM.kp ?_
    exact make_it hM tk hr F I .nil (new_sp F a .nil q)
  | cons e es =>
    have q2 : lA C W fs σ H fun xs H1 => ∀ x dx, H1 x = none → H1 dx = none → dx ≠ x → spM C ps.length g (.ref x :: xs) (upd (upd H1 dx (.own x)) x (.ins (C.ca c) dx [])) (fun v H2 => v = .non ∧ Q (.ref x) H2) (WE W σ) :=
      ⟨φ, env, S, a, Post.bind a q fun φ1 H1 v S1 x l a1 rv p1 => new_sp F a1 rv p1⟩
    rw [List.all_cons, Bool.and_eq_true] at hs
    refine PySem.W.callWith_K (h₀ := X.base) I.ok.mod.kin hM.kp (thn (ha.run pos pins s σ H _ I q2) fun us s1 ⟨vs, H1, I1, r, q1⟩ => ⟨I1.kIn, ?_⟩) (star_eq hs.1 es X.env) (star_any hs.2)
    exact make_it hM tk hr F I1 r q1

/-! ### o.m(e, ..) of an instance -/
theorem e_mca {A : Ar} {m : Str} (hK : X.K = C.K) (tk : Takes X W) (hr : Room k X.A) (hb : noSuper o = true) (hl : (apos.endLine == pos.line) = true) (hn : es.length < 30) (hs : es.all noStar = true) (h0 : es = [] → ∀ env S, fs env S = .ok [] S)
    (hmt : ∀ c f, A.mt c m = some f → Cls C.K (C.ca c) ∧ Meth C.K (C.ca c) m (C.fa f) ∧ ∃ ps kws, FnD C X k (C.fa f) ps kws (A.cl f)) (ho : PE X o (lE C W f)) (ha : PA X es (lA C W fs)) :
    PE X (.Call (.Attribute o m apos) es [] pos) (lE C W fun env S => (f env S).bind fun x S => (match methOf A m x S with
      | some (n, f) => (fs env S).bind fun vs S => A.cl f (.ref n :: vs) S
      | none => .bad)) := by
  refine ⟨fun pins s σ H Q I h => ?_⟩
  obtain ⟨φ, env, S, a, q⟩ := h
  dsimp only at q
  have q1 : lE C W f σ H fun x H1 => ∃ ad D dx ws g, x = .ref ad ∧ H1 ad = some (.ins D dx ws) ∧ Cls X.K D ∧ Meth X.K D m g ∧ ws.lookup m = none ∧
      ∀ s1, Inv X pins σ H1 s1 → wpAny (model X.prog X.w) X.A (callWith pos (.ref g) [.ref ad] (backTo pos (starEach es X.env)) (backToKw pos (keywordEach [] X.env))) (EP X pins σ Q) X.xe s1 := by
    refine ⟨φ, env, S, a, Post.bind a q fun φ1 H1 v S1 y l a1 rv p1 => ?_⟩
    cases e1 : methOf A m v S1 with
    | none => rw [e1] at p1; exact (show False from p1).elim
    | some nf =>
      obtain ⟨n, f1⟩ := nf
      rw [e1] at p1
      cases v with
      | ref n' =>
        have e2 : (match S1[n']? with
          | some (.ins c fs) => (match fs.lookup m, A.mt c m with
            | none, some f => some (n', f)
            | _, _ => none)
          | _ => none) = some (n, f1) := e1
        cases e3 : S1[n']? with
        | none => rw [e3] at e2; cases e2
        | some ob =>
          rw [e3] at e2
          cases ob with
          | ins c fl =>
            have e4 : (match fl.lookup m, A.mt c m with
              | none, some f => some (n', f)
              | _, _ => none) = some (n, f1) := e2
            cases e5 : fl.lookup m with
            | some _ => rw [e5] at e4; cases e4
            | none =>
              rw [e5] at e4
              cases e6 : A.mt c m with
              | none => rw [e6] at e4; cases e4
              | some f2 =>
                rw [e6] at e4
                cases e4
                obtain ⟨ad, dx, ws, rfl, _, h1, h2⟩ := insAt a1.rs rv e3
                obtain ⟨g1, g2, ps, kws, F⟩ := hmt c _ e6
                rw [← hK] at g1 g2
                refine ⟨ad, _, dx, ws, _, rfl, h1, g1, g2, lookNone h2 e5, fun s1 I1 => ?_⟩
                exact call_go (pre := [.ref n]) (preV := [.ref ad]) (preU := [.ref ad]) tk hr F hs h0 ha I1 (.cons rfl .nil) ⟨φ1, env, S1, a1, .cons rv .nil, p1⟩
          | _ => cases e2
      | _ => cases e1
  exact methcall_of ho I q1 (mtree hb hl hs hn)

/-! ### dict displays -/
def keyB : Option Expr → Str → Bool
  | some (.Constant (.str s) _ _), k => decide (s = k)
  | _, _ => false
def keysB : List (Option Expr) → List Str → Bool
  | [], [] => true
  | e :: r, k :: ks => keyB e k && keysB r ks
  | _, _ => false
theorem keyB_of {e : Option Expr} {k : Str} (h : keyB e k = true) : ∃ j p, e = some (.Constant (.str k) j p) := by
  unfold keyB at h
  split at h
  · rw [of_decide_eq_true h]; exact ⟨_, _, rfl⟩
  · cases h
end
end Mi
end

section
set_option Elab.async false
set_option linter.all false
set_option maxRecDepth 100000
set_option maxHeartbeats 4000000
/-! Mi: dict displays, what is walked, list comprehensions: readings. -/
namespace Mi
open PySem PySem.Spec L2
open PyProof.Rows hiding St
/-- a row of expressions, each with its reading -/
inductive VsOk (C : Cn) (W : WX) (X : Cx) : List Expr → List TE → (Env1 → Sto → M (List PV)) → Prop
  | nil : VsOk C W X [] [] fun _ S => .ok [] S
  | cons {e : Expr} {f : Env1 → Sto → M PV} {es : List Expr} {ts : List TE} {fs : Env1 → Sto → M (List PV)} (hs : noStar e = true) (h : PE X e (lE C W f)) (r : VsOk C W X es ts fs) :
      VsOk C W X (e :: es) (lE C W f :: ts) fun env S => (f env S).bind fun v S => (fs env S).bind fun vs S => .ok (v :: vs) S
section
variable {C : Cn} {W : WX} {X : Cx} {f g : Env1 → Sto → M PV} {fs gs : Env1 → Sto → M (List PV)} {e o a b : Expr} {es : List Expr} {ts : List TE} {pos p q apos : Pos} {x : Str}
theorem VsOk.stars : ∀ {es : List Expr} {ts : List TE} {fs : Env1 → Sto → M (List PV)}, VsOk C W X es ts fs → es.all noStar = true
  | _, _, _, .nil => rfl
  | _, _, _, .cons hs _ r => by rw [List.all_cons, hs, r.stars]; rfl
theorem VsOk.pa : ∀ {es : List Expr} {ts : List TE} {fs : Env1 → Sto → M (List PV)}, VsOk C W X es ts fs → PA X es (lA C W fs)
  | _, _, _, .nil => a_nil
  | _, _, _, .cons hs h r => a_cons h r.pa (star_eq hs _ _)
theorem VsOk.zero : ∀ {es : List Expr} {ts : List TE} {fs : Env1 → Sto → M (List PV)}, VsOk C W X es ts fs → es = [] → ∀ env S, fs env S = .ok [] S
  | _, _, _, .nil, _ => fun _ _ => rfl
  | _, _, _, .cons _ _ _, h => by cases h
theorem VsOk.len : ∀ {es : List Expr} {ts : List TE} {fs : Env1 → Sto → M (List PV)}, VsOk C W X es ts fs → ∀ env S vs S', fs env S = .ok vs S' → vs.length = es.length
  | _, _, _, .nil => fun _ _ _ _ h => by cases h; rfl
  | _, _, _, @VsOk.cons _ _ _ e f es ts fs hs h r => fun env S vs S' q => by
    have q1 : ((f env S).bind fun v S => (fs env S).bind fun vs S => .ok (v :: vs) S) = .ok vs S' := q
    cases e1 : f env S with
    | ok v S1 =>
      rw [e1, M.bind_ok] at q1
      cases e2 : fs env S1 with
      | ok vs2 S2 =>
        rw [e2, M.bind_ok] at q1
        cases q1
        rw [List.length_cons, List.length_cons, r.len _ _ _ _ e2]
      | exc _ _ _ => rw [e2] at q1; cases q1
      | bad => rw [e2] at q1; cases q1
    | exc _ _ _ => rw [e1] at q1; cases q1
    | bad => rw [e1] at q1; cases q1
theorem VsOk.pps : ∀ {es : List Expr} {ts : List TE} {fs : Env1 → Sto → M (List PV)} {keys : List (Option Expr)} {ks : List Str}, VsOk C W X es ts fs → keysB keys ks = true → keys.length = es.length →
    PPs X pos keys es ((ks.map fun k => tC (.str k)).zip ts) ∧ keys.all (·.isSome) = true ∧ keys.length = ks.length
  | _, _, _, [], [], .nil, _, _ => ⟨pps_nil, rfl, rfl⟩
  | _, _, _, [], _ :: _, _, h, _ => by cases h
  | _, _, _, _ :: _, _, .nil, _, h => by cases h
  | _, _, _, [], _, .cons _ _ _, _, h => by cases h
  | _, _, _, _ :: _, [], .cons _ _ _, h, _ => by cases h
  | _, _, _, key :: keys, k :: ks, .cons hs h r, hk, hl => by
    have hk2 : (keyB key k && keysB keys ks) = true := hk
    rw [Bool.and_eq_true] at hk2
    obtain ⟨j, p2, rfl⟩ := keyB_of hk2.1
    obtain ⟨h1, h2, h3⟩ := r.pps hk2.2 (by simpa using hl)
    exact ⟨pps_cons pe_str h h1, h2, by simp [h3]⟩
theorem VsOk.pairs : ∀ {es : List Expr} {ts : List TE} {fs : Env1 → Sto → M (List PV)} {ks : List Str} {σ : St} {H : Hp} {Q : List (V × V) → Hp → Prop}, VsOk C W X es ts fs → ks.length = es.length →
    lA C W fs σ H (fun vs H' => Q ((ks.map V.str).zip vs) H') → tPairs ((ks.map fun k => tC (.str k)).zip ts) σ H Q
  | _, _, _, [], σ, H, Q, .nil, _, ⟨φ, env, S, a, h⟩ => h φ H [] Le.refl a.rs RA.nil
  | _, _, _, _ :: _, _, _, _, .nil, h, _ => by cases h
  | _, _, _, [], _, _, _, .cons _ _ _, h, _ => by cases h
  | _, _, _, k :: ks, σ, H, Q, .cons hs h r, hl, ⟨φ, env, S, a, q⟩ => by
    refine ⟨φ, env, S, a, Post.bind a q fun φ1 H1 v S1 y l a1 rv p1 => ?_⟩
    exact r.pairs (by simpa using hl) ⟨φ1, env, S1, a1, Post.bind a1 p1 fun φ2 H2 w S2 ys l2 a2 rw_ p2 => p2 φ2 H2 (y :: ys) Le.refl a2.rs (RA.cons (rv.mono l2) rw_)⟩
theorem merge_dk : ∀ (l acc : List (Str × V)), (acc.map (·.1) ++ l.map (·.1)).Nodup → mergeK (dkOf acc) (dkOf l) = dkOf (acc ++ l)
  | [], acc, _ => by rw [List.append_nil]; rfl
  | (k, v) :: l, acc, h => by
    have e : mergeK (dkOf acc) (dkOf ((k, v) :: l)) = mergeK (putK (dkOf acc) (Sum.inr k) v) (dkOf l) := rfl
    have nin : k ∉ acc.map (·.1) := fun hm => by
      rw [List.nodup_append] at h
      exact h.2.2 k hm k (by simp) rfl
    have e2 : putKs acc k v = acc ++ [(k, v)] := by
      unfold putKs
      rw [if_neg]
      intro z
      rw [List.any_eq_true] at z
      obtain ⟨q, h1, h2⟩ := z
      exact nin (List.mem_map.mpr ⟨q, h1, of_decide_eq_true h2⟩)
    rw [e, putK_dk, e2, merge_dk l (acc ++ [(k, v)]) (by simpa using h)]
    simp
theorem kv_map : ∀ {ks : List Str} {xs : List V}, (ks.map V.str).zip xs = (dkOf (ks.zip xs)).map fun kv => (kV kv.1, kv.2)
  | [], _ => rfl
  | _ :: _, [] => rfl
  | k :: ks, x :: xs => by
    have ih := kv_map (ks := ks) (xs := xs)
    rw [List.map_cons, List.zip_cons_cons, List.zip_cons_cons, ih]
    rfl
theorem krw_zip {φ : List Addr} {H : Hp} : ∀ {ks : List Str} {vs : List PV} {xs : List V}, RA C.K φ H vs xs → KRw C.K φ H (ks.zip vs) (ks.zip xs)
  | [], _, _, _ => ⟨rfl, .nil⟩
  | _ :: _, [], _, .nil => ⟨rfl, .nil⟩
  | k :: ks, _ :: _, _ :: _, .cons h r => by
    obtain ⟨h1, h2⟩ := krw_zip (ks := ks) r
    exact ⟨by simp [h1], .cons h h2⟩
theorem e_dct {keys : List (Option Expr)} {ks : List Str} (hk : keysB keys ks = true) (hl : keys.length = es.length) (h0 : es ≠ []) (h15 : ks.length ≤ 15) (r : VsOk C W X es ts fs) :
    PE X (.Dict keys es pos) (lE C W fun env S => (fs env (S ++ [.dct []])).bind fun vs S' => mkDct ks S.length vs S') := by
  obtain ⟨h1, h2, h3⟩ := r.pps (pos := pos) hk hl
  refine pe_imp (pe_disp h1 h2 hl (fun z => h0 (by rw [z] at hl; exact List.eq_nil_of_length_eq_zero hl.symm)) (by rw [h3]; exact h15)) ?_
  rintro σ H Q ⟨φ, env, S, a, q⟩ c hc
  have l1 : Le φ H (φ ++ [c]) (upd H c (.dK [])) := Le.push hc
  have a1 : At C (φ ++ [c]) env (S ++ [.dct []]) σ (upd H c (.dK [])) := a.with l1 (a.rs.push hc ⟨[], upd_same, rfl, .nil⟩)
  have at_ : (φ ++ [c])[S.length]? = some c := by rw [a.rs.len]; simp
  refine r.pairs (by rw [← h3]; exact hl) ⟨φ ++ [c], env, _, a1, Post.bind a1 (Post.mono l1 q) fun φ2 H2 vs S2 xs l2 a2 ra p2 => ?_⟩
  unfold mkDct at p2
  have at2 := l2.at at_
  cases e : S2[S.length]? with
  | none => rw [e] at p2; exact (show False from p2).elim
  | some ob =>
    rw [e] at p2
    cases ob with
    | dct kvs =>
      cases kvs with
      | cons _ _ => exact (show False from p2).elim
      | nil =>
        have p3 : Post C W (R C.K) φ2 H2 σ Q (if vs.length = ks.length ∧ ks.Nodup ∧ ks.length ≤ 15 then .ok (.ref S.length) (S2.set S.length (.dct (ks.zip vs))) else .bad) := p2
        by_cases c2 : vs.length = ks.length ∧ ks.Nodup ∧ ks.length ≤ 15
        · rw [if_pos c2] at p3
          obtain ⟨ws, e1, e2⟩ := a2.rs.ob _ _ c e at2
          have ew : ws = [] := by
            have z := e2.1
            cases ws with
            | nil => rfl
            | cons _ _ => simp at z
          subst ew
          have e1 : H2 c = some (.dK []) := e1
          have lx : xs.length = ks.length := by rw [← ra.length]; exact c2.1
          have le : Le φ2 H2 φ2 (upd H2 c (.dK (dkOf (ks.zip xs)))) := Le.upd fun o z => by rw [e1] at z; cases z; exact id
          have mk : mergeK [] (dkOf (ks.zip xs)) = dkOf (ks.zip xs) := by
            have z := merge_dk (ks.zip xs) [] (by
              rw [List.map_nil, List.nil_append, List.map_fst_zip (by omega)]
              exact c2.2.1)
            exact z
          refine ⟨e1, dkOf (ks.zip xs), kv_map, by unfold dkOf; rw [List.length_map, List.length_zip]; omega, ?_⟩
          rw [mk]
          exact Post.at p3 le (a2.rs.set at2 e1 id (fun ps z => by cases z) (a2.rs.noKb e fun l z => by cases z) ⟨ks.zip xs, upd_same, KRw.mono (C := C) le (krw_zip ra)⟩) (.ref at2)
        · rw [if_neg c2] at p3; exact (show False from p3).elim
    | _ => exact (show False from p2).elim
end
end Mi
end

section
set_option Elab.async false
set_option linter.all false
set_option maxRecDepth 100000
set_option maxHeartbeats 4000000
/-! Mi: what is walked. -/
namespace Mi
open PySem PySem.Spec L2
open PyProof.Rows hiding St
section
variable {C : Cn} {W : WX} {X : Cx} {φ : List Addr} {H : Hp} {S : Sto}
/-- the items of a list of the store -/
def sqOf (S : Sto) (n : Nat) : Option (List PV) := match S[n]? with
  | some (.lst l) => some l
  | some (.fro l) => some l
  | _ => none
theorem sqOf_ok {n : Nat} {a : Addr} {l : List PV} (r : RS C φ H S) (h : φ[n]? = some a) (e : sqOf S n = some l) : ∃ vs, SqL C.K H a vs ∧ RA C.K φ H l vs := by
  unfold sqOf at e
  cases e2 : S[n]? with
  | none => rw [e2] at e; cases e
  | some o =>
    rw [e2] at e
    have q := r.ob n o a e2 h
    cases o with
    | lst l0 => cases e; obtain ⟨vs, h1, ra⟩ := q; exact ⟨vs, SqL.of h1, ra⟩
    | fro l0 =>
      cases e
      rcases q with ⟨ob, vs, h1, ra⟩ | ⟨vs, h1, ra⟩
      · exact ⟨vs, .inl (.inr ⟨ob, h1⟩), ra⟩
      · exact ⟨vs, .inr h1, ra⟩
    | _ => cases e
theorem at_lst (n i : Nat) : Wk.at S (.lst n) i = (sqOf S n).map fun l => l[i]? := by
  show (match S[n]? with
    | some (.lst l) => some l[i]?
    | some (.fro l) => some l[i]?
    | _ => none) = _
  unfold sqOf
  cases S[n]? with
  | none => rfl
  | some o => cases o <;> rfl
theorem at_enl (n i : Nat) : Wk.at S (.enl n) i = (sqOf S n).map fun l => l[i]?.map fun x => .tup [.int i, x] := by
  show (match S[n]? with
    | some (.lst l) => some (l[i]?.map fun x => PV.tup [.int i, x])
    | some (.fro l) => some (l[i]?.map fun x => .tup [.int i, x])
    | _ => none) = _
  unfold sqOf
  cases S[n]? with
  | none => rfl
  | some o => cases o <;> rfl
theorem ra_none {l : List PV} {vs : List V} {i : Nat} (ra : RA C.K φ H l vs) (h : l[i]? = none) : vs.length ≤ i := by
  rw [← ra.length]
  exact List.getElem?_eq_none_iff.mp h
theorem wk_tup {l : List PV} {vs : List V} {a : Addr} (hs : SqT C.K H a vs) (ra : RA C.K φ H l vs) : WkR C φ H (.row l) (Itt C.K a) := fun φ' H' S le r i => by
  have hs2 := le.sqT hs
  have ra2 := ra.mono le
  refine ⟨fun h => ⟨vs, hs2, ra_none ra2 (Option.some.inj h)⟩, fun v h => ?_⟩
  have h2 : l[i]? = some v := Option.some.inj h
  obtain ⟨x, e1, e2⟩ := ra2.get h2
  refine ⟨⟨vs, x, hs2, e1⟩, fun y H2 hy => ?_⟩
  obtain ⟨rfl, hy⟩ := hy
  have z := hy vs hs2
  rw [e1] at z
  cases z
  exact ⟨φ', Le.refl, r, e2⟩
theorem wk_lst {n : Nat} {a : Addr} (hn : φ[n]? = some a) : WkR C φ H (.lst n) (Itl C.K a) := fun φ' H' S le r i => by
  have hn2 := le.at hn
  rw [at_lst]
  cases e : sqOf S n with
  | none => exact ⟨fun h => (by cases h), fun v h => (by cases h)⟩
  | some l =>
    obtain ⟨vs, h1, ra⟩ := sqOf_ok r hn2 e
    refine ⟨fun h => ⟨vs, h1, ra_none ra (Option.some.inj h)⟩, fun v h => ?_⟩
    obtain ⟨x, e1, e2⟩ := ra.get (Option.some.inj h)
    refine ⟨⟨vs, x, h1, e1⟩, fun y H2 hy => ?_⟩
    obtain ⟨rfl, hy⟩ := hy
    have z := hy vs h1
    rw [e1] at z
    cases z
    exact ⟨φ', Le.refl, r, e2⟩
theorem wk_enl {n : Nat} {a : Addr} (hn : φ[n]? = some a) : WkR C φ H (.enl n) (Ite C.K a) := fun φ' H' S le r i => by
  have hn2 := le.at hn
  rw [at_enl]
  cases e : sqOf S n with
  | none => exact ⟨fun h => (by cases h), fun v h => (by cases h)⟩
  | some l =>
    obtain ⟨vs, h1, ra⟩ := sqOf_ok r hn2 e
    cases e3 : l[i]? with
    | none => exact ⟨fun _ => ⟨vs, h1, ra_none ra e3⟩, fun v h => by simp [e3] at h⟩
    | some w =>
      refine ⟨fun h => by simp [e3] at h, fun v h => ?_⟩
      obtain ⟨x, e1, e2⟩ := ra.get e3
      have ev : PV.tup [.int (i : Nat), w] = v := by simpa [e3] using h
      subst ev
      refine ⟨⟨vs, x, h1, e1⟩, fun y H2 hy => ?_⟩
      obtain ⟨T, x2, rfl, hT, rfl, hy⟩ := hy
      have z := hy vs h1
      rw [e1] at z
      cases z
      exact ⟨φ', Le.new hT, r.new hT, .tup (SqT.of upd_same) (.cons (.int _) (.cons (e2.mono (Le.new hT)) .nil))⟩
theorem wk_rng {lo : Int} {n : Nat} : WkR C φ H (.row (rngP lo n)) (Itr lo n) := fun φ' H' S le r i => by
  have len : (rngP lo n).length = n := by unfold rngP; simp
  refine ⟨fun h => ?_, fun v h => ?_⟩
  · have h2 : (rngP lo n)[i]? = none := Option.some.inj h
    have := List.getElem?_eq_none_iff.mp h2
    rw [len] at this
    exact this
  · have h2 : (rngP lo n)[i]? = some v := Option.some.inj h
    have hi : i < n := by rw [← len]; exact (List.getElem?_eq_some_iff.mp h2).1
    have ev : PV.int (lo + (i : Nat)) = v := by
      unfold rngP at h2
      rw [List.getElem?_map, List.getElem?_range hi] at h2
      simpa using h2
    subst ev
    refine ⟨hi, fun y H2 hy => ?_⟩
    obtain ⟨rfl, rfl⟩ := hy
    exact ⟨φ', Le.refl, r, .int _⟩
theorem enmP_get {l : List PV} (i : Nat) : (enmP l)[i]? = l[i]?.map fun x => .tup [.int i, x] := by
  unfold enmP
  rw [List.getElem?_map]
  by_cases h : i < l.length
  · rw [List.getElem?_eq_getElem h]
    have hz : i < ((List.range l.length).zip l).length := by simp [h]
    rw [List.getElem?_eq_getElem hz]
    simp
  · have h1 : l[i]? = none := List.getElem?_eq_none_iff.mpr (by omega)
    have h2 : ((List.range l.length).zip l)[i]? = none := List.getElem?_eq_none_iff.mpr (by simp; omega)
    rw [h1, h2]; rfl
theorem wk_enT {l : List PV} {vs : List V} {a : Addr} (hs : SqT C.K H a vs) (ra : RA C.K φ H l vs) : WkR C φ H (.row (enmP l)) (IteT C.K a) := fun φ' H' S le r i => by
  have hs2 := le.sqT hs
  have ra2 := ra.mono le
  have e0 : Wk.at S (.row (enmP l)) i = some (l[i]?.map fun x => .tup [.int i, x]) := congrArg some (enmP_get i)
  rw [e0]
  cases e3 : l[i]? with
  | none => exact ⟨fun _ => ⟨vs, hs2, ra_none ra2 e3⟩, fun v h => by simp at h⟩
  | some w =>
    refine ⟨fun h => by simp at h, fun v h => ?_⟩
    obtain ⟨x, e1, e2⟩ := ra2.get e3
    have ev : PV.tup [.int (i : Nat), w] = v := by simpa using h
    subst ev
    refine ⟨⟨vs, x, hs2, e1⟩, fun y H2 hy => ?_⟩
    obtain ⟨T, x2, rfl, hT, rfl, hy⟩ := hy
    have z := hy vs hs2
    rw [e1] at z
    cases z
    exact ⟨φ', Le.new hT, r.new hT, .tup (SqT.of upd_same) (.cons (.int _) (.cons (e2.mono (Le.new hT)) .nil))⟩
theorem wk_zip {l l2 : List PV} {vs ws : List V} {a b : Addr} (hl : l.length = l2.length) (hs : SqT C.K H a vs) (ra : RA C.K φ H l vs) (ht : SqT C.K H b ws) (rb : RA C.K φ H l2 ws) : WkR C φ H (.row (zipP l l2)) (RZ.ItzT C.K a b) := fun φ' H' S le r i => by
  have hs2 := le.sqT hs
  have ra2 := ra.mono le
  have ht2 := le.sqT ht
  have rb2 := rb.mono le
  have e0 : Wk.at S (.row (zipP l l2)) i = some (zipP l l2)[i]? := rfl
  rw [e0]
  have lenz : (zipP l l2).length = l.length := by unfold zipP; simp; omega
  refine ⟨fun h => ?_, fun v h => ?_⟩
  · have h2 := List.getElem?_eq_none_iff.mp (Option.some.inj h)
    rw [lenz] at h2
    exact ⟨vs, ws, hs2, ht2, .inl (by rw [← ra2.length]; exact h2)⟩
  · have h2 : (zipP l l2)[i]? = some v := Option.some.inj h
    have hi : i < l.length := by rw [← lenz]; exact (List.getElem?_eq_some_iff.mp h2).1
    have hi2 : i < l2.length := by omega
    have ev : PV.tup [l[i], l2[i]] = v := by
      unfold zipP at h2
      rw [List.getElem?_map, List.getElem?_eq_getElem (by simp; omega)] at h2
      simpa using h2
    subst ev
    obtain ⟨x, e1, e2⟩ := ra2.get (List.getElem?_eq_getElem hi)
    obtain ⟨y, e3, e4⟩ := rb2.get (List.getElem?_eq_getElem hi2)
    refine ⟨⟨vs, ws, x, y, hs2, ht2, e1, e3⟩, fun z H2 hz => ?_⟩
    obtain ⟨T, x2, y2, rfl, hT, rfl, q1, q2⟩ := hz
    have z1 := q1 vs hs2
    have z2 := q2 ws ht2
    rw [e1] at z1
    rw [e3] at z2
    cases z1
    cases z2
    exact ⟨φ', Le.new hT, r.new hT, .tup (SqT.of upd_same) (.cons (e2.mono (Le.new hT)) (.cons (e4.mono (Le.new hT)) .nil))⟩

/-! ### sources -/
variable {f g : Env1 → Sto → M PV} {tg e a b : Expr} {pos p tpos : Pos} {elts : List Expr} {kk : Nat}
theorem pi_imp {t t' : TI} (h : PI X tg e t) (i : ∀ σ H Q, t' σ H Q → t σ H Q) : PI X tg e t' := ⟨fun pins s σ H Q I w => h.run pins s σ H Q I (i σ H Q w)⟩
theorem i_seq (hK : X.K = C.K) (h : PE X e (lE C W f)) : PI X tg e (lI C W fun env S => (f env S).bind wkSeq) := by
  have z := pi_seqA (tg := tg) h
  rw [hK] at z
  refine pi_imp z ?_
  rintro σ H Q ⟨φ, env, S, at0, q⟩
  refine ⟨φ, env, S, at0, Post.bind at0 q fun φ1 H1 v S1 x l a1 rv p1 => ?_⟩
  cases rv with
  | @tup l vs ad hs ra => exact ⟨ad, vs, rfl, .inr ⟨hs, p1 φ1 H1 _ Le.refl a1.rs (wk_tup hs ra)⟩⟩
  | @ref n ad hn =>
    have p2 : Post C W (WkR C) φ1 H1 σ Q (match S1[n]? with
      | some (.lst _) => .ok (.lst n) S1
      | some (.fro _) => .ok (.lst n) S1
      | _ => .bad) := p1
    have go : ∀ {l : List PV}, sqOf S1 n = some l → Post C W (WkR C) φ1 H1 σ Q (.ok (.lst n) S1) → ∃ a xs, V.ref ad = .ref a ∧ ((SqL C.K H1 a xs ∧ Q (Itl C.K a) H1) ∨ (SqT C.K H1 a xs ∧ Q (Itt C.K a) H1)) := fun {l} e p3 => by
      obtain ⟨vs, h1, ra⟩ := sqOf_ok a1.rs hn e
      exact ⟨ad, vs, rfl, .inl ⟨h1, p3 φ1 H1 _ Le.refl a1.rs (wk_lst hn)⟩⟩
    cases e : S1[n]? with
    | none => rw [e] at p2; exact (show False from p2).elim
    | some o =>
      rw [e] at p2
      cases o with
      | lst l => exact go (by unfold sqOf; rw [e]) p2
      | fro l => exact go (by unfold sqOf; rw [e]) p2
      | _ => exact (show False from p2).elim
  | _ => exact (show False from p1).elim
theorem inR {i : Int} (h : inRange i = true) : -(2 ^ 62) ≤ i ∧ i < 2 ^ 62 := of_decide_eq_true h
theorem i_rng1 (hg : Gl X "range") (hm : X.mg "range" = none) (hs : noStar a = true) (h : PE X a (lE C W f)) : PI X tg (.Call (.Name "range" p) [a] [] pos) (lI C W fun env S => (f env S).bind wkRng1) := by
  refine pi_imp (pi_range1 hg hm (pa_cons h pa_nil (star_eq hs _ _)) (star_eq hs _ _)) ?_
  rintro σ H Q ⟨φ, env, S, at0, q⟩
  refine ⟨φ, env, S, at0, Post.bind at0 q fun φ1 H1 v S1 x l a1 rv p1 => ?_⟩
  cases rv with
  | int j =>
    have p2 : Post C W (WkR C) φ1 H1 σ Q (if inRange j then .ok (.row (rngP 0 j.toNat)) S1 else .bad) := p1
    by_cases c : inRange j = true
    · rw [if_pos c] at p2
      obtain ⟨c1, c2⟩ := inR c
      exact ⟨j, rfl, c1, c2, p2 φ1 H1 _ Le.refl a1.rs wk_rng⟩
    · rw [if_neg c] at p2; exact (show False from p2).elim
  | _ => exact (show False from p1).elim
theorem i_rng2 (hg : Gl X "range") (hm : X.mg "range" = none) (hs : noStar a = true) (hs2 : noStar b = true) (h : PE X a (lE C W f)) (h2 : PE X b (lE C W g)) :
    PI X tg (.Call (.Name "range" p) [a, b] [] pos) (lI C W fun env S => (f env S).bind fun x S => (g env S).bind fun y S => wkRng2 x y S) := by
  refine pi_imp (pi_range2 hg hm (pa_cons h (pa_cons h2 pa_nil (star_eq hs2 _ _)) (star_eq hs _ _)) (by rw [star_eq hs, star_eq hs2]; rfl) (star_eq hs2 _ _)) ?_
  rintro σ H Q ⟨φ, env, S, at0, q⟩
  refine ⟨φ, env, S, at0, Post.bind at0 q fun φ1 H1 v S1 x l a1 rv p1 => ⟨φ1, env, S1, a1, Post.bind a1 p1 fun φ2 H2 w S2 y l2 a2 rw_ p2 => ?_⟩⟩
  cases rv with
  | int i =>
    cases rw_ with
    | int j =>
      have p3 : Post C W (WkR C) φ2 H2 σ Q (if inRange i && inRange j then .ok (.row (rngP i (j - i).toNat)) S2 else .bad) := p2
      by_cases c : (inRange i && inRange j) = true
      · rw [if_pos c] at p3
        rw [Bool.and_eq_true] at c
        obtain ⟨c1, c2⟩ := inR c.1
        obtain ⟨c3, c4⟩ := inR c.2
        exact ⟨i, j, rfl, ⟨c1, c2, c3, c4⟩, p3 φ2 H2 _ Le.refl a2.rs wk_rng⟩
      · rw [if_neg c] at p3; exact (show False from p3).elim
    | _ => exact (show False from p2).elim
  | _ => exact (show False from by cases rw_ <;> exact p2).elim
theorem i_enm (hK : X.K = C.K) (hg : Gl X "enumerate") (hm : X.mg "enumerate" = none) (hs : noStar a = true) (h : PE X a (lE C W f)) : PI X (.Tuple elts kk tpos) (.Call (.Name "enumerate" p) [a] [] pos) (lI C W fun env S => (f env S).bind wkEnm) := by
  have z := pi_enumA (p := p) (pos := pos) (tpos := tpos) (elts := elts) (kk := kk) hg hm (pa_cons h pa_nil (star_eq hs _ _)) (star_eq hs _ _)
  rw [hK] at z
  refine pi_imp z ?_
  rintro σ H Q ⟨φ, env, S, at0, q⟩
  refine ⟨φ, env, S, at0, Post.bind at0 q fun φ1 H1 v S1 x l a1 rv p1 => ?_⟩
  cases rv with
  | @tup l vs ad hs ra => exact ⟨ad, vs, rfl, .inr ⟨hs, p1 φ1 H1 _ Le.refl a1.rs (wk_enT hs ra)⟩⟩
  | @ref n ad hn =>
    have p2 : Post C W (WkR C) φ1 H1 σ Q (match S1[n]? with
      | some (.lst _) => .ok (.enl n) S1
      | some (.fro _) => .ok (.enl n) S1
      | _ => .bad) := p1
    have go : ∀ {l : List PV}, sqOf S1 n = some l → Post C W (WkR C) φ1 H1 σ Q (.ok (.enl n) S1) → ∃ a xs, [V.ref ad] = [V.ref a] ∧ ((SqL C.K H1 a xs ∧ Q (Ite C.K a) H1) ∨ (SqT C.K H1 a xs ∧ Q (IteT C.K a) H1)) := fun {l} e p3 => by
      obtain ⟨vs, h1, ra⟩ := sqOf_ok a1.rs hn e
      exact ⟨ad, vs, rfl, .inl ⟨h1, p3 φ1 H1 _ Le.refl a1.rs (wk_enl hn)⟩⟩
    cases e : S1[n]? with
    | none => rw [e] at p2; exact (show False from p2).elim
    | some o =>
      rw [e] at p2
      cases o with
      | lst l => exact go (by unfold sqOf; rw [e]) p2
      | fro l => exact go (by unfold sqOf; rw [e]) p2
      | _ => exact (show False from p2).elim
  | _ => exact (show False from p1).elim
theorem i_zip (hK : X.K = C.K) (hg : Gl X "zip") (hm : X.mg "zip" = none) (hs : noStar a = true) (hs2 : noStar b = true) (h : PE X a (lE C W f)) (h2 : PE X b (lE C W g)) :
    PI X (.Tuple elts kk tpos) (.Call (.Name "zip" p) [a, b] [] pos) (lI C W fun env S => (f env S).bind fun x S => (g env S).bind fun y S => wkZip x y S) := by
  have z := RZ.pi_zipA (p := p) (pos := pos) (tpos := tpos) (elts := elts) (kk := kk) hg hm (pa_cons h (pa_cons h2 pa_nil (star_eq hs2 _ _)) (star_eq hs _ _)) (star_eq hs _ _) (by rw [star_eq hs2]; rfl)
  rw [hK] at z
  refine pi_imp z ?_
  rintro σ H Q ⟨φ, env, S, at0, q⟩
  refine ⟨φ, env, S, at0, Post.bind at0 q fun φ1 H1 v S1 x l a1 rv p1 => ⟨φ1, env, S1, a1, Post.bind a1 p1 fun φ2 H2 w S2 y l2 a2 rw_ p2 => ?_⟩⟩
  have rv2 := rv.mono l2
  cases rv2 with
  | @tup l vs ad hs ra =>
    cases rw_ with
    | @tup r ws bd ht rb =>
      have p3 : Post C W (WkR C) φ2 H2 σ Q (if l.length = r.length then .ok (.row (zipP l r)) S2 else .bad) := p2
      by_cases c : l.length = r.length
      · rw [if_pos c] at p3
        exact ⟨ad, bd, vs, ws, rfl, .inr ⟨hs, ht, p3 φ2 H2 _ Le.refl a2.rs (wk_zip c hs ra ht rb)⟩⟩
      · rw [if_neg c] at p3; exact (show False from p3).elim
    | _ => exact (show False from p2).elim
  | _ => exact (show False from by cases rw_ <;> exact p2).elim
end
end Mi
end

section
set_option Elab.async false
set_option linter.all false
set_option maxRecDepth 100000
set_option maxHeartbeats 4000000
/-! Mi: targets, list comprehensions. -/
namespace Mi
open PySem PySem.Spec L2
open PyProof.Rows hiding St
theorem wipeE_length : ∀ (is : List Nat) (env : Env1), (wipeE env is).length = env.length
  | [], _ => rfl
  | i :: is, env => by
    show (wipeE (env.set i none) is).length = _
    rw [wipeE_length is, List.length_set]
theorem wipeE_some : ∀ {is : List Nat} {env : Env1} {i : Nat} {v : PV}, (wipeE env is)[i]? = some (some v) → env[i]? = some (some v) ∧ i ∉ is
  | [], _, _, _, h => ⟨h, by simp⟩
  | j :: is, env, i, v, h => by
    obtain ⟨h1, h2⟩ := wipeE_some (is := is) (env := env.set j none) h
    by_cases e : j = i
    · subst e
      by_cases hl : j < env.length
      · rw [List.getElem?_set_self hl] at h1; cases h1
      · rw [List.getElem?_eq_none (by simpa using hl)] at h1; cases h1
    · rw [List.getElem?_set_ne e] at h1
      exact ⟨h1, by simp only [List.mem_cons, not_or]; exact ⟨fun z => e z.symm, h2⟩⟩
theorem wipe_set {i : Nat} {v : Option V} {σ : St} : ∀ {vs : List Nat}, i ∈ vs → wipe (σ.set i v) vs = wipe σ vs
  | j :: vs, h => by
    by_cases e : i = j
    · subst e
      by_cases hm : i ∈ vs
      · show (wipe (σ.set i v) vs).set i none = (wipe σ vs).set i none
        rw [wipe_set hm]
      · have z : ∀ (vs : List Nat), i ∉ vs → wipe (σ.set i v) vs = (wipe σ vs).set i v := by
          intro vs
          induction vs with
          | nil => intro _; rfl
          | cons k vs ih =>
            intro hk
            simp only [List.mem_cons, not_or] at hk
            show (wipe (σ.set i v) vs).set k none = ((wipe σ vs).set k none).set i v
            rw [ih hk.2, List.set_comm _ _ hk.1]
        show (wipe (σ.set i v) vs).set i none = (wipe σ vs).set i none
        rw [z vs hm, List.set_set]
    · have hm : i ∈ vs := by
        rcases List.mem_cons.mp h with z | z
        · exact absurd z e
        · exact z
      show (wipe (σ.set i v) vs).set j none = (wipe σ vs).set j none
      rw [wipe_set hm]
theorem wipe_wipe (σ : St) (vs : List Nat) : wipe (wipe σ vs) vs = wipe σ vs := by
  have z : ∀ (us : List Nat), (∀ i ∈ us, i ∈ vs) → wipe (wipe σ us) vs = wipe σ vs := by
    intro us
    induction us with
    | nil => intro _; rfl
    | cons j us ih =>
      intro h
      show wipe ((wipe σ us).set j none) vs = _
      rw [wipe_set (h j List.mem_cons_self)]
      exact ih fun i hi => h i (List.mem_cons_of_mem _ hi)
  exact z vs fun _ h => h
section
variable {C : Cn} {W : WX} {X : Cx} {φ : List Addr} {env env' : Env1} {S : Sto} {σ : St} {H : Hp}
theorem At.wipe (a : At C φ env S σ H) (vs : List Nat) : At C φ (wipeE env vs) S (L2.wipe σ vs) H := by
  refine ⟨⟨by rw [wipeE_length, wipe_length]; exact a.re.1, fun i v h => ?_⟩, a.rs⟩
  obtain ⟨h1, h2⟩ := wipeE_some h
  obtain ⟨x, e1, e2⟩ := a.re.2 i v h1
  exact ⟨x, by rw [wipe_out h2]; exact e1, e2⟩
theorem At.set (a : At C φ env S σ H) {v : PV} {x : V} (i : Nat) (r : R C.K φ H v x) : At C φ (env.set i (some v)) S (σ.set i (some x)) H := by
  refine ⟨⟨by rw [List.length_set, List.length_set]; exact a.re.1, fun j w h => ?_⟩, a.rs⟩
  by_cases e : i = j
  · subst e
    by_cases hl : i < env.length
    · rw [List.getElem?_set_self hl] at h
      cases h
      exact ⟨x, List.getElem?_set_self (by rw [← a.re.1]; exact hl), r⟩
    · rw [List.getElem?_eq_none (by simpa using hl)] at h; cases h
  · rw [List.getElem?_set_ne e] at h
    obtain ⟨y, e1, e2⟩ := a.re.2 j w h
    exact ⟨y, by rw [List.getElem?_set_ne e]; exact e1, e2⟩

/-! ### targets -/
/-- the store of a target: names only -/
def lG (C : Cn) (tg : List Nat) : TG := fun x σ H Q => ∃ φ env S v env', At C φ env S σ H ∧ R C.K φ H v x ∧ putT env tg v = some env' ∧
  ∀ σ', At C φ env' S σ' H → (∀ vs : List Nat, (∀ i ∈ tg, i ∈ vs) → L2.wipe σ' vs = L2.wipe σ vs) → Q σ' H
def lGs (C : Cn) (tg : List Nat) : TGs := fun xs σ H Q => ∃ φ env S vs env', At C φ env S σ H ∧ RA C.K φ H vs xs ∧ setAll env tg vs = some env' ∧
  ∀ σ', At C φ env' S σ' H → (∀ us : List Nat, (∀ i ∈ tg, i ∈ us) → L2.wipe σ' us = L2.wipe σ us) → Q σ' H
theorem pg_imp {e : Expr} {t t' : TG} (h : PG X e t) (i : ∀ v σ H Q, t' v σ H Q → t v σ H Q) : PG X e t' := ⟨fun pins s σ H v u Q I r w => h.run pins s σ H v u Q I r (i v σ H Q w)⟩
theorem pgs_imp {e : List Expr} {t t' : TGs} (h : PGs X e t) (i : ∀ v σ H Q, t' v σ H Q → t v σ H Q) : PGs X e t' := ⟨fun pins s σ H v u Q I r w => h.run pins s σ H v u Q I r (i v σ H Q w)⟩
theorem setAll_cons {i : Nat} {is : List Nat} {vs : List PV} (h : setAll env (i :: is) vs = some env') : ∃ v r, vs = v :: r ∧ setAll (env.set i (some v)) is r = some env' := by
  cases vs with
  | nil => cases h
  | cons v r =>
    have h2 : (if i < env.length then setAll (env.set i (some v)) is r else none) = some env' := h
    by_cases c : i < env.length
    · rw [if_pos c] at h2; exact ⟨v, r, rfl, h2⟩
    · rw [if_neg c] at h2; cases h2
theorem g_name {i : Nat} {x : Str} {pos : Pos} (hN : X.N.Nodup) (hi : X.N[i]? = some x) (hx : Loc X.env.scope x) (hf : X.fn x = true ∨ X.env.scope.names.lookup x = some .local) : PG X (.Name x pos) (lG C [i]) :=
  pg_imp (pg_name hN hi hx hf) fun x σ H Q ⟨φ, env, S, v, env', a, r, hp, k⟩ => by
    have hp2 : setAll env [i] [v] = some env' := hp
    obtain ⟨v2, r2, e1, e2⟩ := setAll_cons hp2
    cases e1
    cases (show some (env.set i (some v)) = some env' from e2)
    exact k _ (a.set i r) fun vs hv => wipe_set (hv i (by simp))
theorem gs_nil : PGs X [] (lGs C []) := pgs_imp pgs_nil fun xs σ H Q ⟨φ, env, S, vs, env', a, r, hp, k⟩ => by
  cases vs with
  | nil =>
    cases r
    cases (show some env = some env' from hp)
    exact ⟨rfl, k σ a fun _ _ => rfl⟩
  | cons _ _ => cases hp
theorem gs_cons {i : Nat} {is : List Nat} {x : Str} {pos : Pos} {es : List Expr} (hN : X.N.Nodup) (hi : X.N[i]? = some x) (hx : Loc X.env.scope x) (hf : X.fn x = true ∨ X.env.scope.names.lookup x = some .local) (hr : PGs X es (lGs C is)) :
    PGs X (.Name x pos :: es) (lGs C (i :: is)) := pgs_imp (pgs_cons (pg_name hN hi hx hf) hr) fun xs σ H Q ⟨φ, env, S, vs, env', a, r, hp, k⟩ => by
  obtain ⟨v, rest, rfl, e2⟩ := setAll_cons hp
  cases r with
  | @cons _ y _ ys r1 r2 =>
    refine ⟨y, ys, rfl, φ, env.set i (some v), S, rest, env', a.set i r1, r2, e2, fun σ' a' hw => k σ' a' fun us hu => ?_⟩
    rw [hw us fun j hj => hu j (List.mem_cons_of_mem _ hj)]
    exact wipe_set (hu i List.mem_cons_self)
theorem g_tup {es : List Expr} {tg : List Nat} {kk : Nat} {pos : Pos} (hK : X.K = C.K) (hc : X.calm = true) (h2 : 2 ≤ tg.length) (hn : (assignEach es X.env).length = tg.length) (hst : (assignEach es X.env).findIdx? (·.1) = none) (h : PGs X es (lGs C tg)) : PG X (.Tuple es kk pos) (lG C tg) := by
  have z := pg_tup (k := kk) (pos := pos) hc h hn hst
  rw [hK] at z
  refine pg_imp z fun x σ H Q ⟨φ, env, S, v, env', a, r, hp, k⟩ => ?_
  have go : ∀ {v : PV} {x : V}, R C.K φ H v x → (match v with
      | .tup vs => setAll env tg vs
      | _ => none) = some env' → gTup C.K tg.length (lGs C tg) x σ H Q := fun {v x} r hp => by
    cases r with
    | @tup l vs ad hs ra =>
      have hp2 : setAll env tg l = some env' := hp
      have len : ∀ {is : List Nat} {l : List PV} {e e' : Env1}, setAll e is l = some e' → l.length = is.length := by
        intro is
        induction is with
        | nil =>
          intro l e e' h
          cases l with
          | nil => rfl
          | cons _ _ => cases h
        | cons i is ih =>
          intro l e e' h
          obtain ⟨w, r, rfl, h2⟩ := setAll_cons h
          rw [List.length_cons, List.length_cons, ih h2]
      exact ⟨ad, vs, rfl, hs, by rw [← ra.length]; exact len hp2, φ, env, S, l, env', a, ra, hp2, k⟩
    | _ => cases hp
  cases tg with
  | nil => simp at h2
  | cons i is =>
    cases is with
    | nil => simp at h2
    | cons j is => exact go r hp

/-! ### [elt for tg in iter if c] -/
def WF : WX := fun _ _ _ _ => False
theorem r_comp {own tg : List Nat} {fr : Env1 → Sto → M Wk} {fe fc : Env1 → Sto → M PV} (htg : ∀ i ∈ tg, i ∈ own) : ∀ σ H Q,
    lE C W (fun env S => (fr env S).bind fun w S => (loopC fe fc tg w (wipeE env own) S.length (w.len S) 0 (S ++ [.lst []])).bind fun _ S' => .ok (.ref S.length) S') σ H Q →
    tLc (lI C W fr) (lG C tg) (lT C WF fc) (lE C WF fe) own σ H Q := by
  rintro σ H Q ⟨φ, env, S, a0, q⟩
  refine ⟨φ, env, S, a0, Post.bind a0 q fun φ1 H1 w S1 J l a1 rw_ p1 => ?_⟩
  intro D hD
  have l1 : Le φ1 H1 (φ1 ++ [D]) (upd H1 D (.lst [])) := Le.push hD
  have aD : At C (φ1 ++ [D]) env (S1 ++ [.lst []]) σ (upd H1 D (.lst [])) := a1.with l1 (a1.rs.push hD ⟨[], upd_same, .nil⟩)
  have nD : (φ1 ++ [D])[S1.length]? = some D := by rw [a1.rs.len]; simp
  refine ⟨fun i m H => ∃ φ S, Le (φ1 ++ [D]) (upd H1 D (.lst [])) φ H ∧ At C φ (wipeE env own) S (L2.wipe σ own) H ∧ Post C W RU φ H σ (fun _ H' => Q (.ref D) H') (loopC fe fc tg w (wipeE env own) S1.length m i S),
    ⟨w.len S1, φ1 ++ [D], S1 ++ [.lst []], Le.refl, aD.wipe own, Post.bind aD (Post.mono l1 p1) fun φ2 H2 v S2 x l2 a2 _ p2 => Post.ok p2 a2.rs (.ref (l2.at nD))⟩, ?_⟩
  rintro i m H ⟨φ2, S2, l2, a2, p2⟩
  have rw2 := rw_.mono (l1.trans l2) φ2 H S2 Le.refl a2.rs i
  unfold loopC at p2
  cases e1 : w.at S2 i with
  | none => rw [e1] at p2; exact (show False from p2).elim
  | some ov =>
    rw [e1] at p2
    cases ov with
    | none => exact .inl ⟨rw2.1 e1, p2 φ2 H () Le.refl a2.rs True.intro⟩
    | some v =>
      cases m with
      | zero => exact (show False from p2).elim
      | succ m =>
        have p3 : Post C W RU φ2 H σ (fun _ H' => Q (.ref D) H') (match putT (wipeE env own) tg v with
          | none => .bad
          | some env' => (noX (fc env' S2)).bind fun b S => match b with
            | .bl true => (noX (fe env' S)).bind fun y S => match S[S1.length]? with
              | some (.lst acc) => if acc.length < sizeLine then loopC fe fc tg w (wipeE env own) S1.length m (i + 1) (S.set S1.length (.lst (acc ++ [y]))) else .bad
              | _ => .bad
            | .bl false => loopC fe fc tg w (wipeE env own) S1.length m (i + 1) S
            | _ => .bad) := p2
        cases e2 : putT (wipeE env own) tg v with
        | none => rw [e2] at p3; exact (show False from p3).elim
        | some env' =>
          rw [e2] at p3
          dsimp only at p3
          obtain ⟨go, yl⟩ := rw2.2 v e1
          refine .inr ⟨go, fun H' => ∃ φ S, Le (φ1 ++ [D]) (upd H1 D (.lst [])) φ H' ∧ At C φ (wipeE env own) S (L2.wipe σ own) H' ∧ Post C W RU φ H' σ (fun _ H' => Q (.ref D) H') (loopC fe fc tg w (wipeE env own) S1.length m (i + 1) S),
            fun H' h => ⟨m, Nat.lt_succ_self _, h⟩, fun x H3 hy => ?_⟩
          obtain ⟨φ3, l3, r3, rv⟩ := yl x H3 hy
          refine ⟨φ3, wipeE env own, S2, v, env', a2.with l3 r3, rv, e2, fun σ' a' hw => ⟨by rw [hw own htg, wipe_wipe], φ3, env', S2, a', ?_⟩⟩
          cases e3 : fc env' S2 with
          | ok b S4 =>
            rw [e3] at p3
            intro φ4 H4 xb l4 r4 rb
            cases rb with
            | bl k =>
              refine ⟨k, rfl, ?_⟩
              cases k with
              | false => exact iteF ⟨φ4, S4, (l2.trans l3).trans l4, (a2.with l3 r3).with l4 r4, Post.mono (l3.trans l4) p3⟩
              | true =>
                refine iteT ⟨φ4, env', S4, a'.with l4 r4, ?_⟩
                have p4 : Post C W RU φ2 H σ (fun _ H' => Q (.ref D) H') ((noX (fe env' S4)).bind fun y S => match S[S1.length]? with
                  | some (.lst acc) => if acc.length < sizeLine then loopC fe fc tg w (wipeE env own) S1.length m (i + 1) (S.set S1.length (.lst (acc ++ [y]))) else .bad
                  | _ => .bad) := p3
                cases e4 : fe env' S4 with
                | ok y S5 =>
                  rw [e4] at p4
                  intro φ5 H5 yv l5 r5 ry
                  have l15 : Le (φ1 ++ [D]) (upd H1 D (.lst [])) φ5 H5 := ((l2.trans l3).trans l4).trans l5
                  have at5 := l15.at nD
                  have p5 : Post C W RU φ2 H σ (fun _ H' => Q (.ref D) H') (match S5[S1.length]? with
                    | some (.lst acc) => if acc.length < sizeLine then loopC fe fc tg w (wipeE env own) S1.length m (i + 1) (S5.set S1.length (.lst (acc ++ [y]))) else .bad
                    | _ => .bad) := p4
                  cases e5 : S5[S1.length]? with
                  | none => rw [e5] at p5; exact (show False from p5).elim
                  | some ob =>
                    rw [e5] at p5
                    cases ob with
                    | lst acc =>
                      have p6 : Post C W RU φ2 H σ (fun _ H' => Q (.ref D) H') (if acc.length < sizeLine then loopC fe fc tg w (wipeE env own) S1.length m (i + 1) (S5.set S1.length (.lst (acc ++ [y]))) else .bad) := p5
                      by_cases c6 : acc.length < sizeLine
                      · rw [if_pos c6] at p6
                        obtain ⟨vs, h1, ra⟩ := r5.ob _ _ D e5 at5
                        have le : Le φ5 H5 φ5 (upd H5 D (.lst (vs ++ [yv]))) := Le.upd fun o z => by rw [h1] at z; cases z; exact id
                        refine ⟨vs, h1, by rw [← ra.length]; exact c6, φ5, _, l15.trans le, ((a2.with l3 r3).with l4 r4 |>.with (l5.trans le) ?_), Post.mono (((l3.trans l4).trans l5).trans le) p6⟩
                        exact r5.set at5 h1 id (fun ps z => by cases z) (r5.noKb e5 fun l z => by cases z) ⟨_, upd_same, (ra.append (.cons ry .nil)).mono le⟩
                      · rw [if_neg c6] at p6; exact (show False from p6).elim
                    | _ => exact (show False from p5).elim
                | exc _ _ _ => rw [e4] at p4; exact (show False from p4).elim
                | bad => rw [e4] at p4; exact (show False from p4).elim
            | _ => exact (show False from p3).elim
          | exc _ _ _ => rw [e3] at p3; exact (show False from p3).elim
          | bad => rw [e3] at p3; exact (show False from p3).elim
section
variable {own tg : List Nat} {ownP : List (Str × Nat)} {elt tgE iter : Expr} {ifs : List Expr} {scope : Scope} {pos : Pos} {fr : Env1 → Sto → M Wk} {fe fc : Env1 → Sto → M PV} (hc : X.calm = true) (hN : X.N.Nodup) (hi : PI X tgE iter (lI C W fr)) (ok : BlkOk X.N X.env.scope scope ownP)
    (ho : ownP.map (·.2) = own) (htg : ∀ i ∈ tg, i ∈ own) (hg : ∀ (s : Shared) (H : Hp) (B : Addr) (cl : List (Str × Addr)) (fp : List Addr), PG (X.blk s H scope (compEnvC scope cl B X.env) fp) tgE (lG C tg))
    (ht : ∀ (s : Shared) (H : Hp) (B : Addr) (cl : List (Str × Addr)) (fp : List Addr), PTs (X.blk s H scope (compEnvC scope cl B X.env) fp) ifs (lT C WF fc))
    (he : ∀ (s : Shared) (H : Hp) (B : Addr) (cl : List (Str × Addr)) (fp : List Addr), PE (X.blk s H scope (compEnvC scope cl B X.env) fp) elt (lE C WF fe)) (hs : ∀ x, foldedSetIterable iter X.env x = pure x)
include hc hN hi ok ho htg hg ht he hs
theorem e_comp : PE X (.ListComp elt [⟨tgE, iter, ifs, 0⟩] scope pos) (lE C W fun env S => (fr env S).bind fun w S => (loopC fe fc tg w (wipeE env own) S.length (w.len S) 0 (S ++ [.lst []])).bind fun _ S' => .ok (.ref S.length) S') := by
  refine pe_imp (pe_lc hc hN hi ok hg ht he hs) ?_
  rw [ho]
  exact r_comp htg
/-- .. its value stored at once -/
theorem s_setLc {i : Nat} {y : Str} {py spos : Pos} (hy : X.N[i]? = some y) (hyl : X.env.scope.names.lookup y = some .local) (hsw : swapsWith (.ListComp elt [⟨tgE, iter, ifs, 0⟩] scope pos) (some (.Name y py)) spos.line X.env = pure true) :
    PS X (.Assign [.Name y py] (.ListComp elt [⟨tgE, iter, ifs, 0⟩] scope pos) spos) fun D σ H =>
      lE C W (fun env S => (fr env S).bind fun w S => (loopC fe fc tg w (wipeE env own) S.length (w.len S) 0 (S ++ [.lst []])).bind fun _ S' => .ok (.ref S.length) S') σ H fun x H1 => gName i x σ H1 D.nx := by
  have z := ps_setLc (pos := pos) (py := py) (spos := spos) hc hN hy hyl hsw hi ok hg ht he hs
  rw [ho] at z
  exact ⟨fun pins s σ H D I q => z.run pins s σ H D I (show tAsg (tLc _ _ _ _ own) (gName i) D σ H from r_comp htg σ H _ q)⟩
end
end
end Mi
end

section
set_option Elab.async false
set_option linter.all false
set_option maxRecDepth 100000
set_option maxHeartbeats 4000000
/-! Mi: own errors: class C(..): def __init__(self, w): super().__init__(w); self.f = w. -/
namespace Mi
open PySem PySem.W PySem.Calls PyProof.Rows PySem.HandSPX
/-- the text of such an __init__ -/
def erA (w : Str) (p1 p2 : Pos) : Arguments := { posonlyargs := [], args := [{ arg := "self", annotation := none, pos := p1 }, { arg := w, annotation := none, pos := p2 }], vararg := none, kwonlyargs := [], kw_defaults := [], kwarg := none, defaults := [] }
def erB (w f : Str) (p1 p2 p3 p4 p5 p6 q1 q2 q3 q4 : Pos) : List Stmt :=
  [.Expr (.Call (.Attribute (.Call (.Name "super" p1) [] [] p2) "__init__" p3) [.Name w p4] [] p5) p6, .Assign [.Attribute (.Name "self" q1) f q2] (.Name w q3) q4]
/-- what the written part says of such a class, at C, and of its __init__, at fI -/
structure ErrTxt (prog : Program) (K : Frag) (C fI : Addr) (f : Str) : Prop where
  cls : ∃ nm q N bs bm sn sub ab col dd k0 k1 k2 k3 k5, K.lookup C = some (excClassObj nm q C N bs bm true sn sub ab col dd k0 k1 k2 k3 k5 "ValueError.__new__") ∧ refsVE bm = true
  sa : findIn K (.ref C) "__setattr__" = some (some (.builtin "object.__setattr__"))
  ga : findIn K (.ref C) "__getattribute__" = some (some (.builtin "BaseException.__getattribute__"))
  gg : findIn K (.ref C) "__getattr__" = some none
  noN : findIn K (.ref C) f = some none
  iC : findIn K (.ref C) "__init__" = some (some (.ref fI))
  tC : typeIn K (.ref fI) = some (.type "function")
  kC : keepIn K (.ref C) = true
  exC : subIn K (.ref C) (.type "BaseException") = some true
  vlC : subIn K (.ref C) (.type "ValueError") = some true
  tyC : typeIn K (.ref C) = some (.type "type")
  hdC : hasDictIn K C = true
  sup : ks_superIn K C C "__init__" = some (some (.builtin "ValueError.__init__"))
  opq : nsIn K cStatics "thirdparty.any" = some none
  slf : mroIn K C (.ref C) = some true
  top : (prog.main.scope.names.lookup ("super" : Str)).isSome = false
  fn : ∃ (w qual : Str) (oc : Value) (od : Option Addr) (dV kV doc pm : Value) (an : Option Addr) (cda cc : Addr) (ct : Value) (osl : Array (Option Value)) (sc : Scope) (p1 p2 r1 r2 r3 r4 r5 r6 q1 q2 q3 q4 : Pos) (cl ccl : Value) (cdd cld : Option Addr) (ccs csl : Array (Option Value)) (vs : Array Value) (file : Str) (tf : Tok),
    K.lookup fI = some ⟨oc, od, .func (ksFn "__init__" qual (erA w p1 p2) (erB w f r1 r2 r3 r4 r5 r6 q1 q2 q3 q4) sc dV kV doc pm an (.ref cda) ct cc), osl⟩ ∧ codeIn K (.ref cda) qual = true ∧
    K.lookup cda = some ⟨ccl, cdd, .fields vs, ccs⟩ ∧ vs[2]? = some (.str file tf) ∧ ((prog.main.file : Str) == file) = true ∧ K.lookup cc = some ⟨cl, cld, .cell (some (.ref C)), csl⟩ ∧
    sc.kind = .function ∧ sc.isCoroutine = false ∧ sc.isGenerator = false ∧ sc.names.lookup ("self" : Str) = some .local ∧ sc.names.lookup w = some .local ∧ sc.names.lookup ("__class__" : Str) = some .free ∧ sc.names.lookup ("super" : Str) = some .globalImplicit ∧
    (sc.names.all fun y => !decide (y.2 = .cell)) = true ∧ (w == ("self" : Str)) = false ∧ (w == ("__debug__" : Str)) = false ∧ (r3.endLine == r5.line) = true ∧
    ∀ u v : Value, bindArgs (ksFn "__init__" qual (erA w p1 p2) (erB w f r1 r2 r3 r4 r5 r6 q1 q2 q3 q4) sc dV kV doc pm an (.ref cda) ct cc) ⟨[u, v], []⟩ = pure [(("self" : Str), u), (w, v)]
/-- what __init__ leaves of a fresh exception at x -/
structure ErEnd (h h' : Heap) (x C dx t1 : Addr) (f : Str) (v : Value) : Prop where
  keep : ∀ b o, b ≠ x → h.get? b = some o → h'.get? b = some o
  obj : h'.get? x = some { cls := .ref C, dict := some dx, data := .fields #[.ref t1, .none, .none, .none, .bool false, .none] }
  dbig : h.objs.size ≤ dx
  dne : dx ≠ x
  ns : h'.Ns1 dx (fun y => if y = f then some v else none)
section
variable {prog : Program} {w : World} {A : Around} {E : Value → Shared → Prop} {R : Result → Shared → Prop} {s : Shared} {K : Frag} {mg mb : Str → Option Value} {C fI : Addr} {f : Str}
/-- the wrapper called: the args are laid anew -/
theorem call_mw {hp : Heap} {g : Array GenState} {d : Drawn} {tk : Nat} {os : OsState} {u x t0 : Addr} {rest : List Value} {Q : Value → Shared → Prop} {nm q : Str} {N : Addr} {bs bm : List Value} {sn : List Str} {sub : List Value} {ab : Bool} {col : Option Bool} {dd : Option Addr} {k0 k1 k2 k3 k5 : Option Value}
    (hC : hp.get? C = some (excClassObj nm q C N bs bm true sn sub ab col dd k0 k1 k2 k3 k5 "ValueError.__new__")) (hx : hp.get? x = some (excO C t0)) (hu : hp.get? u = some (kxs_mw "ValueError.__init__" x)) (hz : rest.length ≤ sizeLine)
    (fin : ∀ h' t1, (∀ b o, b ≠ x → hp.get? b = some o → h'.get? b = some o) → h'.get? x = some (excO C t1) → Q .none ⟨h', g, d, tk, os⟩) : wpAny (model prog w) A (call (.ref u) rest) Q E ⟨hp, g, d, tk, os⟩ := by
  refine wpAny_call (codeAny_of_tree ?_)
  show wpAny _ A.in1 (callAny (.ref u) ⟨rest, []⟩) _ _ _
  simp only [callAny]
  refine wpAny_bind (wpAny_load hu ?_)
  simp only [kxs_mw, show (Value.type "method-wrapper" == Value.type "method" || Value.type "method-wrapper" == Value.type "builtin_function_or_method" || Value.type "method-wrapper" == Value.type "method-wrapper") = true by decide, if_true]
  refine KFB.if_so (by decide) ?_
  refine wpAny_bind (check_bound_init F.excBase_ValueError.toExcCallFacts hC hx rfl (wpAny_bind (wpAny_pure (wpAny_pure ?_))))
  refine ⟨plainId_quiet F.excBase_ValueError.init.plain _, codeAny_builtin F.excBase_ValueError.initEntry ?_⟩
  exact exc_init_tree (cls := .ref C) (t0 := t0) (dv := none) (c2 := .none) (c3 := .none) (b4 := .bool false) hx hz fun h' k e _ => fin h' _ k e
theorem mtree0 {o : Expr} {m : Str} {apos pos : Pos} {es : List Expr} {env : Env} (hl : (apos.endLine == pos.line) = true) (hs : es.all noStar = true) (hn : es.length < 30) :
    eval (.Call (.Attribute o m apos) es [] pos) env = (do
      let ov ← attributeBase o m env (eval o env)
      standAt apos.atName
      let (f, first) ← holding [ov] (getMethod ov m (do return (← importBound o env).getD true))
      callWith pos f first (backTo pos (starEach es env)) []) := by
  have hf : methodCallForm (es.length + ([] : List Keyword).length) (backTo pos (starEach es env)) (backToKw pos (keywordEach [] env)) = true := by
    unfold methodCallForm
    rw [star_all hs]
    have e : decide (es.length < 30) = true := decide_eq_true hn
    exact e
  rw [arm_eval_Call]
  unfold methodCall calleeOf methodCallPos
  simp only [hf, hl, if_true, Bool.not_true, Bool.or_true, pure_bind]
  rfl
theorem sizeOne (v : Value) : [v].length ≤ sizeLine := by
  rw [sizeLine_eq]
  exact (by decide : 1 ≤ 16777216)
theorem er_init (T : ErrTxt prog K C fI f) {x t0 : Addr} {v : Value} (X : K.In s.heap) (hlim : s.heap.NoLimit) (hx : s.heap.get? x = some (excO C t0)) (hnx : K.lookup x = none) (hroom : A.depth < recursionLimit)
    (hg : s.heap.Ns mainGlobals mg) (hb : s.heap.Ns builtinsNs mb) (hbb : mb "super" = bootBuiltins "super") (hms : mg "super" = none)
    (hq : ∀ h' tk dx t1, ErEnd s.heap h' x C dx t1 f v → R (.ok (.ret .none)) { s with heap := h', toks := tk }) :
    codeAny (model prog w) A (.call (.ref fI) ⟨[.ref x, v], []⟩) R s := by
  obtain ⟨wn, qual, oc, od, dV, kV, doc, pm, an, cda, cc, ct, osl, sc, p1, p2, r1, r2, r3, r4, r5, r6, q1, q2, q3, q4, cl, ccl, cdd, cld, ccs, csl, vs, file, tf, hf, hcd, hcda, hvs, hfile, hcc, sk, sco, sge, ss, sw, scl, ssu, hcell, hws, hwd, hln, hbd⟩ := T.fn
  obtain ⟨nm, q, N, bs, bm, sn, sub, ab, col, dd, k0, k1, k2, k3, k5, hC, hbm⟩ := T.cls
  have hcl : clsIn K C = some { name := nm, bases := bs, mro := .ref C :: bm, ns := N, qualname := q, hasDict := true, slotNames := sn, subclasses := sub, abstract := ab, collection := col, hasDel := false } := by unfold clsIn; rw [hC] <;> rfl
  refine ks_codeAny_call_defAt (fd := ksFn "__init__" qual (erA wn p1 p2) (erB wn f r1 r2 r3 r4 r5 r6 q1 q2 q3 q4) sc dV kV doc pm an (.ref cda) ct cc) hroom (X _ _ hf) rfl hlim (codeRec_of X hcd) rfl (BindsTo.of_eq (hbd _ _)) (fun y hy z => ?_) (fun y hy => ?_) (fun h₁ hns hk₁ => ?_) sco sge sk
  · have := List.all_eq_true.mp hcell y hy
    rw [z] at this
    exact absurd this (by decide)
  · rcases List.mem_cons.mp hy with rfl | hy
    · exact ss
    · cases List.mem_singleton.mp hy
      exact sw
  have hxl : x < s.heap.objs.size := Heap.lt_size hx
  have hxL : s.heap.objs.size ≠ x := Nat.ne_of_gt hxl
  have X₁ : K.In h₁ := X.keeps hk₁
  have hx₁ := hk₁ _ _ hx
  have m0 : (fun y => ([(("self" : Str), Value.ref x), (wn, v)] : List (Str × Value)).reverse.lookup y) "self" = some (.ref x) := by
    show List.lookup ("self" : Str) [(wn, v), ("self", .ref x)] = _
    have e : (("self" : Str) == wn) = false := by
      rw [beq_eq_false_iff_ne] at hws ⊢
      exact fun z => hws z.symm
    simp [List.lookup_cons, e]
  have m1 : (fun y => ([(("self" : Str), Value.ref x), (wn, v)] : List (Str × Value)).reverse.lookup y) wn = some v := by
    show List.lookup wn [(wn, v), ("self", .ref x)] = _
    simp [List.lookup_cons]
  have fz := hk₁ _ _ (X _ _ hf)
  have hboot : bootBuiltins "super" = some (.type "super") := by decide +kernel
  have hDv := X₁ _ _ hC
  refine ks_wpAt_execs_cons (ks_wpAt_Expr_any (ks_wpAt_MethodCall ?_ (mtree0 hln rfl (show 1 < 30 by decide))) (by show (sc.kind == .module && _) = false; rw [sk]; rfl))
  refine ks_wpAt_super_base ssu scl (by decide) rfl fz rfl rfl rfl (X₁ _ _ hcda) rfl hvs hfile T.top ?_
  refine ks_loadName_global sk ssu (loadGlobal_builtin (hg.keeps hk₁) hms (hb.keeps hk₁) (hbb.trans hboot) ⟨rfl, ?_⟩)
  refine wpAny_loadName_free sk scl rfl ⟨_, X₁ _ _ hcc, rfl⟩ ?_
  refine wpAny_loadName_local sk ss hns m0 ?_
  refine ks_wpAny_isType_cls hDv rfl ⟨rfl, ?_⟩
  refine ks_wpAny_call_super hDv rfl hx₁ rfl (fun c e => nomatch e) (looks_mroIn X₁ T.slf) fun h₂ e₂ k₂ => ?_
  have X₂ : K.In h₂ := X₁.keeps k₂
  have hx₂ := k₂ _ _ hx₁
  have I₂ : InstAt h₂ x (excO C t0) C none := ⟨hx₂, rfl, rfl, trivial⟩
  have hI : Looks (model prog w) h₂ (isInstance (.ref x) (.type "ValueError")) true := I₂.type.andThen (looks_subIn X₂ T.vlC)
  have hsup := T.sup
  unfold ks_superIn at hsup
  rw [hcl] at hsup
  refine kxs_getMethod kxs_ValueError e₂ (looks_opaque X₂ T.opq) (fun A Q E s k q => wpAny_bind ((looks_clsIn X₂ hcl) A _ E s k (wpAny_pure q))) rfl X₂ hsup hI (ks_ne X₂ I₂ hcl) (by decide) ?_
  refine kxs_callWith (i := "ValueError.__init__") (x := x) rfl (evalArgs_plain (Calls.spliced_cons ?_))
  have k₃ : ∀ b o, h₂.get? b = some o → (h₂.push (kxs_mw "ValueError.__init__" x)).get? b = some o := fun b o e => Heap.get?_push_of_some _ e
  have hns₂ := (hns.keeps k₂).keeps k₃
  refine wpAny_Name (wpAny_loadName_local sk sw hns₂ m1 (Calls.spliced_nil ⟨Heap.get?_push_size _ rfl, ?_⟩)) hwd
  have hxu : h₂.objs.size ≠ x := Nat.ne_of_gt (Heap.lt_size hx₂)
  refine call_mw (t0 := t0) (k₃ _ _ (k₂ _ _ hDv)) (k₃ _ _ hx₂) (Heap.get?_push_size _ rfl) (sizeOne v) fun h₄ t1 k₄ hx₄ => ?_
  have X₄ : K.In h₄ := fun a o e => k₄ a o (fun z => by rw [z, hnx] at e; cases e) (k₃ _ _ (X₂ _ _ e))
  have hns₄ := hns₂.at fun o e => k₄ _ o hxL e
  refine ks_wpAt_execs_cons (wpAt_of_wpAny (plainObj_wpAny_Assign_Attribute ?_))
  refine wpAny_Name (wpAny_loadName_local sk sw hns₄ m1 ?_) hwd
  refine wpAny_Name (wpAny_loadName_local sk ss hns₄ m0 ?_) (by decide)
  refine set_plain X₄ (ox := excO C t1) (od := none) ⟨hx₄, rfl, rfl, trivial⟩ T.sa ?_
  refine exc_osa X₄ hx₄ hcl (show refsVE (.ref C :: bm) = true from hbm) rfl T.noN (fun h₅ tk₅ dx k₅ dn dne hx₅ hn₅ => ?_)
  refine wpAt_of_wpAny (wpAny_execs_nil (hq h₅ tk₅ dx t1 ⟨fun b o hb e => k₅ b o hb (k₄ b o hb (k₃ _ _ (k₂ _ _ (hk₁ _ _ e)))), hx₅, ?_, dne, hn₅⟩))
  exact Nat.le_of_lt (Nat.lt_of_lt_of_le hns₄.lt dn)
/-- a made error -/
structure ErMade (h h' : Heap) (e C d : Addr) (f : Str) (v : Value) : Prop where
  keep : ∀ b o, h.get? b = some o → h'.get? b = some o
  new : h.objs.size ≤ e
  obj : ∃ oe vs, h'.get? e = some oe ∧ oe.cls = .ref C ∧ oe.dict = some d ∧ oe.data = .fields vs ∧ vs[1]? = some .none
  dbig : h.objs.size ≤ d
  dne : d ≠ e
  ns : h'.Ns1 d (fun y => if y = f then some v else none)
theorem er_made (T : ErrTxt prog K C fI f) {v : Value} (X : K.In s.heap) (hlim : s.heap.NoLimit) (hroom : A.depth + 1 < recursionLimit)
    (hg : s.heap.Ns mainGlobals mg) (hb : s.heap.Ns builtinsNs mb) (hbb : mb "super" = bootBuiltins "super") (hms : mg "super" = none)
    (hq : ∀ h' tk e d, ErMade s.heap h' e C d f v → R (.ok (.ret (.ref e))) { s with heap := h', toks := tk }) : codeAny (model prog w) A (.call (.ref C) ⟨[v], []⟩) R s := by
  obtain ⟨nm, q, N, bs, bm, sn, sub, ab, col, dd, k0, k1, k2, k3, k5, hC, hbm⟩ := T.cls
  obtain ⟨hp, g, dr, tk, os⟩ := s
  dsimp only at X hlim hg hb hq
  generalize e1 : (hp.push (kdv_tup [v])).push (excO C hp.objs.size) = h1
  have k : ∀ b o, hp.get? b = some o → h1.get? b = some o := fun b o e => by
    rw [← e1]
    exact Heap.get?_push_of_some _ (Heap.get?_push_of_some _ e)
  have hget : h1.get? (hp.objs.size + 1) = some (excO C hp.objs.size) := by
    rw [← e1]
    heap_get
  have hnx : K.lookup (hp.objs.size + 1) = none := by
    cases e : K.lookup (hp.objs.size + 1) with
    | none => rfl
    | some o => exact absurd (Nat.lt_of_succ_lt (Heap.lt_size (X _ _ e))) (Nat.lt_irrefl _)
  have hsz : h1.objs.size = hp.objs.size + 2 := by rw [← e1, Heap.size_push, Heap.size_push]
  refine call_own F.excBase_ValueError (fun X => refsVE_contains X bm hbm) (X _ _ hC) (looks_findIn X T.iC) (fun self => bind_fn X self T.tC) (sizeOne v) ?_
  rw [e1]
  refine er_init (s := ⟨h1, g, dr, tk, os⟩) (mg := mg) (mb := mb) T (X.keeps k) (hlim.keeps k) hget hnx hroom (hg.keeps k) (hb.keeps k) hbb hms fun h' tk' dx t1 M => ?_
  have old : ∀ b o, hp.get? b = some o → h'.get? b = some o := fun b o e => M.keep b o (Nat.ne_of_lt (Nat.lt_succ_of_lt (Heap.lt_size e))) (k b o e)
  have big : hp.objs.size ≤ dx := by
    have z := M.dbig
    dsimp only at z
    omega
  exact ⟨rfl, hq h' tk' (hp.objs.size + 1) dx ⟨old, Nat.le_succ _, ⟨_, _, M.obj, rfl, rfl, rfl, rfl⟩, big, M.dne, M.ns⟩⟩
end
end Mi
end

section
set_option Elab.async false
set_option linter.all false
set_option maxRecDepth 100000
set_option maxHeartbeats 8000000
/-! Mi: the sheet of a body. -/
namespace Mi
open PySem PySem.Spec L2
open PyProof.Rows hiding St
/-- what a global name means -/
inductive Gk where
  | fn (f : Nat) | cls (c : Nat) | val (g : Nat) | blt | exc (c : Nat) | cat (g : Nat)
  deriving DecidableEq
/-- the sheet of a body: its names by slot, its scope, what the global names mean, which calls by keywords there are -/
structure Sh where
  N : List Str
  sc : Scope
  gl : List (Str × Gk)
  kw : List (Nat × Nat × List Str)
  xr : List Nat
  fnT : Bool
  lam : Bool
def visB (sc : Scope) (x : Str) : Bool := match sc.names.lookup x with
  | some .local => true
  | some .cell => true
  | some .free => true
  | _ => false
def Sh.isL (sh : Sh) (i : Nat) (x : Str) : Bool := decide (sh.N[i]? = some x) && visB sh.sc x && !(x == ("__debug__" : Str)) && !(x == ("__classdict__" : Str))
def Sh.isG (sh : Sh) (x : Str) (g : Gk) : Bool := decide (sh.sc.names.lookup x = some .globalImplicit) && decide (sh.gl.lookup x = some g) && !(x == ("__debug__" : Str))
def Sh.tgt (sh : Sh) (i : Nat) (x : Str) : Bool := decide (sh.N[i]? = some x) && (decide (sh.sc.names.lookup x = some .local) || (sh.fnT && decide (sh.sc.names.lookup x = some .cell)))
theorem vis_of {sc : Scope} {x : Str} (h : visB sc x = true) : Vis sc x := by
  unfold visB at h
  split at h
  · exact .inl ‹_›
  · exact .inr (.inl ‹_›)
  · exact .inr (.inr ‹_›)
  · cases h
def isLC : Expr → Bool
  | .ListComp _ _ _ _ => true
  | .SetComp _ _ _ _ => true
  | .DictComp _ _ _ _ _ => true
  | _ => false
theorem sw_no {e : Expr} (h : isLC e = false) (t : Option Expr) (l : Nat) (env : Env) : swapsWith e t l env = pure false := by
  cases e <;> first | rfl | cases h
end Mi
end

section
set_option Elab.async false
set_option linter.all false
set_option maxRecDepth 100000
set_option maxHeartbeats 8000000
/-! Mi: several except clauses, some of them with a name. -/
namespace Mi
open PySem PySem.Spec L2
open PyProof.Rows hiding St
/-- the suite's reading where the clause binds slot i -/
def tsN (i : Nat) (ts : Addr → Value → Option Addr → TS) : Addr → Value → Option Addr → TS := fun a cls d D σ H =>
  ts a cls d ⟨fun σ' H' => D.nx (σ'.set i none) H', D.rt, fun σ' H' => D.bk (σ'.set i none) H', fun σ' H' => D.ct (σ'.set i none) H'⟩ (σ.set i (some (.ref a))) H
inductive HsN (X : Cx) (i : Nat) (n : Str) : List ExceptHandler → List (Value × (Addr → Value → Option Addr → TS)) → Prop
  | nil : HsN X i n [] []
  | plain {x : Str} {c : Value} {ts : Addr → Value → Option Addr → TS} {b : Stmt} {bs : List Stmt} {p q : Pos} {hds : List ExceptHandler} {l : List (Value × (Addr → Value → Option Addr → TS))} (hc : Names X x c)
      (hb : ∀ (a : Addr) (oe : Obj) (cls : Value) (d : Option Addr) (pn : List (Addr × Obj)), Zc cls d oe → (∃ vs, oe.data = .fields vs) → PSs (X.suite a ((a, oe) :: pn)) (b :: bs) (ts a cls d)) (r : HsN X i n hds l) :
      HsN X i n (.ExceptHandler (some (.Name x p)) none (b :: bs) q :: hds) ((c, ts) :: l)
  | named {x : Str} {c : Value} {ts : Addr → Value → Option Addr → TS} {b : Stmt} {bs : List Stmt} {p q : Pos} {hds : List ExceptHandler} {l : List (Value × (Addr → Value → Option Addr → TS))} (hc : Names X x c)
      (hb : ∀ (a : Addr) (oe : Obj) (cls : Value) (d : Option Addr) (pn : List (Addr × Obj)), Zc cls d oe → (∃ vs, oe.data = .fields vs) → PSs (X.suite a ((a, oe) :: pn)) (b :: bs) (ts a cls d)) (r : HsN X i n hds l) :
      HsN X i n (.ExceptHandler (some (.Name x p)) (some n) (b :: bs) q :: hds) ((c, tsN i ts) :: l)
section
variable {X : Cx} {i : Nat} {n : Str}
/-- an exception that lies caught at a, in the state s -/
structure Lies (X : Cx) (pins : List (Addr × Obj)) (σ : L2.St) (H : Hp) (a : Addr) (cls : Value) (d : Option Addr) (s : Shared) : Prop where
  inv : Inv X pins σ H s
  rec_ : ∃ oe vs, s.heap.get? a = some oe ∧ Zc cls d oe ∧ oe.data = .fields vs
  nH : H a = none
  nL : a ≠ X.env.locals
  nF : a ∉ X.fs
  again : ∀ {M : Model} {A : Around} {Q : Unit → Shared → Prop} {E : Value → Shared → Prop}, (∀ h' oe vs, h'.get? a = some oe → Zc cls d oe → oe.data = .fields vs → Inv X pins σ H { s with heap := h' } → Q () { s with heap := h' }) → wpAny M A (setFlight (.ref a) none) Q E s
theorem Lies.test {pins : List (Addr × Obj)} {σ : L2.St} {H : Hp} {a : Addr} {cls c : Value} {d : Option Addr} {s : Shared} {x : Str} {p : Pos} {Q : Value → Shared → Prop} {E : Value → Shared → Prop} (Z : Lies X pins σ H a cls d s) (hc : Names X x c) (q : Q c s) :
    wpAny (model X.prog X.w) (X.A.mark (some (.ref a))) (eval (.Name x p) X.env) Q E s := by
  obtain ⟨oe, vs, h1, h2, h3⟩ := Z.rec_
  have I2 := Z.inv.suite h1 h3 Z.nH Z.nL Z.nF
  obtain ⟨g1, g2, g | ⟨g, g3, g4⟩⟩ := hc
  · exact ld_glob (X := X.suite a ((a, oe) :: (X.pn ++ pins))) I2 g1 g q g2
  · exact ld_blt (X := X.suite a ((a, oe) :: (X.pn ++ pins))) I2 g1 g g3 q g4 g2
theorem lies_go {pins : List (Addr × Obj)} {σ : L2.St} {H : Hp} {a : Addr} {cls : Value} {d : Option Addr} {s : Shared} {D : Ends} (hN : X.N.Nodup) (hi : X.N[i]? = some n) (hl : X.env.kindOf n = some .local) (hfr : X.A.frames = some (X.env :: X.outer)) (Z : Lies X pins σ H a cls d s) :
    ∀ {hds : List ExceptHandler} {l : List (Value × (Addr → Value → Option Addr → TS))}, HsN X i n hds l → wMany X.K (fun _ _ _ _ => False) D l cls d σ H → wpAny (model X.prog X.w) X.A (handleBy (.ref a) X.env hds) (SP X pins D) X.xe s := by
  have ok := Z.inv.ok
  have LM : ∀ {c : Value} {b : Bool}, PySem.W.exmOne X.K cls c = some b → _ := fun {c b} e => PySem.W.exm_one (M := model X.prog X.w) Z.inv.kIn (fun A Q E s2 k q => by
    obtain ⟨oe, vs, h1, h2, h3⟩ := Z.rec_
    exact wpAny_typeOf_ref (k _ _ h1) (by rw [h2.1]; exact q)) e
  intro hds l hk
  induction hk with
  | nil => exact fun w => w.elim
  | plain hc hb r ih =>
    rintro ⟨b, e, yes, no⟩
    refine wpAny_handleBy_cons (codeAny_handlers_test ?_) (by intro q; cases q)
    refine Z.test hc ((LM e).here ?_)
    cases b with
    | false => exact ih (no rfl)
    | true =>
      refine codeAny_handlers_suite (Z.again fun h' oe vs z1 z2 z3 I2 => ?_)
      refine wpAny_mono ((hb a oe cls d (X.pn ++ pins) z2 ⟨_, z3⟩).run [] _ σ H D (I2.suite z1 z3 Z.nH Z.nL Z.nF) (yes rfl a Z.nH)) (fun f s6 k => ?_) (fun _ _ z => z.elim)
      cases f with
      | ret u => exact let ⟨v, σ6, H6, J, r6, q6⟩ := k; ⟨v, σ6, H6, J.unsuite ok, r6, q6⟩
      | next => exact let ⟨σ6, H6, J, q6⟩ := k; ⟨σ6, H6, J.unsuite ok, q6⟩
      | brk => exact let ⟨σ6, H6, J, q6⟩ := k; ⟨σ6, H6, J.unsuite ok, q6⟩
      | cont => exact let ⟨σ6, H6, J, q6⟩ := k; ⟨σ6, H6, J.unsuite ok, q6⟩
  | named hc hb r ih =>
    rintro ⟨b, e, yes, no⟩
    refine wpAny_handleBy_cons (codeAny_handlers_test ?_) (by intro q; cases q)
    refine Z.test hc ((LM e).here ?_)
    cases b with
    | false => exact ih (no rfl)
    | true =>
      refine codeAny_handlers_suite_as (Z.again fun h' oe vs z1 z2 z3 I2 => ?_)
      refine store_ok (X := X.suite a ((a, oe) :: (X.pn ++ pins))) (v := .ref a) (I2.suite z1 z3 Z.nH Z.nL Z.nF) hN hi (.inl hl) rfl (fun s5 I5 => ?_) (.inr hl)
      refine wpAny_mono ((hb a oe cls d (X.pn ++ pins) z2 ⟨_, z3⟩).run [] s5 _ H _ I5 (yes rfl a Z.nH)) (fun f s6 k => ?_) (fun _ _ z => z.elim)
      cases f with
      | ret u => exact let ⟨v, σ6, H6, J, r6, q6⟩ := k; gone_ok (J.unsuite ok) hN hi hl fun s7 J7 => ⟨v, _, _, J7, r6, q6⟩
      | next => exact let ⟨σ6, H6, J, q6⟩ := k; gone_ok (J.unsuite ok) hN hi hl fun s7 J7 => ⟨_, _, J7, q6⟩
      | brk => exact let ⟨σ6, H6, J, q6⟩ := k; gone_ok (J.unsuite ok) hN hi hl fun s7 J7 => ⟨_, _, J7, q6⟩
      | cont => exact let ⟨σ6, H6, J, q6⟩ := k; gone_ok (J.unsuite ok) hN hi hl fun s7 J7 => ⟨_, _, J7, q6⟩
/-- what has flown comes to lie -/
theorem lies_of {pins : List (Addr × Obj)} {W : WX} {u : Value} {s2 : Shared} {Q : Unit → Shared → Prop} {E : Value → Shared → Prop} {pn : List (Addr × Obj)} {xe : Value → Shared → Prop} (ok : X.Ok) (hs : X.stack = X.env :: X.outer) (hf : X.env.frame = some X.env.locals) (hpn : pn = X.pn ++ pins)
    (x : L2.XE (X.tr pn xe) W u s2) (k : ∀ (a : Addr) (σ : L2.St) (H : Hp) (cls : Value) (d : Option Addr) (h' : Heap), Lies X pins σ H a cls d { s2 with heap := h' } → W cls d σ H → u = .ref a → Q () { s2 with heap := h' }) :
    wpAny (model X.prog X.w) X.A (noteFrame u X.env) (fun _ s3 => wpAny (model X.prog X.w) X.A (setFlight u none) Q E s3) E s2 := by
  subst hpn
  obtain ⟨a, B, sI, ps, σ, H, cls, d, rfl, J0, nb, up, sky, na, os, ag, w⟩ := x
  have J : Inv X pins σ H sI := J0.ofTry ok
  have sk : Sky B (X.env :: X.outer) a (Zc cls d) X.env.locals s2.heap := by rw [← hs]; exact sky
  have hfr : X.A.frames = some (X.env :: X.outer) := by rw [ok.frames, hs]
  refine Sky.land Zc.steady hfr hf sk fun h3 fl up3 => ?_
  have keepI : ∀ {h4 : Heap}, HandSPX.FlyingZ B (X.env :: X.outer) a (Zc cls d) h4 → s2.heap.UpToSlots h4 → Inv X pins σ H { s2 with heap := h4 } := fun f4 u4 => J.landed nb f4.1 (up.trans u4) os ag
  obtain ⟨oe, vs, e1, e2, e3⟩ := fl.there
  have notF : a ∉ frs (X.env :: X.outer) := fun hm => by
    obtain ⟨_, o2, e4, nn⟩ := fl.2.2.1.mem hm
    rw [e1] at e4
    cases e4
    exact nn _ e3
  refine k a σ H cls d h3 ⟨keepI fl up3, ⟨oe, vs, e1, e2, e3⟩, na, fun z => notF (List.mem_filterMap.mpr ⟨X.env, List.mem_cons_self, by rw [hf, z]⟩), fun hm => ?_, fun {M A Q E} kk => ?_⟩ w rfl
  · obtain ⟨e, he, q⟩ := List.mem_filterMap.mp hm
    exact notF (List.mem_filterMap.mpr ⟨e, List.mem_cons_of_mem _ he, q⟩)
  · refine HandSPX.lands_againZ fl fun h4 f4 u4 => ?_
    obtain ⟨oe4, vs4, g1, g2, g3⟩ := f4.there
    exact kk h4 oe4 vs4 g1 g2 g3 (keepI f4 (up3.trans u4))
theorem ps_try_named {body : List Stmt} {h₀ : ExceptHandler} {hds : List ExceptHandler} {l : List (Value × (Addr → Value → Option Addr → TS))} {pos : Pos} {tb : WX → TS} (hs : X.stack = X.env :: X.outer) (hf : X.env.frame = some X.env.locals) (hN : X.N.Nodup) (hi : X.N[i]? = some n) (hl : X.env.kindOf n = some .local)
    (hb : ∀ (W : WX) (pn : List (Addr × Obj)) (xe : Value → Shared → Prop), Takes (X.tr pn xe) W → PSs (X.tr pn xe) body (tb W)) (hh : HsN X i n (h₀ :: hds) l) :
    PS X (.Try body (h₀ :: hds) [] [] pos) fun D σ H => tb (wMany X.K (fun _ _ _ _ => False) D l) D σ H := by
  refine ⟨fun pins s σ H D I q => wpAny_Try_except ?_⟩
  have ok := I.ok
  have hfr : X.A.frames = some (X.env :: X.outer) := by rw [ok.frames, hs]
  refine wpAny_mono ((hb (wMany X.K (fun _ _ _ _ => False) D l) (X.pn ++ pins) (fun e s1 => wpAny (model X.prog X.w) X.A (noteFrame e X.env) (fun _ s2 => wpAny (model X.prog X.w) X.A (setFlight e none) (fun _ s3 => wpAny (model X.prog X.w) X.A (handleBy e X.env (h₀ :: hds)) (SP X pins D) X.xe s3) X.xe s2) X.xe s1)
    (fun u s2 xx => lies_of ok hs hf rfl xx fun a σ2 H2 cls d h' Z w eu => ?_)).run [] s σ H D (I.toTry _) q) (fun f s1 k => ?_) (fun e s1 he => he)
  · subst eu
    exact lies_go hN hi hl hfr Z hh w
  · cases f with
    | ret u => exact let ⟨v, σ6, H6, J, r6, q6⟩ := k; ⟨v, σ6, H6, J.ofTry ok, r6, q6⟩
    | next => exact let ⟨σ6, H6, J, q6⟩ := k; wpAny_execs_nil ⟨σ6, H6, J.ofTry ok, q6⟩
    | brk => exact let ⟨σ6, H6, J, q6⟩ := k; ⟨σ6, H6, J.ofTry ok, q6⟩
    | cont => exact let ⟨σ6, H6, J, q6⟩ := k; ⟨σ6, H6, J.ofTry ok, q6⟩
end
end Mi
end

section
set_option Elab.async false
set_option linter.all false
set_option maxRecDepth 100000
set_option maxHeartbeats 8000000
/-! Mi: isinstance of a caught error that has a dict. -/
namespace Mi
open PySem PySem.W PySem.Spec PySem.Calls PyProof.Rows
section
variable {prog : Program} {w : World} {A : Around} {E : Value → Shared → Prop} {s : Shared} {K : Frag} {x D : Addr} {ox : Obj} {od : Option Obj}
theorem kinD {Q : Option Value → Shared → Prop} (C : L2.ExcC K D) (X : K.In s.heap) (I : InstAt s.heap x ox D od) (q : Q (some (.ref D)) { s with toks := s.toks + 1 }) : wpAny (model prog w) A (getAttr? (.ref x) "__class__") Q E s := by
  have hf : findObj K D od "__class__" = some (.bind (.builtin "getset_descriptor.__get__") (.builtin "object.__class__")) := by
    obtain ⟨cd, hc, _⟩ := any_some C.hd
    unfold findObj
    rw [hc, Option.bind_some, C.ha, Option.bind_some]
    simp [C.hn, C.ht]
  obtain ⟨h, g, d, t, os⟩ := s
  have tyL := I.type (M := model prog w)
  have fnd := looks_find (M := model prog w) X I hf
  have isb : Looks (model prog w) h (isInstance (.ref x) (.type "BaseException")) true := tyL.andThen (looks_subIn X C.hs)
  have n2 : (Value.builtin "BaseException.__getattribute__" == Value.builtin "object.__getattribute__") = false := by decide +kernel
  have n1 : (onTheHeap (Value.ref D) && Value.builtin "BaseException.__getattribute__" == Value.builtin "object.__getattribute__") = false := by rw [n2]; rfl
  unfold getAttr? getAttrBy? getAttrBy
  refine wpAny_bind (wpAny_mkText (wpAny_bind (wpAny_attempt (wpAny_holding (wpAny_bind (tyL.at (wpAny_bind ((looks_findIn (M := model prog w) X C.hg).at ?_))))))))
  show wpAny _ _ (if (onTheHeap (Value.ref D) && Value.builtin "BaseException.__getattribute__" == Value.builtin "object.__getattribute__") = true then _ else _) _ _ _
  rw [n1, if_neg Bool.false_ne_true]
  unfold getAttrByItsOwn hookBefore
  refine wpAny_bind ?_
  rw [if_pos (show onTheHeap (Value.ref D) = true from rfl)]
  refine (looks_findIn (M := model prog w) X C.hk).at (wpAny_bind (wpAny_attempt (wpAny_holding ?_)))
  unfold callGetattribute
  rw [show (false && onTheHeap (Value.builtin "BaseException.__getattribute__")) = false from rfl, if_neg Bool.false_ne_true]
  unfold boundAndCalled
  rw [PySem.F.excAttr_ValueError.ga.bind (.ref x)]
  refine wpAny_bind (wpAny_pure ?_)
  show wpAny _ _ (call (.builtin "BaseException.__getattribute__") [.ref x, .str "__class__" t]) _ _ _
  refine wpAny_call (codeAny_call_builtin PySem.F.excAttr_ValueError.ga.plain PySem.F.entry_bexc_ga (@check_slot (model prog w) _ _ ⟨h, g, d, t + 1, os⟩ "BaseException.__getattribute__" "BaseException" "__getattribute__" (.ref x) [.str "__class__" t] [] _ (by decide +kernel) (by decide +kernel) isb (PySem.F.args_bexc_ga (.ref x) (.str "__class__" t)) ?_))
  unfold Builtin.«object.__getattribute__»
  refine wpAny_bind (wpAny_of_eq (a := ((Value.ref x : Value), [Value.str "__class__" t])) (by first | rfl | (simp only [slotArgs]; rfl)) (wpAny_bind (wpAny_pure (wpAny_bind (tyL.at (wpAny_bind (fnd.at ?_)))))))
  show wpAny _ _ (holding [Value.builtin "object.__class__"] (call (.builtin "getset_descriptor.__get__") [.builtin "object.__class__", .ref x, .ref D]) >>= ret) _ _ _
  refine wpAny_bind (wpAny_holding (wpAny_call (class_get (s := ⟨h, g, d, t + 1, os⟩) (ox := ox) (od := od) X I C.hm (wpAny_pure ?_))))
  show wpAny _ _ (handedOut (.ref D)) _ _ _
  rw [handedOut_of (v := .ref D) rfl]
  first
    | exact wpAny_pure (wpAny_pure q)
    | exact wpAny_pure q
    | exact wpAny_pure (wpAny_bind (wpAny_pure (wpAny_pure q)))
theorem kitD (C : L2.ExcC K D) : KitX K (.ref x) (.ref D) (fun h => InstAt h x ox D od) where
  ty := fun _ _ _ I => I.type
  it := fun _ _ X _ => by
    obtain ⟨cd, hc, _⟩ := any_some C.hd
    unfold clsIn at hc
    split at hc
    · rename_i ho
      exact fun A2 Q2 E2 s2 k q => by unfold isType loadHead; exact wpAny_bind (wpAny_loadPart (k _ _ (X _ _ ho)) (wpAny_pure q))
    · cases hc
  ne := fun h tp dd its n sl X htp => by
    obtain ⟨cd, hc, _⟩ := any_some C.hd
    refine Bool.eq_false_iff.mpr fun q => ?_
    cases Value.ref.inj (beq_iff_eq.mp q)
    unfold clsIn at hc
    split at hc
    · rename_i ho
      cases (X _ _ ho).symm.trans htp
    · cases hc
  ca := fun X I k => kinD C X I k
end
end Mi
namespace Mi
open PySem PySem.Spec L2
open PyProof.Rows hiding St
/-- isinstance(e, c), e the error that the suite holds: its class D, its dict d -/
def rIsD (K : PySem.W.Frag) (a D : Addr) (d : Option Addr) : List V → Hp → VK → Prop := fun xs H Q => ∃ (c : V) (cv : Value) (b : Bool), xs = [.ref a, c] ∧ (∀ u, RelV c u → u = cv) ∧ PySem.W.kitOne K (.ref D) cv = some b ∧ (∀ dd, d = some dd → ∃ fs, H dd = some (.xd fs)) ∧ Q (.bl b) H
theorem call_isD {X : Cx} {a D : Addr} {d : Option Addr} {oe : Obj} {pn : List (Addr × Obj)} (C : ExcC X.K D) (hz : Zc (.ref D) d oe) (hf : ∃ vs, oe.data = .fields vs) : CallR (X.suite a ((a, oe) :: pn)) (.builtin "isinstance") (rIsD X.K a D d) := by
  rintro pins s σ H xs us Q I r ⟨c, cv, b, rfl, hcv, e, hd, q⟩
  cases r with
  | cons rx rr =>
    obtain ⟨v, rfl, rt⟩ := Vals.one rr
    cases rx
    cases hcv _ rt
    obtain ⟨hget, _⟩ := I.pin (a, oe) (List.mem_append.mpr (.inl List.mem_cons_self))
    obtain ⟨vs, hv⟩ := hf
    have J : ∃ od, PySem.W.InstAt s.heap a oe D od := by
      have no : PySem.W.notCls oe = true := by unfold PySem.W.notCls; rw [hv] <;> rfl
      cases hdd : d with
      | none => exact ⟨none, hget, hz.1, no, by rw [hz.2, hdd]; trivial⟩
      | some dd =>
        obtain ⟨fs, hx⟩ := hd dd hdd
        obtain ⟨mA, hns, _⟩ : ObjOk X.prog X.w H s.heap dd (.xd fs) := I.hok dd _ hx
        obtain ⟨od, ho, _⟩ := lookIn_ns hns
        exact ⟨some od, hget, hz.1, no, by rw [hz.2, hdd]; exact ho⟩
    obtain ⟨od, J⟩ := J
    exact PySem.W.kia_one (kitD (ox := oe) (od := od) C) I.kIn J e (fun z => nomatch z) fun tk => ⟨.bl b, H, I.kept (t' := tk) fun _ _ z => z, rfl, q⟩
end Mi
end

section
set_option Elab.async false
set_option linter.all false
set_option maxRecDepth 100000
set_option maxHeartbeats 8000000
/-! Mi: defs that call what they are handed and tell what came. -/
namespace Mi
open PySem PySem.Spec L2
open PyProof.Rows hiding St
def ckX1 (sh : Sh) (ie : Nat) (nm : Bool) (x : Mi.XE) (e : Expr) : Bool := match x with
  | .str s => (match e with
    | .Constant (.str z) _ _ => decide (s = z)
    | _ => false)
  | .fld f => nm && (match e with
    | .Attribute (.Name n _) g _ => decide (g = f) && sh.isL ie n
    | _ => false)
  | .isi d => nm && (match e with
    | .Call (.Name i _) [.Name n _, .Name z _] [] _ => decide (i = ("isinstance" : Str)) && (sh.isG i .blt && (sh.isL ie n && sh.isG z (.exc d)))
    | _ => false)
  | .isv => nm && (match e with
    | .Call (.Name i _) [.Name n _, .Name z _] [] _ => decide (i = ("isinstance" : Str)) && (sh.isG i .blt && (sh.isL ie n && (decide (z = ("ValueError" : Str)) && sh.isG z .blt)))
    | _ => false)
  | _ => false
def ckXs (sh : Sh) (ie : Nat) (nm : Bool) : List Mi.XE → List Expr → Bool
  | [], [] => true
  | x :: xs, e :: es => noStar e && (ckX1 sh ie nm x e && ckXs sh ie nm xs es)
  | _, _ => false
def ckX (sh : Sh) (ie : Nat) (nm : Bool) (x : Mi.XE) (e : Expr) : Bool := match x with
  | .tup l => (match e with
    | .Tuple es _ _ => ckXs sh ie nm l es
    | _ => false)
  | .ite c a b => (match e with
    | .IfExp x (.Constant k1 k2 k3) (.Constant k4 k5 k6) _ => (match x with
      | .Call _ _ _ _ => true
      | _ => false) && (ckX1 sh ie nm c x && (ckX1 sh ie nm a (.Constant k1 k2 k3) && ckX1 sh ie nm b (.Constant k4 k5 k6)))
    | _ => false)
  | x => ckX1 sh ie nm x e
/-- what the classes of errors say -/
structure Xk (C : Cn) (sub : Nat → Nat → Option Bool) (xf : Nat → Option Str) (vs : Nat → Bool) : Prop where
  xf : ∀ c f, xf c = some f → XfC C.K (C.ca c) ∧ PySem.W.findIn C.K (.ref (C.ca c)) f = some none ∧ C.xa c = some f
  sub : ∀ c d b, sub c d = some b → PySem.W.exmOne C.K (.ref (C.ca c)) (.ref (C.ca d)) = some b ∧ PySem.W.kitOne C.K (.ref (C.ca c)) (.ref (C.ca d)) = some b ∧ ExcC C.K (C.ca c)
  vs : ∀ c, vs c = true → PySem.W.kitOne C.K (.ref (C.ca c)) (.type "ValueError") = some true ∧ ExcC C.K (C.ca c)
structure Gx (C : Cn) (sh : Sh) (X : Cx) : Prop where
  hK : X.K = C.K
  hN : X.N = sh.N
  nd : sh.N.Nodup
  sc : X.env.scope = sh.sc
  exc : ∀ x c, sh.gl.lookup x = some (.exc c) → X.mg x = some (.ref (C.ca c))
  blt : ∀ x, sh.gl.lookup x = some .blt → X.mg x = none
section
variable {C : Cn} {sub : Nat → Nat → Option Bool} {xf : Nat → Option Str} {vs : Nat → Bool} {X : Cx} {sh : Sh} {c : Nat} {v : PV} {ie : Nat} {nm : Bool} {a : Addr} {oe : Obj} {d : Option Addr} {pn : List (Addr × Obj)}
theorem Gx.isG (G : Gx C sh X) {x : Str} {g : Gk} (h : sh.isG x g = true) : Gl X x ∧ sh.gl.lookup x = some g ∧ (x == ("__debug__" : Str)) = false := by
  unfold Sh.isG at h
  simp only [Bool.and_eq_true, decide_eq_true_eq, Bool.not_eq_true'] at h
  refine ⟨?_, h.1.2, h.2⟩
  show X.env.scope.names.lookup x = _
  rw [G.sc]
  exact h.1.1
theorem Gx.isL (G : Gx C sh X) {x : Str} {i : Nat} {pos : Pos} (h : sh.isL i x = true) : PE (X.suite a ((a, oe) :: pn)) (.Name x pos) (tVar i) := by
  unfold Sh.isL at h
  simp only [Bool.and_eq_true, decide_eq_true_eq, Bool.not_eq_true'] at h
  exact pe_var (X := X.suite a ((a, oe) :: pn)) (by show X.N[i]? = _; rw [G.hN]; exact h.1.1.1) (by show Vis X.env.scope x; rw [G.sc]; exact vis_of h.1.1.2) h.1.2 h.2
/-- what the suite knows of its error -/
def InX (C : Cn) (c : Nat) (v : PV) (nm : Bool) (ie : Nat) (a : Addr) (d : Option Addr) (φ : List Addr) (S : Sto) (σ : L2.St) (H : Hp) : Prop := RS C φ H S ∧ (nm = true → σ[ie]? = some (some (.ref a))) ∧ ExR C φ H c v (.ref (C.ca c)) d
def lX1 (C : Cn) (c : Nat) (v w : PV) (nm : Bool) (ie : Nat) (a : Addr) (d : Option Addr) : TE := fun σ H Q => ∃ φ S, InX C c v nm ie a d φ S σ H ∧ ∀ y, R C.K φ H w y → Q y H
def lXs (C : Cn) (c : Nat) (v : PV) (ws : List PV) (nm : Bool) (ie : Nat) (a : Addr) (d : Option Addr) : TA := fun σ H Q => ∃ φ S, InX C c v nm ie a d φ S σ H ∧ ∀ ys, RA C.K φ H ws ys → Q ys H
def lX (C : Cn) (c : Nat) (v w : PV) (nm : Bool) (ie : Nat) (a : Addr) (d : Option Addr) : TE := fun σ H Q => ∃ φ S, InX C c v nm ie a d φ S σ H ∧ ∀ H' y, Same H H' → R C.K φ H' w y → Q y H'
theorem boot_VE : bootBuiltins "ValueError" = some (.type "ValueError") := by decide +kernel
theorem isi_X {i n z : Str} {p1 p2 p3 pos : Pos} {cv : Value} {vz : V} {b : Bool} (G : Gx C sh X) (E : ExcC C.K (C.ca c)) (hi : Gl X i ∧ sh.gl.lookup i = some .blt) (ei : i = ("isinstance" : Str)) (hn : sh.isL ie n = true) (hz : Zc (.ref (C.ca c)) d oe) (hf : ∃ vs, oe.data = .fields vs)
    (hzz : PE (X.suite a ((a, oe) :: pn)) (.Name z p3) (tC vz)) (hv : ∀ u, RelV vz u → u = cv) (k : PySem.W.kitOne C.K (.ref (C.ca c)) cv = some b) (hnm : nm = true) : PE (X.suite a ((a, oe) :: pn)) (.Call (.Name i p1) [.Name n p2, .Name z p3] [] pos) (lX1 C c v (.bl b) nm ie a d) := by
  subst ei
  have hA := pa_cons (G.isL (oe := oe) (pn := pn) (a := a) (pos := p2) hn) (pa_cons hzz pa_nil (star_eq rfl _ _)) (star_eq rfl _ _)
  have E2 : ExcC X.K (C.ca c) := by rw [G.hK]; exact E
  have z := pe_callB (X := X.suite a ((a, oe) :: pn)) (pos := pos) (p := p1) (call_isD E2 hz hf) hi.1 (G.blt _ hi.2) boot_isinstance hA (by decide) (by decide) (star_eq rfl _ _) (by rfl)
  refine pe_imp z ?_
  rintro σ H Q ⟨φ, S, ⟨r, h2, h3⟩, q⟩
  refine ⟨.ref a, h2 hnm, vz, cv, b, rfl, hv, by show PySem.W.kitOne X.K _ _ = _; rw [G.hK]; exact k, fun dd e => ?_, q _ (.bl _)⟩
  obtain ⟨_, h4⟩ := h3
  cases hx : C.xa c with
  | none => rw [hx] at h4; rw [h4.1] at e; cases e
  | some f =>
    rw [hx] at h4
    obtain ⟨dd2, x, e1, e2, _⟩ := h4
    rw [e1] at e
    cases e
    exact ⟨_, e2⟩
theorem sndX1 (T : Xk C sub xf vs) (G : Gx C sh X) (hz : Zc (.ref (C.ca c)) d oe) (hf : ∃ vs, oe.data = .fields vs) {x : Mi.XE} {e : Expr} {w : PV} (h : ckX1 sh ie nm x e = true) (hw : xev1 sub xf vs c v x = some w) : PE (X.suite a ((a, oe) :: pn)) e (lX1 C c v w nm ie a d) := by
  cases x with
  | str s =>
    simp only [ckX1] at h
    split at h
    · cases of_decide_eq_true h
      cases hw
      exact pe_imp pe_str fun σ H Q ⟨φ, S, _, q⟩ => q _ (.str _)
    · cases h
  | fld f =>
    simp only [ckX1, Bool.and_eq_true] at h
    obtain ⟨hn, h⟩ := h
    split at h
    · rename_i n p1 g p2
      rw [Bool.and_eq_true, decide_eq_true_eq] at h
      obtain ⟨rfl, h2⟩ := h
      have hw2 : (if xf c = some g then some v else none) = some w := hw
      by_cases cc : xf c = some g
      · rw [if_pos cc] at hw2
        cases hw2
        obtain ⟨t1, t2, t3⟩ := T.xf c _ cc
        have t1' : XfC X.K (C.ca c) := by rw [G.hK]; exact t1
        have t2' : PySem.W.findIn X.K (.ref (C.ca c)) g = some none := by rw [G.hK]; exact t2
        refine pe_imp (pe_xf t1' t2' hz hf (G.isL h2) (attr_eq rfl _ _ _)) ?_
        rintro σ H Q ⟨φ, S, ⟨r, h3, h4⟩, q⟩
        obtain ⟨_, h5⟩ := h4
        rw [t3] at h5
        obtain ⟨dd, x, e1, e2, e3⟩ := h5
        exact ⟨.ref a, h3 hn, rfl, rfl, dd, _, x, e1, e2, by simp [List.lookup], q x e3⟩
      · rw [if_neg cc] at hw2; cases hw2
    · cases h
  | isi k =>
    simp only [ckX1, Bool.and_eq_true] at h
    obtain ⟨hn, h⟩ := h
    split at h
    · simp only [Bool.and_eq_true, decide_eq_true_eq] at h
      obtain ⟨h1, h2, h3, h4⟩ := h
      have hw2 : (sub c k).map PV.bl = some w := hw
      cases e1 : sub c k with
      | none => rw [e1] at hw2; cases hw2
      | some b =>
        rw [e1] at hw2
        cases hw2
        obtain ⟨_, t2, t3⟩ := T.sub c k b e1
        obtain ⟨g1, g2, _⟩ := G.isG h2
        obtain ⟨g3, g4, g5⟩ := G.isG h4
        exact isi_X G t3 ⟨g1, g2⟩ h1 h3 hz hf (pe_glob (X := X.suite a ((a, oe) :: pn)) g3 (G.exc _ _ g4) (v := .ref (C.ca k)) rfl g5) (fun u r => r) t2 hn
    · cases h
  | isv =>
    simp only [ckX1, Bool.and_eq_true] at h
    obtain ⟨hn, h⟩ := h
    split at h
    · simp only [Bool.and_eq_true, decide_eq_true_eq] at h
      obtain ⟨h1, h2, h3, rfl, h4⟩ := h
      have hw2 : (if vs c then some (PV.bl true) else none) = some w := hw
      by_cases cc : vs c = true
      · rw [if_pos cc] at hw2
        cases hw2
        obtain ⟨t2, t3⟩ := T.vs c cc
        obtain ⟨g1, g2, _⟩ := G.isG h2
        obtain ⟨g3, g4, g5⟩ := G.isG h4
        exact isi_X G t3 ⟨g1, g2⟩ h1 h3 hz hf (pe_bltn (X := X.suite a ((a, oe) :: pn)) g3 (G.blt _ g4) boot_VE (v := .ty "ValueError") rfl (by decide) g5) (fun u r => r) t2 hn
      · rw [if_neg cc] at hw2; cases hw2
    · cases h
  | tup l => cases h
  | ite _ _ _ => cases h
theorem sndXs (T : Xk C sub xf vs) (G : Gx C sh X) (hz : Zc (.ref (C.ca c)) d oe) (hf : ∃ vs, oe.data = .fields vs) : ∀ {l : List Mi.XE} {es : List Expr} {ws : List PV}, ckXs sh ie nm l es = true → l.mapM (xev1 sub xf vs c v) = some ws → PA (X.suite a ((a, oe) :: pn)) es (lXs C c v ws nm ie a d)
  | [], [], ws, _, hw => by
    rw [List.mapM_nil] at hw
    cases hw
    exact pa_imp pa_nil fun σ H Q ⟨φ, S, _, q⟩ => q [] .nil
  | [], _ :: _, _, h, _ => by cases h
  | _ :: _, [], _, h, _ => by cases h
  | x :: l, e :: es, ws, h, hw => by
    simp only [ckXs, Bool.and_eq_true] at h
    rw [mapM_cons] at hw
    cases e1 : xev1 sub xf vs c v x with
    | none => rw [e1] at hw; cases hw
    | some w =>
      rw [e1, Option.bind_some] at hw
      cases e2 : l.mapM (xev1 sub xf vs c v) with
      | none => rw [e2] at hw; cases hw
      | some us =>
        rw [e2, Option.bind_some] at hw
        cases hw
        refine pa_imp (pa_cons (sndX1 T G hz hf h.2.1 e1) (sndXs T G hz hf h.2.2 e2) (star_eq h.1 _ _)) ?_
        rintro σ H Q ⟨φ, S, i, q⟩
        refine ⟨φ, S, i, fun y ry => ⟨φ, S, i, fun ys rys => q (y :: ys) (.cons ry rys)⟩⟩
theorem sndX (T : Xk C sub xf vs) (G : Gx C sh X) (hz : Zc (.ref (C.ca c)) d oe) (hf : ∃ vs, oe.data = .fields vs) {x : Mi.XE} {e : Expr} {w : PV} (h : ckX sh ie nm x e = true) (hw : xev sub xf vs c v x = some w) : PE (X.suite a ((a, oe) :: pn)) e (lX C c v w nm ie a d) := by
  have one : ckX1 sh ie nm x e = true → xev1 sub xf vs c v x = some w → PE (X.suite a ((a, oe) :: pn)) e (lX C c v w nm ie a d) := fun h1 h2 => pe_imp (sndX1 T G hz hf h1 h2) fun σ H Q ⟨φ, S, i, q⟩ => ⟨φ, S, i, fun y ry => q H y (Same.refl H) ry⟩
  cases x with
  | tup l =>
    have hw2 : (l.mapM (xev1 sub xf vs c v)).bind (fun us => if us.length ≤ 100 then some (PV.tup us) else none) = some w := hw
    cases e2 : l.mapM (xev1 sub xf vs c v) with
    | none => rw [e2] at hw2; cases hw2
    | some us =>
      rw [e2, Option.bind_some] at hw2
      by_cases cl : us.length ≤ 100
      · rw [if_pos cl] at hw2
        cases hw2
        simp only [ckX] at h
        split at h
        · refine pe_imp (pe_tup (sndXs T G hz hf h e2)) ?_
          rintro σ H Q ⟨φ, S, i, q⟩
          refine ⟨φ, S, i, fun ys ry => ⟨by rw [← ry.length, sizeLine_eq]; omega, fun p hp => q _ _ (fun b o z => upd_keep hp b o z) (.tup (SqT.of upd_same) (ry.mono (Le.new hp)))⟩⟩
        · cases h
      · rw [if_neg cl] at hw2; cases hw2
  | ite k a1 b1 =>
    have hw2 : (match xev1 sub xf vs c v k with
      | some (.bl true) => xev1 sub xf vs c v a1
      | some (.bl false) => xev1 sub xf vs c v b1
      | _ => none) = some w := hw
    simp only [ckX] at h
    split at h
    · simp only [Bool.and_eq_true] at h
      obtain ⟨h0, h1, h2, h3⟩ := h
      cases e2 : xev1 sub xf vs c v k with
      | none => rw [e2] at hw2; cases hw2
      | some u =>
        rw [e2] at hw2
        rename_i t k1 k2 k3 k4 k5 k6 p7
        have hk := sndX1 (sub := sub) (xf := xf) (vs := vs) (v := v) (a := a) (pn := pn) T G hz hf h1 e2
        have no : ∀ e, PE (X.suite a ((a, oe) :: pn)) e (fun _ _ _ => False) := fun e => ⟨fun _ _ _ _ _ _ h => h.elim⟩
        have go : ∀ (he : ∀ whole, isTrue t X.env whole = (do let v ← whole; standAt t.pos; holding [v] (truthy v))), PE (X.suite a ((a, oe) :: pn)) (.IfExp t (.Constant k1 k2 k3) (.Constant k4 k5 k6) p7) (lX C c v w nm ie a d) := fun he => by
          have ht := pt_val (X := X.suite a ((a, oe) :: pn)) hk he
          cases u with
          | bl b =>
            cases b with
            | true =>
              have ha := sndX1 (sub := sub) (xf := xf) (vs := vs) (v := v) (a := a) (pn := pn) T G hz hf h2 (show xev1 sub xf vs c v a1 = some w from hw2)
              refine pe_imp (pe_ifExp ht ha (no _)) ?_
              rintro σ H Q ⟨φ, S, i, q⟩
              exact ⟨φ, S, i, fun y ry => by cases ry; exact ⟨true, rfl, iteT ⟨φ, S, i, fun y ry => q H y (Same.refl H) ry⟩⟩⟩
            | false =>
              have hb := sndX1 (sub := sub) (xf := xf) (vs := vs) (v := v) (a := a) (pn := pn) T G hz hf h3 (show xev1 sub xf vs c v b1 = some w from hw2)
              refine pe_imp (pe_ifExp ht (no _) hb) ?_
              rintro σ H Q ⟨φ, S, i, q⟩
              exact ⟨φ, S, i, fun y ry => by cases ry; exact ⟨false, rfl, iteF ⟨φ, S, i, fun y ry => q H y (Same.refl H) ry⟩⟩⟩
          | _ => cases hw2
        cases t with
        | Call => exact go fun _ => rfl
        | _ => cases h0
    · cases h
  | str s => exact one h hw
  | fld f => exact one h hw
  | isi k => exact one h hw
  | isv => exact one h hw
end
end Mi
end

section
set_option Elab.async false
set_option linter.all false
set_option maxRecDepth 100000
set_option maxHeartbeats 8000000
/-! Mi: catchers: their bodies. -/
namespace Mi
open PySem PySem.Spec L2 LamX
open PyProof.Rows hiding St
def ckX0 (x : Mi.XE) (e : Expr) : Bool := match x with
  | .str s => (match e with
    | .Constant (.str z) _ _ => decide (s = z)
    | _ => false)
  | .tup [.str s] => (match e with
    | .Tuple [.Constant (.str z) _ _] _ _ => decide (s = z)
    | _ => false)
  | _ => false
def ckHs (sh : Sh) (n : Str) : List (Nat × Bool × Mi.XE) → List ExceptHandler → Bool
  | [], [] => true
  | (d, nm, x) :: r, .ExceptHandler (some (.Name z _)) b [.Assign [.Name f _] e _] _ :: hds => sh.isG z (.exc d) && (decide (b = if nm then some n else none) && (sh.tgt 1 f && (!isLC e && (ckX sh 2 nm x e && ckHs sh n r hds))))
  | _, _ => false
def ckCat (sh : Sh) (D : Ct) (body : List Stmt) : Bool := match body with
  | [.Assign [.Name f _] e _, .Try [.Expr (.Call (.Name a _) [] [] _) _] (h :: hds) [] [] _, .Return (some (.Name g _)) _] =>
    sh.tgt 1 f && (!isLC e && (ckX0 D.e0 e && (sh.isL 0 a && (sh.isL 1 g && ((match sh.N with
      | [_, _, n] => decide (sh.sc.names.lookup n = some .local) && ckHs sh n D.hs (h :: hds)
      | _ => false))))))
  | _ => false
section
variable {C : Cn} {sub : Nat → Nat → Option Bool} {xf : Nat → Option Str} {vs : Nat → Bool} {sh : Sh}
theorem x0_ok {x : Mi.XE} {e : Expr} (h : ckX0 x e = true) : ∃ v0, xlit x = some v0 ∧ ∀ (Y : Cx), PE Y e fun σ H Q => ∀ H' y, Same H H' → (∀ φ, R C.K φ H' v0 y) → Q y H' := by
  unfold ckX0 at h
  split at h
  · split at h
    · cases of_decide_eq_true h
      exact ⟨_, rfl, fun Y => pe_imp pe_str fun σ H Q q => q H _ (Same.refl H) fun _ => .str _⟩
    · cases h
  · split at h
    · cases of_decide_eq_true h
      refine ⟨_, rfl, fun Y => pe_imp (pe_tup (pa_cons pe_str pa_nil (star_eq rfl _ _))) fun σ H Q q => ?_⟩
      exact ⟨by rw [sizeLine_eq]; show 1 ≤ 16777216; decide, fun p hp => q _ _ (fun b o z => upd_keep hp b o z) fun φ => .tup (SqT.of upd_same) (.cons (.str _) .nil)⟩
    · cases h
  · cases h
/-- what is made of what came -/
def TTc (C : Cn) (sub : Nat → Nat → Option Bool) (xf : Nat → Option Str) (vs : Nat → Bool) (D : Ct) : (XK → Hp → VK → Prop) → Hp → VK → Prop := fun tl H Q => ∀ H1 y0 v0, xlit D.e0 = some v0 → Same H H1 → (∀ φ, R C.K φ H1 v0 y0) →
  ∀ (E' : XK) (Q' : VK), (∀ cls d H2, (∃ c v φ S x w, cls = .ref (C.ca c) ∧ RS C φ H2 S ∧ ExR C φ H2 c v cls d ∧ pick sub c D.hs = some x ∧ xev sub xf vs c v x = some w ∧ ∀ H3 y, Same H2 H3 → R C.K φ H3 w y → Q y H3) → E' cls d H2) → (∀ x H2, Q y0 H2 → Q' x H2) → tl E' H1 Q'
/-- a suite's reading: found = .. -/
def tsC (C : Cn) (sub : Nat → Nat → Option Bool) (xf : Nat → Option Str) (vs : Nat → Bool) (x : Mi.XE) (nm : Bool) : Addr → Value → Option Addr → TS := fun a cls d D σ H => ∃ c v w φ S, cls = .ref (C.ca c) ∧ InX C c v nm 2 a d φ S σ H ∧ xev sub xf vs c v x = some w ∧
  ∀ H3 y, Same H H3 → R C.K φ H3 w y → D.nx (σ.set 1 (some y)) H3
theorem suite_ok {X : Cx} (T : Xk C sub xf vs) (G : Gx C sh X) {x : Mi.XE} {nm : Bool} {f : Str} {e : Expr} {p q : Pos} (hf1 : sh.tgt 1 f = true) (hfn : ∀ y, X.fn y = true) (hl : isLC e = false) (hx : ckX sh 2 nm x e = true) (a : Addr) (oe : Obj) (cls : Value) (d : Option Addr) (pn : List (Addr × Obj)) (hz : Zc cls d oe) (hf : ∃ vs, oe.data = .fields vs) :
    PSs (X.suite a ((a, oe) :: pn)) [.Assign [.Name f p] e q] (tsC C sub xf vs x nm a cls d) := by
  refine pss_one ⟨fun pins s σ H D I h => ?_⟩
  obtain ⟨c, v, w, φ, S, rfl, hi, hw, k⟩ := h
  have h1 : X.N[1]? = some f ∧ Loc X.env.scope f := by
    unfold Sh.tgt at hf1
    simp only [Bool.and_eq_true, decide_eq_true_eq, Bool.or_eq_true] at hf1
    rw [G.hN, G.sc]
    exact ⟨hf1.1, hf1.2.elim .inl fun z => .inr z.2⟩
  have he := sndX (a := a) (oe := oe) (pn := pn) (v := v) T G hz hf hx hw
  refine (ps_set (X := X.suite a ((a, oe) :: pn)) (by show X.N.Nodup; rw [G.hN]; exact G.nd) h1.1 h1.2 he (sw_no hl _ _ _) (.inl (hfn f))).run pins s σ H D I ?_
  exact ⟨φ, S, hi, fun H' y hs r => k H' y hs r⟩
theorem hs_ok {X : Cx} (T : Xk C sub xf vs) (G : Gx C sh X) (hfn : ∀ y, X.fn y = true) {n : Str} : ∀ {l : List (Nat × Bool × Mi.XE)} {hds : List ExceptHandler}, ckHs sh n l hds = true →
    HsN X 2 n hds (l.map fun p => (.ref (C.ca p.1), if p.2.1 then tsN 2 (tsC C sub xf vs p.2.2 true) else tsC C sub xf vs p.2.2 false))
  | [], [], _ => .nil
  | [], _ :: _, h => by cases h
  | _ :: _, [], h => by cases h
  | (d, nm, x) :: r, hd :: hds, h => by
    unfold ckHs at h
    split at h
    · rename_i h1 h2; cases h1
    · rename_i h1 h2
      cases h1
      cases h2
      simp only [Bool.and_eq_true, decide_eq_true_eq, Bool.not_eq_true'] at h
      obtain ⟨g1, g2, g3, g4, g5, g6⟩ := h
      obtain ⟨z1, z2, z3⟩ := G.isG g1
      have ih := hs_ok T G hfn g6
      cases nm with
      | true =>
        rw [if_pos rfl] at g2
        subst g2
        exact .named ⟨z1, z3, .inl (G.exc _ _ z2)⟩ (suite_ok T G g3 hfn g4 g5) ih
      | false =>
        rw [if_neg Bool.false_ne_true] at g2
        subst g2
        exact .plain ⟨z1, z3, .inl (G.exc _ _ z2)⟩ (suite_ok T G g3 hfn g4 g5) ih
    · cases h
/-- the clauses answer -/
theorem many_ok (T : Xk C sub xf vs) {K : PySem.W.Frag} (hK : K = C.K) {c : Nat} {v : PV} {d : Option Addr} {φ : List Addr} {S : Sto} {w : PV} {σ : L2.St} {H : Hp} {D : Ends} {Q : VK} (r : RS C φ H S) (ex : ExR C φ H c v (.ref (C.ca c)) d) (hl : σ.length = 3)
    (k : ∀ H3 y, Same H H3 → R C.K φ H3 w y → Q y H3) (hD : ∀ σ' y H', σ'.length = 3 → σ'[1]? = some (some y) → Q y H' → D.nx σ' H') : ∀ {l : List (Nat × Bool × Mi.XE)} {x : Mi.XE}, pick sub c l = some x → xev sub xf vs c v x = some w →
    wMany K (fun _ _ _ _ => False) D (l.map fun p => (Value.ref (C.ca p.1), if p.2.1 then tsN 2 (tsC C sub xf vs p.2.2 true) else tsC C sub xf vs p.2.2 false)) (.ref (C.ca c)) d σ H
  | [], x, h, _ => by cases h
  | (e, nm, x0) :: l, x, h, hw => by
    have h2 : (match sub c e with
      | some true => some x0
      | some false => pick sub c l
      | none => none) = some x := h
    cases e1 : sub c e with
    | none => rw [e1] at h2; cases h2
    | some b =>
      rw [e1] at h2
      refine ⟨b, by rw [hK]; exact (T.sub c e b e1).1, fun hb a ha => ?_, fun hb => ?_⟩
      · subst hb
        cases h2
        cases nm with
        | true =>
          refine ⟨c, v, w, φ, S, rfl, ⟨r, fun _ => List.getElem?_set_self (by omega), ex⟩, hw, fun H3 y hs ry => ?_⟩
          refine hD _ y H3 (by simp [hl]) ?_ (k H3 y hs ry)
          rw [List.getElem?_set_ne (by decide), List.getElem?_set_self (by simp; omega)]
        | false =>
          refine ⟨c, v, w, φ, S, rfl, ⟨r, fun z => (by cases z), ex⟩, hw, fun H3 y hs ry => ?_⟩
          exact hD _ y H3 (by simp [hl]) (List.getElem?_set_self (by omega)) (k H3 y hs ry)
      · subst hb
        exact many_ok T hK r ex hl k hD h2 hw
theorem same_code {H H' : Hp} (s : Same H H') {c : Addr} {o : HO} (h : H c = some o) : H' c = some o := s c o h
theorem cat_gives {X : Cx} {D : Ct} {bg : List Stmt} {g : Addr} {x a q : Str} {cdg : Value} (T : Xk C sub xf vs) (hK : X.K = C.K) (nd : sh.N.Nodup) (hex : ∀ x c, sh.gl.lookup x = some (.exc c) → X.mg x = some (.ref (C.ca c))) (hbl : ∀ x, sh.gl.lookup x = some .blt → X.mg x = none)
    (ha : sh.N[0]? = some a) (h : ckCat sh D bg = true) : GivesTo X sh.N x sh.sc g cdg bg a q (TTc C sub xf vs D) := by
  intro f c' s H Q tl act hc hT
  unfold ckCat at h
  split at h
  · rename_i fN p1 e0 p2 aN p3 p4 p5 h0 hds p6 gN p7 p8
    simp only [Bool.and_eq_true, Bool.not_eq_true'] at h
    obtain ⟨h1, h2, h3, h4, h5, h6⟩ := h
    split at h6
    · rename_i n0 n1 n2 eN
      rw [Bool.and_eq_true, decide_eq_true_eq] at h6
      obtain ⟨h6, h7⟩ := h6
      obtain ⟨v0, e1, pe0⟩ := x0_ok (C := C) h3
      generalize hY : (cxOf C8.CX0 X.prog X.w X.K X.mg X.base sh.N x sh.sc g cdg X.A X.stack s H C8.E0) = Y0 at act ⊢
      have G : Gx C sh Y0.nox := by rw [← hY]; exact ⟨hK, rfl, nd, rfl, hex, hbl⟩
      have hfn : ∀ y, Y0.nox.fn y = true := fun y => by rw [← hY]; rfl
      have hst : Y0.nox.stack = Y0.nox.env :: Y0.nox.outer := by rw [← hY]; rfl
      have hfr : Y0.nox.env.frame = some Y0.nox.env.locals := by rw [← hY]; rfl
      have hN : Y0.nox.N = sh.N := G.hN
      have nd2 : Y0.nox.N.Nodup := by rw [hN]; exact nd
      have a_is : aN = a := by
        unfold Sh.isL at h4
        simp only [Bool.and_eq_true, decide_eq_true_eq] at h4
        have z := h4.1.1.1
        rw [ha] at z
        exact (Option.some.inj z).symm
      subst a_is
      have t1 : Y0.nox.N[1]? = some fN ∧ Loc Y0.nox.env.scope fN := by
        unfold Sh.tgt at h1
        simp only [Bool.and_eq_true, decide_eq_true_eq, Bool.or_eq_true] at h1
        rw [hN, G.sc]
        exact ⟨h1.1, h1.2.elim .inl fun z => .inr z.2⟩
      have pg : PE Y0.nox (.Name gN p7) (tVar 1) := by
        unfold Sh.isL at h5
        simp only [Bool.and_eq_true, decide_eq_true_eq, Bool.not_eq_true'] at h5
        exact pe_var (by rw [hN]; exact h5.1.1.1) (by rw [G.sc]; exact vis_of h5.1.1.2) h5.1.2 h5.2
      have n2i : Y0.nox.N[2]? = some n2 := by rw [hN, eN]; rfl
      have n2l : Y0.nox.env.kindOf n2 = some .local := by
        show Y0.nox.env.scope.names.lookup n2 = _
        rw [G.sc]; exact h6
      have len3 : sh.N.length = 3 := by rw [eN]; rfl
      have hs := hs_ok (vs := vs) T G hfn h7
      let tb : WX → TS := fun W D σ H => ∃ Ech : XK, (∀ cls d σ' H', Ech cls d H' → σ'.length = 3 → W cls d σ' H') ∧ σ[0]? = some (some (.ref f)) ∧ H c' = some (CodeO c' q) ∧ tl Ech H fun _ H' => D.nx σ H'
      refine ⟨_, pss_cons (ps_set (i := 1) nd2 t1.1 t1.2 (pe0 Y0.nox) (sw_no h2 _ _ _) (.inl (hfn fN))) (pss_cons (ps_try_named (tb := tb) hst hfr nd2 n2i n2l (fun W pn xe tk => ?_) hs) (pss_one (ps_ret pg))), ?_⟩
      · refine ⟨fun pins s' σ H' D I h' => ?_⟩
        obtain ⟨Ech, hW, k1, k2, k3⟩ := h'
        have tk2 : Takes (Y0.tr pn xe) (fun cls d σ H => σ.length = 3 → W cls d σ H) := fun u s2 ⟨b1, b2, b3, b4, b5, b6, b7, b8, b9, I9, b11, b12, b13, b14, b15, b16, w⟩ =>
          tk u s2 ⟨b1, b2, b3, b4, b5, b6, b7, b8, b9, I9, b11, b12, b13, b14, b15, b16, w (by
            have z := I9.len
            have z2 : b5.length = Y0.nox.N.length := z
            rw [z2, hN, len3])⟩
        have hp := act (fun cls d σ H => σ.length = 3 → W cls d σ H) pn xe Ech p3 p4 tk2 (fun cls d σ' H' z => hW cls d σ' H' z)
        exact (pss_one (ps_expr (pos := p5) hp (sw_no rfl _ _ _))).run pins s' σ H' D I ⟨k1, k2, k3⟩
      · intro H1 y0 s1 ry
        have q1 := hT H1 y0 v0 e1 s1 ry (fun cls d H2 => ∃ c v φ S x w, cls = .ref (C.ca c) ∧ RS C φ H2 S ∧ ExR C φ H2 c v cls d ∧ pick sub c D.hs = some x ∧ xev sub xf vs c v x = some w ∧ ∀ H3 y, Same H2 H3 → R C.K φ H3 w y → Q y H3)
        have st : (start sh.N [V.ref f]).length = 3 := by rw [eN]; rfl
        refine ⟨_, fun cls d σ' H' z hl => ?_, ?_, s1 _ _ hc, q1 _ (fun _ _ _ z => z) fun _ H2 z => ⟨y0, List.getElem?_set_self (by omega), z⟩⟩
        · obtain ⟨c, v, φ, S, x, w, rfl, r, ex, pk, xe, k⟩ := z
          refine many_ok T (by rw [← hY]; exact hK) r ex hl k (fun σ2 y H2 hl2 e2 qy => ?_) pk xe
          exact ⟨y, e2, qy⟩
        · rw [List.getElem?_set_ne (by decide), eN]
          rfl
    · cases h6
  · cases h
end
end Mi
end

section
set_option Elab.async false
set_option linter.all false
set_option maxRecDepth 100000
set_option maxHeartbeats 8000000
/-! Mi: the check of expressions, and that the machine does what ev computes. -/
namespace Mi
open PySem PySem.Spec L2
open PyProof.Rows hiding St
def kwOf (kw : List (Nat × Nat × List Str)) (f : Nat) : List (Nat × List Str) := kw.filterMap fun p => if p.1 = f then some p.2 else none
def tgsB (sh : Sh) : List Nat → List Expr → Bool
  | [], [] => true
  | i :: is, .Name x _ :: es => sh.tgt i x && tgsB sh is es
  | _, _ => false
def tgB (sh : Sh) (tg : List Nat) (e : Expr) : Bool := match e with
  | .Name x _ => (match tg with
    | [i] => sh.tgt i x
    | _ => false)
  | .Tuple es _ _ => decide (2 ≤ tg.length) && tgsB sh tg es
  | _ => false
def isTup : Expr → Bool
  | .Tuple _ _ _ => true
  | _ => false
def noSet : Expr → Bool
  | .Set _ _ _ => false
  | _ => true
def ownN (N : List Str) (own : List Nat) : List (Str × Nat) := own.filterMap fun i => (N[i]?).map fun x => (x, i)
def Sh.blk (sh : Sh) (scope : Scope) : Sh := { sh with sc := relS scope sh.sc, fnT := false, lam := false }
def kwVals (kw : List Keyword) : List Expr := kw.map fun k => k.value

mutual
def ckE (sh : Sh) (m : E) (e : Expr) : Bool := match m with
  | .non => (match e with
    | .Constant .none _ _ => true
    | _ => false)
  | .bl b => (match e with
    | .Constant (.bool c) _ _ => decide (b = c)
    | _ => false)
  | .int i => (match e with
    | .Constant (.int j) _ _ => decide (i = j)
    | _ => false)
  | .str s => (match e with
    | .Constant (.str z) _ _ => decide (s = z)
    | _ => false)
  | .loc i => (match e with
    | .Name x _ => sh.isL i x
    | _ => false)
  | .glo g => (match e with
    | .Name x _ => sh.isG x (.val g)
    | _ => false)
  | .tup es => (match e with
    | .Tuple l _ _ => ckEs sh es l
    | _ => false)
  | .lst es => (match e with
    | .List l _ => ckEs sh es l
    | _ => false)
  | .bin op a b => (match e with
    | .BinOp x o y _ => decide (opOf o = some op) && (ckE sh a x && ckE sh b y)
    | _ => false)
  | .neg a => (match e with
    | .UnaryOp .USub x _ => ckE sh a x
    | _ => false)
  | .inv a => (match e with
    | .UnaryOp .Not x _ => ckE sh a x
    | _ => false)
  | .and a b => (match e with
    | .BoolOp .And (x :: y :: r) p => ckE sh a x && (match r with
      | [] => ckE sh b y
      | z :: r => ckE sh b (.BoolOp .And (y :: z :: r) p))
    | _ => false)
  | .or a b => (match e with
    | .BoolOp .Or (x :: y :: r) p => ckE sh a x && (match r with
      | [] => ckE sh b y
      | z :: r => ckE sh b (.BoolOp .Or (y :: z :: r) p))
    | _ => false)
  | .cmp op a b => (match e with
    | .Compare x [o] [y] _ => decide (cOf o = op) && (!behindInMarks o y && (ckE sh a x && ckE sh b y))
    | _ => false)
  | .chn op op' a b c => (match e with
    | .Compare x [o, o'] [y, z] _ => decide (cOf o = op) && (decide (cOf o' = op') && (!lastMarks [o, o'] [y, z] && (ckE sh a x && (ckE sh b y && ckE sh c z))))
    | _ => false)
  | .ite c a b => (match e with
    | .IfExp x y z _ => ckE sh c x && (ckE sh a y && ckE sh b z)
    | _ => false)
  | .idx a b => (match e with
    | .Subscript x y _ => noSlice y && (ckE sh a x && ckE sh b y)
    | _ => false)
  | .slc a lo hi => (match e with
    | .Subscript x (.Slice l h none _) _ => ckE sh a x && (ckEo sh lo l && ckEo sh hi h)
    | _ => false)
  | .call f es => (match e with
    | .Call (.Name x _) l [] _ => sh.isG x (.fn f) && ckEs sh es l
    | _ => false)
  | .calk f es ks kes => (match e with
    | .Call (.Name x _) l kw _ => sh.isG x (.fn f) && (decide (kwNames kw = some ks) && (decide ((l.length, ks) ∈ kwOf sh.kw f) && (ckEs sh es l && ckEs sh kes (kwVals kw))))
    | _ => false)
  | .bi b es => (match e with
    | .Call (.Name x _) (y :: l) [] _ => decide (b ≠ .gcd) && (decide (x = biN b) && (sh.isG x .blt && ckEs sh es (y :: l)))
    | _ => false)
  | .isi a t => (match e with
    | .Call (.Name x _) [y, .Name z _] [] _ => decide (x = ("isinstance" : Str)) && (decide (z = Str.ofString (tyS t)) && (sh.isG x .blt && (sh.isG z .blt && (noStar y && ckE sh a y))))
    | _ => false)
  | .meth m o es => (match e with
    | .Call (.Attribute x n ap) [y] [] p => (decide (m = .append) || decide (m = .extend)) && (decide (n = mtN m) && (noSuper x && ((ap.endLine == p.line) && (ckE sh o x && ckEs sh es [y]))))
    | _ => false)
  | .fld o x => (match e with
    | .Attribute y n _ => decide (n = x) && (noSuper y && ckE sh o y)
    | _ => false)
  | .new c es => (match e with
    | .Call (.Name x _) l [] _ => sh.isG x (.cls c) && ckEs sh es l
    | _ => false)
  | .mca m o es => (match e with
    | .Call (.Attribute x n ap) l [] p => decide (n = m) && (noSuper x && ((ap.endLine == p.line) && (decide (l.length < 30) && (ckE sh o x && ckEs sh es l))))
    | _ => false)
  | .dct ks es => (match e with
    | .Dict keys l _ => keysB keys ks && (decide (keys.length = l.length) && (decide (0 < l.length) && (decide (ks.length ≤ 15) && ckEs sh es l)))
    | _ => false)
  | .comp own tg elt src c => (match e with
    | .ListComp x [⟨t, it, ifs, 0⟩] scope _ => blkC sh.N sh.sc scope (ownN sh.N own) && (decide ((ownN sh.N own).map (·.2) = own) && (decide (∀ i ∈ tg, i ∈ own) && (tgB (sh.blk scope) tg t && (noSet it && (ckSr sh src t it && (ckC (sh.blk scope) c ifs && ckE (sh.blk scope) elt x))))))
    | _ => false)
  | .lam g a => (match e with
    | .Call (.Name x _) [.Lambda ⟨[], [], none, [], [], none, []⟩ body scope _] [] _ => sh.lam && (sh.isG x (.cat g) && (LamX.lamSB sh.sc scope && ckE { sh with sc := scope, fnT := false, lam := false } a body))
    | _ => false)
def ckEs (sh : Sh) (m : Es) (l : List Expr) : Bool := match m with
  | .nil => (match l with
    | [] => true
    | _ => false)
  | .cons a es => (match l with
    | x :: r => noStar x && (ckE sh a x && ckEs sh es r)
    | _ => false)
def ckEo (sh : Sh) (m : Eo) (e : Option Expr) : Bool := match m with
  | .no => (match e with
    | none => true
    | _ => false)
  | .so a => (match e with
    | some x => ckE sh a x
    | _ => false)
def ckC (sh : Sh) (m : Eo) (l : List Expr) : Bool := match m with
  | .no => (match l with
    | [] => true
    | _ => false)
  | .so a => (match l with
    | [x] => ckE sh a x
    | _ => false)
def ckSr (sh : Sh) (m : Sr) (t e : Expr) : Bool := match m with
  | .seq a => ckE sh a e
  | .rng1 a => (match e with
    | .Call (.Name x _) [y] [] _ => decide (x = ("range" : Str)) && (sh.isG x .blt && (noStar y && ckE sh a y))
    | _ => false)
  | .rng2 a b => (match e with
    | .Call (.Name x _) [y, z] [] _ => decide (x = ("range" : Str)) && (sh.isG x .blt && (noStar y && (noStar z && (ckE sh a y && ckE sh b z))))
    | _ => false)
  | .enm a => (match e with
    | .Call (.Name x _) [y] [] _ => isTup t && (decide (x = ("enumerate" : Str)) && (sh.isG x .blt && (noStar y && ckE sh a y)))
    | _ => false)
  | .zip a b => (match e with
    | .Call (.Name x _) [y, z] [] _ => isTup t && (decide (x = ("zip" : Str)) && (sh.isG x .blt && (noStar y && (noStar z && (ckE sh a y && ckE sh b z)))))
    | _ => false)
end

/-! ### what holds around -/
/-- a catcher, as the written part holds it -/
def CatOk (C : Cn) (ctt : Nat → Option Ct) (K : PySem.W.Frag) (mg : Str → Option Value) (x : Str) (g : Nat) : Prop := ∃ (ga : Addr) (D : Ct) (sg : Sh) (a : Str) (pg : Arguments) (bg : List Stmt) (dV kV doc pm cdv ct oc : Value) (an od : Option Addr) (osl : Array (Option Value)),
  ctt g = some D ∧ mg x = some (.ref ga) ∧ PySem.W.keepIn K (.ref ga) = true ∧ K.lookup ga = some ⟨oc, od, .func (PySem.W.fnOf x x pg bg sg.sc dV kV doc pm an cdv ct), osl⟩ ∧ PySem.W.codeIn K cdv x = true ∧
  L2.Binds K (PySem.W.fnOf x x pg bg sg.sc dV kV doc pm an cdv ct) [a] [] ∧ FnScope sg.N [a] sg.sc ∧ sg.N[0]? = some a ∧ Vis sg.sc a ∧ (a == ("__debug__" : Str)) = false ∧ (a == ("__classdict__" : Str)) = false ∧ ckCat sg D bg = true ∧
  (∀ x c, sg.gl.lookup x = some (.exc c) → mg x = some (.ref (C.ca c))) ∧ ∀ x, sg.gl.lookup x = some .blt → mg x = none
def GkOk (C : Cn) (A : Ar) (k : Nat) (X : Cx) (kw : List (Nat × Nat × List Str)) (x : Str) : Gk → Prop
  | .fn f => X.mg x = some (.ref (C.fa f)) ∧ ∃ ps, A.ps f = some ps ∧ FnD C X k (C.fa f) ps (kwOf kw f) (A.cl f)
  | .cls c => X.mg x = some (.ref (C.ca c)) ∧ ∃ f, A.mkr c = some f ∧ Mk X.K (C.ca c) (C.fa f) ∧ ∃ ps kws, FnD C X k (C.fa f) ps kws (A.cl f)
  | .val g => ∃ v y u, A.gv g = some v ∧ X.mg x = some u ∧ RelV y u ∧ ∀ φ H, R C.K φ H v y
  | .blt => X.mg x = none
  | .exc c => X.mg x = some (.ref (C.ca c))
  | .cat g => CatOk C A.ct X.K X.mg x g
structure Gd (C : Cn) (A : Ar) (k : Nat) (sh : Sh) (W : WX) (X : Cx) : Prop where
  hK : X.K = C.K
  hN : X.N = sh.N
  nd : sh.N.Nodup
  sc : X.env.scope = sh.sc
  calm : X.calm = true
  room : Room (k + 1) X.A
  gl : ∀ x g, sh.gl.lookup x = some g → GkOk C A k X sh.kw x g
  mt : ∀ c m f, A.mt c m = some f → Cls C.K (C.ca c) ∧ Meth C.K (C.ca c) m (C.fa f) ∧ ∃ ps kws, FnD C X k (C.fa f) ps kws (A.cl f)
  fl : ∀ c x, A.fl c x = true → Cls C.K (C.ca c) ∧ NoAttr C.K (C.ca c) x
  fnT : sh.fnT = true → ∀ x, X.fn x = true
  xr : ∀ c, c ∈ sh.xr → ∃ f fI, C.xa c = some f ∧ ErrTxt X.prog X.K (C.ca c) fI f
  xm : ∀ c' c b, A.sub c' c = some b → PySem.W.exmOne C.K (.ref (C.ca c')) (.ref (C.ca c)) = some b
  hms : X.mg "super" = none
  xk : Xk C A.sub A.xf A.vs
  lm : sh.lam = true → Room (k + 3) X.A ∧ ∃ c P, X.env.code = .ref c ∧ LamX.TabB X.base X.mg c P ∧ (P, X.env.qual ++ "<lambda>") ∈ C.T ∧ ∀ p ∈ C.T, p.1 = P → p.2 = X.env.qual ++ "<lambda>"
  tk : Takes X W
section
variable {C : Cn} {A : Ar} {k : Nat}
theorem Gd.un {sh : Sh} {W : WX} {X : Cx} (G : Gd C A k sh W X) : X.A.units + 64 < cLine := G.room.units
theorem Gd.room0 {sh : Sh} {W : WX} {X : Cx} (G : Gd C A k sh W X) : Room k X.A := G.room.mono (Nat.le_succ k)
theorem Gd.isG {sh : Sh} {W : WX} {X : Cx} (G : Gd C A k sh W X) {x : Str} {g : Gk} (h : sh.isG x g = true) : Gl X x ∧ GkOk C A k X sh.kw x g ∧ (x == ("__debug__" : Str)) = false := by
  unfold Sh.isG at h
  simp only [Bool.and_eq_true, decide_eq_true_eq, Bool.not_eq_true'] at h
  refine ⟨?_, G.gl x g h.1.2, h.2⟩
  show X.env.scope.names.lookup x = _
  rw [G.sc]
  exact h.1.1
theorem Gd.isL {sh : Sh} {W : WX} {X : Cx} (G : Gd C A k sh W X) {x : Str} {i : Nat} {pos : Pos} (h : sh.isL i x = true) : PE X (.Name x pos) (tVar i) := by
  unfold Sh.isL at h
  simp only [Bool.and_eq_true, decide_eq_true_eq, Bool.not_eq_true'] at h
  exact pe_var (by rw [G.hN]; exact h.1.1.1) (by rw [G.sc]; exact vis_of h.1.1.2) h.1.2 h.2
theorem Gd.tgt {sh : Sh} {W : WX} {X : Cx} (G : Gd C A k sh W X) {x : Str} {i : Nat} (h : sh.tgt i x = true) : X.N[i]? = some x ∧ Loc X.env.scope x ∧ (X.fn x = true ∨ X.env.scope.names.lookup x = some .local) := by
  unfold Sh.tgt at h
  simp only [Bool.and_eq_true, decide_eq_true_eq, Bool.or_eq_true] at h
  rw [G.hN, G.sc]
  rcases h.2 with z | z
  · exact ⟨h.1, .inl z, .inr z⟩
  · exact ⟨h.1, .inr z.2, .inl (G.fnT z.1 x)⟩
theorem Gd.nd2 {sh : Sh} {W : WX} {X : Cx} (G : Gd C A k sh W X) : X.N.Nodup := by rw [G.hN]; exact G.nd
theorem tgs_len {sh : Sh} : ∀ {tg : List Nat} {es : List Expr} {env : Env}, tgsB sh tg es = true → (assignEach es env).length = tg.length ∧ (assignEach es env).findIdx? (·.1) = none
  | [], [], _, _ => ⟨rfl, rfl⟩
  | [], _ :: _, _, h => by cases h
  | _ :: _, [], _, h => by cases h
  | i :: is, e :: es, env, h => by
    cases e with
    | Name x p =>
      have h2 : (sh.tgt i x && tgsB sh is es) = true := h
      rw [Bool.and_eq_true] at h2
      obtain ⟨h3, h4⟩ := tgs_len (env := env) h2.2
      refine ⟨?_, ?_⟩
      · show (assignEach es env).length + 1 = is.length + 1
        rw [h3]
      · show List.findIdx? (·.1) ((false, assign (.Name x p) env) :: assignEach es env) = none
        rw [List.findIdx?_cons, h4]
        rfl
    | _ => cases h
theorem sndTs {sh : Sh} {W : WX} {X : Cx} (G : Gd C A k sh W X) : ∀ {tg : List Nat} {es : List Expr}, tgsB sh tg es = true → PGs X es (lGs C tg)
  | [], [], _ => gs_nil
  | [], _ :: _, h => by cases h
  | _ :: _, [], h => by cases h
  | i :: is, e :: es, h => by
    cases e with
    | Name x p =>
      have h2 : (sh.tgt i x && tgsB sh is es) = true := h
      rw [Bool.and_eq_true] at h2
      obtain ⟨h3, h4, h5⟩ := G.tgt h2.1
      exact gs_cons G.nd2 h3 h4 h5 (sndTs G h2.2)
    | _ => cases h
theorem sndT {sh : Sh} {W : WX} {X : Cx} (G : Gd C A k sh W X) {tg : List Nat} {e : Expr} (h : tgB sh tg e = true) : PG X e (lG C tg) := by
  unfold tgB at h
  split at h
  · split at h
    · obtain ⟨h3, h4, h5⟩ := G.tgt h
      exact g_name G.nd2 h3 h4 h5
    · cases h
  · rw [Bool.and_eq_true, decide_eq_true_eq] at h
    obtain ⟨h1, h2⟩ := tgs_len (env := X.env) h.2
    exact g_tup G.hK G.calm h.1 h1 h2 (sndTs G h.2)
  · cases h
theorem fold_eq {e : Expr} (h : noSet e = true) (env : Env) (x : Value) : foldedSetIterable e env x = pure x := by
  cases e <;> first | rfl | cases h
theorem FnD.to {X Y : Cx} {fa : Addr} {ps : List Str} {kws : List (Nat × List Str)} {g : List PV → Sto → M PV} (F : FnD C X k fa ps kws g) (h1 : Y.prog = X.prog) (h2 : Y.w = X.w) (h3 : Y.K = X.K) (h4 : Y.mg = X.mg) (h5 : Y.base = X.base) : FnD C Y k fa ps kws g := by
  refine ⟨?_, ?_, F.ln⟩
  · rw [h1, h2, h3, h4, h5]; exact F.ok
  · rw [h3]; exact F.kp
theorem GkOk.to {X Y : Cx} {kw : List (Nat × Nat × List Str)} {x : Str} {g : Gk} (h : GkOk C A k X kw x g) (h1 : Y.prog = X.prog) (h2 : Y.w = X.w) (h3 : Y.K = X.K) (h4 : Y.mg = X.mg) (h5 : Y.base = X.base) : GkOk C A k Y kw x g := by
  cases g with
  | fn f =>
    obtain ⟨a, ps, b, c⟩ := h
    exact ⟨by rw [h4]; exact a, ps, b, c.to h1 h2 h3 h4 h5⟩
  | cls c =>
    obtain ⟨a, f, e, m, ps, kws, F⟩ := h
    exact ⟨by rw [h4]; exact a, f, e, by rw [h3]; exact m, ps, kws, F.to h1 h2 h3 h4 h5⟩
  | val g =>
    obtain ⟨v, y, u, a, b, c⟩ := h
    exact ⟨v, y, u, a, by rw [h4]; exact b, c⟩
  | blt => exact (by rw [h4]; exact h : Y.mg x = none)
  | exc c => exact (by rw [h4]; exact h : Y.mg x = some (.ref (C.ca c)))
  | cat g => exact (by rw [h3, h4]; exact h : CatOk C A.ct Y.K Y.mg x g)
/-- in a comprehension's block -/
theorem Gd.blk {sh : Sh} {W : WX} {X : Cx} (G : Gd C A k sh W X) (scope : Scope) (s : Shared) (H : Hp) (B : Addr) (cl : List (Str × Addr)) (fp : List Addr) : Gd C A k (sh.blk scope) WF (X.blk s H scope (compEnvC scope cl B X.env) fp) where
  hK := G.hK
  hN := G.hN
  nd := G.nd
  sc := by
    show relS scope X.env.scope = relS scope sh.sc
    rw [G.sc]
  calm := G.calm
  room := G.room
  gl := fun x g h => (G.gl x g h).to rfl rfl rfl rfl rfl
  mt := fun c m f h => let ⟨a, b, ps, kws, F⟩ := G.mt c m f h; ⟨a, b, ps, kws, F.to rfl rfl rfl rfl rfl⟩
  fl := G.fl
  fnT := fun h => by cases h
  xr := G.xr
  xm := G.xm
  hms := G.hms
  xk := G.xk
  lm := fun h => by cases h
  tk := L2.takes0
/-- in a lambda's body -/
theorem Gd.lamb {sh : Sh} {W : WX} {X : Cx} (G : Gd C A k sh W X) (scope : Scope) (Aa : Around) (outer : List Env) (s : Shared) (H : Hp) (E : XK) (f c' : Addr) (hr : Room (k + 1) (Aa.deeper (LamX.lamEnv X scope s.heap.objs.size f c'))) :
    Gd C A k { sh with sc := scope, fnT := false, lam := false } (fun cls d _ H => E cls d H) (LamX.lamCx X Aa outer s H E scope f c') where
  hK := G.hK
  hN := G.hN
  nd := G.nd
  sc := rfl
  calm := rfl
  room := hr
  gl := fun x g h => (G.gl x g h).to rfl rfl rfl rfl rfl
  mt := fun c m f h => let ⟨a, b, ps, kws, F⟩ := G.mt c m f h; ⟨a, b, ps, kws, F.to rfl rfl rfl rfl rfl⟩
  fl := G.fl
  fnT := fun h => by cases h
  xr := G.xr
  xm := G.xm
  hms := G.hms
  xk := G.xk
  lm := fun h => by cases h
  tk := takes_of rfl rfl rfl rfl
theorem RS.extN {C : Cn} {φ : List Addr} {H H' : Hp} {S : Sto} (r : RS C φ H S) (e : LamX.ExtN H H') (t : LamX.Tabs C.T H') : Le φ H φ H' ∧ RS C φ H' S := by
  have l : Le φ H φ H' := ⟨⟨[], by simp⟩, fun a o f h => e a o h fun ps z => by subst z; exact f⟩
  refine ⟨l, r.len, fun n o a e1 e2 => ?_, r.inj, t⟩
  have q := r.ob n o a e1 e2
  cases o with
  | lst xs => obtain ⟨vs, h1, h2⟩ := q; exact ⟨vs, e _ _ h1 (fun _ z => nomatch z), h2.mono l⟩
  | fro xs =>
    rcases q with ⟨ob, vs, h1, h2⟩ | ⟨vs, h1, h2⟩
    · exact .inl ⟨ob, vs, e _ _ h1 (fun _ z => nomatch z), h2.mono l⟩
    · exact .inr ⟨vs, h1, h2.mono l⟩
  | dct kvs => obtain ⟨ws, h1, h2⟩ := q; exact ⟨ws, e _ _ h1 (fun _ z => nomatch z), KRw.mono (C := C) l h2⟩
  | ins c fs => obtain ⟨dx, ws, h1, h2⟩ := q; exact ⟨dx, ws, e _ _ h1 (fun _ z => nomatch z), KRw.mono (C := C) l h2⟩
theorem Same.le {φ : List Addr} {H H' : Hp} (s : Same H H') : Le φ H φ H' := ⟨⟨[], by simp⟩, fun a o _ h => s a o h⟩
/-- x(lambda: body) -/
theorem e_lam {sh : Sh} {W : WX} {X : Cx} {g : Nat} {x : Str} {body : Expr} {scope : Scope} {p1 p2 p3 : Pos} {f : Env1 → Sto → M PV} (G : Gd C A k sh W X) (hl : sh.lam = true) (hx : sh.isG x (.cat g) = true) (hS : LamX.lamSB sh.sc scope = true)
    (hb : ∀ (Aa : Around) (outer : List Env) (s : Shared) (H : Hp) (E : XK) (fa c' : Addr), Room (k + 1) (Aa.deeper (LamX.lamEnv X scope s.heap.objs.size fa c')) → PE (LamX.lamCx X Aa outer s H E scope fa c') body (lE C (fun cls d _ H => E cls d H) f)) :
    PE X (.Call (.Name x p1) [.Lambda ⟨[], [], none, [], [], none, []⟩ body scope p2] [] p3) (lE C W fun env S => ctK A.sub A.xf A.vs (A.ct g) (f env S)) := by
  obtain ⟨hr, c, P, hcode, TB, hmT, hu⟩ := G.lm hl
  obtain ⟨hg, ⟨ga, D, sg, a, pg, bg, dV, kV, doc, pm, cdv, ct, oc, an, od, osl, c1, c2, c3, c4, c5, c6, c7, c8, c9, c10, c11, c12, c13, c14⟩, hd⟩ := G.isG hx
  have GT : LamX.GivesTo X sg.N x sg.sc ga cdv bg a (X.env.qual ++ "<lambda>") (TTc C A.sub A.xf A.vs D) := cat_gives G.xk G.hK c7.nd c13 c14 c8 c12
  have z := LamX.pe_lamcall (params := ⟨[], [], none, [], [], none, []⟩) (body := body) (scope := scope) (p := p1) (lpos := p2) (pos := p3) (T := C.T) (k := k + 1) hg c2 c3 c4 c5 c6 c7 c8 c9 GT TB hcode hmT hu hr (LamX.lamS_by (by rw [G.sc]; exact hS)) rfl (by intro _ _ _ _ _; first | rfl | with_unfolding_all rfl) hb hd c10 c11
  refine pe_imp z ?_
  rintro σ H Q ⟨φ, env, S, at0, q⟩
  rw [c1] at q
  dsimp only at q
  refine ⟨at0.rs.tab, fun H1 eN T1 H2 y0 v0 e0 s1 ry E' Q' hE hQ => ?_⟩
  obtain ⟨l1, r1⟩ := at0.rs.extN eN T1
  have l2 := l1.trans (Same.le (φ := φ) s1)
  have r2 := r1.ext fun b o h => s1 b o h
  refine ⟨φ, env, S, at0.with l2 r2, ?_⟩
  cases ef : f env S with
  | ok w S1 =>
    rw [ef] at q
    have q2 : Post C W (R C.K) φ H σ Q (one (xlit D.e0) S1) := q
    rw [e0] at q2
    exact fun φ3 H3 x3 l3 r3 _ => hQ _ _ (q2 φ3 H3 y0 (l2.trans l3) r3 ((ry φ).mono l3))
  | exc c v S1 =>
    rw [ef] at q
    have q2 : Post C W (R C.K) φ H σ Q (one ((pick A.sub c D.hs).bind (xev A.sub A.xf A.vs c v)) S1) := q
    intro φ3 H3 cls d l3 r3 ex
    obtain ⟨w, e3, q3⟩ := one_ok q2
    cases e4 : pick A.sub c D.hs with
    | none => rw [e4] at e3; cases e3
    | some x =>
      rw [e4, Option.bind_some] at e3
      have ec := ex.1
      subst ec
      exact hE _ _ _ ⟨c, v, φ3, S1, x, w, rfl, r3, ex, e4, e3, fun H4 y s4 r4 => q3 φ3 H4 y ((l2.trans l3).trans (Same.le s4)) (r3.ext fun b o h => s4 b o h) r4⟩
  | bad => rw [ef] at q; exact (show False from q).elim
end
end Mi
end

section
set_option Elab.async false
set_option linter.all false
set_option maxRecDepth 100000
set_option maxHeartbeats 8000000
/-! Mi: the check is sound, for expressions. -/
namespace Mi
open PySem PySem.Spec L2
open PyProof.Rows hiding St
variable {C : Cn} {A : Ar} {k : Nat}
structure Snd (C : Cn) (W : WX) (X : Cx) (A : Ar) (m : E) (e : Expr) : Prop where
  pe : PE X e (lE C W (ev A m false))
  pt : PT X e (lT C W (ev A m true))
  pw : (∃ op l p, e = .BoolOp op l p) → PW X e (lT C W (ev A m true))
theorem snd_both {W : WX} {X : Cx} {m : E} {e : Expr} {f : Env1 → Sto → M PV} (hK : X.K = C.K) (h : PE X e (lE C W f)) (hn : ¬ ∃ op l p, e = .BoolOp op l p) (he : ∀ whole, isTrue e X.env whole = (do let v ← whole; standAt e.pos; holding [v] (truthy v)))
    (e1 : ev A m false = fun env S => (f env S).bind (test false)) (e2 : ev A m true = fun env S => (f env S).bind (test true)) : Snd C W X A m e := by
  obtain ⟨a, b⟩ := both hK h he
  exact ⟨by rw [e1]; exact a, by rw [e2]; exact b, fun z => absurd z hn⟩
theorem pk_of {W : WX} {X : Cx} : ∀ {kw : List Keyword} {ts : List TE} {fs : Env1 → Sto → M (List PV)}, VsOk C W X (kwVals kw) ts fs → PK X kw (lA C W fs)
  | [], _, _, .nil => k_nil
  | ⟨n, v, p⟩ :: kw, _, _, .cons hs h r => k_cons h (pk_of r)
mutual
theorem sndE : ∀ (m : E) {e : Expr} {sh : Sh} {W : WX} {X : Cx}, Gd C A k sh W X → ckE sh m e = true → Snd C W X A m e
  | .non, e, sh, W, X, G, h => by
    simp only [ckE] at h
    split at h
    · exact snd_both G.hK (f := fun _ S => .ok .non S) (e_lit pe_non fun _ _ => .non) (fun ⟨_, _, _, z⟩ => nomatch z) (fun _ => rfl) rfl rfl
    · cases h
  | .bl b, e, sh, W, X, G, h => by
    simp only [ckE] at h
    split at h
    · cases of_decide_eq_true h
      exact snd_both G.hK (f := fun _ S => .ok (.bl b) S) (e_lit pe_bl fun _ _ => .bl b) (fun ⟨_, _, _, z⟩ => nomatch z) (fun _ => rfl) rfl rfl
    · cases h
  | .int i, e, sh, W, X, G, h => by
    simp only [ckE] at h
    split at h
    · cases of_decide_eq_true h
      exact snd_both G.hK (f := fun _ S => .ok (.int i) S) (e_lit pe_int fun _ _ => .int i) (fun ⟨_, _, _, z⟩ => nomatch z) (fun _ => rfl) rfl rfl
    · cases h
  | .str s, e, sh, W, X, G, h => by
    simp only [ckE] at h
    split at h
    · cases of_decide_eq_true h
      exact snd_both G.hK (f := fun _ S => .ok (.str s) S) (e_lit pe_str fun _ _ => .str s) (fun ⟨_, _, _, z⟩ => nomatch z) (fun _ => rfl) rfl rfl
    · cases h
  | .loc i, e, sh, W, X, G, h => by
    simp only [ckE] at h
    split at h
    · exact snd_both G.hK (e_loc (G.isL h)) (fun ⟨_, _, _, z⟩ => nomatch z) (fun _ => rfl) rfl rfl
    · cases h
  | .glo g, e, sh, W, X, G, h => by
    simp only [ckE] at h
    split at h
    · obtain ⟨hg, ⟨v, y, u, e1, hm, r, r2⟩, hd⟩ := G.isG h
      exact snd_both G.hK (f := fun _ S => one (A.gv g) S) (by rw [e1]; exact e_lit (pe_glob hg hm r hd) r2) (fun ⟨_, _, _, z⟩ => nomatch z) (fun _ => rfl) rfl rfl
    · cases h
  | .tup es, e, sh, W, X, G, h => by
    simp only [ckE] at h
    split at h
    · obtain ⟨ts, r⟩ := sndEs es G h
      exact snd_both G.hK (e_tup r.pa) (fun ⟨_, _, _, z⟩ => nomatch z) (fun _ => rfl) rfl rfl
    · cases h
  | .lst es, e, sh, W, X, G, h => by
    simp only [ckE] at h
    split at h
    · obtain ⟨ts, r⟩ := sndEs es G h
      exact snd_both G.hK (e_lst r.pa) (fun ⟨_, _, _, z⟩ => nomatch z) (fun _ => rfl) rfl rfl
    · cases h
  | .bin op a b, e, sh, W, X, G, h => by
    simp only [ckE] at h
    split at h
    · simp only [Bool.and_eq_true, decide_eq_true_eq] at h
      exact snd_both G.hK (e_bin G.hK h.1 (sndE a G h.2.1).pe (sndE b G h.2.2).pe) (fun ⟨_, _, _, z⟩ => nomatch z) (fun _ => rfl) rfl rfl
    · cases h
  | .neg a, e, sh, W, X, G, h => by
    simp only [ckE] at h
    split at h
    · exact snd_both G.hK (e_neg (sndE a G h).pe) (fun ⟨_, _, _, z⟩ => nomatch z) (fun _ => rfl) rfl rfl
    · cases h
  | .inv a, e, sh, W, X, G, h => by
    simp only [ckE] at h
    split at h
    · have s := sndE a G h
      exact ⟨e_not s.pe, t_not s.pt, fun ⟨_, _, _, z⟩ => nomatch z⟩
    · cases h
  | .and a b, e, sh, W, X, G, h => by
    simp only [ckE] at h
    split at h
    · rename_i x y r p
      rw [Bool.and_eq_true] at h
      have s := sndE a G h.1
      have s2 : PE X (.BoolOp .And (y :: r) p) (lE C W (ev A b false)) ∧ PW X (.BoolOp .And (y :: r) p) (lT C W (ev A b true)) := by
        cases r with
        | nil =>
          have q := sndE b G h.2
          exact ⟨pe_one q.pe, pw_and1 q.pt⟩
        | cons z r =>
          have q := sndE b G h.2
          exact ⟨q.pe, q.pw ⟨_, _, _, rfl⟩⟩
      have w : PW X (.BoolOp .And (x :: y :: r) p) (lT C W (ev A (.and a b) true)) := pw_imp (pw_and s.pt s2.2) fun σ H Q q => q_and q
      exact ⟨pe_imp (pe_and s.pe s2.1) fun σ H Q q => r_and q, w.pt, fun _ => w⟩
    · cases h
  | .or a b, e, sh, W, X, G, h => by
    simp only [ckE] at h
    split at h
    · rename_i x y r p
      rw [Bool.and_eq_true] at h
      have s := sndE a G h.1
      have s2 : PE X (.BoolOp .Or (y :: r) p) (lE C W (ev A b false)) ∧ PW X (.BoolOp .Or (y :: r) p) (lT C W (ev A b true)) := by
        cases r with
        | nil =>
          have q := sndE b G h.2
          exact ⟨pe_one q.pe, pw_or1 q.pt⟩
        | cons z r =>
          have q := sndE b G h.2
          exact ⟨q.pe, q.pw ⟨_, _, _, rfl⟩⟩
      have w : PW X (.BoolOp .Or (x :: y :: r) p) (lT C W (ev A (.or a b) true)) := pw_imp (pw_or s.pt s2.2) fun σ H Q q => q_or q
      exact ⟨pe_imp (pe_or s.pe s2.1) fun σ H Q q => r_or q, w.pt, fun _ => w⟩
    · cases h
  | .cmp op a b, e, sh, W, X, G, h => by
    simp only [ckE] at h
    split at h
    · simp only [Bool.and_eq_true, decide_eq_true_eq, Bool.not_eq_true'] at h
      obtain ⟨rfl, h1, h2, h3⟩ := h
      obtain ⟨z1, z2⟩ := e_cmp G.hK G.un h1 (fun _ => trivial) (sndE a G h2).pe (sndE b G h3).pe
      exact ⟨z1, z2, fun ⟨_, _, _, z⟩ => nomatch z⟩
    · cases h
  | .chn op op' a b c, e, sh, W, X, G, h => by
    simp only [ckE] at h
    split at h
    · simp only [Bool.and_eq_true, decide_eq_true_eq, Bool.not_eq_true'] at h
      obtain ⟨rfl, rfl, h1, h2, h3, h4⟩ := h
      obtain ⟨z1, z2⟩ := e_chn G.hK G.un h1 (sndE a G h2).pe (sndE b G h3).pe (sndE c G h4).pe
      exact ⟨z1, z2, fun ⟨_, _, _, z⟩ => nomatch z⟩
    · cases h
  | .ite c a b, e, sh, W, X, G, h => by
    simp only [ckE] at h
    split at h
    · simp only [Bool.and_eq_true] at h
      have s1 := sndE c G h.1
      have s2 := sndE a G h.2.1
      have s3 := sndE b G h.2.2
      exact ⟨e_ite s1.pt s2.pe s3.pe, t_ite s1.pt s2.pt s3.pt, fun ⟨_, _, _, z⟩ => nomatch z⟩
    · cases h
  | .idx a b, e, sh, W, X, G, h => by
    simp only [ckE] at h
    split at h
    · simp only [Bool.and_eq_true] at h
      exact snd_both G.hK (e_idx G.hK (Nat.lt_of_le_of_lt (Nat.add_le_add_left (by decide : 1 ≤ 64) _) G.un) (ix_eq h.1) (sndE a G h.2.1).pe (sndE b G h.2.2).pe) (fun ⟨_, _, _, z⟩ => nomatch z) (fun _ => rfl) rfl rfl
    · cases h
  | .slc a lo hi, e, sh, W, X, G, h => by
    simp only [ckE] at h
    split at h
    · simp only [Bool.and_eq_true] at h
      exact snd_both G.hK (e_slc G.hK (sndE a G h.1).pe (sndEo lo G h.2.1) (sndEo hi G h.2.2)) (fun ⟨_, _, _, z⟩ => nomatch z) (fun _ => rfl) rfl rfl
    · cases h
  | .call f es, e, sh, W, X, G, h => by
    simp only [ckE] at h
    split at h
    · rw [Bool.and_eq_true] at h
      obtain ⟨hg, ⟨hm, ps, _, F⟩, hd⟩ := G.isG h.1
      obtain ⟨ts, r⟩ := sndEs es G h.2
      exact snd_both G.hK (e_call G.tk G.room0 hg hm F hd r.stars r.zero r.pa) (fun ⟨_, _, _, z⟩ => nomatch z) (fun _ => rfl) rfl rfl
    · cases h
  | .calk f es ks kes, e, sh, W, X, G, h => by
    simp only [ckE] at h
    split at h
    · simp only [Bool.and_eq_true, decide_eq_true_eq] at h
      obtain ⟨h1, h2, h3, h4, h5⟩ := h
      obtain ⟨hg, ⟨hm, ps, ep, F⟩, hd⟩ := G.isG h1
      obtain ⟨ts, r⟩ := sndEs es G h4
      obtain ⟨ts2, r2⟩ := sndEs kes G h5
      refine snd_both G.hK (f := fun env S => (evs A es env S).bind fun vs S => (evs A kes env S).bind fun ws S => (match (A.ps f).bind fun ps => kwArgs ps vs ks ws with
        | some us => A.cl f us S
        | none => .bad)) ?_ (fun ⟨_, _, _, z⟩ => nomatch z) (fun _ => rfl) rfl rfl
      rw [ep]
      exact e_calk G.tk G.room0 hg hm F h3 h2 hd r.stars r.zero r.len r.pa (pk_of r2)
    · cases h
  | .bi b es, e, sh, W, X, G, h => by
    simp only [ckE] at h
    split at h
    · simp only [Bool.and_eq_true, decide_eq_true_eq] at h
      obtain ⟨h1, rfl, h3, h4⟩ := h
      obtain ⟨hg, hm, hd⟩ := G.isG h3
      obtain ⟨ts, r⟩ := sndEs es G h4
      exact snd_both G.hK (e_bi G.hK G.calm h1 hg hm r.stars r.pa) (fun ⟨_, _, _, z⟩ => nomatch z) (fun _ => rfl) rfl rfl
    · cases h
  | .isi a t, e, sh, W, X, G, h => by
    simp only [ckE] at h
    split at h
    · simp only [Bool.and_eq_true, decide_eq_true_eq] at h
      obtain ⟨rfl, rfl, h3, h4, h5, h6⟩ := h
      obtain ⟨hg, hm, _⟩ := G.isG h3
      obtain ⟨hg2, hm2, _⟩ := G.isG h4
      exact snd_both G.hK (e_isi G.hK hg hm hg2 hm2 h5 (sndE a G h6).pe) (fun ⟨_, _, _, z⟩ => nomatch z) (fun _ => rfl) rfl rfl
    · cases h
  | .meth m o es, e, sh, W, X, G, h => by
    simp only [ckE] at h
    split at h
    · simp only [Bool.and_eq_true, Bool.or_eq_true, decide_eq_true_eq] at h
      obtain ⟨h1, rfl, h3, h4, h5, h6⟩ := h
      obtain ⟨ts, r⟩ := sndEs es G h6
      have hs := r.stars
      rw [List.all_cons, Bool.and_eq_true] at hs
      exact snd_both G.hK (e_meth G.hK h1 h3 h4 hs.1 (sndE o G h5).pe r.pa) (fun ⟨_, _, _, z⟩ => nomatch z) (fun _ => rfl) rfl rfl
    · cases h
  | .fld o x, e, sh, W, X, G, h => by
    simp only [ckE] at h
    split at h
    · simp only [Bool.and_eq_true, decide_eq_true_eq] at h
      obtain ⟨rfl, h3, h4⟩ := h
      exact snd_both G.hK (e_fld G.hK h3 G.fl (sndE o G h4).pe) (fun ⟨_, _, _, z⟩ => nomatch z) (fun _ => rfl) rfl rfl
    · cases h
  | .new c es, e, sh, W, X, G, h => by
    simp only [ckE] at h
    split at h
    · rw [Bool.and_eq_true] at h
      obtain ⟨hg, ⟨hm, hf⟩, hd⟩ := G.isG h.1
      obtain ⟨ts, r⟩ := sndEs es G h.2
      refine snd_both G.hK (f := fun env S => (evs A es env S).bind fun vs S => newI c ((A.mkr c).map fun f => A.cl f (.ref S.length :: vs) (S ++ [.ins c []])) S.length) ?_ (fun ⟨_, _, _, z⟩ => nomatch z) (fun _ => rfl) rfl rfl
      obtain ⟨f, e1, hM, ps, kws, F⟩ := hf
      rw [e1]
      exact e_new G.hK G.tk G.room hg hm hM F hd r.stars r.zero r.pa
    · cases h
  | .mca m o es, e, sh, W, X, G, h => by
    simp only [ckE] at h
    split at h
    · simp only [Bool.and_eq_true, decide_eq_true_eq] at h
      obtain ⟨rfl, h2, h3, h4, h5, h6⟩ := h
      obtain ⟨ts, r⟩ := sndEs es G h6
      exact snd_both G.hK (e_mca G.hK G.tk G.room0 h2 h3 h4 r.stars r.zero (fun c f => G.mt c _ f) (sndE o G h5).pe r.pa) (fun ⟨_, _, _, z⟩ => nomatch z) (fun _ => rfl) rfl rfl
    · cases h
  | .dct ks es, e, sh, W, X, G, h => by
    simp only [ckE] at h
    split at h
    · simp only [Bool.and_eq_true, decide_eq_true_eq] at h
      obtain ⟨h1, h2, h3, h4, h5⟩ := h
      obtain ⟨ts, r⟩ := sndEs es G h5
      exact snd_both G.hK (e_dct h1 h2 (fun z => by rw [z] at h3; cases h3) h4 r) (fun ⟨_, _, _, z⟩ => nomatch z) (fun _ => rfl) rfl rfl
    · cases h
  | .comp own tg elt src c, e, sh, W, X, G, h => by
    simp only [ckE] at h
    split at h
    · rename_i scope _
      simp only [Bool.and_eq_true, decide_eq_true_eq] at h
      obtain ⟨h1, h2, h3, h4, h5, h6, h7, h8⟩ := h
      have ok := blkOk_by h1
      rw [← G.hN, ← G.sc] at ok
      rw [← G.hN] at h2
      exact snd_both G.hK (e_comp G.calm G.nd2 (sndSr src G h6) ok h2 h3 (fun s H B cl fp => sndT (G.blk scope s H B cl fp) h4) (fun s H B cl fp => sndC c (G.blk scope s H B cl fp) h7) (fun s H B cl fp => (sndE elt (G.blk scope s H B cl fp) h8).pe) (fold_eq h5 _))
        (fun ⟨_, _, _, z⟩ => nomatch z) (fun _ => rfl) rfl rfl
    · cases h
  | .lam g a, e, sh, W, X, G, h => by
    simp only [ckE] at h
    split at h
    · simp only [Bool.and_eq_true] at h
      obtain ⟨h1, h2, h3, h4⟩ := h
      exact snd_both G.hK (e_lam G h1 h2 h3 fun Aa outer s H E fa c' hr => (sndE a (G.lamb _ Aa outer s H E fa c' hr) h4).pe) (fun ⟨_, _, _, z⟩ => nomatch z) (fun _ => rfl) rfl rfl
    · cases h
theorem sndEs : ∀ (m : Es) {l : List Expr} {sh : Sh} {W : WX} {X : Cx}, Gd C A k sh W X → ckEs sh m l = true → ∃ ts, VsOk C W X l ts (evs A m)
  | .nil, l, sh, W, X, G, h => by
    simp only [ckEs] at h
    split at h
    · exact ⟨_, .nil⟩
    · cases h
  | .cons a es, l, sh, W, X, G, h => by
    simp only [ckEs] at h
    split at h
    · simp only [Bool.and_eq_true] at h
      obtain ⟨ts, r⟩ := sndEs es G h.2.2
      exact ⟨_, .cons h.1 (sndE a G h.2.1).pe r⟩
    · cases h
theorem sndEo : ∀ (m : Eo) {e : Option Expr} {sh : Sh} {W : WX} {X : Cx}, Gd C A k sh W X → ckEo sh m e = true → PO X e (lO C W (evo A m))
  | .no, e, sh, W, X, G, h => by
    simp only [ckEo] at h
    split at h
    · exact o_no
    · cases h
  | .so a, e, sh, W, X, G, h => by
    simp only [ckEo] at h
    split at h
    · exact o_so (sndE a G h).pe
    · cases h
theorem sndC : ∀ (m : Eo) {l : List Expr} {sh : Sh} {W : WX} {X : Cx}, Gd C A k sh W X → ckC sh m l = true → PTs X l (lT C W (evc A m))
  | .no, l, sh, W, X, G, h => by
    simp only [ckC] at h
    split at h
    · refine ⟨fun pins s σ H Q I q => pts_nil.run pins s σ H Q I ?_⟩
      obtain ⟨φ, env, S, a, p⟩ := q
      obtain ⟨b, e, q⟩ := p φ H (.bl true) Le.refl a.rs (.bl true)
      cases e
      exact q
    · cases h
  | .so a, l, sh, W, X, G, h => by
    simp only [ckC] at h
    split at h
    · exact pts_one (sndE a G h).pt
    · cases h
theorem sndSr : ∀ (m : Sr) {t e : Expr} {sh : Sh} {W : WX} {X : Cx}, Gd C A k sh W X → ckSr sh m t e = true → PI X t e (lI C W (evr A m))
  | .seq a, t, e, sh, W, X, G, h => by
    simp only [ckSr] at h
    exact i_seq G.hK (sndE a G h).pe
  | .rng1 a, t, e, sh, W, X, G, h => by
    simp only [ckSr] at h
    split at h
    · simp only [Bool.and_eq_true, decide_eq_true_eq] at h
      obtain ⟨rfl, h2, h3, h4⟩ := h
      obtain ⟨hg, hm, _⟩ := G.isG h2
      exact i_rng1 hg hm h3 (sndE a G h4).pe
    · cases h
  | .rng2 a b, t, e, sh, W, X, G, h => by
    simp only [ckSr] at h
    split at h
    · simp only [Bool.and_eq_true, decide_eq_true_eq] at h
      obtain ⟨rfl, h2, h3, h4, h5, h6⟩ := h
      obtain ⟨hg, hm, _⟩ := G.isG h2
      exact i_rng2 hg hm h3 h4 (sndE a G h5).pe (sndE b G h6).pe
    · cases h
  | .enm a, t, e, sh, W, X, G, h => by
    simp only [ckSr] at h
    split at h
    · simp only [Bool.and_eq_true, decide_eq_true_eq] at h
      obtain ⟨h1, rfl, h2, h3, h4⟩ := h
      obtain ⟨hg, hm, _⟩ := G.isG h2
      cases t with
      | Tuple es k p => exact i_enm G.hK hg hm h3 (sndE a G h4).pe
      | _ => cases h1
    · cases h
  | .zip a b, t, e, sh, W, X, G, h => by
    simp only [ckSr] at h
    split at h
    · simp only [Bool.and_eq_true, decide_eq_true_eq] at h
      obtain ⟨h1, rfl, h2, h3, h4, h5, h6⟩ := h
      obtain ⟨hg, hm, _⟩ := G.isG h2
      cases t with
      | Tuple es k p => exact i_zip G.hK hg hm h3 h4 (sndE a G h5).pe (sndE b G h6).pe
      | _ => cases h1
    · cases h
end
end Mi
end

section
set_option Elab.async false
set_option linter.all false
set_option maxRecDepth 100000
set_option maxHeartbeats 8000000
/-! Mi: statements: readings. -/
namespace Mi
open PySem PySem.Spec L2
open PyProof.Rows hiding St
/-- what is wished of an exception, whatever the slots -/
abbrev wE (E : XK) : WX := fun cls d _ H => E cls d H
def PostS (C : Cn) (E : XK) (φ : List Addr) (H : Hp) (D : Ends) : M (Fl × Env1) → Prop
  | .ok (.nx, env) S => ∀ φ' H' σ', Le φ H φ' H' → At C φ' env S σ' H' → D.nx σ' H'
  | .ok (.ret v, _) S => ∀ φ' H' x, Le φ H φ' H' → RS C φ' H' S → R C.K φ' H' v x → D.rt x H'
  | .ok (.brk, env) S => ∀ φ' H' σ', Le φ H φ' H' → At C φ' env S σ' H' → D.bk σ' H'
  | .ok (.cnt, env) S => ∀ φ' H' σ', Le φ H φ' H' → At C φ' env S σ' H' → D.ct σ' H'
  | .exc c v S => ∀ φ' H' cls d, Le φ H φ' H' → RS C φ' H' S → ExR C φ' H' c v cls d → E cls d H'
  | .bad => False
/-- a statement's reading -/
def lS (C : Cn) (E : XK) (f : Env1 → Sto → M (Fl × Env1)) : TS := fun D σ H => ∃ φ env S, At C φ env S σ H ∧ PostS C E φ H D (f env S)
section
variable {C : Cn} {E : XK} {X : Cx} {φ φ' : List Addr} {H H' : Hp} {D : Ends} {σ : St} {S : Sto} {env : Env1}
theorem PostS.mono {m : M (Fl × Env1)} (l : Le φ H φ' H') (h : PostS C E φ H D m) : PostS C E φ' H' D m := by
  cases m with
  | ok r S =>
    obtain ⟨f, env⟩ := r
    cases f with
    | nx => exact fun φ2 H2 σ2 l2 a => h φ2 H2 σ2 (l.trans l2) a
    | ret v => exact fun φ2 H2 x l2 r q => h φ2 H2 x (l.trans l2) r q
    | brk => exact fun φ2 H2 σ2 l2 a => h φ2 H2 σ2 (l.trans l2) a
    | cnt => exact fun φ2 H2 σ2 l2 a => h φ2 H2 σ2 (l.trans l2) a
  | exc c v S => exact fun φ2 H2 cls d l2 r q => h φ2 H2 cls d (l.trans l2) r q
  | bad => exact h
theorem PostS.bind {α β : Type} {Rel : List Addr → Hp → α → β → Prop} {m : M α} {kk : α → Sto → M (Fl × Env1)} {Q : β → Hp → Prop} (a : At C φ env S σ H) (h : PostS C E φ H D (m.bind kk))
    (n : ∀ φ1 H1 v S1 x, Le φ H φ1 H1 → At C φ1 env S1 σ H1 → Rel φ1 H1 v x → PostS C E φ1 H1 D (kk v S1) → Q x H1) : Post C (wE E) Rel φ H σ Q m := by
  cases m with
  | ok v S1 => exact fun φ1 H1 x l r q => n φ1 H1 v S1 x l (a.with l r) q (PostS.mono l h)
  | exc c v S1 => exact h
  | bad => exact h
theorem ps_imp {st : Stmt} {t t' : TS} (h : PS X st t) (i : ∀ D σ H, t' D σ H → t D σ H) : PS X st t' := ⟨fun pins s σ H D I w => h.run pins s σ H D I (i D σ H w)⟩
theorem pss_imp {st : List Stmt} {t t' : TS} (h : PSs X st t) (i : ∀ D σ H, t' D σ H → t D σ H) : PSs X st t' := ⟨fun pins s σ H D I w => h.run pins s σ H D I (i D σ H w)⟩
theorem PostS.nx {σ' : St} (h : PostS C E φ H D (.ok (.nx, env) S)) (a : At C φ env S σ' H) : D.nx σ' H := h φ H σ' Le.refl a

variable {f g : Env1 → Sto → M PV} {fs : Env1 → Sto → M (List PV)} {e o i : Expr} {es : List Expr} {pos p : Pos} {x : Str} {st : Stmt} {sts : List Stmt} {fa fb : Env1 → Sto → M (Fl × Env1)}
/-! ### rows of statements -/
theorem ss_nil : PSs X [] (lS C E fun env S => .ok (.nx, env) S) := pss_imp pss_nil fun D σ H ⟨φ, env, S, a, q⟩ => q.nx a
theorem ss_cons (h1 : PS X st (lS C E fa)) (h2 : PSs X sts (lS C E fb)) : PSs X (st :: sts) (lS C E fun env S => (fa env S).bind (seqK fb)) := pss_imp (pss_cons h1 h2) fun D σ H ⟨φ, env, S, a, q⟩ => by
  refine ⟨φ, env, S, a, ?_⟩
  dsimp only at q
  cases e1 : fa env S with
  | ok r S1 =>
    rw [e1] at q
    obtain ⟨fl, env1⟩ := r
    cases fl with
    | nx => exact fun φ1 H1 σ1 l a1 => ⟨φ1, env1, S1, a1, PostS.mono l q⟩
    | ret v => exact q
    | brk => exact q
    | cnt => exact q
  | exc c v S1 => rw [e1] at q; exact q
  | bad => rw [e1] at q; exact q

/-! ### plain ones -/
theorem s_exp (hs : swapsWith e none pos.line X.env = pure false) (h : PE X e (lE C (wE E) f)) : PS X (.Expr e pos) (lS C E fun env S => (f env S).bind fun _ S => .ok (.nx, env) S) := ps_imp (ps_expr h hs) fun D σ H ⟨φ, env, S, a, q⟩ =>
  ⟨φ, env, S, a, PostS.bind a q fun φ1 H1 v S1 x l a1 _ p => p.nx a1⟩
theorem s_ret (h : PE X e (lE C (wE E) f)) : PS X (.Return (some e) pos) (lS C E fun env S => (f env S).bind fun v S => .ok (.ret v, env) S) := ps_imp (ps_ret h) fun D σ H ⟨φ, env, S, a, q⟩ =>
  ⟨φ, env, S, a, PostS.bind a q fun φ1 H1 v S1 x l a1 r p => p φ1 H1 x Le.refl a1.rs r⟩
theorem s_retN : PS X (.Return none pos) (lS C E fun env S => .ok (.ret .non, env) S) := ps_imp ps_retN fun D σ H ⟨φ, env, S, a, q⟩ => q φ H .non Le.refl a.rs .non
theorem s_pass : PS X (.Pass pos) (lS C E fun env S => .ok (.nx, env) S) := ps_imp ps_pass fun D σ H ⟨φ, env, S, a, q⟩ => q.nx a
theorem s_brk : PS X (.Break pos) (lS C E fun env S => .ok (.brk, env) S) := ps_imp ps_break fun D σ H ⟨φ, env, S, a, q⟩ => q φ H σ Le.refl a
theorem s_cnt : PS X (.Continue pos) (lS C E fun env S => .ok (.cnt, env) S) := ps_imp ps_continue fun D σ H ⟨φ, env, S, a, q⟩ => q φ H σ Le.refl a
theorem s_if {b1 b2 : List Stmt} (h : PT X e (lT C (wE E) f)) (h1 : PSs X b1 (lS C E fa)) (h2 : PSs X b2 (lS C E fb)) : PS X (.If e b1 b2 pos) (lS C E fun env S => (f env S).bind (ifK (fa env) (fb env))) := ps_imp (ps_if h h1 h2) fun D σ H ⟨φ, env, S, a, q⟩ =>
  ⟨φ, env, S, a, PostS.bind a q fun φ1 H1 v S1 x l a1 r p => by
    cases r with
    | bl k =>
      refine ⟨k, rfl, ?_⟩
      cases k with
      | true => exact iteT ⟨φ1, env, S1, a1, p⟩
      | false => exact iteF ⟨φ1, env, S1, a1, p⟩
    | _ => exact (show False from p).elim⟩

/-! ### stores -/
theorem put_read {tg : List Nat} {v : PV} {x : V} (a : At C φ env S σ H) (r : R C.K φ H v x) (q : PostS C E φ H D (putK1 tg env v S)) : lG C tg x σ H D.nx := by
  unfold putK1 at q
  cases e : putT env tg v with
  | none => rw [e] at q; exact (show False from q).elim
  | some env' => rw [e] at q; exact ⟨φ, env, S, v, env', a, r, e, fun σ' a' _ => q φ H σ' Le.refl a'⟩
theorem s_set {j : Nat} (hN : X.N.Nodup) (hi : X.N[j]? = some x) (hx : Loc X.env.scope x) (hf : X.fn x = true ∨ X.env.scope.names.lookup x = some .local) (hs : swapsWith e (some (.Name x p)) pos.line X.env = pure false) (h : PE X e (lE C (wE E) f)) :
    PS X (.Assign [.Name x p] e pos) (lS C E fun env S => (f env S).bind (putK1 [j] env)) := ps_imp (ps_set hN hi hx h hs hf) fun D σ H ⟨φ, env, S, a, q⟩ =>
  ⟨φ, env, S, a, PostS.bind a q fun φ1 H1 v S1 y l a1 r p => by
    obtain ⟨φ2, env2, S2, w, env', a2, r2, e2, k2⟩ := put_read a1 r p
    have e3 : setAll env2 [j] [w] = some env' := e2
    obtain ⟨v2, rr, z1, z2⟩ := setAll_cons e3
    cases z1
    cases (show some (env2.set j (some w)) = some env' from z2)
    exact k2 _ (a2.set j r2) fun vs hv => wipe_set (hv j (by simp))⟩
theorem lG_name {j : Nat} {y : V} {Q : St → Hp → Prop} (h : lG C [j] y σ H Q) : gName j y σ H Q := by
  obtain ⟨φ2, env2, S2, w, env', a2, r2, e2, k2⟩ := h
  have e3 : setAll env2 [j] [w] = some env' := e2
  obtain ⟨v2, rr, z1, z2⟩ := setAll_cons e3
  cases z1
  cases (show some (env2.set j (some w)) = some env' from z2)
  exact k2 _ (a2.set j r2) fun vs hv => wipe_set (hv j (by simp))
theorem s_tup {tg : List Nat} {t : Expr} (hg : PG X t (lG C tg)) (hs : swapsWithSole [t] e pos.line X.env = pure false) (hw : swappedStores [t] e X.env = pure none) (h1 : (assignEach [t] X.env).map (·.2) = [assign t X.env]) (h : PE X e (lE C (wE E) f)) :
    PS X (.Assign [t] e pos) (lS C E fun env S => (f env S).bind (putK1 tg env)) := ps_imp (ps_asg h hg hs hw h1) fun D σ H ⟨φ, env, S, a, q⟩ =>
  ⟨φ, env, S, a, PostS.bind a q fun φ1 H1 v S1 y l a1 r p => put_read a1 r p⟩
theorem s_par2 {j1 j2 : Nat} {x1 x2 : Str} {a b : Expr} {px py pt pt2 : Pos} {kt k2 : Nat} (hc : X.calm = true) (hN : X.N.Nodup) (h1 : X.N[j1]? = some x1) (h2 : X.N[j2]? = some x2) (hij : j1 ≠ j2) (hx : X.env.scope.names.lookup x1 = some .local) (hy : X.env.scope.names.lookup x2 = some .local)
    (hw : swappedStores [.Tuple [.Name x1 px, .Name x2 py] kt pt] (.Tuple [a, b] k2 pt2) X.env = pure (some [x1, x2])) (ha : PA X [a, b] (lA C (wE E) fs)) :
    PS X (.Assign [.Tuple [.Name x1 px, .Name x2 py] kt pt] (.Tuple [a, b] k2 pt2) pos) (lS C E fun env S => (fs env S).bind (parK [j1, j2] env)) := ps_imp (ps_par hc hN h1 h2 hij hx hy ha hw) fun D σ H ⟨φ, env, S, a, q⟩ =>
  ⟨φ, env, S, a, PostS.bind a q fun φ1 H1 v S1 y l a1 r p => by
    unfold parK at p
    cases e : setAll env [j1, j2] v with
    | none => rw [e] at p; exact (show False from p).elim
    | some env' =>
      rw [e] at p
      obtain ⟨v1, r1, rfl, e2⟩ := setAll_cons e
      obtain ⟨v2, r2, rfl, e3⟩ := setAll_cons e2
      cases r2 with
      | cons _ _ => cases e3
      | nil =>
        cases e3
        obtain ⟨y1, y2, rfl, q1, q2⟩ := ra2 r
        exact ⟨y1, y2, rfl, p.nx ((a1.set j1 q1).set j2 q2)⟩⟩
theorem s_par3 {j1 j2 j3 : Nat} {x1 x2 x3 : Str} {a b c : Expr} {px py pz pt pt2 : Pos} {kt k2 : Nat} (hc : X.calm = true) (hN : X.N.Nodup) (h1 : X.N[j1]? = some x1) (h2 : X.N[j2]? = some x2) (h3 : X.N[j3]? = some x3) (h12 : j1 ≠ j2) (h13 : j1 ≠ j3) (h23 : j2 ≠ j3)
    (hx : X.env.scope.names.lookup x1 = some .local) (hy : X.env.scope.names.lookup x2 = some .local) (hz : X.env.scope.names.lookup x3 = some .local)
    (hw : swappedStores [.Tuple [.Name x1 px, .Name x2 py, .Name x3 pz] kt pt] (.Tuple [a, b, c] k2 pt2) X.env = pure (some [x1, x2, x3])) (ha : PA X [a, b, c] (lA C (wE E) fs)) :
    PS X (.Assign [.Tuple [.Name x1 px, .Name x2 py, .Name x3 pz] kt pt] (.Tuple [a, b, c] k2 pt2) pos) (lS C E fun env S => (fs env S).bind (parK [j1, j2, j3] env)) := ps_imp (ps_par3 hc hN h1 h2 h3 h12 h13 h23 hx hy hz ha hw) fun D σ H ⟨φ, env, S, a, q⟩ =>
  ⟨φ, env, S, a, PostS.bind a q fun φ1 H1 v S1 y l a1 r p => by
    unfold parK at p
    cases e : setAll env [j1, j2, j3] v with
    | none => rw [e] at p; exact (show False from p).elim
    | some env' =>
      rw [e] at p
      obtain ⟨v1, r1, rfl, e2⟩ := setAll_cons e
      obtain ⟨v2, r2, rfl, e3⟩ := setAll_cons e2
      obtain ⟨v3, r3, rfl, e4⟩ := setAll_cons e3
      cases r3 with
      | cons _ _ => cases e4
      | nil =>
        cases e4
        cases r with
        | @cons _ y1 _ _ q1 r =>
          obtain ⟨y2, y3, rfl, q2, q3⟩ := ra2 r
          exact ⟨y1, y2, y3, rfl, p.nx (((a1.set j1 q1).set j2 q2).set j3 q3)⟩⟩
theorem s_aug {j : Nat} {op : Operator} {bo : BOp} (hN : X.N.Nodup) (hi : X.N[j]? = some x) (hx : Loc X.env.scope x) (hf : X.fn x = true ∨ X.env.scope.names.lookup x = some .local) (ho : (op = .Add ∧ bo = .add) ∨ (op = .Sub ∧ bo = .sub)) (h : PE X e (lE C (wE E) f)) :
    PS X (.AugAssign (.Name x p) op e pos) (lS C E fun env S => (match env[j]? with
      | some (some x) => (f env S).bind fun y S => (opA bo x y S).bind fun z S => .ok (.nx, env.set j (some z)) S
      | _ => .bad)) := by
  have key : ∀ {w : PV} {y : V} {v : PV} {x : V} {kk : Int → Int → Int} {φ1 : List Addr} {H1 : Hp} {S1 : Sto} {env : Env1} {D : Ends} {σ : St}, At C φ1 env S1 σ H1 → R C.K φ1 H1 w y → R C.K φ1 H1 v x → (∀ i j S, opA bo (.int i) (.int j) S = .ok (.int (kk i j)) S) → PostS C E φ1 H1 D ((opA bo v w S1).bind fun z S => .ok (.nx, env.set j (some z)) S) →
      ∃ i j', x = .int i ∧ y = .int j' ∧ D.nx (σ.set j (some (.int (kk i j')))) H1 := fun {w y v x kk φ1 H1 S1 env D σ} a1 rw_ rv ek p => by
    have bad : ∀ {v w : PV}, (∀ i j, ¬ (v = .int i ∧ w = .int j)) → opA bo v w S1 = .bad := fun {v w} hn => by
      unfold opA
      cases bo <;> cases v <;> cases w <;> first | rfl | exact absurd ⟨rfl, rfl⟩ (hn _ _)
    cases rv with
    | int i =>
      cases rw_ with
      | int j' =>
        rw [ek] at p
        exact ⟨i, j', rfl, rfl, p.nx (a1.set j (.int _))⟩
      | _ => rw [bad (fun _ _ z => by cases z.2)] at p; exact (show False from p).elim
    | _ => rw [bad (fun _ _ z => by cases z.1)] at p; exact (show False from p).elim
  have read : ∀ {kk : Int → Int → Int}, (∀ i j S, opA bo (.int i) (.int j) S = .ok (.int (kk i j)) S) → ∀ D σ H, lS C E (fun env S => (match env[j]? with
      | some (some x) => (f env S).bind fun y S => (opA bo x y S).bind fun z S => .ok (.nx, env.set j (some z)) S
      | _ => .bad)) D σ H → tAug j (lE C (wE E) f) (ipI kk) D σ H := fun {kk} ek D σ H ⟨φ, env, S, a, q⟩ => by
    dsimp only at q
    cases e1 : env[j]? with
    | none => rw [e1] at q; exact (show False from q).elim
    | some ov =>
      cases ov with
      | none => rw [e1] at q; exact (show False from q).elim
      | some v =>
        rw [e1] at q
        obtain ⟨x, e2, r⟩ := a.loc e1
        refine ⟨x, e2, φ, env, S, a, PostS.bind a q fun φ1 H1 w S1 y l a1 rw_ p => ?_⟩
        exact key a1 rw_ (r.mono l) ek p
  rcases ho with ⟨rfl, rfl⟩ | ⟨rfl, rfl⟩
  · exact ps_imp (ps_aug hN hi hx h ip_add hf) (read fun _ _ _ => rfl)
  · exact ps_imp (ps_aug hN hi hx h ip_sub hf) (read fun _ _ _ => rfl)
theorem s_idx (hK : X.K = C.K) (hu : X.A.units + 1 < cLine) (hi : noSlice i = true) (hs : swapsWithSole [.Subscript o i p] e pos.line X.env = pure false) (hw : swappedStores [.Subscript o i p] e X.env = pure none)
    (ho : PE X o (lE C (wE E) g)) {gi : Env1 → Sto → M PV} (hi2 : PE X i (lE C (wE E) gi)) (h : PE X e (lE C (wE E) f)) :
    PS X (.Assign [.Subscript o i p] e pos) (lS C E fun env S => (f env S).bind fun v S => (g env S).bind fun ov S => (gi env S).bind fun iv S => setIK env ov iv v S) := by
  have hg : PG X (.Subscript o i p) (gSub (lE C (wE E) g) (lE C (wE E) gi) rS2) := by
    refine pg_sub ho hi2 (set_all hu) fun v => ?_
    cases i with
    | Slice l u st pp =>
      cases st with
      | none => cases hi
      | some _ => rfl
    | _ => rfl
  refine ps_imp (ps_asg h hg hs hw rfl) fun D σ H ⟨φ, env, S, a, q⟩ => ?_
  exact ⟨φ, env, S, a, PostS.bind a q fun φ1 H1 v S1 y l a1 r p1 => ⟨φ1, env, S1, a1, PostS.bind a1 p1 fun φ2 H2 ov S2 yo l2 a2 ro p2 => ⟨φ2, env, S2, a2, PostS.bind a2 p2 fun φ3 H3 iv S3 yi l3 a3 ri p3 =>
    setI_ok (W := wE E) (Qu := fun _ H' => D.nx σ H') a3 (ro.mono l3) ri ((r.mono l2).mono l3) (PostS.bind a3 p3 fun φ4 H4 _ S4 _ l4 a4 _ p4 => p4.nx a4)⟩⟩⟩
theorem s_fld {fl : Nat → Str → Bool} (hK : X.K = C.K) (hfl : ∀ c x, fl c x = true → Cls C.K (C.ca c) ∧ NoAttr C.K (C.ca c) x) (hs : swapsWith e (some (.Attribute o x p)) pos.line X.env = pure false) (ho : PE X o (lE C (wE E) g)) (h : PE X e (lE C (wE E) f)) :
    PS X (.Assign [.Attribute o x p] e pos) (lS C E fun env S => (f env S).bind fun v S => (g env S).bind fun ov S => setFK fl x env ov v S) := by
  have z := ps_fld (pos := pos) (pos' := p) (f := x) ho h hs
  rw [hK] at z
  refine ps_imp z fun D σ H ⟨φ, env, S, a, q⟩ => ?_
  refine ⟨φ, env, S, a, PostS.bind a q fun φ1 H1 v S1 y l a1 r p1 => ⟨φ1, env, S1, a1, PostS.bind a1 p1 fun φ2 H2 ov S2 yo l2 a2 ro p2 => ?_⟩⟩
  have r2 := r.mono l2
  unfold setFK at p2
  cases ov with
  | ref n =>
    have p3 : PostS C E φ2 H2 D ((match S2[n]? with
      | some (.ins c fs) => if fl c x && decide (fs.length < 100) then M.ok () (S2.set n (.ins c (putD x v fs))) else .bad
      | _ => .bad).bind fun _ S => .ok (.nx, env) S) := p2
    cases e1 : S2[n]? with
    | none => rw [e1] at p3; exact (show False from p3).elim
    | some ob =>
      rw [e1] at p3
      cases ob with
      | ins c fs =>
        have p4 : PostS C E φ2 H2 D ((if fl c x && decide (fs.length < 100) then M.ok () (S2.set n (.ins c (putD x v fs))) else .bad).bind fun _ S => .ok (.nx, env) S) := p3
        by_cases c2 : (fl c x && decide (fs.length < 100)) = true
        · rw [if_pos c2] at p4
          rw [Bool.and_eq_true, decide_eq_true_eq] at c2
          obtain ⟨ad, dx, ws, rfl, hn, h1, h2⟩ := insAt a2.rs ro e1
          obtain ⟨g1, g2⟩ := hfl c x c2.1
          have le : Le φ2 H2 φ2 (upd H2 ad (.ins (C.ca c) dx (putF x y ws))) := Le.upd fun o z => by rw [h1] at z; cases z; exact id
          have hl : ws.length < 1000 := by rw [← h2.len]; omega
          refine ⟨ad, _, dx, ws, rfl, h1, g1, g2, hl, p4 φ2 _ σ le (a2.with le ?_)⟩
          exact a2.rs.set hn h1 id (fun ps z => by cases z) (a2.rs.noKb e1 fun l z => by cases z) ⟨dx, _, upd_same, KRw.mono (C := C) le (putF_putD x r2 h2)⟩
        · rw [if_neg c2] at p4; exact (show False from p4).elim
      | _ => exact (show False from p3).elim
  | _ => exact (show False from p2).elim
end
end Mi
end

section
set_option Elab.async false
set_option linter.all false
set_option maxRecDepth 100000
set_option maxHeartbeats 8000000
/-! Mi: loops, raise, try: readings. -/
namespace Mi
open PySem PySem.Spec L2
open PyProof.Rows hiding St
section
variable {C : Cn} {E : XK} {X : Cx}
/-! ### for, while -/
theorem s_for {tgE iter : Expr} {body : List Stmt} {tg : List Nat} {fr : Env1 → Sto → M Wk} {fb : Env1 → Sto → M (Fl × Env1)} {pos : Pos} (hp : PassesOwn (model X.prog X.w) X.A X.env X.xe) (hc : X.calm = true) (hi : PI X tgE iter (lI C (wE E) fr)) (hg : PG X tgE (lG C tg)) (hb : PSs X body (lS C E fb))
    (hs : ∀ x, foldedSetIterable iter X.env x = pure x) : PS X (.For tgE iter body [] pos) (lS C E fun env S => (fr env S).bind fun w S => loopF fb tg w (w.len S) 0 env S) := by
  refine ps_imp (ps_for hp hc hi hg hb hs) fun D σ H ⟨φ, env, S, a, q⟩ => ?_
  refine ⟨φ, env, S, a, PostS.bind a q fun φ1 H1 w S1 J l a1 wk p1 => ?_⟩
  refine ⟨fun i m σ H => ∃ φ env S, Le φ1 H1 φ H ∧ At C φ env S σ H ∧ PostS C E φ H D (loopF fb tg w m i env S), ⟨w.len S1, φ1, env, S1, Le.refl, a1, p1⟩, ?_⟩
  rintro i m σ2 H2 ⟨φ2, env2, S2, l2, a2, p2⟩
  have wk2 := wk φ2 H2 S2 l2 a2.rs i
  unfold loopF at p2
  cases e1 : w.at S2 i with
  | none => rw [e1] at p2; exact (show False from p2).elim
  | some ov =>
    rw [e1] at p2
    cases ov with
    | none => exact .inl ⟨wk2.1 e1, PostS.nx p2 a2⟩
    | some v =>
      cases m with
      | zero => exact (show False from p2).elim
      | succ m =>
        have p3 : PostS C E φ2 H2 D (match putT env2 tg v with
          | none => .bad
          | some env => (fb env S2).bind fun r S => match r with
            | (.nx, env) => loopF fb tg w m (i + 1) env S
            | (.cnt, env) => loopF fb tg w m (i + 1) env S
            | (.brk, env) => .ok (.nx, env) S
            | (.ret v, env) => .ok (.ret v, env) S) := p2
        cases e2 : putT env2 tg v with
        | none => rw [e2] at p3; exact (show False from p3).elim
        | some env' =>
          rw [e2] at p3
          dsimp only at p3
          obtain ⟨go, yl⟩ := wk2.2 v e1
          refine .inr ⟨go, fun σ' H' => ∃ φ env S, Le φ1 H1 φ H' ∧ At C φ env S σ' H' ∧ PostS C E φ H' D (loopF fb tg w m (i + 1) env S), fun σ' H' h => ⟨m, Nat.lt_succ_self _, h⟩, fun x H3 hy => ?_⟩
          obtain ⟨φ3, l3, r3, rv⟩ := yl x H3 hy
          refine ⟨φ3, env2, S2, v, env', a2.with l3 r3, rv, e2, fun σ' a' _ => ⟨φ3, env', S2, a', ?_⟩⟩
          cases e3 : fb env' S2 with
          | ok r S4 =>
            rw [e3] at p3
            obtain ⟨fl, env4⟩ := r
            cases fl with
            | nx => exact fun φ4 H4 σ4 l4 a4 => ⟨φ4, env4, S4, (l2.trans l3).trans l4, a4, PostS.mono (l3.trans l4) p3⟩
            | cnt => exact fun φ4 H4 σ4 l4 a4 => ⟨φ4, env4, S4, (l2.trans l3).trans l4, a4, PostS.mono (l3.trans l4) p3⟩
            | brk => exact fun φ4 H4 σ4 l4 a4 => p3 φ4 H4 σ4 (l3.trans l4) a4
            | ret v => exact fun φ4 H4 y l4 r4 rv => p3 φ4 H4 y (l3.trans l4) r4 rv
          | exc c v S4 =>
            rw [e3] at p3
            exact fun φ4 H4 cls d l4 r4 x4 => p3 φ4 H4 cls d (l3.trans l4) r4 x4
          | bad => rw [e3] at p3; exact (show False from p3).elim
theorem s_whl {c : Expr} {body : List Stmt} {f : Env1 → Sto → M PV} {fb : Env1 → Sto → M (Fl × Env1)} {pos : Pos} {n : Nat} (hp : PassesOwn (model X.prog X.w) X.A X.env X.xe) (hc : PT X c (lT C (wE E) f)) (hb : PSs X body (lS C E fb)) :
    PS X (.While c body [] pos) (lS C E fun env S => loopW f fb n env S) := by
  refine ps_imp (ps_while hp hc hb) fun D σ H ⟨φ, env, S, a, q⟩ => ?_
  refine ⟨fun m σ H => ∃ φ env S, At C φ env S σ H ∧ PostS C E φ H D (loopW f fb m env S), ⟨n, φ, env, S, a, q⟩, ?_⟩
  rintro m σ2 H2 ⟨φ2, env2, S2, a2, p2⟩
  cases m with
  | zero => exact (show False from p2).elim
  | succ m =>
    refine ⟨φ2, env2, S2, a2, PostS.bind a2 p2 fun φ3 H3 v S3 x l3 a3 r3 p3 => ?_⟩
    cases r3 with
    | bl k =>
      refine ⟨k, rfl, ?_⟩
      cases k with
      | false => exact iteF (PostS.nx p3 a3)
      | true =>
        refine iteT ⟨fun σ' H' => ∃ φ env S, At C φ env S σ' H' ∧ PostS C E φ H' D (loopW f fb m env S), fun σ' H' h => ⟨m, Nat.lt_succ_self _, h⟩, φ3, env2, S3, a3, ?_⟩
        cases e3 : fb env2 S3 with
        | ok r S4 =>
          have p4 : PostS C E φ3 H3 D ((fb env2 S3).bind fun r S => match r with
            | (.nx, env) => loopW f fb m env S
            | (.cnt, env) => loopW f fb m env S
            | (.brk, env) => .ok (.nx, env) S
            | (.ret v, env) => .ok (.ret v, env) S) := p3
          rw [e3] at p4
          obtain ⟨fl, env4⟩ := r
          cases fl with
          | nx => exact fun φ4 H4 σ4 l4 a4 => ⟨φ4, env4, S4, a4, PostS.mono l4 p4⟩
          | cnt => exact fun φ4 H4 σ4 l4 a4 => ⟨φ4, env4, S4, a4, PostS.mono l4 p4⟩
          | brk => exact p4
          | ret v => exact p4
        | exc c v S4 =>
          have p4 : PostS C E φ3 H3 D ((fb env2 S3).bind fun r S => match r with
            | (.nx, env) => loopW f fb m env S
            | (.cnt, env) => loopW f fb m env S
            | (.brk, env) => .ok (.nx, env) S
            | (.ret v, env) => .ok (.ret v, env) S) := p3
          rw [e3] at p4
          exact p4
        | bad =>
          have p4 : PostS C E φ3 H3 D ((fb env2 S3).bind fun r S => match r with
            | (.nx, env) => loopW f fb m env S
            | (.cnt, env) => loopW f fb m env S
            | (.brk, env) => .ok (.nx, env) S
            | (.ret v, env) => .ok (.ret v, env) S) := p3
          rw [e3] at p4
          exact p4
    | _ => exact (show False from p3).elim

/-! ### raise C(e) -/
def tMkE (C : Addr) (f : Str) (ta : TA) : L2.St → Hp → XK → Prop := fun σ H Q => ta σ H fun vs H1 => ∃ v, vs = [v] ∧ ∀ d, H1 d = none → Q (.ref C) (some d) (upd H1 d (.xd [(f, v)]))
theorem pmk_er {cA fI : Addr} {f x : Str} {a : Expr} {ta : TA} {p pos : Pos} {k : Nat} (T : ErrTxt X.prog X.K cA fI f) (hms : X.mg "super" = none) (hg : Gl X x) (hm : X.mg x = some (.ref cA)) (hdb : (x == ("__debug__" : Str)) = false) (hr : Room k X.A) (hs : noStar a = true) (ha : PA X [a] ta) :
    PMk X (.Call (.Name x p) [a] [] pos) (tMkE cA f ta) := by
  intro pins s σ H Q I h
  refine wpAny_Call_Name_kw (ld_glob I hg hm ?_ hdb)
  refine PySem.W.callWith_K (h₀ := X.base) I.ok.mod.kin T.kC (thn (ha.run pos pins s σ H _ I h) fun us s1 hh => ?_) (star_eq hs _ _) rfl
  obtain ⟨vs, H1, I1, r1, v, rfl, q1⟩ := hh
  refine ⟨I1.kIn, ?_⟩
  obtain ⟨v', rfl, rv⟩ := r1.one
  have hlim := I1.nolimit
  have hgl := I1.ok.mod.glob.keeps I1.bk
  obtain ⟨mb, hb1, hb2⟩ := I1.ok.mod.blt
  have hbl := hb1.keeps I1.bk
  show wpAny _ _ (call (.ref cA) [v']) _ _ _
  obtain ⟨hp, g, dr, tk, os⟩ := s1
  refine wpAny_call (er_made T I1.kIn hlim (by have := hr.dp; omega) hgl hbl (hb2 _ (by decide)) hms fun h' tk' e d Mk => ?_)
  show MkP X pins σ Q (.ref e) ⟨h', g, dr, tk', os⟩
  obtain ⟨oe, fv, hoe, hc, hd, hdat, h1⟩ := Mk.obj
  obtain ⟨G', g1, g2⟩ := restrict h' fun b => decide (b ≠ e)
  have gk : ∀ b, b ≠ e → G'.get? b = h'.get? b := fun b hb => g1 b (decide_eq_true hb)
  have ge : G'.get? e = none := g2 e (by simp)
  have old : ∀ b o, hp.get? b = some o → G'.get? b = some o := fun b o q => (gk b (Nat.ne_of_lt (Nat.lt_of_lt_of_le (Heap.lt_size q) Mk.new))).trans (Mk.keep b o q)
  have rel : ∀ y, RelO (List.lookup y [(f, v)]) (if y = f then some v' else none) := fun y => by
    by_cases c : y = f
    · subst c
      rw [if_pos rfl]
      have z : List.lookup y [(y, v)] = some v := by simp [List.lookup]
      rw [z]
      exact rv
    · rw [if_neg c]
      have cb : (y == f) = false := by simpa using c
      have z : List.lookup y [(f, v)] = none := by simp [List.lookup, cb]
      rw [z]
      trivial
  have ob : ObjOk X.prog X.w (upd H1 d (.xd [(f, v)])) G' d (.xd [(f, v)]) := ⟨_, Mk.ns.at (fun o q => (gk d Mk.dne).trans q), rel⟩
  have J : Inv X pins σ (upd H1 d (.xd [(f, v)])) ⟨G', g, dr, tk', os⟩ := I1.laid (t' := tk') old Mk.dbig ob
  refine ⟨e, oe, fv, ⟨G', g, dr, tk', os⟩, _, .ref cA, some d, rfl, J, fun b o q => ?_, ge, hoe, ⟨hc, hd⟩, hdat, h1, ?_, rfl, I1.bare, raises_own T.exC T.tyC, q1 d (I1.hok.fresh Mk.dbig)⟩
  · by_cases hb : b = e
    · have q' : G'.get? b = some o := q
      rw [hb, ge] at q'; cases q'
    · exact (gk b hb).symm.trans q
  · rw [upd_ne (Ne.symm Mk.dne)]
    exact I1.hok.fresh Mk.new
theorem s_rai {c : Nat} {fI : Addr} {f x : Str} {a : Expr} {fs : Env1 → Sto → M (List PV)} {p pos pos2 : Pos} {k : Nat} (hc : X.calm = true) (tk : Takes X (wE E)) (T : ErrTxt X.prog X.K (C.ca c) fI f) (hxa : C.xa c = some f) (hms : X.mg "super" = none) (hg : Gl X x) (hm : X.mg x = some (.ref (C.ca c))) (hdb : (x == ("__debug__" : Str)) = false)
    (hr : Room k X.A) (hs : noStar a = true) (ha : PA X [a] (lA C (wE E) fs)) : PS X (.Raise (some (.Call (.Name x p) [a] [] pos)) none pos2) (lS C E fun env S => (fs env S).bind (raiK c)) := by
  refine ps_imp (ps_raise hc tk (pmk_er T hms hg hm hdb hr hs ha)) fun D σ H ⟨φ, env, S, a0, q⟩ => ?_
  refine ⟨φ, env, S, a0, PostS.bind a0 q fun φ1 H1 vs S1 xs l a1 ra p1 => ?_⟩
  cases ra with
  | nil => exact (show False from p1).elim
  | @cons v y _ _ rv ra =>
    cases ra with
    | cons _ _ => exact (show False from p1).elim
    | nil =>
      refine ⟨y, rfl, fun d hd => p1 φ1 _ _ _ (Le.new hd) (a1.rs.new hd) ⟨rfl, ?_⟩⟩
      rw [hxa]
      exact ⟨d, y, rfl, upd_same, rv.mono (Le.new hd)⟩

/-! ### try: e / except x: return a literal -/
theorem lit_ok {A : Ar} {m : Mi.E} {v : PV} {sh : Sh} {e : Expr} {K : PySem.W.Frag} (h : litV m = some v) (hc : ckE sh m e = true) : ∃ x : V, (∀ Y : Cx, PE Y e (tC x)) ∧ ∀ φ H, R K φ H v x := by
  cases m with
  | non =>
    cases h
    simp only [ckE] at hc
    split at hc
    · exact ⟨.non, fun _ => pe_non, fun _ _ => .non⟩
    · cases hc
  | bl b =>
    cases h
    simp only [ckE] at hc
    split at hc
    · cases of_decide_eq_true hc
      exact ⟨.bl b, fun _ => pe_bl, fun _ _ => .bl b⟩
    · cases hc
  | int i =>
    cases h
    simp only [ckE] at hc
    split at hc
    · cases of_decide_eq_true hc
      exact ⟨.int i, fun _ => pe_int, fun _ _ => .int i⟩
    · cases hc
  | str s =>
    cases h
    simp only [ckE] at hc
    split at hc
    · cases of_decide_eq_true hc
      exact ⟨.str s, fun _ => pe_str, fun _ _ => .str s⟩
    · cases hc
  | _ => cases h
theorem s_try {A : Ar} {c : Nat} {x : Str} {v : PV} {m : Mi.E} {e ev : Expr} {f : Env1 → Sto → M PV} {p1 p2 p3 p4 p5 : Pos} {y : V} (hK : X.K = C.K) (hs : X.stack = X.env :: X.outer) (hf : X.env.frame = some X.env.locals) (hn : Names X x (.ref (C.ca c))) (tk : Takes X (wE E))
    (hsw : swapsWith e none p1.line X.env = pure false) (he : ∀ (W : WX) (pn : List (Addr × Obj)) (xe : Value → Shared → Prop), Takes (X.tr pn xe) W → PE (X.tr pn xe) e (lE C W f)) (hv : litV m = some v) (hy : ∀ Y : Cx, PE Y ev (tC y)) (hr : ∀ φ H, R C.K φ H v y)
    (hx : ∀ c' b, A.sub c' c = some b → PySem.W.exmOne C.K (.ref (C.ca c')) (.ref (C.ca c)) = some b) :
    PS X (.Try [.Expr e p1] [.ExceptHandler (some (.Name x p2)) none [.Return (some ev) p3] p4] [] [] p5) (lS C E fun env S => tryK A c m env (f env S)) := by
  refine ps_imp (ps_try_only (Wout := wE E) (tb := fun W => tDrop (lE C W f)) (ts := fun _ _ _ => tRet (tC y)) hs hf hn tk (fun W pn xe t _ => pss_one (ps_expr (he W pn xe t) hsw)) (fun a oe cls d pn _ _ => pss_one (ps_ret (hy _)))) ?_
  rintro D σ H ⟨φ, env, S, a, q⟩
  dsimp only at q
  refine ⟨φ, env, S, a, ?_⟩
  cases e1 : f env S with
  | ok w S1 =>
    rw [e1] at q
    exact fun φ1 H1 x l r _ => q φ1 H1 σ l (a.with l r)
  | exc c' w S1 =>
    rw [e1] at q
    intro φ1 H1 cls d l r xr
    have ec := xr.1
    subst ec
    have q2 : PostS C E φ H D (match A.sub c' c with
      | some true => (match litV m with
        | some x => .ok (.ret x, env) S1
        | none => .bad)
      | some false => .exc c' w S1
      | none => .bad) := q
    cases e2 : A.sub c' c with
    | none => rw [e2] at q2; exact (show False from q2).elim
    | some b =>
      rw [e2] at q2
      refine ⟨b, by rw [hK]; exact hx c' b e2, fun hb a0 _ => ?_, fun hb => ?_⟩
      · subst hb
        have q3 : PostS C E φ H D (match litV m with
          | some x => .ok (.ret x, env) S1
          | none => .bad) := q2
        rw [hv] at q3
        exact q3 φ1 H1 y l r (hr _ _)
      · subst hb
        exact q2 φ1 H1 _ d l r xr
  | bad => rw [e1] at q; exact (show False from q).elim
end
end Mi
end

section
set_option Elab.async false
set_option linter.all false
set_option maxRecDepth 100000
set_option maxHeartbeats 8000000
/-! Mi: the check of statements, and that it is sound. -/
namespace Mi
open PySem PySem.Spec L2
open PyProof.Rows hiding St
theorem sw_sub {o i e : Expr} {p : Pos} (l : Nat) (env : Env) : swapsWithSole [.Subscript o i p] e l env = pure false := by cases e <;> rfl
theorem sw_att {o e : Expr} {x : Str} {p : Pos} (l : Nat) (env : Env) : swapsWith e (some (.Attribute o x p)) l env = pure false := by cases e <;> rfl
theorem sw_tup {es : List Expr} {e : Expr} {k : Nat} {p : Pos} (l : Nat) (env : Env) : swapsWithSole [.Tuple es k p] e l env = pure false := by cases e <;> rfl
theorem sto_sub {o i e : Expr} {p : Pos} (env : Env) : swappedStores [.Subscript o i p] e env = pure none := by cases e <;> rfl
def stoB : Expr → Bool
  | .Tuple vs _ _ => vs.all (foldedForSure 8)
  | _ => true
theorem sto_tup {es : List Expr} {e : Expr} {k : Nat} {p : Pos} (h : stoB e = true) (env : Env) : swappedStores [.Tuple es k p] e env = pure none := by
  cases e with
  | Tuple vs k2 p2 =>
    have h2 : vs.all (foldedForSure 8) = true := h
    unfold swappedStores
    dsimp only
    repeat (split <;> try rfl)
    all_goals simp_all
  | _ => rfl
def celB1 (sc : Scope) : Expr → Bool
  | .Name id _ => !decide (sc.names.lookup id = some .local)
  | _ => true
def celB (sc : Scope) : Expr → Bool
  | .Tuple ts _ _ => ts.any (celB1 sc)
  | _ => false
theorem fm_lt {f : Expr → Option Str} {b : Expr → Bool} (hf : ∀ t, b t = true → f t = none) : ∀ es : List Expr, es.any b = true → (es.filterMap f).length < es.length
  | [], h => by cases h
  | t :: es, h => by
    rw [List.any_cons, Bool.or_eq_true] at h
    rw [List.filterMap_cons]
    rcases h with h | h
    · rw [hf t h]
      exact Nat.lt_succ_of_le (List.length_filterMap_le f es)
    · have z := fm_lt hf es h
      cases f t with
      | none => exact Nat.lt_succ_of_lt z
      | some y => exact Nat.succ_lt_succ z
theorem sto_cel {es : List Expr} {e : Expr} {k : Nat} {p : Pos} {env : Env} (h : celB env.scope (.Tuple es k p) = true) : swappedStores [.Tuple es k p] e env = pure none := by
  have key : ∀ line : Nat, (es.filterMap fun
      | .Name id pos => if env.kindOf id == some .local && pos.line == line then some id else none
      | _ => none).length < es.length := fun line => by
    refine fm_lt (b := celB1 env.scope) (fun t ht => ?_) es h
    cases t with
    | Name id pos =>
      have h2 : decide (env.scope.names.lookup id = some .local) = false := by simpa [celB1] using ht
      have h3 : ¬ env.kindOf id = some .local := of_decide_eq_false h2
      have h4 : (env.kindOf id == some .local) = false := by simpa using h3
      show (if (env.kindOf id == some .local && pos.line == line) = true then some id else none) = none
      rw [h4] <;> rfl
    | _ => rfl
  unfold swappedStores
  cases e with
  | Tuple vs k2 p2 =>
    dsimp only
    split
    · rfl
    · split
      · rfl
      · split
        · rfl
        · rename_i hh
          exfalso
          have z := key ((es.head?.map (·.pos.line)).getD 0)
          apply hh
          rw [Bool.or_eq_true]
          exact .inl (bne_iff_ne.mpr (Nat.ne_of_lt z))
  | _ => rfl
def swB (sc : Scope) (n : Str) (p : Pos) : Expr → Bool
  | .ListComp _ _ scope q => decide (sc.kind = .function) && (decide (sc.names.lookup n = some .local) && ((p.line == q.line) && !(scope.names.any fun (m, k) => m == n && (k == .local || k == .cell))))
  | _ => false
def parB (sh : Sh) (is : List Nat) (ts vs : List Expr) : Bool := match is, ts with
  | [i, j], [.Name x px, .Name y py] => decide (vs.length = 2) && (decide (sh.N[i]? = some x) && (decide (sh.N[j]? = some y) && (decide (i ≠ j) && (decide (sh.sc.names.lookup x = some .local) && (decide (sh.sc.names.lookup y = some .local) &&
      (decide (px.line = py.line) && (decide (x ≠ y) && (!(vs.all (foldedForSure 8)) && (!(vs.all (constantsAlone 8)) && decide (sh.sc.kind = .function))))))))))
  | [i, j, l], [.Name x px, .Name y py, .Name z pz] => decide (vs.length = 3) && (decide (sh.N[i]? = some x) && (decide (sh.N[j]? = some y) && (decide (sh.N[l]? = some z) && (decide (i ≠ j) && (decide (i ≠ l) && (decide (j ≠ l) &&
      (decide (sh.sc.names.lookup x = some .local) && (decide (sh.sc.names.lookup y = some .local) && (decide (sh.sc.names.lookup z = some .local) && (decide (px.line = py.line) && (decide (px.line = pz.line) &&
      (decide (x ≠ y) && (decide (x ≠ z) && (decide (y ≠ z) && (!(vs.all (foldedForSure 8)) && (!(vs.all (constantsAlone 8)) && decide (sh.sc.kind = .function)))))))))))))))))
  | _, _ => false
mutual
def ckS (sh : Sh) (m : S) (s : Stmt) : Bool := match m with
  | .exp e => (match s with
    | .Expr x _ => !isLC x && ckE sh e x
    | _ => false)
  | .asg t e => (match s with
    | .Assign [y] x _ => (match t with
      | .loc i => (match y with
        | .Name n p => sh.tgt i n && ((!isLC x || swB sh.sc n p x) && ckE sh e x)
        | _ => false)
      | .tup is => isTup y && (tgB sh is y && ((stoB x || celB sh.sc y) && ckE sh e x))
      | .idx o i => (match y with
        | .Subscript a b _ => noSlice b && (ckE sh o a && (ckE sh i b && ckE sh e x))
        | _ => false)
      | .fld o n => (match y with
        | .Attribute a k _ => decide (k = n) && (ckE sh o a && ckE sh e x)
        | _ => false))
    | _ => false)
  | .par is es => (match s with
    | .Assign [.Tuple ts _ _] (.Tuple vs _ _) _ => parB sh is ts vs && ckEs sh es vs
    | _ => false)
  | .aug i op e => (match s with
    | .AugAssign (.Name x _) o y _ => sh.tgt i x && ((decide (o = .Add ∧ op = .add) || decide (o = .Sub ∧ op = .sub)) && ckE sh e y)
    | _ => false)
  | .ret e => (match s with
    | .Return (some x) _ => ckE sh e x
    | _ => false)
  | .retN => (match s with
    | .Return none _ => true
    | _ => false)
  | .pass => (match s with
    | .Pass _ => true
    | _ => false)
  | .brk => (match s with
    | .Break _ => true
    | _ => false)
  | .cnt => (match s with
    | .Continue _ => true
    | _ => false)
  | .ife c a b => (match s with
    | .If x y z _ => ckE sh c x && (ckSs sh a y && ckSs sh b z)
    | _ => false)
  | .for_ tg src b => (match s with
    | .For t it body [] _ => tgB sh tg t && (noSet it && (ckSr sh src t it && ckSs sh b body))
    | _ => false)
  | .whl c b => (match s with
    | .While x body [] _ => ckE sh c x && ckSs sh b body
    | _ => false)
  | .rai c es => (match s with
    | .Raise (some (.Call (.Name x _) [y] [] _)) none _ => sh.isG x (.exc c) && (decide (c ∈ sh.xr) && ckEs sh es [y])
    | _ => false)
  | .tryR e c v => (match s with
    | .Try [.Expr x _] [.ExceptHandler (some (.Name n _)) none [.Return (some y) _] _] [] [] _ => !isLC x && (ckE sh e x && (sh.isG n (.exc c) && ((litV v).isSome && ckE sh v y)))
    | _ => false)
def ckSs (sh : Sh) (m : Ss) (l : List Stmt) : Bool := match m with
  | .nil => (match l with
    | [] => true
    | _ => false)
  | .cons a es => (match l with
    | x :: r => ckS sh a x && ckSs sh es r
    | _ => false)
end
/-- around a def's body -/
structure Gs (C : Cn) (A : Ar) (k : Nat) (sh : Sh) (E : XK) (X : Cx) : Prop extends Gd C A k sh (wE E) X where
  st : X.stack = X.env :: X.outer
  fr : X.env.frame = some X.env.locals
  po : PassesOwn (model X.prog X.w) X.A X.env X.xe
variable {C : Cn} {A : Ar} {k : Nat}
theorem Gd.tr {sh : Sh} {W W2 : WX} {X : Cx} (G : Gd C A k sh W X) (pn : List (Addr × Obj)) (xe : Value → Shared → Prop) (t : Takes (X.tr pn xe) W2) : Gd C A k sh W2 (X.tr pn xe) where
  hK := G.hK
  hN := G.hN
  nd := G.nd
  sc := G.sc
  calm := G.calm
  room := G.room
  gl := fun x g h => (G.gl x g h).to rfl rfl rfl rfl rfl
  mt := fun c m f h => let ⟨a, b, ps, kws, F⟩ := G.mt c m f h; ⟨a, b, ps, kws, F.to rfl rfl rfl rfl rfl⟩
  fl := G.fl
  fnT := G.fnT
  xr := G.xr
  xm := G.xm
  hms := G.hms
  xk := G.xk
  lm := G.lm
  tk := t
theorem blockFn {env : Env} (h : env.scope.kind = .function) : env.blockKind = .function := by unfold Env.blockKind; rw [h]; rfl
theorem starF (a : Expr) : noStar a = true → (match a with | .Starred .. => true | _ => false) = false := by
  cases a <;> intro h <;> first | rfl | cases h
theorem sto2 {X : Cx} {x y : Str} {a b : Expr} {px py pt pt2 : Pos} {kt k2 : Nat} (hk : X.env.scope.kind = .function) (hx : X.env.scope.names.lookup x = some .local) (hy : X.env.scope.names.lookup y = some .local) (hl : px.line = py.line) (hn : x ≠ y)
    (sa : noStar a = true) (sb : noStar b = true) (h1 : [a, b].all (foldedForSure 8) = false) (h2 : [a, b].all (constantsAlone 8) = false) :
    swappedStores [.Tuple [.Name x px, .Name y py] kt pt] (.Tuple [a, b] k2 pt2) X.env = pure (some [x, y]) := by
  have bk := blockFn hk
  have kx : X.env.kindOf x = some .local := hx
  have ky : X.env.kindOf y = some .local := hy
  have st : ([a, b].any fun | .Starred .. => true | _ => false) = false := by
    simp only [List.any_cons, List.any_nil, Bool.or_false]
    exact Bool.or_eq_false_iff.mpr ⟨starF a sa, starF b sb⟩
  have hne : (x == y) = false := by simpa using hn
  have hne2 : (y == x) = false := by simpa using fun z : y = x => hn z.symm
  unfold swappedStores
  simp [bk, kx, ky, hl, Expr.pos, List.eraseDups, List.eraseDupsBy, List.eraseDupsBy.loop, hne, hne2]
  have sa2 := starF a sa
  have sb2 := starF b sb
  have n1 : ¬ (foldedForSure 8 a = true ∧ foldedForSure 8 b = true) := fun ⟨z1, z2⟩ => by
    rw [List.all_cons, List.all_cons, z1, z2] at h1
    cases h1
  have n2 : ¬ (constantsAlone 8 a = true ∧ constantsAlone 8 b = true) := fun ⟨z1, z2⟩ => by
    rw [List.all_cons, List.all_cons, z1, z2] at h2
    cases h2
  rw [if_neg, if_neg n1, if_neg n2]
  rintro (z | z)
  · have w : true = false := z.symm.trans sa2
    cases w
  · have w : true = false := z.symm.trans sb2
    cases w
theorem sto3 {X : Cx} {x y z : Str} {a b c : Expr} {px py pz pt pt2 : Pos} {kt k2 : Nat} (hk : X.env.scope.kind = .function) (hx : X.env.scope.names.lookup x = some .local) (hy : X.env.scope.names.lookup y = some .local) (hz : X.env.scope.names.lookup z = some .local) (hl : px.line = py.line) (hl2 : px.line = pz.line)
    (hxy : x ≠ y) (hxz : x ≠ z) (hyz : y ≠ z) (sa : noStar a = true) (sb : noStar b = true) (sc : noStar c = true) (h1 : [a, b, c].all (foldedForSure 8) = false) (h2 : [a, b, c].all (constantsAlone 8) = false) :
    swappedStores [.Tuple [.Name x px, .Name y py, .Name z pz] kt pt] (.Tuple [a, b, c] k2 pt2) X.env = pure (some [x, y, z]) := by
  have bk := blockFn hk
  have kx : X.env.kindOf x = some .local := hx
  have ky : X.env.kindOf y = some .local := hy
  have kz : X.env.kindOf z = some .local := hz
  have e1 : (x == y) = false := by simpa using hxy
  have e2 : (y == x) = false := by simpa using fun q : y = x => hxy q.symm
  have e3 : (x == z) = false := by simpa using hxz
  have e4 : (z == x) = false := by simpa using fun q : z = x => hxz q.symm
  have e5 : (y == z) = false := by simpa using hyz
  have e6 : (z == y) = false := by simpa using fun q : z = y => hyz q.symm
  unfold swappedStores
  simp [bk, kx, ky, kz, ← hl, ← hl2, Expr.pos, List.eraseDups, List.eraseDupsBy, List.eraseDupsBy.loop, e1, e2, e3, e4, e5, e6]
  have sa2 := starF a sa
  have sb2 := starF b sb
  have sc2 := starF c sc
  have n1 : ¬ (foldedForSure 8 a = true ∧ foldedForSure 8 b = true ∧ foldedForSure 8 c = true) := fun ⟨z1, z2, z3⟩ => by
    rw [List.all_cons, List.all_cons, List.all_cons, z1, z2, z3] at h1
    cases h1
  have n2 : ¬ (constantsAlone 8 a = true ∧ constantsAlone 8 b = true ∧ constantsAlone 8 c = true) := fun ⟨z1, z2, z3⟩ => by
    rw [List.all_cons, List.all_cons, List.all_cons, z1, z2, z3] at h2
    cases h2
  rw [if_neg, if_neg n1, if_neg n2]
  rintro (q | q | q)
  · have w : true = false := q.symm.trans sa2
    cases w
  · have w : true = false := q.symm.trans sb2
    cases w
  · have w : true = false := q.symm.trans sc2
    cases w
mutual
theorem sndS : ∀ (m : S) {s : Stmt} {sh : Sh} {E : XK} {X : Cx}, Gs C A k sh E X → ckS sh m s = true → PS X s (lS C E (ex A m))
  | .exp e, s, sh, E, X, G, h => by
    simp only [ckS] at h
    split at h
    · simp only [Bool.and_eq_true, Bool.not_eq_true'] at h
      exact s_exp (sw_no h.1 _ _ _) (sndE e G.toGd h.2).pe
    · cases h
  | .asg t e, s, sh, E, X, G, h => by
    simp only [ckS] at h
    split at h
    · cases t with
      | loc i =>
        dsimp only at h
        split at h
        · rename_i x pos _ n p
          simp only [Bool.and_eq_true, Bool.or_eq_true, Bool.not_eq_true'] at h
          obtain ⟨h1, h2, h3⟩ := h
          obtain ⟨g1, g2, g3⟩ := G.tgt h1
          by_cases c : isLC x = false
          · exact s_set G.nd2 g1 g2 g3 (sw_no c _ _ _) (sndE e G.toGd h3).pe
          · have h2 : swB sh.sc n p x = true := by
              rcases h2 with z | z
              · exact absurd z c
              · exact z
            cases x with
            | ListComp elt gens scope q =>
              simp only [swB, Bool.and_eq_true, decide_eq_true_eq, Bool.not_eq_true'] at h2
              obtain ⟨w1, w2, w3, w4⟩ := h2
              rw [← G.sc] at w1 w2
              have sw := sw_true (elt := elt) (gs := gens) (pos := q) (py := p) (l := pos.line) w1 w2 w3 w4
              cases e with
              | comp own tg elt2 src c2 =>
                simp only [ckE] at h3
                split at h3
                · rename_i heq
                  cases heq
                  simp only [Bool.and_eq_true, decide_eq_true_eq] at h3
                  obtain ⟨k1, k2, k3, k4, k5, k6, k7, k8⟩ := h3
                  have ok := blkOk_by k1
                  rw [← G.hN, ← G.sc] at ok
                  rw [← G.hN] at k2
                  have z := s_setLc (py := p) (spos := pos) (C := C) (W := wE E) (fr := evr A src) (fe := ev A elt2 false) (fc := evc A c2) G.calm G.nd2 (sndSr src G.toGd k6) ok k2 k3 (fun s H B cl fp => sndT (G.toGd.blk scope s H B cl fp) k4) (fun s H B cl fp => sndC c2 (G.toGd.blk scope s H B cl fp) k7)
                    (fun s H B cl fp => (sndE elt2 (G.toGd.blk scope s H B cl fp) k8).pe) (fold_eq k5 _) g1 w2 sw
                  refine ps_imp z fun D σ H ⟨φ, env, S, a, q⟩ => ?_
                  have e0 : ev A (.comp own tg elt2 src c2) false env S = ((evr A src env S).bind fun w S =>
                    (loopC (ev A elt2 false) (evc A c2) tg w (wipeE env own) S.length (w.len S) 0 (S ++ [.lst []])).bind fun _ S' => .ok (.ref S.length) S') := bind_test0 _
                  have q2 : PostS C E φ H D ((ev A (.comp own tg elt2 src c2) false env S).bind (putK1 [i] env)) := q
                  rw [e0] at q2
                  exact ⟨φ, env, S, a, PostS.bind a q2 fun φ1 H1 v S1 y l a1 r p => lG_name (put_read a1 r p)⟩
                · cases h3
              | _ => simp [ckE] at h3
            | _ => simp only [swB] at h2; cases h2
        · cases h
      | tup is =>
        simp only [Bool.and_eq_true] at h
        obtain ⟨h1, h2, h3, h4⟩ := h
        rename_i y x _
        cases y with
        | Tuple y kk p =>
          have h5 : swappedStores [.Tuple y kk p] x X.env = pure none := by
            rw [Bool.or_eq_true] at h3
            rcases h3 with z | z
            · exact sto_tup z _
            · rw [← G.sc] at z
              exact sto_cel z
          exact s_tup (sndT G.toGd h2) (sw_tup _ _) h5 rfl (sndE e G.toGd h4).pe
        | _ => cases h1
      | idx o i =>
        dsimp only at h
        split at h
        · simp only [Bool.and_eq_true] at h
          obtain ⟨h1, h2, h3, h4⟩ := h
          exact s_idx G.hK (Nat.lt_of_le_of_lt (Nat.add_le_add_left (by decide : 1 ≤ 64) _) G.un) h1 (sw_sub _ _) (sto_sub _) (sndE o G.toGd h2).pe (sndE i G.toGd h3).pe (sndE e G.toGd h4).pe
        · cases h
      | fld o n =>
        dsimp only at h
        split at h
        · simp only [Bool.and_eq_true, decide_eq_true_eq] at h
          obtain ⟨rfl, h2, h3⟩ := h
          exact s_fld G.hK G.fl (sw_att _ _) (sndE o G.toGd h2).pe (sndE e G.toGd h3).pe
        · cases h
    · cases h
  | .par is es, s, sh, E, X, G, h => by
    simp only [ckS] at h
    split at h
    · rename_i ts kt pt vs k2 pt2 _
      rw [Bool.and_eq_true] at h
      obtain ⟨h1, h2⟩ := h
      obtain ⟨es2, r⟩ := sndEs es G.toGd h2
      have st := r.stars
      unfold parB at h1
      split at h1
      · simp only [Bool.and_eq_true, decide_eq_true_eq, Bool.not_eq_true'] at h1
        obtain ⟨l2, n1, n2, ij, lx, ly, pl, xy, nf, nc, kf⟩ := h1
        rw [← G.hN] at n1 n2
        rw [← G.sc] at lx ly kf
        match vs, l2, r, st, nf, nc with
        | [a, b], _, r, st, nf, nc =>
          simp only [List.all_cons, List.all_nil, Bool.and_eq_true] at st
          exact s_par2 G.calm G.nd2 n1 n2 ij lx ly (sto2 kf lx ly pl xy st.1 st.2.1 nf nc) r.pa
      · simp only [Bool.and_eq_true, decide_eq_true_eq, Bool.not_eq_true'] at h1
        obtain ⟨l2, n1, n2, n3, ij, il, jl, lx, ly, lz, pl, pl2, xy, xz, yz, nf, nc, kf⟩ := h1
        rw [← G.hN] at n1 n2 n3
        rw [← G.sc] at lx ly lz kf
        match vs, l2, r, st, nf, nc with
        | [a, b, c], _, r, st, nf, nc =>
          simp only [List.all_cons, List.all_nil, Bool.and_eq_true] at st
          exact s_par3 G.calm G.nd2 n1 n2 n3 ij il jl lx ly lz (sto3 kf lx ly lz pl pl2 xy xz yz st.1 st.2.1 st.2.2.1 nf nc) r.pa
      · cases h1
    · cases h
  | .aug i op e, s, sh, E, X, G, h => by
    simp only [ckS] at h
    split at h
    · simp only [Bool.and_eq_true, Bool.or_eq_true, decide_eq_true_eq] at h
      obtain ⟨h1, h2, h3⟩ := h
      obtain ⟨g1, g2, g3⟩ := G.tgt h1
      exact s_aug G.nd2 g1 g2 g3 h2 (sndE e G.toGd h3).pe
    · cases h
  | .ret e, s, sh, E, X, G, h => by
    simp only [ckS] at h
    split at h
    · exact s_ret (sndE e G.toGd h).pe
    · cases h
  | .retN, s, sh, E, X, G, h => by
    simp only [ckS] at h
    split at h
    · exact s_retN
    · cases h
  | .pass, s, sh, E, X, G, h => by
    simp only [ckS] at h
    split at h
    · exact s_pass
    · cases h
  | .brk, s, sh, E, X, G, h => by
    simp only [ckS] at h
    split at h
    · exact s_brk
    · cases h
  | .cnt, s, sh, E, X, G, h => by
    simp only [ckS] at h
    split at h
    · exact s_cnt
    · cases h
  | .ife c a b, s, sh, E, X, G, h => by
    simp only [ckS] at h
    split at h
    · simp only [Bool.and_eq_true] at h
      exact s_if (sndE c G.toGd h.1).pt (sndSs a G h.2.1) (sndSs b G h.2.2)
    · cases h
  | .for_ tg src b, s, sh, E, X, G, h => by
    simp only [ckS] at h
    split at h
    · simp only [Bool.and_eq_true] at h
      obtain ⟨h1, h2, h3, h4⟩ := h
      exact s_for G.po G.calm (sndSr src G.toGd h3) (sndT G.toGd h1) (sndSs b G h4) (fold_eq h2 _)
    · cases h
  | .whl c b, s, sh, E, X, G, h => by
    simp only [ckS] at h
    split at h
    · simp only [Bool.and_eq_true] at h
      exact s_whl G.po (sndE c G.toGd h.1).pt (sndSs b G h.2)
    · cases h
  | .rai c es, s, sh, E, X, G, h => by
    simp only [ckS] at h
    split at h
    · simp only [Bool.and_eq_true, decide_eq_true_eq] at h
      obtain ⟨h1, h2, h3⟩ := h
      obtain ⟨hg, hm, hd⟩ := G.isG h1
      obtain ⟨f, fI, hx, T⟩ := G.xr c h2
      obtain ⟨ts, r⟩ := sndEs es G.toGd h3
      have st := r.stars
      rw [List.all_cons, Bool.and_eq_true] at st
      exact s_rai G.calm G.tk T hx G.hms hg hm hd G.room st.1 r.pa
    · cases h
  | .tryR e c v, s, sh, E, X, G, h => by
    simp only [ckS] at h
    split at h
    · simp only [Bool.and_eq_true, Bool.not_eq_true'] at h
      obtain ⟨h1, h2, h3, h4, h5⟩ := h
      obtain ⟨hg, hm, hd⟩ := G.isG h3
      obtain ⟨w, hw⟩ := Option.isSome_iff_exists.mp h4
      obtain ⟨y, hy, hr⟩ := lit_ok (K := C.K) hw h5 (A := A)
      exact s_try G.hK G.st G.fr ⟨hg, hd, .inl hm⟩ G.tk (sw_no h1 _ _ _) (fun W pn xe t => (sndE e (G.toGd.tr pn xe t) h2).pe) hw hy hr fun c' b => G.xm c' c b
    · cases h
theorem sndSs : ∀ (m : Ss) {l : List Stmt} {sh : Sh} {E : XK} {X : Cx}, Gs C A k sh E X → ckSs sh m l = true → PSs X l (lS C E (exs A m))
  | .nil, l, sh, E, X, G, h => by
    simp only [ckSs] at h
    split at h
    · exact ss_nil
    · cases h
  | .cons a es, l, sh, E, X, G, h => by
    simp only [ckSs] at h
    split at h
    · rw [Bool.and_eq_true] at h
      exact ss_cons (sndS a G h.1) (sndSs es G h.2)
    · cases h
end
end Mi
end

section
set_option Elab.async false
set_option linter.all false
set_option maxRecDepth 100000
set_option maxHeartbeats 8000000
/-! Mi: a program: every def keeps what Pr.cl says. -/
namespace Mi
open PySem PySem.Spec L2
open PyProof.Rows hiding St
/-- one def, as the written part holds it -/
def DefOk (C : Cn) (gl : List (Str × Gk)) (kw : List (Nat × Nat × List Str)) (xr : List Nat) (cs : List (Addr × Addr)) (f : Nat) (D : Df) : Prop :=
  ∃ (x qual : Str) (st : Stmt) (N : List Str) (lam : Bool) (oc : Value) (od : Option Addr) (kV doc pm : Value) (an : Option Addr) (cdv ct : Value) (osl : Array (Option Value)),
    C.K.lookup (C.fa f) = some ⟨oc, od, .func (PySem.W.fnOf x qual (defArgs st) (defBody st) (defScope st) .none kV doc pm an cdv ct), osl⟩ ∧ PySem.W.codeIn C.K cdv qual = true ∧ PySem.W.keepIn C.K (.ref (C.fa f)) = true ∧ FnScope N D.ps (defScope st) ∧ N.length = D.n ∧
    ckSs ⟨N, defScope st, gl, kw, xr, true, lam⟩ D.body (defBody st) = true ∧ L2.Binds C.K (PySem.W.fnOf x qual (defArgs st) (defBody st) (defScope st) .none kV doc pm an cdv ct) D.ps [] ∧
    (∀ n ks, (n, ks) ∈ kwOf kw f → KwB (PySem.W.fnOf x qual (defArgs st) (defBody st) (defScope st) .none kV doc pm an cdv ct) D.ps n ks) ∧
    (lam = true → ∃ c P, cdv = .ref c ∧ (c, P) ∈ cs ∧ (P, (envOfC qual (defScope st) 0 0 cdv).qual ++ "<lambda>") ∈ C.T ∧ ∀ p ∈ C.T, p.1 = P → p.2 = (envOfC qual (defScope st) 0 0 cdv).qual ++ "<lambda>")
/-- a global name, in the program -/
def GlOk (C : Cn) (P : Pr) (mg : Str → Option Value) (x : Str) : Gk → Prop
  | .fn f => mg x = some (.ref (C.fa f)) ∧ ∃ D, P.df f = some D
  | .cls c => mg x = some (.ref (C.ca c)) ∧ ∃ f D, P.mkr c = some f ∧ Mk C.K (C.ca c) (C.fa f) ∧ P.df f = some D
  | .val g => ∃ v y u, P.gv g = some v ∧ mg x = some u ∧ RelV y u ∧ ∀ φ H, R C.K φ H v y
  | .blt => mg x = none
  | .exc c => mg x = some (.ref (C.ca c))
  | .cat g => CatOk C P.ct C.K mg x g
structure Pf (C : Cn) (P : Pr) (prog : Program) (mg : Str → Option Value) (gl0 : List (Str × Gk)) (kw0 : List (Nat × Nat × List Str)) (xr0 : List Nat) (cs : List (Addr × Addr)) : Prop where
  gl : ∀ x g, gl0.lookup x = some g → GlOk C P mg x g
  df : ∀ f D, P.df f = some D → DefOk C gl0 kw0 xr0 cs f D
  mt : ∀ c m f, P.mt c m = some f → Cls C.K (C.ca c) ∧ Meth C.K (C.ca c) m (C.fa f) ∧ ∃ D, P.df f = some D
  fl : ∀ c x, P.fl c x = true → Cls C.K (C.ca c) ∧ NoAttr C.K (C.ca c) x
  xr : ∀ c, c ∈ xr0 → ∃ f fI, C.xa c = some f ∧ ErrTxt prog C.K (C.ca c) fI f
  hms : mg "super" = none
  xk : Xk C P.sub P.xf P.vs
variable {C : Cn} {P : Pr} {prog : Program} {w : World} {mg : Str → Option Value} {gl : List (Str × Gk)} {kw : List (Nat × Nat × List Str)} {xr : List Nat} {cs : List (Addr × Addr)} {base : Heap}
theorem FnD.up {X : Cx} {j k : Nat} {fa : Addr} {ps : List Str} {kws : List (Nat × List Str)} {g : List PV → Sto → M PV} (F : FnD C X j fa ps kws g) (h : j ≤ k) : FnD C X k fa ps kws g :=
  ⟨let ⟨fd, a, b⟩ := F.ok; ⟨fd, a.mono h, b⟩, F.kp, F.ln⟩
theorem cl_len (d f : Nat) (D : Df) (e : P.df f = some D) (vs : List PV) (S : Sto) (h : vs.length ≠ D.ps.length) : P.cl d f vs S = .bad := by
  cases d with
  | zero => rfl
  | succ d =>
    show (match P.df f with
      | none => M.bad
      | some D => if vs.length = D.ps.length then fin (exs (P.ar (P.cl d)) D.body (start1 D.n vs) S) else .bad) = _
    rw [e]
    exact if_neg h
theorem start_at {φ : List Addr} {H : Hp} {S : Sto} {N : List Str} {vs : List V} {pvs : List PV} (r : RS C φ H S) (ra : RA C.K φ H pvs vs) : At C φ (start1 N.length pvs) S (L2.start N vs) H := by
  have hl := ra.length
  refine ⟨⟨by unfold start1 L2.start; simp [hl], fun i v e => ?_⟩, r⟩
  unfold start1 at e
  by_cases hi : i < pvs.length
  · rw [List.getElem?_append_left (by simpa using hi), List.getElem?_map] at e
    cases q : pvs[i]? with
    | none => rw [q] at e; cases e
    | some u =>
      rw [q] at e
      cases e
      obtain ⟨x, h1, h2⟩ := ra.get q
      refine ⟨x, ?_, h2⟩
      unfold L2.start
      rw [List.getElem?_append_left (by rw [List.length_map, ← hl]; exact hi), List.getElem?_map, h1]
      rfl
  · rw [List.getElem?_append_right (by simpa using hi), List.getElem?_replicate] at e
    split at e <;> cases e
theorem post_fin {φ : List Addr} {H : Hp} {Q : VK} {E : XK} {m : M (Fl × Env1)} (h : Post C (fun cls d _ H' => E cls d H') (R C.K) φ H [] Q (fin m)) : PostS C E φ H { nx := fun _ H' => Q .non H', rt := Q } m := by
  cases m with
  | ok r S =>
    obtain ⟨fl, env⟩ := r
    cases fl with
    | nx => exact fun φ' H' σ' l a => h φ' H' .non l a.rs .non
    | ret v => exact fun φ' H' x l r q => h φ' H' x l r q
    | brk => exact (show False from h).elim
    | cnt => exact (show False from h).elim
  | exc c v S => exact h
  | bad => exact (show False from h).elim
theorem def_ok (T : Pf C P prog mg gl kw xr cs) (hT : ∀ p ∈ cs, LamX.TabB base mg p.1 p.2) (d f : Nat) (D : Df) (e : P.df f = some D)
    (ih : ∀ (f : Nat) (D : Df), P.df f = some D → ∀ (X : Cx), X.prog = prog → X.w = w → X.K = C.K → X.mg = mg → X.base = base → FnD C X (4 * d) (C.fa f) D.ps (kwOf kw f) (P.cl d f))
    {x qual : Str} {st : Stmt} {N : List Str} {lam : Bool} {oc : Value} {od : Option Addr} {kV doc pm : Value} {an : Option Addr} {cdv ct : Value} {osl : Array (Option Value)}
    (k1 : C.K.lookup (C.fa f) = some ⟨oc, od, .func (PySem.W.fnOf x qual (defArgs st) (defBody st) (defScope st) .none kV doc pm an cdv ct), osl⟩) (k2 : PySem.W.codeIn C.K cdv qual = true) (k4 : FnScope N D.ps (defScope st)) (k5 : N.length = D.n)
    (k6 : ckSs ⟨N, defScope st, gl, kw, xr, true, lam⟩ D.body (defBody st) = true)
    (k9 : lam = true → ∃ c P, cdv = .ref c ∧ (c, P) ∈ cs ∧ (P, (envOfC qual (defScope st) 0 0 cdv).qual ++ "<lambda>") ∈ C.T ∧ ∀ p ∈ C.T, p.1 = P → p.2 = (envOfC qual (defScope st) 0 0 cdv).qual ++ "<lambda>") :
    FnOk prog w C.K mg base (L2.CX prog w) (4 * (d + 1)) (C.fa f) (PySem.W.fnOf x qual (defArgs st) (defBody st) (defScope st) .none kV doc pm an cdv ct) D.ps (spM C D.ps.length (P.cl (d + 1) f)) := by
    have e4 : 4 * (d + 1) = (4 * d + 3) + 1 := by omega
    rw [e4]
    refine fn_of k1 k2 k4 (fun vs H Q E q => q.1) fun A outer s H vs Q E hr hsp => ?_
    generalize hX0 : cxOf (L2.CX prog w) prog w C.K mg base N qual (defScope st) (C.fa f) cdv A outer s H E = X0
    have fnd : ∀ f D, P.df f = some D → FnD C X0 (4 * d) (C.fa f) D.ps (kwOf kw f) (P.cl d f) := fun f D e => by
      rw [← hX0]
      exact ih f D e _ rfl rfl rfl rfl rfl
    have G : Gs C (P.ar (P.cl d)) (4 * d) ⟨N, defScope st, gl, kw, xr, true, lam⟩ E X0 := by
      have gl2 : ∀ x g, gl.lookup x = some g → GkOk C (P.ar (P.cl d)) (4 * d) X0 kw x g := fun x g hx => by
        have z := T.gl x g hx
        have m0 : X0.mg = mg := by rw [← hX0]; rfl
        have K0 : X0.K = C.K := by rw [← hX0]; rfl
        cases g with
        | fn f2 =>
          obtain ⟨a, D2, b⟩ := z
          refine ⟨by rw [m0]; exact a, D2.ps, ?_, fnd f2 D2 b⟩
          show (P.df f2).map Df.ps = _
          rw [b]; rfl
        | cls c =>
          obtain ⟨a, f2, D2, b, m, e2⟩ := z
          exact ⟨by rw [m0]; exact a, f2, b, by rw [K0]; exact m, D2.ps, _, fnd f2 D2 e2⟩
        | val g => obtain ⟨v, y, u, a, b, r⟩ := z; exact ⟨v, y, u, a, by rw [m0]; exact b, r⟩
        | blt => exact (by rw [m0]; exact z : X0.mg x = none)
        | exc c => exact (by rw [m0]; exact z : X0.mg x = some (.ref (C.ca c)))
        | cat g => exact (by rw [K0, m0]; exact z : CatOk C P.ct X0.K X0.mg x g)
      have mt2 : ∀ c m f, P.mt c m = some f → Cls C.K (C.ca c) ∧ Meth C.K (C.ca c) m (C.fa f) ∧ ∃ ps kws, FnD C X0 (4 * d) (C.fa f) ps kws (P.cl d f) := fun c m f2 h => by
        obtain ⟨a, b, D2, e2⟩ := T.mt c m f2 h
        exact ⟨a, b, D2.ps, _, fnd f2 D2 e2⟩
      have room : Room (4 * d + 3) X0.A := by rw [← hX0]; exact hr
      have lm : lam = true → Room (4 * d + 3) X0.A ∧ ∃ c P, X0.env.code = .ref c ∧ LamX.TabB X0.base X0.mg c P ∧ (P, X0.env.qual ++ "<lambda>") ∈ C.T ∧ ∀ p ∈ C.T, p.1 = P → p.2 = X0.env.qual ++ "<lambda>" := fun hl => by
        obtain ⟨c, Pp, q1, q2, q3, q4⟩ := k9 hl
        refine ⟨room, c, Pp, ?_, ?_, ?_, ?_⟩
        · rw [← hX0]; exact q1
        · rw [← hX0]; exact hT _ q2
        · rw [← hX0]; exact q3
        · rw [← hX0]; exact q4
      have xm : ∀ c' c b, P.sub c' c = some b → PySem.W.exmOne C.K (.ref (C.ca c')) (.ref (C.ca c)) = some b := fun c' c b h => (T.xk.sub c' c b h).1
      have xr2 : ∀ c, c ∈ xr → ∃ f fI, C.xa c = some f ∧ ErrTxt X0.prog X0.K (C.ca c) fI f := by rw [← hX0]; exact T.xr
      have hms : X0.mg "super" = none := by rw [← hX0]; exact T.hms
      have r1 : Room (4 * d + 1) X0.A := room.mono (by omega)
      have b1 : X0.K = C.K := by rw [← hX0]; rfl
      have b2 : X0.N = N := by rw [← hX0]; rfl
      have b3 : X0.env.scope = defScope st := by rw [← hX0]; rfl
      have b4 : X0.calm = true := by rw [← hX0]; rfl
      have b5 : ∀ x, X0.fn x = true := by rw [← hX0]; exact fun _ => rfl
      have b6 : Takes X0 (wE E) := by rw [← hX0]; exact takes_of rfl rfl rfl rfl
      have b7 : X0.stack = X0.env :: X0.outer := by rw [← hX0]; rfl
      have b8 : X0.env.frame = some X0.env.locals := by rw [← hX0]; rfl
      have b9 : PassesOwn (model X0.prog X0.w) X0.A X0.env X0.xe := by rw [← hX0]; exact passes_of rfl
      exact { hK := b1, hN := b2, nd := k4.nd, sc := b3, calm := b4, room := r1, gl := gl2, mt := mt2, fl := T.fl, fnT := fun _ => b5, xr := xr2, xm := xm, hms := hms, xk := T.xk, lm := lm, tk := b6, st := b7, fr := b8, po := b9 }
    refine ⟨_, sndSs D.body G k6, ?_⟩
    obtain ⟨hl, φ, S, pvs, r, ra, q⟩ := hsp
    have q2 : Post C (fun cls d _ H' => E cls d H') (R C.K) φ H [] Q (match P.df f with
      | none => M.bad
      | some D => if pvs.length = D.ps.length then fin (exs (P.ar (P.cl d)) D.body (start1 D.n pvs) S) else .bad) := q
    rw [e] at q2
    dsimp only at q2
    rw [if_pos (by rw [ra.length]; exact hl), ← k5] at q2
    exact ⟨φ, _, S, start_at r ra, post_fin q2⟩
theorem all_ok (T : Pf C P prog mg gl kw xr cs) (hT : ∀ p ∈ cs, LamX.TabB base mg p.1 p.2) : ∀ (d f : Nat) (D : Df), P.df f = some D → ∀ (X : Cx), X.prog = prog → X.w = w → X.K = C.K → X.mg = mg → X.base = base → FnD C X (4 * d) (C.fa f) D.ps (kwOf kw f) (P.cl d f)
  | 0, f, D, e, X, h1, h2, h3, h4, h5 => by
    obtain ⟨x, qual, st, N, lam, oc, od, kV, doc, pm, an, cdv, ct, osl, k1, k2, k3, k4, k5, k6, k7, k8, k9⟩ := T.df f D e
    refine ⟨⟨_, ⟨fun vs H Q E q => q.1, fun A outer s H args us vs Q E hr he hb hv hs => ?_⟩, by rw [h3]; exact k7, k8⟩, by rw [h3]; exact k3, cl_len 0 f D e⟩
    obtain ⟨_, φ, S, pvs, _, _, q⟩ := hs
    exact (show False from q).elim
  | d + 1, f, D, e, X, h1, h2, h3, h4, h5 => by
    obtain ⟨x, qual, st, N, lam, oc, od, kV, doc, pm, an, cdv, ct, osl, k1, k2, k3, k4, k5, k6, k7, k8, k9⟩ := T.df f D e
    have ih := all_ok T hT d
    refine ⟨⟨_, ?_, by rw [h3]; exact k7, k8⟩, by rw [h3]; exact k3, cl_len (d + 1) f D e⟩
    rw [h1, h2, h3, h4, h5]
    exact def_ok T hT d f D e ih k1 k2 k4 k5 k6 k9
end Mi
end

section
set_option Elab.async false
set_option linter.all false
set_option maxRecDepth 100000
set_option maxHeartbeats 8000000
/-! Mi: how a program's facts are put together. -/
namespace Mi
open PySem PySem.Spec L2
open PyProof.Rows hiding St
/-- the def at f, its code object (told where it matters) -/
def FnIs (K : PySem.W.Frag) (f : Addr) (x qual : Str) (st : Stmt) (cc : Option Addr) : Prop := ∃ (oc : Value) (od : Option Addr) (kV doc pm : Value) (an : Option Addr) (cdv ct : Value) (osl : Array (Option Value)),
  K.lookup f = some ⟨oc, od, .func (PySem.W.fnOf x qual (defArgs st) (defBody st) (defScope st) .none kV doc pm an cdv ct), osl⟩ ∧ PySem.W.codeIn K cdv qual = true ∧ PySem.W.keepIn K (.ref f) = true ∧ ∀ c, cc = some c → cdv = .ref c
theorem kwB_of {fd : FuncData} {ps ks : List Str} {n : Nat} (h : ∀ us ws : List Value, us.length = n → ws.length = ks.length → ∃ zs, kwArgs ps us ks ws = some zs ∧ bindArgs fd ⟨us, ks.zip ws⟩ = pure (ps.zip zs)) : KwB fd ps n ks := by
  intro s us ws zs hu hz
  have hl : ws.length = ks.length := by
    unfold kwArgs at hz
    split at hz
    · rename_i c
      exact c.2.symm
    · cases hz
  obtain ⟨zs2, e1, e2⟩ := h us ws hu hl
  rw [hz] at e1
  cases e1
  exact .of_eq e2
theorem defOk_of {C : Cn} {gl : List (Str × Gk)} {kw : List (Nat × Nat × List Str)} {xr : List Nat} {cs : List (Addr × Addr)} {f : Nat} {D : Df} {x qual : Str} {st : Stmt} {N : List Str} {lam : Bool} {cc : Option Addr}
    (h : FnIs C.K (C.fa f) x qual st cc) (S : FnScope N D.ps (defScope st)) (hn : N.length = D.n) (ck : ckSs ⟨N, defScope st, gl, kw, xr, true, lam⟩ D.body (defBody st) = true)
    (hb : ∀ (kV doc pm : Value) (an : Option Addr) (cdv ct : Value) (us : List Value), us.length = D.ps.length → bindArgs (PySem.W.fnOf x qual (defArgs st) (defBody st) (defScope st) .none kV doc pm an cdv ct) ⟨us, []⟩ = pure (D.ps.zip us))
    (hk : ∀ (kV doc pm : Value) (an : Option Addr) (cdv ct : Value) (n : Nat) (ks : List Str), (n, ks) ∈ kwOf kw f → KwB (PySem.W.fnOf x qual (defArgs st) (defBody st) (defScope st) .none kV doc pm an cdv ct) D.ps n ks)
    (hl : lam = true → ∃ c P, cc = some c ∧ (c, P) ∈ cs ∧ (P, qual ++ ".<locals>." ++ "<lambda>") ∈ C.T ∧ ∀ p ∈ C.T, p.1 = P → p.2 = qual ++ ".<locals>." ++ "<lambda>") : DefOk C gl kw xr cs f D := by
  obtain ⟨oc, od, kV, doc, pm, an, cdv, ct, osl, h1, h2, h3, h4⟩ := h
  refine ⟨x, qual, st, N, lam, oc, od, kV, doc, pm, an, cdv, ct, osl, h1, h2, h3, S, hn, ck, .all (hb kV doc pm an cdv ct), fun n ks hm => hk kV doc pm an cdv ct n ks hm, fun z => ?_⟩
  obtain ⟨c, P, q1, q2, q3, q4⟩ := hl z
  exact ⟨c, P, h4 c q1, q2, q3, q4⟩
def GlAll (C : Cn) (P : Pr) (mg : Str → Option Value) : List (Str × Gk) → Prop
  | [] => True
  | p :: r => GlOk C P mg p.1 p.2 ∧ GlAll C P mg r
theorem gl_of {C : Cn} {P : Pr} {mg : Str → Option Value} : ∀ {l : List (Str × Gk)}, GlAll C P mg l → ∀ x g, l.lookup x = some g → GlOk C P mg x g
  | [], _, x, g, e => by cases e
  | (y, k) :: r, h, x, g, e => by
    rw [List.lookup_cons] at e
    split at e
    · rename_i q
      cases e
      rw [eq_of_beq q]
      exact h.1
    · exact gl_of h.2 x g e
def GeAll (C : Cn) (mg : Str → Option Value) : List (Str × Gk) → Prop
  | [] => True
  | p :: r => ((∀ c, p.2 = .exc c → mg p.1 = some (.ref (C.ca c))) ∧ (p.2 = .blt → mg p.1 = none)) ∧ GeAll C mg r
theorem ge_of {C : Cn} {mg : Str → Option Value} : ∀ {l : List (Str × Gk)}, GeAll C mg l → ∀ x g, l.lookup x = some g → (∀ c, g = .exc c → mg x = some (.ref (C.ca c))) ∧ (g = .blt → mg x = none)
  | [], _, x, g, e => by cases e
  | (y, k) :: r, h, x, g, e => by
    rw [List.lookup_cons] at e
    split at e
    · rename_i q
      cases e
      rw [eq_of_beq q]
      exact h.1
    · exact ge_of h.2 x g e
theorem mem_look {α β : Type} [BEq α] [LawfulBEq α] {x : α} {d : β} : ∀ {l : List (α × β)}, l.lookup x = some d → (x, d) ∈ l
  | [], e => by cases e
  | (y, k) :: r, e => by
    rw [List.lookup_cons] at e
    split at e
    · rename_i q
      cases e
      rw [eq_of_beq q]
      exact List.mem_cons_self
    · exact List.mem_cons_of_mem _ (mem_look e)
def DfAll (C : Cn) (gl : List (Str × Gk)) (kw : List (Nat × Nat × List Str)) (xr : List Nat) (cs : List (Addr × Addr)) : Nat → List Df → Prop
  | _, [] => True
  | i, D :: r => DefOk C gl kw xr cs i D ∧ DfAll C gl kw xr cs (i + 1) r
theorem df_of0 {C : Cn} {gl : List (Str × Gk)} {kw : List (Nat × Nat × List Str)} {xr : List Nat} {cs : List (Addr × Addr)} : ∀ {l : List Df} {i : Nat}, DfAll C gl kw xr cs i l → ∀ f D, l[f]? = some D → DefOk C gl kw xr cs (i + f) D
  | [], i, _, f, D, e => by cases e
  | D0 :: r, i, h, 0, D, e => by cases e; exact h.1
  | D0 :: r, i, h, f + 1, D, e => by
    have z := df_of0 h.2 f D (by simpa using e)
    rw [show i + (f + 1) = i + 1 + f by omega]
    exact z
theorem df_of {C : Cn} {gl : List (Str × Gk)} {kw : List (Nat × Nat × List Str)} {xr : List Nat} {cs : List (Addr × Addr)} {l : List Df} (h : DfAll C gl kw xr cs 0 l) (f : Nat) (D : Df) (e : l[f]? = some D) : DefOk C gl kw xr cs f D := by
  have z := df_of0 h f D e
  rwa [Nat.zero_add] at z
/-! ### values of the module -/
section
variable {K : PySem.W.Frag} {mg : Str → Option Value} {x : Str}
def ValIs (K : PySem.W.Frag) (mg : Str → Option Value) (x : Str) (v : PV) : Prop := ∃ y u, mg x = some u ∧ RelV y u ∧ ∀ φ H, R K φ H v y
theorem val_int {i : Int} {t : Tok} (h : mg x = some (.int i t)) : ValIs K mg x (.int i) := ⟨.int i, _, h, ⟨t, rfl⟩, fun _ _ => .int i⟩
theorem val_str {i : Str} {t : Tok} (h : mg x = some (.str i t)) : ValIs K mg x (.str i) := ⟨.str i, _, h, ⟨t, rfl⟩, fun _ _ => .str i⟩
theorem ra_ints (K : PySem.W.Frag) (φ : List Addr) (H : Hp) : ∀ ns : List Int, RA K φ H (ns.map .int) (ns.map .int)
  | [] => .nil
  | n :: r => .cons (.int n) (ra_ints K φ H r)
theorem ra_strs (K : PySem.W.Frag) (φ : List Addr) (H : Hp) : ∀ ns : List Str, RA K φ H (ns.map .str) (ns.map .str)
  | [] => .nil
  | n :: r => .cons (.str n) (ra_strs K φ H r)
theorem val_tupI {a : Addr} {od : Option Addr} {its : Array Value} {n : Nat} {sl : Array (Option Value)} {ns : List Int} (h : mg x = some (.ref a)) (l : K.lookup a = some ⟨.type "tuple", od, .seq its n, sl⟩) (s : its.size ≤ sizeLine) (r : Vals (ns.map V.int) its.toList) :
    ValIs K mg x (.tup (ns.map .int)) := ⟨.ref a, _, h, rfl, fun φ H => .tup (.inr ⟨_, its, n, l, rfl, rfl, s, r⟩) (ra_ints K φ H ns)⟩
theorem val_tupS {a : Addr} {od : Option Addr} {its : Array Value} {n : Nat} {sl : Array (Option Value)} {ns : List Str} (h : mg x = some (.ref a)) (l : K.lookup a = some ⟨.type "tuple", od, .seq its n, sl⟩) (s : its.size ≤ sizeLine) (r : Vals (ns.map V.str) its.toList) :
    ValIs K mg x (.tup (ns.map .str)) := ⟨.ref a, _, h, rfl, fun φ H => .tup (.inr ⟨_, its, n, l, rfl, rfl, s, r⟩) (ra_strs K φ H ns)⟩
theorem gl_val {C : Cn} {P : Pr} {g : Nat} {v : PV} (e : P.gv g = some v) (h : ValIs C.K mg x v) : GlOk C P mg x (.val g) := let ⟨y, u, a, b, c⟩ := h; ⟨v, y, u, e, a, b, c⟩
end
/-! ### which error stands below which -/
def subL (l : List (Nat × Nat × Bool)) (c d : Nat) : Option Bool := (l.find? fun q => q.1 == c && q.2.1 == d).map (·.2.2)
theorem sub_mem {l : List (Nat × Nat × Bool)} {c d : Nat} {b : Bool} (h : subL l c d = some b) : (c, d, b) ∈ l := by
  unfold subL at h
  obtain ⟨q, h1, h2⟩ := Option.map_eq_some_iff.mp h
  have h3 := List.find?_some h1
  have h4 := List.mem_of_find?_eq_some h1
  simp only [Bool.and_eq_true, beq_iff_eq] at h3
  obtain ⟨c1, d1, b1⟩ := q
  obtain ⟨rfl, rfl⟩ := h3
  cases h2
  exact h4
structure ExIs (K : PySem.W.Frag) (D : Addr) : Prop where
  hg : PySem.W.findIn K (.ref D) "__getattribute__" = some (some (.builtin "BaseException.__getattribute__"))
  hk : PySem.W.findIn K (.ref D) "__getattr__" = some none
  hs : PySem.W.subIn K (.ref D) (.type "BaseException") = some true
  hd : PySem.W.hasDictIn K D = true
  ha : PySem.W.findIn K (.ref D) "__class__" = some (some (.builtin "object.__class__"))
  hn : PySem.W.specialIn K (.builtin "object.__class__") "__get__" = some (some (.builtin "getset_descriptor.__get__"))
  ht : PySem.W.takesIn K (.builtin "object.__class__") = some true
  hm : PySem.W.mroIn K D (.type "object") = some true
theorem ExIs.c {K : PySem.W.Frag} {D : Addr} (e : ExIs K D) : ExcC K D := ⟨e.hg, e.hk, e.hs, e.hd, e.ha, e.hn, e.ht, e.hm⟩
theorem ExIs.f {K : PySem.W.Frag} {D : Addr} (e : ExIs K D) : XfC K D := ⟨e.hg, e.hk, e.hs, e.hd⟩
def SubAll (K : PySem.W.Frag) (ca : Nat → Addr) : List (Nat × Nat × Bool) → Prop
  | [] => True
  | q :: r => (PySem.W.exmOne K (.ref (ca q.1)) (.ref (ca q.2.1)) = some q.2.2 ∧ PySem.W.kitOne K (.ref (ca q.1)) (.ref (ca q.2.1)) = some q.2.2) ∧ SubAll K ca r
theorem sub_all {K : PySem.W.Frag} {ca : Nat → Addr} : ∀ {l : List (Nat × Nat × Bool)}, SubAll K ca l → ∀ q ∈ l, PySem.W.exmOne K (.ref (ca q.1)) (.ref (ca q.2.1)) = some q.2.2 ∧ PySem.W.kitOne K (.ref (ca q.1)) (.ref (ca q.2.1)) = some q.2.2
  | [], _, q, h => by cases h
  | p :: r, h, q, hq => by
    rcases List.mem_cons.mp hq with e | e
    · rw [e]; exact h.1
    · exact sub_all h.2 q e
end Mi
end

section
set_option Elab.async false
set_option linter.all false
set_option maxRecDepth 100000
/-! MiZ: the evaluator step by step, top-down, for plain laws. Printed by gen_z.py. -/
namespace Mi
open PySem
@[simp] theorem sizeLine_eq : sizeLine = 16777216 := id rfl
section
variable {α β γ : Type}
theorem M.bind_assoc (m : M α) (f : α → Sto → M β) (g : β → Sto → M γ) : (m.bind f).bind g = m.bind fun a S => (f a S).bind g := by cases m <;> rfl
theorem M.bind_id (m : M α) : m.bind (fun a S => .ok a S) = m := by cases m <;> rfl
theorem cps {m : M α} {a : α} {S : Sto} (h : m = .ok a S) (k : α → Sto → M β) : m.bind k = k a S := by rw [h]; rfl
theorem cpx {m : M α} {c : Nat} {v : PV} {S : Sto} (h : m = .exc c v S) (k : α → Sto → M β) : m.bind k = .exc c v S := by rw [h]; rfl
@[simp ↓] theorem zok (a : α) (S : Sto) (f : α → Sto → M β) : M.bind (.ok a S) f = f a S := id rfl
@[simp ↓] theorem zexc (c : Nat) (v : PV) (S : Sto) (f : α → Sto → M β) : M.bind (.exc c v S) f = .exc c v S := id rfl
@[simp ↓] theorem zbad (f : α → Sto → M β) : M.bind .bad f = .bad := id rfl
@[simp ↓] theorem zassoc (m : M α) (f : α → Sto → M β) (g : β → Sto → M γ) : (m.bind f).bind g = m.bind fun a S => (f a S).bind g := M.bind_assoc m f g
@[simp ↓] theorem z_ite {c : Prop} [Decidable c] (h : c) (m n : M α) (k : α → Sto → M β) : (if c then m else n).bind k = m.bind k := by rw [if_pos h]
@[simp ↓] theorem z_iten {c : Prop} [Decidable c] (h : ¬ c) (m n : M α) (k : α → Sto → M β) : (if c then m else n).bind k = n.bind k := by rw [if_neg h]
end
section
variable {β : Type} {P : Pr} {c : Nat → List PV → Sto → M PV} {t : Bool} {env : Env1} {S : Sto}
abbrev Kp (β : Type) := PV → Sto → M β
@[simp ↓] theorem z_test0 (x : PV) (k : Kp β) : (test false x S).bind k = k x S := id rfl
@[simp ↓] theorem z_testb (b : Bool) (k : Kp β) : (test t (.bl b) S).bind k = k (.bl b) S := by cases t <;> rfl
@[simp ↓] theorem z_one (v : PV) (k : Kp β) : (one (some v) S).bind k = k v S := id rfl
@[simp ↓] theorem z_oneB (b : Bool) (k : Kp β) : (oneB (some b) S).bind k = k (.bl b) S := id rfl
@[simp ↓] theorem z_non (k : Kp β) : (ev (P.ar c) .non t env S).bind k = (test t .non S).bind k := by rw [ev]
@[simp ↓] theorem z_bl (b : Bool) (k : Kp β) : (ev (P.ar c) (.bl b) t env S).bind k = k (.bl b) S := by rw [ev, z_testb]
@[simp ↓] theorem z_int (i : Int) (k : Kp β) : (ev (P.ar c) (.int i) t env S).bind k = (test t (.int i) S).bind k := by rw [ev]
@[simp ↓] theorem z_str (s : Str) (k : Kp β) : (ev (P.ar c) (.str s) t env S).bind k = (test t (.str s) S).bind k := by rw [ev]
@[simp] theorem z_loc (i : Nat) (k : Kp β) : (ev (P.ar c) (.loc i) t env S).bind k = (one (env[i]?.join) S).bind fun x S => (test t x S).bind k := by rw [ev, M.bind_assoc]
@[simp ↓] theorem z_glo (g : Nat) (k : Kp β) : (ev (P.ar c) (.glo g) t env S).bind k = (one (P.gv g) S).bind fun x S => (test t x S).bind k := by rw [ev, M.bind_assoc]; rfl
@[simp ↓] theorem z_tup (es : Es) (k : Kp β) : (ev (P.ar c) (.tup es) t env S).bind k = (evs (P.ar c) es env S).bind fun vs S => (mkTup vs S).bind fun x S => (test t x S).bind k := by rw [ev]; simp only [M.bind_assoc]
@[simp ↓] theorem z_lst (es : Es) (k : Kp β) : (ev (P.ar c) (.lst es) t env S).bind k = (evs (P.ar c) es env S).bind fun vs S => (mkLst vs S).bind fun x S => (test t x S).bind k := by rw [ev]; simp only [M.bind_assoc]
@[simp ↓] theorem z_bin (op : BOp) (a b : E) (k : Kp β) : (ev (P.ar c) (.bin op a b) t env S).bind k = (ev (P.ar c) a false env S).bind fun x S => (ev (P.ar c) b false env S).bind fun y S => (opB op x y S).bind fun z S => (test t z S).bind k := by rw [ev]; simp only [M.bind_assoc]
@[simp ↓] theorem z_neg (a : E) (k : Kp β) : (ev (P.ar c) (.neg a) t env S).bind k = (ev (P.ar c) a false env S).bind fun x S => (opN x S).bind fun x S => (test t x S).bind k := by rw [ev]; simp only [M.bind_assoc]
@[simp ↓] theorem z_inv (a : E) (k : Kp β) : (ev (P.ar c) (.inv a) t env S).bind k = (ev (P.ar c) a t env S).bind fun x S => (invK x S).bind k := by rw [ev]; simp only [M.bind_assoc]
@[simp ↓] theorem z_and (a b : E) (k : Kp β) : (ev (P.ar c) (.and a b) t env S).bind k = (ev (P.ar c) a t env S).bind fun x S => (andK (ev (P.ar c) b t env) x S).bind k := by rw [ev]; simp only [M.bind_assoc]
@[simp ↓] theorem z_or (a b : E) (k : Kp β) : (ev (P.ar c) (.or a b) t env S).bind k = (ev (P.ar c) a t env S).bind fun x S => (orK (ev (P.ar c) b t env) x S).bind k := by rw [ev]; simp only [M.bind_assoc]
@[simp ↓] theorem z_cmp (op : COp) (a b : E) (k : Kp β) : (ev (P.ar c) (.cmp op a b) t env S).bind k = (ev (P.ar c) a false env S).bind fun x S => (ev (P.ar c) b false env S).bind fun y S => (opC op x y S).bind k := by rw [ev]; simp only [M.bind_assoc]
@[simp ↓] theorem z_chn (op op' : COp) (a b e : E) (k : Kp β) : (ev (P.ar c) (.chn op op' a b e) t env S).bind k = (ev (P.ar c) a false env S).bind fun x S => (ev (P.ar c) b false env S).bind fun y S => (opC op x y S).bind fun z S => (andK (fun S => (ev (P.ar c) e false env S).bind fun w S => opC op' y w S) z S).bind k := by rw [ev]; simp only [M.bind_assoc]
@[simp ↓] theorem z_itee (d a b : E) (k : Kp β) : (ev (P.ar c) (.ite d a b) t env S).bind k = (ev (P.ar c) d true env S).bind fun x S => (iteK (ev (P.ar c) a t env) (ev (P.ar c) b t env) x S).bind k := by rw [ev]; simp only [M.bind_assoc]
@[simp ↓] theorem z_idx (a b : E) (k : Kp β) : (ev (P.ar c) (.idx a b) t env S).bind k = (ev (P.ar c) a false env S).bind fun x S => (ev (P.ar c) b false env S).bind fun y S => (opI x y S).bind fun z S => (test t z S).bind k := by rw [ev]; simp only [M.bind_assoc]
@[simp ↓] theorem z_slc (a : E) (lo hi : Eo) (k : Kp β) : (ev (P.ar c) (.slc a lo hi) t env S).bind k = (ev (P.ar c) a false env S).bind fun x S => (evo (P.ar c) lo env S).bind fun l S => (evo (P.ar c) hi env S).bind fun h S => (opS x l h S).bind fun z S => (test t z S).bind k := by rw [ev]; simp only [M.bind_assoc]
@[simp ↓] theorem z_call (f : Nat) (es : Es) (k : Kp β) : (ev (P.ar c) (.call f es) t env S).bind k = (evs (P.ar c) es env S).bind fun vs S => (c f vs S).bind fun x S => (test t x S).bind k := by rw [ev]; simp only [M.bind_assoc]; rfl
def kwC (P : Pr) (c : Nat → List PV → Sto → M PV) (f : Nat) (vs : List PV) (ks : List Str) (ws : List PV) (S : Sto) : M PV := match ((P.df f).map Df.ps).bind fun ps => kwArgs ps vs ks ws with
  | some us => c f us S
  | none => .bad
@[simp ↓] theorem z_calk (f : Nat) (es : Es) (ks : List Str) (kes : Es) (k : Kp β) : (ev (P.ar c) (.calk f es ks kes) t env S).bind k = (evs (P.ar c) es env S).bind fun vs S => (evs (P.ar c) kes env S).bind fun ws S => (kwC P c f vs ks ws S).bind fun x S => (test t x S).bind k := by rw [ev]; simp only [M.bind_assoc]; rfl
@[simp ↓] theorem z_bi (b : BI) (es : Es) (k : Kp β) : (ev (P.ar c) (.bi b es) t env S).bind k = (evs (P.ar c) es env S).bind fun vs S => (opBI b vs S).bind fun x S => (test t x S).bind k := by rw [ev]; simp only [M.bind_assoc]
@[simp ↓] theorem z_isi (a : E) (ty : TyN) (k : Kp β) : (ev (P.ar c) (.isi a ty) t env S).bind k = (ev (P.ar c) a false env S).bind fun x S => (oneB (isT x S ty) S).bind fun x S => (test t x S).bind k := by rw [ev]; simp only [M.bind_assoc]
@[simp ↓] theorem z_meth (m : MT) (o : E) (es : Es) (k : Kp β) : (ev (P.ar c) (.meth m o es) t env S).bind k = (ev (P.ar c) o false env S).bind fun x S => (if isL x S then (evs (P.ar c) es env S).bind fun vs S => opM m x vs S else .bad).bind fun x S => (test t x S).bind k := by rw [ev]; simp only [M.bind_assoc]
@[simp ↓] theorem z_fld (o : E) (x : Str) (k : Kp β) : (ev (P.ar c) (.fld o x) t env S).bind k = (ev (P.ar c) o false env S).bind fun v S => (opF P.fl v x S).bind fun x S => (test t x S).bind k := by rw [ev]; simp only [M.bind_assoc]; rfl
@[simp ↓] theorem z_new (d : Nat) (es : Es) (k : Kp β) : (ev (P.ar c) (.new d es) t env S).bind k = (evs (P.ar c) es env S).bind fun vs S => (newI d ((P.mkr d).map fun f => c f (.ref S.length :: vs) (S ++ [.ins d []])) S.length).bind fun x S => (test t x S).bind k := by rw [ev]; simp only [M.bind_assoc]; rfl
@[simp ↓] theorem z_mca (m : Str) (o : E) (es : Es) (k : Kp β) : (ev (P.ar c) (.mca m o es) t env S).bind k = (ev (P.ar c) o false env S).bind fun x S => (match methOf (P.ar c) m x S with
    | some (n, f) => (evs (P.ar c) es env S).bind fun vs S => c f (.ref n :: vs) S
    | none => .bad).bind fun x S => (test t x S).bind k := by rw [ev]; simp only [M.bind_assoc]; rfl
@[simp ↓] theorem z_dct (ks : List Str) (es : Es) (k : Kp β) : (ev (P.ar c) (.dct ks es) t env S).bind k = (evs (P.ar c) es env (S ++ [.dct []])).bind fun vs S' => (mkDct ks S.length vs S').bind fun x S => (test t x S).bind k := by rw [ev]; simp only [M.bind_assoc]
@[simp ↓] theorem z_comp (own tg : List Nat) (elt : E) (src : Sr) (d : Eo) (k : Kp β) : (ev (P.ar c) (.comp own tg elt src d) t env S).bind k = (evr (P.ar c) src env S).bind fun w S => (loopC (fun env S => ev (P.ar c) elt false env S) (fun env S => evc (P.ar c) d env S) tg w (wipeE env own) S.length (w.len S) 0 (S ++ [.lst []])).bind fun _ S' => (test t (.ref S.length) S').bind k := by rw [ev]; simp only [M.bind_assoc, M.bind_ok]
@[simp ↓] theorem z_lam (g : Nat) (e : E) (k : Kp β) : (ev (P.ar c) (.lam g e) t env S).bind k = (ctK P.sub P.xf P.vs (P.ct g) ((ev (P.ar c) e false env S).bind fun a S => .ok a S)).bind fun x S => (test t x S).bind k := by rw [ev, M.bind_id]; simp only [M.bind_assoc]; rfl
@[simp ↓] theorem z_nil (k : List PV → Sto → M β) : (evs (P.ar c) .nil env S).bind k = k [] S := by rw [evs, M.bind_ok]
@[simp ↓] theorem z_cons (e : E) (es : Es) (k : List PV → Sto → M β) : (evs (P.ar c) (.cons e es) env S).bind k = (ev (P.ar c) e false env S).bind fun v S => (evs (P.ar c) es env S).bind fun vs S => k (v :: vs) S := by rw [evs]; simp only [M.bind_assoc, M.bind_ok]
@[simp ↓] theorem z_no (k : Option Int → Sto → M β) : (evo (P.ar c) .no env S).bind k = k none S := by rw [evo, M.bind_ok]
@[simp ↓] theorem z_so (e : E) (k : Option Int → Sto → M β) : (evo (P.ar c) (.so e) env S).bind k = (ev (P.ar c) e false env S).bind fun v S => (asInt v S).bind k := by rw [evo]; simp only [M.bind_assoc]
@[simp ↓] theorem z_asInt (i : Int) (k : Option Int → Sto → M β) : (asInt (.int i) S).bind k = k (some i) S := id rfl
@[simp ↓] theorem z_cno (k : Kp β) : (evc (P.ar c) .no env S).bind k = k (.bl true) S := by rw [evc, M.bind_ok]
@[simp ↓] theorem z_cso (e : E) (k : Kp β) : (evc (P.ar c) (.so e) env S).bind k = (ev (P.ar c) e true env S).bind k := by rw [evc]
@[simp ↓] theorem z_seq (e : E) (k : Wk → Sto → M β) : (evr (P.ar c) (.seq e) env S).bind k = (ev (P.ar c) e false env S).bind fun v S => (wkSeq v S).bind k := by rw [evr]; simp only [M.bind_assoc]
@[simp ↓] theorem z_rng1 (e : E) (k : Wk → Sto → M β) : (evr (P.ar c) (.rng1 e) env S).bind k = (ev (P.ar c) e false env S).bind fun v S => (wkRng1 v S).bind k := by rw [evr]; simp only [M.bind_assoc]
@[simp ↓] theorem z_rng2 (a b : E) (k : Wk → Sto → M β) : (evr (P.ar c) (.rng2 a b) env S).bind k = (ev (P.ar c) a false env S).bind fun x S => (ev (P.ar c) b false env S).bind fun y S => (wkRng2 x y S).bind k := by rw [evr]; simp only [M.bind_assoc]
@[simp ↓] theorem z_enm (e : E) (k : Wk → Sto → M β) : (evr (P.ar c) (.enm e) env S).bind k = (ev (P.ar c) e false env S).bind fun v S => (wkEnm v S).bind k := by rw [evr]; simp only [M.bind_assoc]
@[simp ↓] theorem z_zip (a b : E) (k : Wk → Sto → M β) : (evr (P.ar c) (.zip a b) env S).bind k = (ev (P.ar c) a false env S).bind fun x S => (ev (P.ar c) b false env S).bind fun y S => (wkZip x y S).bind k := by rw [evr]; simp only [M.bind_assoc]
@[simp] theorem wipeE_nil (env : Env1) : wipeE env [] = env := id rfl
@[simp] theorem wipeE_cons (env : Env1) (i : Nat) (is : List Nat) : wipeE env (i :: is) = wipeE (env.set i none) is := id rfl
/-! ### small steps -/
@[simp ↓] theorem z_mkTup (vs : List PV) (k : Kp β) (h : vs.length ≤ sizeLine) : (mkTup vs S).bind k = k (.tup vs) S := by rw [mkTup, if_pos h]; rfl
@[simp ↓] theorem z_mkLst (vs : List PV) (k : Kp β) (h : vs.length ≤ sizeLine) : (mkLst vs S).bind k = k (.ref S.length) (S ++ [.lst vs]) := by rw [mkLst, if_pos h]; rfl
@[simp ↓] theorem z_opN (i : Int) (k : Kp β) : (opN (.int i) S).bind k = k (.int (-i)) S := id rfl
@[simp ↓] theorem z_invK (b : Bool) (k : Kp β) : (invK (.bl b) S).bind k = k (.bl (!b)) S := id rfl
@[simp ↓] theorem z_seqRow (l : List PV) (k : Wk → Sto → M β) : (wkSeq (.tup l) S).bind k = k (.row l) S := id rfl
@[simp ↓] theorem z_enmRow (l : List PV) (k : Wk → Sto → M β) : (wkEnm (.tup l) S).bind k = k (.row (enmP l)) S := id rfl
@[simp ↓] theorem z_zipRow (l r : List PV) (k : Wk → Sto → M β) (h : l.length = r.length) : (wkZip (.tup l) (.tup r) S).bind k = k (.row (zipP l r)) S := by rw [wkZip, if_pos h]; rfl
@[simp ↓] theorem z_rng1Row (j : Int) (k : Wk → Sto → M β) (h : inRange j = true) : (wkRng1 (.int j) S).bind k = k (.row (rngP 0 j.toNat)) S := by rw [wkRng1, if_pos h]; rfl
@[simp ↓] theorem z_rng2Row (i j : Int) (k : Wk → Sto → M β) (h : inRange i = true) (h' : inRange j = true) : (wkRng2 (.int i) (.int j) S).bind k = k (.row (rngP i (j - i).toNat)) S := by rw [wkRng2, h, h']; rfl

@[simp ↓, simp] theorem z_andT (m : Sto → M PV) (b : Bool) (k : Kp β) (h : b = true) : (andK m (.bl b) S).bind k = (m S).bind k := by subst h; rfl
@[simp ↓, simp] theorem z_andF (m : Sto → M PV) (b : Bool) (k : Kp β) (h : b = false) : (andK m (.bl b) S).bind k = k (.bl false) S := by subst h; rfl
@[simp ↓, simp] theorem z_orT (m : Sto → M PV) (b : Bool) (k : Kp β) (h : b = true) : (orK m (.bl b) S).bind k = k (.bl true) S := by subst h; rfl
@[simp ↓, simp] theorem z_orF (m : Sto → M PV) (b : Bool) (k : Kp β) (h : b = false) : (orK m (.bl b) S).bind k = (m S).bind k := by subst h; rfl
@[simp ↓, simp] theorem z_iteT (m n : Sto → M PV) (b : Bool) (k : Kp β) (h : b = true) : (iteK m n (.bl b) S).bind k = (m S).bind k := by subst h; rfl
@[simp ↓, simp] theorem z_iteF (m n : Sto → M PV) (b : Bool) (k : Kp β) (h : b = false) : (iteK m n (.bl b) S).bind k = (n S).bind k := by subst h; rfl
/-! ### operators -/
@[simp ↓] theorem z_add (i j : Int) (k : Kp β) : (opB .add (.int i) (.int j) S).bind k = k (.int (i + j)) S := id rfl
@[simp ↓] theorem z_sub (i j : Int) (k : Kp β) : (opB .sub (.int i) (.int j) S).bind k = k (.int (i - j)) S := id rfl
@[simp ↓] theorem z_addT (l r : List PV) (k : Kp β) (h : l.length + r.length ≤ sizeLine) : (opB .add (.tup l) (.tup r) S).bind k = k (.tup (l ++ r)) S := by rw [opB, if_pos h]; rfl
@[simp ↓] theorem z_mul (i j : Int) (k : Kp β) (h : (small i || small j || decide (i.natAbs.log2 + j.natAbs.log2 < 1000000)) = true) : (opB .mul (.int i) (.int j) S).bind k = k (.int (i * j)) S := by rw [opB, if_pos h]; rfl
@[simp ↓] theorem z_fdv (i j : Int) (k : Kp β) (h : 0 < j ∧ j.natAbs.log2 < 9000) : (opB .fdv (.int i) (.int j) S).bind k = k (.int (i / j)) S := by rw [opB, if_pos (decide_eq_true h)]; rfl
@[simp ↓] theorem z_mod (i j : Int) (k : Kp β) (h : 0 < j) : (opB .mod (.int i) (.int j) S).bind k = k (.int (i % j)) S := by rw [opB, if_pos (decide_eq_true h)]; rfl
@[simp ↓] theorem z_pow (i j : Int) (k : Kp β) (h : 0 ≤ j ∧ j ≤ 1000 ∧ i.natAbs < 1000) : (opB .pow (.int i) (.int j) S).bind k = k (.int (i ^ j.toNat)) S := by rw [opB, if_pos (decide_eq_true h)]; rfl
@[simp ↓] theorem z_eq (x y : PV) (k : Kp β) : (opC .eq x y S).bind k = (oneB (pyEq S x y) S).bind k := id rfl
@[simp ↓] theorem z_ne (x y : PV) (k : Kp β) : (opC .ne x y S).bind k = (oneB ((pyEq S x y).map (!·)) S).bind k := id rfl
@[simp ↓] theorem z_inn (x y : PV) (k : Kp β) : (opC .inn x y S).bind k = (oneB (isIn S x y) S).bind k := id rfl
@[simp ↓] theorem z_nin (x y : PV) (k : Kp β) : (opC .nin x y S).bind k = (oneB ((isIn S x y).map (!·)) S).bind k := id rfl
@[simp ↓] theorem z_lt (i j : Int) (k : Kp β) : (opC .lt (.int i) (.int j) S).bind k = k (.bl (decide (i < j))) S := id rfl
@[simp ↓] theorem z_le (i j : Int) (k : Kp β) : (opC .le (.int i) (.int j) S).bind k = k (.bl (decide (i ≤ j))) S := id rfl
@[simp ↓] theorem z_gt (i j : Int) (k : Kp β) : (opC .gt (.int i) (.int j) S).bind k = k (.bl (decide (j < i))) S := id rfl
@[simp ↓] theorem z_ge (i j : Int) (k : Kp β) : (opC .ge (.int i) (.int j) S).bind k = k (.bl (decide (j ≤ i))) S := id rfl
def isN : PV → Bool
  | .non => true
  | _ => false
@[simp ↓] theorem z_is (x : PV) (k : Kp β) : (opC .is x .non S).bind k = k (.bl (isN x)) S := by cases x <;> rfl
@[simp ↓] theorem z_isn (x : PV) (k : Kp β) : (opC .isn x .non S).bind k = k (.bl (!isN x)) S := by cases x <;> rfl
@[simp] theorem isN_non : isN .non = true := id rfl
@[simp] theorem isN_int (i : Int) : isN (.int i) = false := id rfl
@[simp] theorem isN_bl (i : Bool) : isN (.bl i) = false := id rfl
@[simp] theorem isN_str (i : Str) : isN (.str i) = false := id rfl
@[simp] theorem isN_tup (l : List PV) : isN (.tup l) = false := id rfl
@[simp] theorem isN_ref (n : Nat) : isN (.ref n) = false := id rfl
@[simp] theorem q_int (i j : Int) : pyEq S (.int i) (.int j) = some (decide (i = j)) := id rfl
@[simp] theorem q_str (i j : Str) : pyEq S (.str i) (.str j) = some (decide (i = j)) := id rfl
@[simp] theorem q_bl (i j : Bool) : pyEq S (.bl i) (.bl j) = some (decide (i = j)) := id rfl
@[simp] theorem q_non : pyEq S .non .non = some true := id rfl
@[simp ↓] theorem z_qint (i j : Int) (k : Kp β) : (oneB (pyEq S (.int i) (.int j)) S).bind k = k (.bl (decide (i = j))) S := id rfl
@[simp ↓] theorem z_qstr (i j : Str) (k : Kp β) : (oneB (pyEq S (.str i) (.str j)) S).bind k = k (.bl (decide (i = j))) S := id rfl
@[simp ↓] theorem z_qbl (i j : Bool) (k : Kp β) : (oneB (pyEq S (.bl i) (.bl j)) S).bind k = k (.bl (decide (i = j))) S := id rfl
@[simp ↓] theorem z_nqint (i j : Int) (k : Kp β) : (oneB ((pyEq S (.int i) (.int j)).map (!·)) S).bind k = k (.bl (!decide (i = j))) S := id rfl
@[simp ↓] theorem z_nqstr (i j : Str) (k : Kp β) : (oneB ((pyEq S (.str i) (.str j)).map (!·)) S).bind k = k (.bl (!decide (i = j))) S := id rfl
@[simp ↓] theorem z_lenT (l : List PV) (k : Kp β) : (opBI .len [.tup l] S).bind k = k (.int l.length) S := id rfl
@[simp ↓] theorem z_abs (i : Int) (k : Kp β) : (opBI .abs [.int i] S).bind k = k (.int (if i < 0 then -i else i)) S := id rfl
@[simp ↓] theorem z_min2 (i j : Int) (k : Kp β) : (opBI .min2 [.int i, .int j] S).bind k = k (.int (if j < i then j else i)) S := id rfl
@[simp ↓] theorem z_max2 (i j : Int) (k : Kp β) : (opBI .max2 [.int i, .int j] S).bind k = k (.int (if j > i then j else i)) S := id rfl
@[simp ↓] theorem z_intI (i : Int) (k : Kp β) : (opBI .int [.int i] S).bind k = k (.int i) S := id rfl
@[simp ↓] theorem z_tupT (l : List PV) (k : Kp β) : (opBI .tuple [.tup l] S).bind k = k (.tup l) S := id rfl
@[simp ↓] theorem z_listT (l : List PV) (k : Kp β) : (opBI .list [.tup l] S).bind k = k (.ref S.length) (S ++ [.lst l]) := id rfl
@[simp ↓] theorem z_cutT (l : List PV) (lo hi : Option Int) (k : Kp β) : (opS (.tup l) lo hi S).bind k = k (.tup (cutP l lo hi)) S := id rfl
@[simp ↓] theorem z_isTtup (v : List PV) (ty : TyN) (k : Kp β) : (oneB (isT (.tup v) S ty) S).bind k = k (.bl (match ty with | .tuple => true | _ => false)) S := by cases ty <;> rfl
@[simp ↓] theorem z_isTint (v : Int) (ty : TyN) (k : Kp β) : (oneB (isT (.int v) S ty) S).bind k = k (.bl (match ty with | .int => true | _ => false)) S := by cases ty <;> rfl
@[simp ↓] theorem z_isTstr (v : Str) (ty : TyN) (k : Kp β) : (oneB (isT (.str v) S ty) S).bind k = k (.bl (match ty with | .str => true | _ => false)) S := by cases ty <;> rfl
@[simp ↓] theorem z_isTbl (v : Bool) (ty : TyN) (k : Kp β) : (oneB (isT (.bl v) S ty) S).bind k = k (.bl (match ty with | .int => true | .bool => true | _ => false)) S := by cases ty <;> rfl
@[simp ↓] theorem z_isTnon (ty : TyN) (k : Kp β) : (oneB (isT .non S ty) S).bind k = k (.bl false) S := by cases ty <;> rfl
def isLy : TyN → Bool
  | .list => true
  | _ => false
theorem z_isTlst {n : Nat} {l : List PV} (ty : TyN) (k : Kp β) (h : S[n]? = some (.lst l) ∨ S[n]? = some (.fro l)) : (oneB (isT (.ref n) S ty) S).bind k = k (.bl (isLy ty)) S := by rcases h with h | h <;> simp only [isT, h] <;> cases ty <;> rfl
@[simp] theorem isLy_1 : isLy .list = true := id rfl
@[simp] theorem isLy_2 : isLy .int = false := id rfl
@[simp] theorem isLy_3 : isLy .bool = false := id rfl
@[simp] theorem isLy_4 : isLy .str = false := id rfl
@[simp] theorem isLy_5 : isLy .tuple = false := id rfl
@[simp ↓] theorem z_tup0 (x : PV) (l : List PV) (k : Kp β) : (opI (.tup (x :: l)) (.int 0) S).bind k = k x S := by simp [opI, atP, ixP, one]
@[simp ↓] theorem z_tup1 (x0 x1 : PV) (l : List PV) (k : Kp β) : (opI (.tup (x0 :: x1 :: l)) (.int 1) S).bind k = k x1 S := by
  have e : atP (x0 :: x1 :: l) 1 = some x1 := by
    have h : (1 : Int) < (x0 :: x1 :: l).length := by simp only [List.length_cons]; omega
    simp only [atP, ixP]
    rw [if_pos (by decide), if_pos h]
    rfl
  show (one (atP _ _) S).bind k = _
  rw [e]
  rfl
@[simp ↓] theorem z_tup2 (x0 x1 x2 : PV) (l : List PV) (k : Kp β) : (opI (.tup (x0 :: x1 :: x2 :: l)) (.int 2) S).bind k = k x2 S := by
  have e : atP (x0 :: x1 :: x2 :: l) 2 = some x2 := by
    have h : (2 : Int) < (x0 :: x1 :: x2 :: l).length := by simp only [List.length_cons]; omega
    simp only [atP, ixP]
    rw [if_pos (by decide), if_pos h]
    rfl
  show (one (atP _ _) S).bind k = _
  rw [e]
  rfl
@[simp ↓] theorem z_tup3 (x0 x1 x2 x3 : PV) (l : List PV) (k : Kp β) : (opI (.tup (x0 :: x1 :: x2 :: x3 :: l)) (.int 3) S).bind k = k x3 S := by
  have e : atP (x0 :: x1 :: x2 :: x3 :: l) 3 = some x3 := by
    have h : (3 : Int) < (x0 :: x1 :: x2 :: x3 :: l).length := by simp only [List.length_cons]; omega
    simp only [atP, ixP]
    rw [if_pos (by decide), if_pos h]
    rfl
  show (one (atP _ _) S).bind k = _
  rw [e]
  rfl
@[simp ↓] theorem z_tup4 (x0 x1 x2 x3 x4 : PV) (l : List PV) (k : Kp β) : (opI (.tup (x0 :: x1 :: x2 :: x3 :: x4 :: l)) (.int 4) S).bind k = k x4 S := by
  have e : atP (x0 :: x1 :: x2 :: x3 :: x4 :: l) 4 = some x4 := by
    have h : (4 : Int) < (x0 :: x1 :: x2 :: x3 :: x4 :: l).length := by simp only [List.length_cons]; omega
    simp only [atP, ixP]
    rw [if_pos (by decide), if_pos h]
    rfl
  show (one (atP _ _) S).bind k = _
  rw [e]
  rfl
@[simp ↓] theorem z_tup5 (x0 x1 x2 x3 x4 x5 : PV) (l : List PV) (k : Kp β) : (opI (.tup (x0 :: x1 :: x2 :: x3 :: x4 :: x5 :: l)) (.int 5) S).bind k = k x5 S := by
  have e : atP (x0 :: x1 :: x2 :: x3 :: x4 :: x5 :: l) 5 = some x5 := by
    have h : (5 : Int) < (x0 :: x1 :: x2 :: x3 :: x4 :: x5 :: l).length := by simp only [List.length_cons]; omega
    simp only [atP, ixP]
    rw [if_pos (by decide), if_pos h]
    rfl
  show (one (atP _ _) S).bind k = _
  rw [e]
  rfl
@[simp ↓] theorem z_tup6 (x0 x1 x2 x3 x4 x5 x6 : PV) (l : List PV) (k : Kp β) : (opI (.tup (x0 :: x1 :: x2 :: x3 :: x4 :: x5 :: x6 :: l)) (.int 6) S).bind k = k x6 S := by
  have e : atP (x0 :: x1 :: x2 :: x3 :: x4 :: x5 :: x6 :: l) 6 = some x6 := by
    have h : (6 : Int) < (x0 :: x1 :: x2 :: x3 :: x4 :: x5 :: x6 :: l).length := by simp only [List.length_cons]; omega
    simp only [atP, ixP]
    rw [if_pos (by decide), if_pos h]
    rfl
  show (one (atP _ _) S).bind k = _
  rw [e]
  rfl
@[simp ↓] theorem z_tup7 (x0 x1 x2 x3 x4 x5 x6 x7 : PV) (l : List PV) (k : Kp β) : (opI (.tup (x0 :: x1 :: x2 :: x3 :: x4 :: x5 :: x6 :: x7 :: l)) (.int 7) S).bind k = k x7 S := by
  have e : atP (x0 :: x1 :: x2 :: x3 :: x4 :: x5 :: x6 :: x7 :: l) 7 = some x7 := by
    have h : (7 : Int) < (x0 :: x1 :: x2 :: x3 :: x4 :: x5 :: x6 :: x7 :: l).length := by simp only [List.length_cons]; omega
    simp only [atP, ixP]
    rw [if_pos (by decide), if_pos h]
    rfl
  show (one (atP _ _) S).bind k = _
  rw [e]
  rfl
@[simp ↓] theorem z_tup8 (x0 x1 x2 x3 x4 x5 x6 x7 x8 : PV) (l : List PV) (k : Kp β) : (opI (.tup (x0 :: x1 :: x2 :: x3 :: x4 :: x5 :: x6 :: x7 :: x8 :: l)) (.int 8) S).bind k = k x8 S := by
  have e : atP (x0 :: x1 :: x2 :: x3 :: x4 :: x5 :: x6 :: x7 :: x8 :: l) 8 = some x8 := by
    have h : (8 : Int) < (x0 :: x1 :: x2 :: x3 :: x4 :: x5 :: x6 :: x7 :: x8 :: l).length := by simp only [List.length_cons]; omega
    simp only [atP, ixP]
    rw [if_pos (by decide), if_pos h]
    rfl
  show (one (atP _ _) S).bind k = _
  rw [e]
  rfl
@[simp ↓] theorem z_tup9 (x0 x1 x2 x3 x4 x5 x6 x7 x8 x9 : PV) (l : List PV) (k : Kp β) : (opI (.tup (x0 :: x1 :: x2 :: x3 :: x4 :: x5 :: x6 :: x7 :: x8 :: x9 :: l)) (.int 9) S).bind k = k x9 S := by
  have e : atP (x0 :: x1 :: x2 :: x3 :: x4 :: x5 :: x6 :: x7 :: x8 :: x9 :: l) 9 = some x9 := by
    have h : (9 : Int) < (x0 :: x1 :: x2 :: x3 :: x4 :: x5 :: x6 :: x7 :: x8 :: x9 :: l).length := by simp only [List.length_cons]; omega
    simp only [atP, ixP]
    rw [if_pos (by decide), if_pos h]
    rfl
  show (one (atP _ _) S).bind k = _
  rw [e]
  rfl
@[simp ↓] theorem z_tup10 (x0 x1 x2 x3 x4 x5 x6 x7 x8 x9 x10 : PV) (l : List PV) (k : Kp β) : (opI (.tup (x0 :: x1 :: x2 :: x3 :: x4 :: x5 :: x6 :: x7 :: x8 :: x9 :: x10 :: l)) (.int 10) S).bind k = k x10 S := by
  have e : atP (x0 :: x1 :: x2 :: x3 :: x4 :: x5 :: x6 :: x7 :: x8 :: x9 :: x10 :: l) 10 = some x10 := by
    have h : (10 : Int) < (x0 :: x1 :: x2 :: x3 :: x4 :: x5 :: x6 :: x7 :: x8 :: x9 :: x10 :: l).length := by simp only [List.length_cons]; omega
    simp only [atP, ixP]
    rw [if_pos (by decide), if_pos h]
    rfl
  show (one (atP _ _) S).bind k = _
  rw [e]
  rfl
@[simp ↓] theorem z_tup11 (x0 x1 x2 x3 x4 x5 x6 x7 x8 x9 x10 x11 : PV) (l : List PV) (k : Kp β) : (opI (.tup (x0 :: x1 :: x2 :: x3 :: x4 :: x5 :: x6 :: x7 :: x8 :: x9 :: x10 :: x11 :: l)) (.int 11) S).bind k = k x11 S := by
  have e : atP (x0 :: x1 :: x2 :: x3 :: x4 :: x5 :: x6 :: x7 :: x8 :: x9 :: x10 :: x11 :: l) 11 = some x11 := by
    have h : (11 : Int) < (x0 :: x1 :: x2 :: x3 :: x4 :: x5 :: x6 :: x7 :: x8 :: x9 :: x10 :: x11 :: l).length := by simp only [List.length_cons]; omega
    simp only [atP, ixP]
    rw [if_pos (by decide), if_pos h]
    rfl
  show (one (atP _ _) S).bind k = _
  rw [e]
  rfl
@[simp ↓] theorem z_tup12 (x0 x1 x2 x3 x4 x5 x6 x7 x8 x9 x10 x11 x12 : PV) (l : List PV) (k : Kp β) : (opI (.tup (x0 :: x1 :: x2 :: x3 :: x4 :: x5 :: x6 :: x7 :: x8 :: x9 :: x10 :: x11 :: x12 :: l)) (.int 12) S).bind k = k x12 S := by
  have e : atP (x0 :: x1 :: x2 :: x3 :: x4 :: x5 :: x6 :: x7 :: x8 :: x9 :: x10 :: x11 :: x12 :: l) 12 = some x12 := by
    have h : (12 : Int) < (x0 :: x1 :: x2 :: x3 :: x4 :: x5 :: x6 :: x7 :: x8 :: x9 :: x10 :: x11 :: x12 :: l).length := by simp only [List.length_cons]; omega
    simp only [atP, ixP]
    rw [if_pos (by decide), if_pos h]
    rfl
  show (one (atP _ _) S).bind k = _
  rw [e]
  rfl
@[simp ↓] theorem z_last1 (x0 : PV) (k : Kp β) : (opI (.tup [x0]) (.int (-1)) S).bind k = k x0 S := id rfl
@[simp ↓] theorem z_last2 (x0 x1 : PV) (k : Kp β) : (opI (.tup [x0, x1]) (.int (-1)) S).bind k = k x1 S := id rfl
@[simp ↓] theorem z_last3 (x0 x1 x2 : PV) (k : Kp β) : (opI (.tup [x0, x1, x2]) (.int (-1)) S).bind k = k x2 S := id rfl
@[simp ↓] theorem z_last4 (x0 x1 x2 x3 : PV) (k : Kp β) : (opI (.tup [x0, x1, x2, x3]) (.int (-1)) S).bind k = k x3 S := id rfl
@[simp ↓] theorem z_last5 (x0 x1 x2 x3 x4 : PV) (k : Kp β) : (opI (.tup [x0, x1, x2, x3, x4]) (.int (-1)) S).bind k = k x4 S := id rfl
@[simp ↓] theorem z_loc0 (v : PV) (e : Env1) (k : Kp β) : (ev (P.ar c) (.loc 0) t (some v :: e) S).bind k = (test t v S).bind k := by rw [z_loc]; rfl
@[simp ↓] theorem z_loc1 (x0 : Option PV) (v : PV) (e : Env1) (k : Kp β) : (ev (P.ar c) (.loc 1) t (x0 :: some v :: e) S).bind k = (test t v S).bind k := by rw [z_loc]; rfl
@[simp ↓] theorem z_loc2 (x0 x1 : Option PV) (v : PV) (e : Env1) (k : Kp β) : (ev (P.ar c) (.loc 2) t (x0 :: x1 :: some v :: e) S).bind k = (test t v S).bind k := by rw [z_loc]; rfl
@[simp ↓] theorem z_loc3 (x0 x1 x2 : Option PV) (v : PV) (e : Env1) (k : Kp β) : (ev (P.ar c) (.loc 3) t (x0 :: x1 :: x2 :: some v :: e) S).bind k = (test t v S).bind k := by rw [z_loc]; rfl
@[simp ↓] theorem z_loc4 (x0 x1 x2 x3 : Option PV) (v : PV) (e : Env1) (k : Kp β) : (ev (P.ar c) (.loc 4) t (x0 :: x1 :: x2 :: x3 :: some v :: e) S).bind k = (test t v S).bind k := by rw [z_loc]; rfl
@[simp ↓] theorem z_loc5 (x0 x1 x2 x3 x4 : Option PV) (v : PV) (e : Env1) (k : Kp β) : (ev (P.ar c) (.loc 5) t (x0 :: x1 :: x2 :: x3 :: x4 :: some v :: e) S).bind k = (test t v S).bind k := by rw [z_loc]; rfl
@[simp ↓] theorem z_loc6 (x0 x1 x2 x3 x4 x5 : Option PV) (v : PV) (e : Env1) (k : Kp β) : (ev (P.ar c) (.loc 6) t (x0 :: x1 :: x2 :: x3 :: x4 :: x5 :: some v :: e) S).bind k = (test t v S).bind k := by rw [z_loc]; rfl
@[simp ↓] theorem z_loc7 (x0 x1 x2 x3 x4 x5 x6 : Option PV) (v : PV) (e : Env1) (k : Kp β) : (ev (P.ar c) (.loc 7) t (x0 :: x1 :: x2 :: x3 :: x4 :: x5 :: x6 :: some v :: e) S).bind k = (test t v S).bind k := by rw [z_loc]; rfl
@[simp ↓] theorem z_loc8 (x0 x1 x2 x3 x4 x5 x6 x7 : Option PV) (v : PV) (e : Env1) (k : Kp β) : (ev (P.ar c) (.loc 8) t (x0 :: x1 :: x2 :: x3 :: x4 :: x5 :: x6 :: x7 :: some v :: e) S).bind k = (test t v S).bind k := by rw [z_loc]; rfl
@[simp ↓] theorem z_loc9 (x0 x1 x2 x3 x4 x5 x6 x7 x8 : Option PV) (v : PV) (e : Env1) (k : Kp β) : (ev (P.ar c) (.loc 9) t (x0 :: x1 :: x2 :: x3 :: x4 :: x5 :: x6 :: x7 :: x8 :: some v :: e) S).bind k = (test t v S).bind k := by rw [z_loc]; rfl
@[simp ↓] theorem z_loc10 (x0 x1 x2 x3 x4 x5 x6 x7 x8 x9 : Option PV) (v : PV) (e : Env1) (k : Kp β) : (ev (P.ar c) (.loc 10) t (x0 :: x1 :: x2 :: x3 :: x4 :: x5 :: x6 :: x7 :: x8 :: x9 :: some v :: e) S).bind k = (test t v S).bind k := by rw [z_loc]; rfl
@[simp ↓] theorem z_loc11 (x0 x1 x2 x3 x4 x5 x6 x7 x8 x9 x10 : Option PV) (v : PV) (e : Env1) (k : Kp β) : (ev (P.ar c) (.loc 11) t (x0 :: x1 :: x2 :: x3 :: x4 :: x5 :: x6 :: x7 :: x8 :: x9 :: x10 :: some v :: e) S).bind k = (test t v S).bind k := by rw [z_loc]; rfl
@[simp ↓] theorem z_loc12 (x0 x1 x2 x3 x4 x5 x6 x7 x8 x9 x10 x11 : Option PV) (v : PV) (e : Env1) (k : Kp β) : (ev (P.ar c) (.loc 12) t (x0 :: x1 :: x2 :: x3 :: x4 :: x5 :: x6 :: x7 :: x8 :: x9 :: x10 :: x11 :: some v :: e) S).bind k = (test t v S).bind k := by rw [z_loc]; rfl
@[simp ↓] theorem z_loc13 (x0 x1 x2 x3 x4 x5 x6 x7 x8 x9 x10 x11 x12 : Option PV) (v : PV) (e : Env1) (k : Kp β) : (ev (P.ar c) (.loc 13) t (x0 :: x1 :: x2 :: x3 :: x4 :: x5 :: x6 :: x7 :: x8 :: x9 :: x10 :: x11 :: x12 :: some v :: e) S).bind k = (test t v S).bind k := by rw [z_loc]; rfl
@[simp ↓] theorem z_loc14 (x0 x1 x2 x3 x4 x5 x6 x7 x8 x9 x10 x11 x12 x13 : Option PV) (v : PV) (e : Env1) (k : Kp β) : (ev (P.ar c) (.loc 14) t (x0 :: x1 :: x2 :: x3 :: x4 :: x5 :: x6 :: x7 :: x8 :: x9 :: x10 :: x11 :: x12 :: x13 :: some v :: e) S).bind k = (test t v S).bind k := by rw [z_loc]; rfl
@[simp ↓] theorem z_loc15 (x0 x1 x2 x3 x4 x5 x6 x7 x8 x9 x10 x11 x12 x13 x14 : Option PV) (v : PV) (e : Env1) (k : Kp β) : (ev (P.ar c) (.loc 15) t (x0 :: x1 :: x2 :: x3 :: x4 :: x5 :: x6 :: x7 :: x8 :: x9 :: x10 :: x11 :: x12 :: x13 :: x14 :: some v :: e) S).bind k = (test t v S).bind k := by rw [z_loc]; rfl
@[simp ↓] theorem z_loc16 (x0 x1 x2 x3 x4 x5 x6 x7 x8 x9 x10 x11 x12 x13 x14 x15 : Option PV) (v : PV) (e : Env1) (k : Kp β) : (ev (P.ar c) (.loc 16) t (x0 :: x1 :: x2 :: x3 :: x4 :: x5 :: x6 :: x7 :: x8 :: x9 :: x10 :: x11 :: x12 :: x13 :: x14 :: x15 :: some v :: e) S).bind k = (test t v S).bind k := by rw [z_loc]; rfl
@[simp ↓] theorem z_loc17 (x0 x1 x2 x3 x4 x5 x6 x7 x8 x9 x10 x11 x12 x13 x14 x15 x16 : Option PV) (v : PV) (e : Env1) (k : Kp β) : (ev (P.ar c) (.loc 17) t (x0 :: x1 :: x2 :: x3 :: x4 :: x5 :: x6 :: x7 :: x8 :: x9 :: x10 :: x11 :: x12 :: x13 :: x14 :: x15 :: x16 :: some v :: e) S).bind k = (test t v S).bind k := by rw [z_loc]; rfl
@[simp ↓] theorem z_loc18 (x0 x1 x2 x3 x4 x5 x6 x7 x8 x9 x10 x11 x12 x13 x14 x15 x16 x17 : Option PV) (v : PV) (e : Env1) (k : Kp β) : (ev (P.ar c) (.loc 18) t (x0 :: x1 :: x2 :: x3 :: x4 :: x5 :: x6 :: x7 :: x8 :: x9 :: x10 :: x11 :: x12 :: x13 :: x14 :: x15 :: x16 :: x17 :: some v :: e) S).bind k = (test t v S).bind k := by rw [z_loc]; rfl
@[simp ↓] theorem z_loc19 (x0 x1 x2 x3 x4 x5 x6 x7 x8 x9 x10 x11 x12 x13 x14 x15 x16 x17 x18 : Option PV) (v : PV) (e : Env1) (k : Kp β) : (ev (P.ar c) (.loc 19) t (x0 :: x1 :: x2 :: x3 :: x4 :: x5 :: x6 :: x7 :: x8 :: x9 :: x10 :: x11 :: x12 :: x13 :: x14 :: x15 :: x16 :: x17 :: x18 :: some v :: e) S).bind k = (test t v S).bind k := by rw [z_loc]; rfl
@[simp ↓] theorem z_loc20 (x0 x1 x2 x3 x4 x5 x6 x7 x8 x9 x10 x11 x12 x13 x14 x15 x16 x17 x18 x19 : Option PV) (v : PV) (e : Env1) (k : Kp β) : (ev (P.ar c) (.loc 20) t (x0 :: x1 :: x2 :: x3 :: x4 :: x5 :: x6 :: x7 :: x8 :: x9 :: x10 :: x11 :: x12 :: x13 :: x14 :: x15 :: x16 :: x17 :: x18 :: x19 :: some v :: e) S).bind k = (test t v S).bind k := by rw [z_loc]; rfl
@[simp ↓] theorem z_loc21 (x0 x1 x2 x3 x4 x5 x6 x7 x8 x9 x10 x11 x12 x13 x14 x15 x16 x17 x18 x19 x20 : Option PV) (v : PV) (e : Env1) (k : Kp β) : (ev (P.ar c) (.loc 21) t (x0 :: x1 :: x2 :: x3 :: x4 :: x5 :: x6 :: x7 :: x8 :: x9 :: x10 :: x11 :: x12 :: x13 :: x14 :: x15 :: x16 :: x17 :: x18 :: x19 :: x20 :: some v :: e) S).bind k = (test t v S).bind k := by rw [z_loc]; rfl
@[simp ↓] theorem z_loc22 (x0 x1 x2 x3 x4 x5 x6 x7 x8 x9 x10 x11 x12 x13 x14 x15 x16 x17 x18 x19 x20 x21 : Option PV) (v : PV) (e : Env1) (k : Kp β) : (ev (P.ar c) (.loc 22) t (x0 :: x1 :: x2 :: x3 :: x4 :: x5 :: x6 :: x7 :: x8 :: x9 :: x10 :: x11 :: x12 :: x13 :: x14 :: x15 :: x16 :: x17 :: x18 :: x19 :: x20 :: x21 :: some v :: e) S).bind k = (test t v S).bind k := by rw [z_loc]; rfl
@[simp ↓] theorem z_loc23 (x0 x1 x2 x3 x4 x5 x6 x7 x8 x9 x10 x11 x12 x13 x14 x15 x16 x17 x18 x19 x20 x21 x22 : Option PV) (v : PV) (e : Env1) (k : Kp β) : (ev (P.ar c) (.loc 23) t (x0 :: x1 :: x2 :: x3 :: x4 :: x5 :: x6 :: x7 :: x8 :: x9 :: x10 :: x11 :: x12 :: x13 :: x14 :: x15 :: x16 :: x17 :: x18 :: x19 :: x20 :: x21 :: x22 :: some v :: e) S).bind k = (test t v S).bind k := by rw [z_loc]; rfl
/-! ### statements -/
abbrev Ks (β : Type) := Fl × Env1 → Sto → M β
@[simp ↓] theorem y_nil (k : Ks β) : (exs (P.ar c) .nil env S).bind k = k (.nx, env) S := by rw [exs, M.bind_ok]
@[simp ↓] theorem y_cons (s : Mi.S) (ss : Ss) (k : Ks β) : (exs (P.ar c) (.cons s ss) env S).bind k = (ex (P.ar c) s env S).bind fun r S => (seqK (exs (P.ar c) ss) r S).bind k := by rw [exs]; simp only [M.bind_assoc]
@[simp ↓] theorem y_nx (f : Env1 → Sto → M (Fl × Env1)) (k : Ks β) : (seqK f (.nx, env) S).bind k = (f env S).bind k := id rfl
@[simp ↓] theorem y_ret (f : Env1 → Sto → M (Fl × Env1)) (v : PV) (k : Ks β) : (seqK f (.ret v, env) S).bind k = k (.ret v, env) S := id rfl
@[simp ↓] theorem y_brk (f : Env1 → Sto → M (Fl × Env1)) (k : Ks β) : (seqK f (.brk, env) S).bind k = k (.brk, env) S := id rfl
@[simp ↓] theorem y_cnt (f : Env1 → Sto → M (Fl × Env1)) (k : Ks β) : (seqK f (.cnt, env) S).bind k = k (.cnt, env) S := id rfl
@[simp ↓] theorem y_exp (e : E) (k : Ks β) : (ex (P.ar c) (.exp e) env S).bind k = (ev (P.ar c) e false env S).bind fun _ S => k (.nx, env) S := by rw [ex]; simp only [M.bind_assoc, M.bind_ok]
@[simp ↓] theorem y_asg (i : Nat) (e : E) (k : Ks β) : (ex (P.ar c) (.asg (.loc i) e) env S).bind k = (ev (P.ar c) e false env S).bind fun v S => (putK1 [i] env v S).bind k := by rw [ex]; simp only [M.bind_assoc]
@[simp ↓] theorem y_asgT (is : List Nat) (e : E) (k : Ks β) : (ex (P.ar c) (.asg (.tup is) e) env S).bind k = (ev (P.ar c) e false env S).bind fun v S => (putK1 is env v S).bind k := by rw [ex]; simp only [M.bind_assoc]
@[simp ↓] theorem y_asgI (o i e : E) (k : Ks β) : (ex (P.ar c) (.asg (.idx o i) e) env S).bind k = (ev (P.ar c) e false env S).bind fun v S => (ev (P.ar c) o false env S).bind fun ov S => (ev (P.ar c) i false env S).bind fun iv S => (setI ov iv v S).bind fun _ S => k (.nx, env) S := by rw [ex]; simp only [M.bind_assoc, setIK, M.bind_ok]
@[simp ↓] theorem y_asgF (o : E) (x : Str) (e : E) (k : Ks β) : (ex (P.ar c) (.asg (.fld o x) e) env S).bind k = (ev (P.ar c) e false env S).bind fun v S => (ev (P.ar c) o false env S).bind fun ov S => (setF P.fl ov x v S).bind fun _ S => k (.nx, env) S := by rw [ex]; simp only [M.bind_assoc, setFK, M.bind_ok]; rfl
@[simp ↓] theorem y_par (is : List Nat) (es : Es) (k : Ks β) : (ex (P.ar c) (.par is es) env S).bind k = (evs (P.ar c) es env S).bind fun vs S => (parK is env vs S).bind k := by rw [ex]; simp only [M.bind_assoc]
def augK (i : Nat) (op : BOp) (env : Env1) (x : Option PV) (y : PV) (S : Sto) : M (Fl × Env1) := match x with
  | some x => (opA op x y S).bind fun z S => .ok (.nx, env.set i (some z)) S
  | none => .bad
@[simp ↓] theorem y_retE (e : E) (k : Ks β) : (ex (P.ar c) (.ret e) env S).bind k = (ev (P.ar c) e false env S).bind fun v S => k (.ret v, env) S := by rw [ex]; simp only [M.bind_assoc, M.bind_ok]
@[simp ↓] theorem y_retN (k : Ks β) : (ex (P.ar c) .retN env S).bind k = k (.ret .non, env) S := by rw [ex, M.bind_ok]
@[simp ↓] theorem y_pass (k : Ks β) : (ex (P.ar c) .pass env S).bind k = k (.nx, env) S := by rw [ex, M.bind_ok]
@[simp ↓] theorem y_brkS (k : Ks β) : (ex (P.ar c) .brk env S).bind k = k (.brk, env) S := by rw [ex, M.bind_ok]
@[simp ↓] theorem y_cntS (k : Ks β) : (ex (P.ar c) .cnt env S).bind k = k (.cnt, env) S := by rw [ex, M.bind_ok]
@[simp ↓] theorem y_ife (d : E) (a b : Ss) (k : Ks β) : (ex (P.ar c) (.ife d a b) env S).bind k = (ev (P.ar c) d true env S).bind fun x S => (ifK (exs (P.ar c) a env) (exs (P.ar c) b env) x S).bind k := by rw [ex]; simp only [M.bind_assoc]
@[simp ↓, simp] theorem y_ifT (m n : Sto → M (Fl × Env1)) (b : Bool) (k : Ks β) (h : b = true) : (ifK m n (.bl b) S).bind k = (m S).bind k := by subst h; rfl
@[simp ↓, simp] theorem y_ifF (m n : Sto → M (Fl × Env1)) (b : Bool) (k : Ks β) (h : b = false) : (ifK m n (.bl b) S).bind k = (n S).bind k := by subst h; rfl
@[simp ↓] theorem y_for (tg : List Nat) (src : Sr) (b : Ss) (k : Ks β) : (ex (P.ar c) (.for_ tg src b) env S).bind k = (evr (P.ar c) src env S).bind fun w S => (loopF (fun env S => exs (P.ar c) b env S) tg w (w.len S) 0 env S).bind k := by rw [ex]; simp only [M.bind_assoc]
@[simp ↓] theorem y_whl (d : E) (b : Ss) (k : Ks β) : (ex (P.ar c) (.whl d b) env S).bind k = (loopW (fun env S => ev (P.ar c) d true env S) (fun env S => exs (P.ar c) b env S) P.fu env S).bind k := by rw [ex]; rfl
@[simp ↓] theorem y_rai (d : Nat) (es : Es) (k : Ks β) : (ex (P.ar c) (.rai d es) env S).bind k = (evs (P.ar c) es env S).bind fun vs S => (raiK d vs S).bind k := by rw [ex]; simp only [M.bind_assoc]
@[simp ↓] theorem y_raiK (d : Nat) (v : PV) (k : Ks β) : (raiK d [v] S).bind k = .exc d v S := id rfl
@[simp ↓] theorem y_try (e : E) (d : Nat) (v : E) (k : Ks β) : (ex (P.ar c) (.tryR e d v) env S).bind k = (tryK (P.ar c) d v env ((ev (P.ar c) e false env S).bind fun a S => .ok a S)).bind k := by rw [ex, M.bind_id]
@[simp ↓, simp] theorem y_tryOk (d : Nat) (v : E) (x : PV) (k : Ks β) : (tryK (P.ar c) d v env (.ok x S)).bind k = k (.nx, env) S := id rfl
@[simp ↓, simp] theorem y_tryX (d d' : Nat) (b : Bool) (x : PV) (k : Ks β) (h : P.sub d' d = some true) : (tryK (P.ar c) d (.bl b) env (.exc d' x S)).bind k = k (.ret (.bl b), env) S := by
  have e : (P.ar c).sub d' d = some true := h
  rw [tryK]; simp only [e]; rfl
def finK (r : Fl × Env1) (S : Sto) : M PV := match r with
  | (.ret v, _) => .ok v S
  | (.nx, _) => .ok .non S
  | _ => .bad
theorem fin_eq (m : M (Fl × Env1)) : fin m = m.bind finK := rfl
@[simp ↓, simp] theorem finK_ret (v : PV) : finK (.ret v, env) S = .ok v S := id rfl
@[simp ↓, simp] theorem finK_nx : finK (.nx, env) S = .ok .non S := id rfl
theorem putK1_eq {i : Nat} {v : PV} {env' : Env1} (h1 : i < env.length) (h2 : env.set i (some v) = env') (k : Ks β) : (putK1 [i] env v S).bind k = k (.nx, env') S := by
  simp only [putK1, putT, setAll]
  rw [if_pos h1, h2]
  rfl
@[simp ↓] theorem y_put0 (x0 : Option PV) (v : PV) (e : Env1) (k : Ks β) : (putK1 [0] (x0 :: e) v S).bind k = k (.nx, some v :: e) S := putK1_eq (by simp only [List.length_cons]; omega) rfl k
@[simp ↓] theorem y_aug0 (_u : Unit := ()) (x : PV) (op : BOp) (a : E) (e : Env1) (k : Ks β) : (ex (P.ar c) (.aug 0 op a) (some x :: e) S).bind k = (ev (P.ar c) a false (some x :: e) S).bind fun y S => (opA op x y S).bind fun z S => k (.nx, some z :: e) S := by rw [ex]; simp only [List.getElem?_cons_succ, List.getElem?_cons_zero, M.bind_assoc, M.bind_ok]; rfl
@[simp ↓] theorem y_put1 (x0 x1 : Option PV) (v : PV) (e : Env1) (k : Ks β) : (putK1 [1] (x0 :: x1 :: e) v S).bind k = k (.nx, x0 :: some v :: e) S := putK1_eq (by simp only [List.length_cons]; omega) rfl k
@[simp ↓] theorem y_aug1 (x0 : Option PV) (x : PV) (op : BOp) (a : E) (e : Env1) (k : Ks β) : (ex (P.ar c) (.aug 1 op a) (x0 :: some x :: e) S).bind k = (ev (P.ar c) a false (x0 :: some x :: e) S).bind fun y S => (opA op x y S).bind fun z S => k (.nx, x0 :: some z :: e) S := by rw [ex]; simp only [List.getElem?_cons_succ, List.getElem?_cons_zero, M.bind_assoc, M.bind_ok]; rfl
@[simp ↓] theorem y_put2 (x0 x1 x2 : Option PV) (v : PV) (e : Env1) (k : Ks β) : (putK1 [2] (x0 :: x1 :: x2 :: e) v S).bind k = k (.nx, x0 :: x1 :: some v :: e) S := putK1_eq (by simp only [List.length_cons]; omega) rfl k
@[simp ↓] theorem y_aug2 (x0 x1 : Option PV) (x : PV) (op : BOp) (a : E) (e : Env1) (k : Ks β) : (ex (P.ar c) (.aug 2 op a) (x0 :: x1 :: some x :: e) S).bind k = (ev (P.ar c) a false (x0 :: x1 :: some x :: e) S).bind fun y S => (opA op x y S).bind fun z S => k (.nx, x0 :: x1 :: some z :: e) S := by rw [ex]; simp only [List.getElem?_cons_succ, List.getElem?_cons_zero, M.bind_assoc, M.bind_ok]; rfl
@[simp ↓] theorem y_put3 (x0 x1 x2 x3 : Option PV) (v : PV) (e : Env1) (k : Ks β) : (putK1 [3] (x0 :: x1 :: x2 :: x3 :: e) v S).bind k = k (.nx, x0 :: x1 :: x2 :: some v :: e) S := putK1_eq (by simp only [List.length_cons]; omega) rfl k
@[simp ↓] theorem y_aug3 (x0 x1 x2 : Option PV) (x : PV) (op : BOp) (a : E) (e : Env1) (k : Ks β) : (ex (P.ar c) (.aug 3 op a) (x0 :: x1 :: x2 :: some x :: e) S).bind k = (ev (P.ar c) a false (x0 :: x1 :: x2 :: some x :: e) S).bind fun y S => (opA op x y S).bind fun z S => k (.nx, x0 :: x1 :: x2 :: some z :: e) S := by rw [ex]; simp only [List.getElem?_cons_succ, List.getElem?_cons_zero, M.bind_assoc, M.bind_ok]; rfl
@[simp ↓] theorem y_put4 (x0 x1 x2 x3 x4 : Option PV) (v : PV) (e : Env1) (k : Ks β) : (putK1 [4] (x0 :: x1 :: x2 :: x3 :: x4 :: e) v S).bind k = k (.nx, x0 :: x1 :: x2 :: x3 :: some v :: e) S := putK1_eq (by simp only [List.length_cons]; omega) rfl k
@[simp ↓] theorem y_aug4 (x0 x1 x2 x3 : Option PV) (x : PV) (op : BOp) (a : E) (e : Env1) (k : Ks β) : (ex (P.ar c) (.aug 4 op a) (x0 :: x1 :: x2 :: x3 :: some x :: e) S).bind k = (ev (P.ar c) a false (x0 :: x1 :: x2 :: x3 :: some x :: e) S).bind fun y S => (opA op x y S).bind fun z S => k (.nx, x0 :: x1 :: x2 :: x3 :: some z :: e) S := by rw [ex]; simp only [List.getElem?_cons_succ, List.getElem?_cons_zero, M.bind_assoc, M.bind_ok]; rfl
@[simp ↓] theorem y_put5 (x0 x1 x2 x3 x4 x5 : Option PV) (v : PV) (e : Env1) (k : Ks β) : (putK1 [5] (x0 :: x1 :: x2 :: x3 :: x4 :: x5 :: e) v S).bind k = k (.nx, x0 :: x1 :: x2 :: x3 :: x4 :: some v :: e) S := putK1_eq (by simp only [List.length_cons]; omega) rfl k
@[simp ↓] theorem y_aug5 (x0 x1 x2 x3 x4 : Option PV) (x : PV) (op : BOp) (a : E) (e : Env1) (k : Ks β) : (ex (P.ar c) (.aug 5 op a) (x0 :: x1 :: x2 :: x3 :: x4 :: some x :: e) S).bind k = (ev (P.ar c) a false (x0 :: x1 :: x2 :: x3 :: x4 :: some x :: e) S).bind fun y S => (opA op x y S).bind fun z S => k (.nx, x0 :: x1 :: x2 :: x3 :: x4 :: some z :: e) S := by rw [ex]; simp only [List.getElem?_cons_succ, List.getElem?_cons_zero, M.bind_assoc, M.bind_ok]; rfl
@[simp ↓] theorem y_put6 (x0 x1 x2 x3 x4 x5 x6 : Option PV) (v : PV) (e : Env1) (k : Ks β) : (putK1 [6] (x0 :: x1 :: x2 :: x3 :: x4 :: x5 :: x6 :: e) v S).bind k = k (.nx, x0 :: x1 :: x2 :: x3 :: x4 :: x5 :: some v :: e) S := putK1_eq (by simp only [List.length_cons]; omega) rfl k
@[simp ↓] theorem y_aug6 (x0 x1 x2 x3 x4 x5 : Option PV) (x : PV) (op : BOp) (a : E) (e : Env1) (k : Ks β) : (ex (P.ar c) (.aug 6 op a) (x0 :: x1 :: x2 :: x3 :: x4 :: x5 :: some x :: e) S).bind k = (ev (P.ar c) a false (x0 :: x1 :: x2 :: x3 :: x4 :: x5 :: some x :: e) S).bind fun y S => (opA op x y S).bind fun z S => k (.nx, x0 :: x1 :: x2 :: x3 :: x4 :: x5 :: some z :: e) S := by rw [ex]; simp only [List.getElem?_cons_succ, List.getElem?_cons_zero, M.bind_assoc, M.bind_ok]; rfl
@[simp ↓] theorem y_put7 (x0 x1 x2 x3 x4 x5 x6 x7 : Option PV) (v : PV) (e : Env1) (k : Ks β) : (putK1 [7] (x0 :: x1 :: x2 :: x3 :: x4 :: x5 :: x6 :: x7 :: e) v S).bind k = k (.nx, x0 :: x1 :: x2 :: x3 :: x4 :: x5 :: x6 :: some v :: e) S := putK1_eq (by simp only [List.length_cons]; omega) rfl k
@[simp ↓] theorem y_aug7 (x0 x1 x2 x3 x4 x5 x6 : Option PV) (x : PV) (op : BOp) (a : E) (e : Env1) (k : Ks β) : (ex (P.ar c) (.aug 7 op a) (x0 :: x1 :: x2 :: x3 :: x4 :: x5 :: x6 :: some x :: e) S).bind k = (ev (P.ar c) a false (x0 :: x1 :: x2 :: x3 :: x4 :: x5 :: x6 :: some x :: e) S).bind fun y S => (opA op x y S).bind fun z S => k (.nx, x0 :: x1 :: x2 :: x3 :: x4 :: x5 :: x6 :: some z :: e) S := by rw [ex]; simp only [List.getElem?_cons_succ, List.getElem?_cons_zero, M.bind_assoc, M.bind_ok]; rfl
@[simp ↓] theorem y_put8 (x0 x1 x2 x3 x4 x5 x6 x7 x8 : Option PV) (v : PV) (e : Env1) (k : Ks β) : (putK1 [8] (x0 :: x1 :: x2 :: x3 :: x4 :: x5 :: x6 :: x7 :: x8 :: e) v S).bind k = k (.nx, x0 :: x1 :: x2 :: x3 :: x4 :: x5 :: x6 :: x7 :: some v :: e) S := putK1_eq (by simp only [List.length_cons]; omega) rfl k
@[simp ↓] theorem y_aug8 (x0 x1 x2 x3 x4 x5 x6 x7 : Option PV) (x : PV) (op : BOp) (a : E) (e : Env1) (k : Ks β) : (ex (P.ar c) (.aug 8 op a) (x0 :: x1 :: x2 :: x3 :: x4 :: x5 :: x6 :: x7 :: some x :: e) S).bind k = (ev (P.ar c) a false (x0 :: x1 :: x2 :: x3 :: x4 :: x5 :: x6 :: x7 :: some x :: e) S).bind fun y S => (opA op x y S).bind fun z S => k (.nx, x0 :: x1 :: x2 :: x3 :: x4 :: x5 :: x6 :: x7 :: some z :: e) S := by rw [ex]; simp only [List.getElem?_cons_succ, List.getElem?_cons_zero, M.bind_assoc, M.bind_ok]; rfl
@[simp ↓] theorem y_put9 (x0 x1 x2 x3 x4 x5 x6 x7 x8 x9 : Option PV) (v : PV) (e : Env1) (k : Ks β) : (putK1 [9] (x0 :: x1 :: x2 :: x3 :: x4 :: x5 :: x6 :: x7 :: x8 :: x9 :: e) v S).bind k = k (.nx, x0 :: x1 :: x2 :: x3 :: x4 :: x5 :: x6 :: x7 :: x8 :: some v :: e) S := putK1_eq (by simp only [List.length_cons]; omega) rfl k
@[simp ↓] theorem y_aug9 (x0 x1 x2 x3 x4 x5 x6 x7 x8 : Option PV) (x : PV) (op : BOp) (a : E) (e : Env1) (k : Ks β) : (ex (P.ar c) (.aug 9 op a) (x0 :: x1 :: x2 :: x3 :: x4 :: x5 :: x6 :: x7 :: x8 :: some x :: e) S).bind k = (ev (P.ar c) a false (x0 :: x1 :: x2 :: x3 :: x4 :: x5 :: x6 :: x7 :: x8 :: some x :: e) S).bind fun y S => (opA op x y S).bind fun z S => k (.nx, x0 :: x1 :: x2 :: x3 :: x4 :: x5 :: x6 :: x7 :: x8 :: some z :: e) S := by rw [ex]; simp only [List.getElem?_cons_succ, List.getElem?_cons_zero, M.bind_assoc, M.bind_ok]; rfl
@[simp ↓] theorem y_put10 (x0 x1 x2 x3 x4 x5 x6 x7 x8 x9 x10 : Option PV) (v : PV) (e : Env1) (k : Ks β) : (putK1 [10] (x0 :: x1 :: x2 :: x3 :: x4 :: x5 :: x6 :: x7 :: x8 :: x9 :: x10 :: e) v S).bind k = k (.nx, x0 :: x1 :: x2 :: x3 :: x4 :: x5 :: x6 :: x7 :: x8 :: x9 :: some v :: e) S := putK1_eq (by simp only [List.length_cons]; omega) rfl k
@[simp ↓] theorem y_aug10 (x0 x1 x2 x3 x4 x5 x6 x7 x8 x9 : Option PV) (x : PV) (op : BOp) (a : E) (e : Env1) (k : Ks β) : (ex (P.ar c) (.aug 10 op a) (x0 :: x1 :: x2 :: x3 :: x4 :: x5 :: x6 :: x7 :: x8 :: x9 :: some x :: e) S).bind k = (ev (P.ar c) a false (x0 :: x1 :: x2 :: x3 :: x4 :: x5 :: x6 :: x7 :: x8 :: x9 :: some x :: e) S).bind fun y S => (opA op x y S).bind fun z S => k (.nx, x0 :: x1 :: x2 :: x3 :: x4 :: x5 :: x6 :: x7 :: x8 :: x9 :: some z :: e) S := by rw [ex]; simp only [List.getElem?_cons_succ, List.getElem?_cons_zero, M.bind_assoc, M.bind_ok]; rfl
@[simp ↓] theorem y_put11 (x0 x1 x2 x3 x4 x5 x6 x7 x8 x9 x10 x11 : Option PV) (v : PV) (e : Env1) (k : Ks β) : (putK1 [11] (x0 :: x1 :: x2 :: x3 :: x4 :: x5 :: x6 :: x7 :: x8 :: x9 :: x10 :: x11 :: e) v S).bind k = k (.nx, x0 :: x1 :: x2 :: x3 :: x4 :: x5 :: x6 :: x7 :: x8 :: x9 :: x10 :: some v :: e) S := putK1_eq (by simp only [List.length_cons]; omega) rfl k
@[simp ↓] theorem y_aug11 (x0 x1 x2 x3 x4 x5 x6 x7 x8 x9 x10 : Option PV) (x : PV) (op : BOp) (a : E) (e : Env1) (k : Ks β) : (ex (P.ar c) (.aug 11 op a) (x0 :: x1 :: x2 :: x3 :: x4 :: x5 :: x6 :: x7 :: x8 :: x9 :: x10 :: some x :: e) S).bind k = (ev (P.ar c) a false (x0 :: x1 :: x2 :: x3 :: x4 :: x5 :: x6 :: x7 :: x8 :: x9 :: x10 :: some x :: e) S).bind fun y S => (opA op x y S).bind fun z S => k (.nx, x0 :: x1 :: x2 :: x3 :: x4 :: x5 :: x6 :: x7 :: x8 :: x9 :: x10 :: some z :: e) S := by rw [ex]; simp only [List.getElem?_cons_succ, List.getElem?_cons_zero, M.bind_assoc, M.bind_ok]; rfl
@[simp ↓] theorem y_put12 (x0 x1 x2 x3 x4 x5 x6 x7 x8 x9 x10 x11 x12 : Option PV) (v : PV) (e : Env1) (k : Ks β) : (putK1 [12] (x0 :: x1 :: x2 :: x3 :: x4 :: x5 :: x6 :: x7 :: x8 :: x9 :: x10 :: x11 :: x12 :: e) v S).bind k = k (.nx, x0 :: x1 :: x2 :: x3 :: x4 :: x5 :: x6 :: x7 :: x8 :: x9 :: x10 :: x11 :: some v :: e) S := putK1_eq (by simp only [List.length_cons]; omega) rfl k
@[simp ↓] theorem y_aug12 (x0 x1 x2 x3 x4 x5 x6 x7 x8 x9 x10 x11 : Option PV) (x : PV) (op : BOp) (a : E) (e : Env1) (k : Ks β) : (ex (P.ar c) (.aug 12 op a) (x0 :: x1 :: x2 :: x3 :: x4 :: x5 :: x6 :: x7 :: x8 :: x9 :: x10 :: x11 :: some x :: e) S).bind k = (ev (P.ar c) a false (x0 :: x1 :: x2 :: x3 :: x4 :: x5 :: x6 :: x7 :: x8 :: x9 :: x10 :: x11 :: some x :: e) S).bind fun y S => (opA op x y S).bind fun z S => k (.nx, x0 :: x1 :: x2 :: x3 :: x4 :: x5 :: x6 :: x7 :: x8 :: x9 :: x10 :: x11 :: some z :: e) S := by rw [ex]; simp only [List.getElem?_cons_succ, List.getElem?_cons_zero, M.bind_assoc, M.bind_ok]; rfl
@[simp ↓] theorem y_put13 (x0 x1 x2 x3 x4 x5 x6 x7 x8 x9 x10 x11 x12 x13 : Option PV) (v : PV) (e : Env1) (k : Ks β) : (putK1 [13] (x0 :: x1 :: x2 :: x3 :: x4 :: x5 :: x6 :: x7 :: x8 :: x9 :: x10 :: x11 :: x12 :: x13 :: e) v S).bind k = k (.nx, x0 :: x1 :: x2 :: x3 :: x4 :: x5 :: x6 :: x7 :: x8 :: x9 :: x10 :: x11 :: x12 :: some v :: e) S := putK1_eq (by simp only [List.length_cons]; omega) rfl k
@[simp ↓] theorem y_aug13 (x0 x1 x2 x3 x4 x5 x6 x7 x8 x9 x10 x11 x12 : Option PV) (x : PV) (op : BOp) (a : E) (e : Env1) (k : Ks β) : (ex (P.ar c) (.aug 13 op a) (x0 :: x1 :: x2 :: x3 :: x4 :: x5 :: x6 :: x7 :: x8 :: x9 :: x10 :: x11 :: x12 :: some x :: e) S).bind k = (ev (P.ar c) a false (x0 :: x1 :: x2 :: x3 :: x4 :: x5 :: x6 :: x7 :: x8 :: x9 :: x10 :: x11 :: x12 :: some x :: e) S).bind fun y S => (opA op x y S).bind fun z S => k (.nx, x0 :: x1 :: x2 :: x3 :: x4 :: x5 :: x6 :: x7 :: x8 :: x9 :: x10 :: x11 :: x12 :: some z :: e) S := by rw [ex]; simp only [List.getElem?_cons_succ, List.getElem?_cons_zero, M.bind_assoc, M.bind_ok]; rfl
@[simp ↓] theorem y_put14 (x0 x1 x2 x3 x4 x5 x6 x7 x8 x9 x10 x11 x12 x13 x14 : Option PV) (v : PV) (e : Env1) (k : Ks β) : (putK1 [14] (x0 :: x1 :: x2 :: x3 :: x4 :: x5 :: x6 :: x7 :: x8 :: x9 :: x10 :: x11 :: x12 :: x13 :: x14 :: e) v S).bind k = k (.nx, x0 :: x1 :: x2 :: x3 :: x4 :: x5 :: x6 :: x7 :: x8 :: x9 :: x10 :: x11 :: x12 :: x13 :: some v :: e) S := putK1_eq (by simp only [List.length_cons]; omega) rfl k
@[simp ↓] theorem y_aug14 (x0 x1 x2 x3 x4 x5 x6 x7 x8 x9 x10 x11 x12 x13 : Option PV) (x : PV) (op : BOp) (a : E) (e : Env1) (k : Ks β) : (ex (P.ar c) (.aug 14 op a) (x0 :: x1 :: x2 :: x3 :: x4 :: x5 :: x6 :: x7 :: x8 :: x9 :: x10 :: x11 :: x12 :: x13 :: some x :: e) S).bind k = (ev (P.ar c) a false (x0 :: x1 :: x2 :: x3 :: x4 :: x5 :: x6 :: x7 :: x8 :: x9 :: x10 :: x11 :: x12 :: x13 :: some x :: e) S).bind fun y S => (opA op x y S).bind fun z S => k (.nx, x0 :: x1 :: x2 :: x3 :: x4 :: x5 :: x6 :: x7 :: x8 :: x9 :: x10 :: x11 :: x12 :: x13 :: some z :: e) S := by rw [ex]; simp only [List.getElem?_cons_succ, List.getElem?_cons_zero, M.bind_assoc, M.bind_ok]; rfl
@[simp ↓] theorem y_put15 (x0 x1 x2 x3 x4 x5 x6 x7 x8 x9 x10 x11 x12 x13 x14 x15 : Option PV) (v : PV) (e : Env1) (k : Ks β) : (putK1 [15] (x0 :: x1 :: x2 :: x3 :: x4 :: x5 :: x6 :: x7 :: x8 :: x9 :: x10 :: x11 :: x12 :: x13 :: x14 :: x15 :: e) v S).bind k = k (.nx, x0 :: x1 :: x2 :: x3 :: x4 :: x5 :: x6 :: x7 :: x8 :: x9 :: x10 :: x11 :: x12 :: x13 :: x14 :: some v :: e) S := putK1_eq (by simp only [List.length_cons]; omega) rfl k
@[simp ↓] theorem y_aug15 (x0 x1 x2 x3 x4 x5 x6 x7 x8 x9 x10 x11 x12 x13 x14 : Option PV) (x : PV) (op : BOp) (a : E) (e : Env1) (k : Ks β) : (ex (P.ar c) (.aug 15 op a) (x0 :: x1 :: x2 :: x3 :: x4 :: x5 :: x6 :: x7 :: x8 :: x9 :: x10 :: x11 :: x12 :: x13 :: x14 :: some x :: e) S).bind k = (ev (P.ar c) a false (x0 :: x1 :: x2 :: x3 :: x4 :: x5 :: x6 :: x7 :: x8 :: x9 :: x10 :: x11 :: x12 :: x13 :: x14 :: some x :: e) S).bind fun y S => (opA op x y S).bind fun z S => k (.nx, x0 :: x1 :: x2 :: x3 :: x4 :: x5 :: x6 :: x7 :: x8 :: x9 :: x10 :: x11 :: x12 :: x13 :: x14 :: some z :: e) S := by rw [ex]; simp only [List.getElem?_cons_succ, List.getElem?_cons_zero, M.bind_assoc, M.bind_ok]; rfl
@[simp ↓] theorem y_put16 (x0 x1 x2 x3 x4 x5 x6 x7 x8 x9 x10 x11 x12 x13 x14 x15 x16 : Option PV) (v : PV) (e : Env1) (k : Ks β) : (putK1 [16] (x0 :: x1 :: x2 :: x3 :: x4 :: x5 :: x6 :: x7 :: x8 :: x9 :: x10 :: x11 :: x12 :: x13 :: x14 :: x15 :: x16 :: e) v S).bind k = k (.nx, x0 :: x1 :: x2 :: x3 :: x4 :: x5 :: x6 :: x7 :: x8 :: x9 :: x10 :: x11 :: x12 :: x13 :: x14 :: x15 :: some v :: e) S := putK1_eq (by simp only [List.length_cons]; omega) rfl k
@[simp ↓] theorem y_aug16 (x0 x1 x2 x3 x4 x5 x6 x7 x8 x9 x10 x11 x12 x13 x14 x15 : Option PV) (x : PV) (op : BOp) (a : E) (e : Env1) (k : Ks β) : (ex (P.ar c) (.aug 16 op a) (x0 :: x1 :: x2 :: x3 :: x4 :: x5 :: x6 :: x7 :: x8 :: x9 :: x10 :: x11 :: x12 :: x13 :: x14 :: x15 :: some x :: e) S).bind k = (ev (P.ar c) a false (x0 :: x1 :: x2 :: x3 :: x4 :: x5 :: x6 :: x7 :: x8 :: x9 :: x10 :: x11 :: x12 :: x13 :: x14 :: x15 :: some x :: e) S).bind fun y S => (opA op x y S).bind fun z S => k (.nx, x0 :: x1 :: x2 :: x3 :: x4 :: x5 :: x6 :: x7 :: x8 :: x9 :: x10 :: x11 :: x12 :: x13 :: x14 :: x15 :: some z :: e) S := by rw [ex]; simp only [List.getElem?_cons_succ, List.getElem?_cons_zero, M.bind_assoc, M.bind_ok]; rfl
@[simp ↓] theorem y_put17 (x0 x1 x2 x3 x4 x5 x6 x7 x8 x9 x10 x11 x12 x13 x14 x15 x16 x17 : Option PV) (v : PV) (e : Env1) (k : Ks β) : (putK1 [17] (x0 :: x1 :: x2 :: x3 :: x4 :: x5 :: x6 :: x7 :: x8 :: x9 :: x10 :: x11 :: x12 :: x13 :: x14 :: x15 :: x16 :: x17 :: e) v S).bind k = k (.nx, x0 :: x1 :: x2 :: x3 :: x4 :: x5 :: x6 :: x7 :: x8 :: x9 :: x10 :: x11 :: x12 :: x13 :: x14 :: x15 :: x16 :: some v :: e) S := putK1_eq (by simp only [List.length_cons]; omega) rfl k
@[simp ↓] theorem y_aug17 (x0 x1 x2 x3 x4 x5 x6 x7 x8 x9 x10 x11 x12 x13 x14 x15 x16 : Option PV) (x : PV) (op : BOp) (a : E) (e : Env1) (k : Ks β) : (ex (P.ar c) (.aug 17 op a) (x0 :: x1 :: x2 :: x3 :: x4 :: x5 :: x6 :: x7 :: x8 :: x9 :: x10 :: x11 :: x12 :: x13 :: x14 :: x15 :: x16 :: some x :: e) S).bind k = (ev (P.ar c) a false (x0 :: x1 :: x2 :: x3 :: x4 :: x5 :: x6 :: x7 :: x8 :: x9 :: x10 :: x11 :: x12 :: x13 :: x14 :: x15 :: x16 :: some x :: e) S).bind fun y S => (opA op x y S).bind fun z S => k (.nx, x0 :: x1 :: x2 :: x3 :: x4 :: x5 :: x6 :: x7 :: x8 :: x9 :: x10 :: x11 :: x12 :: x13 :: x14 :: x15 :: x16 :: some z :: e) S := by rw [ex]; simp only [List.getElem?_cons_succ, List.getElem?_cons_zero, M.bind_assoc, M.bind_ok]; rfl
@[simp ↓] theorem y_put18 (x0 x1 x2 x3 x4 x5 x6 x7 x8 x9 x10 x11 x12 x13 x14 x15 x16 x17 x18 : Option PV) (v : PV) (e : Env1) (k : Ks β) : (putK1 [18] (x0 :: x1 :: x2 :: x3 :: x4 :: x5 :: x6 :: x7 :: x8 :: x9 :: x10 :: x11 :: x12 :: x13 :: x14 :: x15 :: x16 :: x17 :: x18 :: e) v S).bind k = k (.nx, x0 :: x1 :: x2 :: x3 :: x4 :: x5 :: x6 :: x7 :: x8 :: x9 :: x10 :: x11 :: x12 :: x13 :: x14 :: x15 :: x16 :: x17 :: some v :: e) S := putK1_eq (by simp only [List.length_cons]; omega) rfl k
@[simp ↓] theorem y_aug18 (x0 x1 x2 x3 x4 x5 x6 x7 x8 x9 x10 x11 x12 x13 x14 x15 x16 x17 : Option PV) (x : PV) (op : BOp) (a : E) (e : Env1) (k : Ks β) : (ex (P.ar c) (.aug 18 op a) (x0 :: x1 :: x2 :: x3 :: x4 :: x5 :: x6 :: x7 :: x8 :: x9 :: x10 :: x11 :: x12 :: x13 :: x14 :: x15 :: x16 :: x17 :: some x :: e) S).bind k = (ev (P.ar c) a false (x0 :: x1 :: x2 :: x3 :: x4 :: x5 :: x6 :: x7 :: x8 :: x9 :: x10 :: x11 :: x12 :: x13 :: x14 :: x15 :: x16 :: x17 :: some x :: e) S).bind fun y S => (opA op x y S).bind fun z S => k (.nx, x0 :: x1 :: x2 :: x3 :: x4 :: x5 :: x6 :: x7 :: x8 :: x9 :: x10 :: x11 :: x12 :: x13 :: x14 :: x15 :: x16 :: x17 :: some z :: e) S := by rw [ex]; simp only [List.getElem?_cons_succ, List.getElem?_cons_zero, M.bind_assoc, M.bind_ok]; rfl
@[simp ↓] theorem y_put19 (x0 x1 x2 x3 x4 x5 x6 x7 x8 x9 x10 x11 x12 x13 x14 x15 x16 x17 x18 x19 : Option PV) (v : PV) (e : Env1) (k : Ks β) : (putK1 [19] (x0 :: x1 :: x2 :: x3 :: x4 :: x5 :: x6 :: x7 :: x8 :: x9 :: x10 :: x11 :: x12 :: x13 :: x14 :: x15 :: x16 :: x17 :: x18 :: x19 :: e) v S).bind k = k (.nx, x0 :: x1 :: x2 :: x3 :: x4 :: x5 :: x6 :: x7 :: x8 :: x9 :: x10 :: x11 :: x12 :: x13 :: x14 :: x15 :: x16 :: x17 :: x18 :: some v :: e) S := putK1_eq (by simp only [List.length_cons]; omega) rfl k
@[simp ↓] theorem y_aug19 (x0 x1 x2 x3 x4 x5 x6 x7 x8 x9 x10 x11 x12 x13 x14 x15 x16 x17 x18 : Option PV) (x : PV) (op : BOp) (a : E) (e : Env1) (k : Ks β) : (ex (P.ar c) (.aug 19 op a) (x0 :: x1 :: x2 :: x3 :: x4 :: x5 :: x6 :: x7 :: x8 :: x9 :: x10 :: x11 :: x12 :: x13 :: x14 :: x15 :: x16 :: x17 :: x18 :: some x :: e) S).bind k = (ev (P.ar c) a false (x0 :: x1 :: x2 :: x3 :: x4 :: x5 :: x6 :: x7 :: x8 :: x9 :: x10 :: x11 :: x12 :: x13 :: x14 :: x15 :: x16 :: x17 :: x18 :: some x :: e) S).bind fun y S => (opA op x y S).bind fun z S => k (.nx, x0 :: x1 :: x2 :: x3 :: x4 :: x5 :: x6 :: x7 :: x8 :: x9 :: x10 :: x11 :: x12 :: x13 :: x14 :: x15 :: x16 :: x17 :: x18 :: some z :: e) S := by rw [ex]; simp only [List.getElem?_cons_succ, List.getElem?_cons_zero, M.bind_assoc, M.bind_ok]; rfl
@[simp ↓] theorem y_put20 (x0 x1 x2 x3 x4 x5 x6 x7 x8 x9 x10 x11 x12 x13 x14 x15 x16 x17 x18 x19 x20 : Option PV) (v : PV) (e : Env1) (k : Ks β) : (putK1 [20] (x0 :: x1 :: x2 :: x3 :: x4 :: x5 :: x6 :: x7 :: x8 :: x9 :: x10 :: x11 :: x12 :: x13 :: x14 :: x15 :: x16 :: x17 :: x18 :: x19 :: x20 :: e) v S).bind k = k (.nx, x0 :: x1 :: x2 :: x3 :: x4 :: x5 :: x6 :: x7 :: x8 :: x9 :: x10 :: x11 :: x12 :: x13 :: x14 :: x15 :: x16 :: x17 :: x18 :: x19 :: some v :: e) S := putK1_eq (by simp only [List.length_cons]; omega) rfl k
@[simp ↓] theorem y_aug20 (x0 x1 x2 x3 x4 x5 x6 x7 x8 x9 x10 x11 x12 x13 x14 x15 x16 x17 x18 x19 : Option PV) (x : PV) (op : BOp) (a : E) (e : Env1) (k : Ks β) : (ex (P.ar c) (.aug 20 op a) (x0 :: x1 :: x2 :: x3 :: x4 :: x5 :: x6 :: x7 :: x8 :: x9 :: x10 :: x11 :: x12 :: x13 :: x14 :: x15 :: x16 :: x17 :: x18 :: x19 :: some x :: e) S).bind k = (ev (P.ar c) a false (x0 :: x1 :: x2 :: x3 :: x4 :: x5 :: x6 :: x7 :: x8 :: x9 :: x10 :: x11 :: x12 :: x13 :: x14 :: x15 :: x16 :: x17 :: x18 :: x19 :: some x :: e) S).bind fun y S => (opA op x y S).bind fun z S => k (.nx, x0 :: x1 :: x2 :: x3 :: x4 :: x5 :: x6 :: x7 :: x8 :: x9 :: x10 :: x11 :: x12 :: x13 :: x14 :: x15 :: x16 :: x17 :: x18 :: x19 :: some z :: e) S := by rw [ex]; simp only [List.getElem?_cons_succ, List.getElem?_cons_zero, M.bind_assoc, M.bind_ok]; rfl
@[simp ↓] theorem y_put21 (x0 x1 x2 x3 x4 x5 x6 x7 x8 x9 x10 x11 x12 x13 x14 x15 x16 x17 x18 x19 x20 x21 : Option PV) (v : PV) (e : Env1) (k : Ks β) : (putK1 [21] (x0 :: x1 :: x2 :: x3 :: x4 :: x5 :: x6 :: x7 :: x8 :: x9 :: x10 :: x11 :: x12 :: x13 :: x14 :: x15 :: x16 :: x17 :: x18 :: x19 :: x20 :: x21 :: e) v S).bind k = k (.nx, x0 :: x1 :: x2 :: x3 :: x4 :: x5 :: x6 :: x7 :: x8 :: x9 :: x10 :: x11 :: x12 :: x13 :: x14 :: x15 :: x16 :: x17 :: x18 :: x19 :: x20 :: some v :: e) S := putK1_eq (by simp only [List.length_cons]; omega) rfl k
@[simp ↓] theorem y_aug21 (x0 x1 x2 x3 x4 x5 x6 x7 x8 x9 x10 x11 x12 x13 x14 x15 x16 x17 x18 x19 x20 : Option PV) (x : PV) (op : BOp) (a : E) (e : Env1) (k : Ks β) : (ex (P.ar c) (.aug 21 op a) (x0 :: x1 :: x2 :: x3 :: x4 :: x5 :: x6 :: x7 :: x8 :: x9 :: x10 :: x11 :: x12 :: x13 :: x14 :: x15 :: x16 :: x17 :: x18 :: x19 :: x20 :: some x :: e) S).bind k = (ev (P.ar c) a false (x0 :: x1 :: x2 :: x3 :: x4 :: x5 :: x6 :: x7 :: x8 :: x9 :: x10 :: x11 :: x12 :: x13 :: x14 :: x15 :: x16 :: x17 :: x18 :: x19 :: x20 :: some x :: e) S).bind fun y S => (opA op x y S).bind fun z S => k (.nx, x0 :: x1 :: x2 :: x3 :: x4 :: x5 :: x6 :: x7 :: x8 :: x9 :: x10 :: x11 :: x12 :: x13 :: x14 :: x15 :: x16 :: x17 :: x18 :: x19 :: x20 :: some z :: e) S := by rw [ex]; simp only [List.getElem?_cons_succ, List.getElem?_cons_zero, M.bind_assoc, M.bind_ok]; rfl
@[simp ↓] theorem y_put22 (x0 x1 x2 x3 x4 x5 x6 x7 x8 x9 x10 x11 x12 x13 x14 x15 x16 x17 x18 x19 x20 x21 x22 : Option PV) (v : PV) (e : Env1) (k : Ks β) : (putK1 [22] (x0 :: x1 :: x2 :: x3 :: x4 :: x5 :: x6 :: x7 :: x8 :: x9 :: x10 :: x11 :: x12 :: x13 :: x14 :: x15 :: x16 :: x17 :: x18 :: x19 :: x20 :: x21 :: x22 :: e) v S).bind k = k (.nx, x0 :: x1 :: x2 :: x3 :: x4 :: x5 :: x6 :: x7 :: x8 :: x9 :: x10 :: x11 :: x12 :: x13 :: x14 :: x15 :: x16 :: x17 :: x18 :: x19 :: x20 :: x21 :: some v :: e) S := putK1_eq (by simp only [List.length_cons]; omega) rfl k
@[simp ↓] theorem y_aug22 (x0 x1 x2 x3 x4 x5 x6 x7 x8 x9 x10 x11 x12 x13 x14 x15 x16 x17 x18 x19 x20 x21 : Option PV) (x : PV) (op : BOp) (a : E) (e : Env1) (k : Ks β) : (ex (P.ar c) (.aug 22 op a) (x0 :: x1 :: x2 :: x3 :: x4 :: x5 :: x6 :: x7 :: x8 :: x9 :: x10 :: x11 :: x12 :: x13 :: x14 :: x15 :: x16 :: x17 :: x18 :: x19 :: x20 :: x21 :: some x :: e) S).bind k = (ev (P.ar c) a false (x0 :: x1 :: x2 :: x3 :: x4 :: x5 :: x6 :: x7 :: x8 :: x9 :: x10 :: x11 :: x12 :: x13 :: x14 :: x15 :: x16 :: x17 :: x18 :: x19 :: x20 :: x21 :: some x :: e) S).bind fun y S => (opA op x y S).bind fun z S => k (.nx, x0 :: x1 :: x2 :: x3 :: x4 :: x5 :: x6 :: x7 :: x8 :: x9 :: x10 :: x11 :: x12 :: x13 :: x14 :: x15 :: x16 :: x17 :: x18 :: x19 :: x20 :: x21 :: some z :: e) S := by rw [ex]; simp only [List.getElem?_cons_succ, List.getElem?_cons_zero, M.bind_assoc, M.bind_ok]; rfl
@[simp ↓] theorem y_put23 (x0 x1 x2 x3 x4 x5 x6 x7 x8 x9 x10 x11 x12 x13 x14 x15 x16 x17 x18 x19 x20 x21 x22 x23 : Option PV) (v : PV) (e : Env1) (k : Ks β) : (putK1 [23] (x0 :: x1 :: x2 :: x3 :: x4 :: x5 :: x6 :: x7 :: x8 :: x9 :: x10 :: x11 :: x12 :: x13 :: x14 :: x15 :: x16 :: x17 :: x18 :: x19 :: x20 :: x21 :: x22 :: x23 :: e) v S).bind k = k (.nx, x0 :: x1 :: x2 :: x3 :: x4 :: x5 :: x6 :: x7 :: x8 :: x9 :: x10 :: x11 :: x12 :: x13 :: x14 :: x15 :: x16 :: x17 :: x18 :: x19 :: x20 :: x21 :: x22 :: some v :: e) S := putK1_eq (by simp only [List.length_cons]; omega) rfl k
@[simp ↓] theorem y_aug23 (x0 x1 x2 x3 x4 x5 x6 x7 x8 x9 x10 x11 x12 x13 x14 x15 x16 x17 x18 x19 x20 x21 x22 : Option PV) (x : PV) (op : BOp) (a : E) (e : Env1) (k : Ks β) : (ex (P.ar c) (.aug 23 op a) (x0 :: x1 :: x2 :: x3 :: x4 :: x5 :: x6 :: x7 :: x8 :: x9 :: x10 :: x11 :: x12 :: x13 :: x14 :: x15 :: x16 :: x17 :: x18 :: x19 :: x20 :: x21 :: x22 :: some x :: e) S).bind k = (ev (P.ar c) a false (x0 :: x1 :: x2 :: x3 :: x4 :: x5 :: x6 :: x7 :: x8 :: x9 :: x10 :: x11 :: x12 :: x13 :: x14 :: x15 :: x16 :: x17 :: x18 :: x19 :: x20 :: x21 :: x22 :: some x :: e) S).bind fun y S => (opA op x y S).bind fun z S => k (.nx, x0 :: x1 :: x2 :: x3 :: x4 :: x5 :: x6 :: x7 :: x8 :: x9 :: x10 :: x11 :: x12 :: x13 :: x14 :: x15 :: x16 :: x17 :: x18 :: x19 :: x20 :: x21 :: x22 :: some z :: e) S := by rw [ex]; simp only [List.getElem?_cons_succ, List.getElem?_cons_zero, M.bind_assoc, M.bind_ok]; rfl
@[simp ↓] theorem y_opAadd (i j : Int) (k : Kp β) : (opA .add (.int i) (.int j) S).bind k = k (.int (i + j)) S := id rfl
@[simp ↓] theorem y_opAsub (i j : Int) (k : Kp β) : (opA .sub (.int i) (.int j) S).bind k = k (.int (i - j)) S := id rfl
theorem y_par1 (i : Nat) (v : PV) : parK [i] env [v] S = putK1 [i] env v S := rfl
@[simp ↓] theorem y_parT (i j : Nat) (is : List Nat) (vs : List PV) (k : Ks β) : (putK1 (i :: j :: is) env (.tup vs) S).bind k = (parK (i :: j :: is) env vs S).bind k := id rfl
@[simp ↓] theorem y_parC (i : Nat) (is : List Nat) (v : PV) (vs : List PV) (k : Ks β) : (parK (i :: is) env (v :: vs) S).bind k = (putK1 [i] env v S).bind fun r S => (parK is r.2 vs S).bind k := by
  simp only [parK, putK1, putT, setAll]
  by_cases h : i < env.length
  · simp only [h, if_true, M.bind_ok]
  · simp only [h, if_false, M.bind_bad]
@[simp ↓] theorem y_parN (k : Ks β) : (parK [] env [] S).bind k = k (.nx, env) S := id rfl
end
/-! ### walks over rows -/
def stepK (f : Env1 → Sto → M (Fl × Env1)) (r : Fl × Env1) (S : Sto) : M (Fl × Env1) := match r with
  | (.nx, env) => f env S
  | (.cnt, env) => f env S
  | (.brk, env) => .ok (.nx, env) S
  | (.ret v, env) => .ok (.ret v, env) S
/-- the turns of a for over a row -/
def loopR (b : Env1 → Sto → M (Fl × Env1)) (tg : List Nat) : List PV → Env1 → Sto → M (Fl × Env1)
  | [], env, S => .ok (.nx, env) S
  | v :: l, env, S => match putT env tg v with
    | none => .bad
    | some env => (b env S).bind (stepK (loopR b tg l))
theorem loopF_row (b : Env1 → Sto → M (Fl × Env1)) (tg : List Nat) (l : List PV) : ∀ (k i : Nat) (env : Env1) (S : Sto), l.length ≤ k + i → loopF b tg (.row l) k i env S = loopR b tg (l.drop i) env S := by
  intro k
  induction k with
  | zero =>
    intro i env S h
    have e : l.drop i = [] := List.drop_eq_nil_of_le (by omega)
    have e' : l[i]? = none := List.getElem?_eq_none (by omega)
    simp only [loopF, Wk.at, e, e', loopR]
  | succ k ih =>
    intro i env S h
    by_cases c : i < l.length
    · have e : l.drop i = l[i] :: l.drop (i + 1) := List.drop_eq_getElem_cons c
      have e' : l[i]? = some l[i] := List.getElem?_eq_getElem c
      rw [e, loopF, loopR]
      simp only [Wk.at, e']
      cases putT env tg l[i] with
      | none => rfl
      | some env =>
        show (b env S).bind _ = (b env S).bind _
        congr 1
        funext r S
        rcases r with ⟨r, env⟩
        cases r with
        | nx => exact ih (i + 1) env S (by omega)
        | cnt => exact ih (i + 1) env S (by omega)
        | brk => rfl
        | ret v => rfl
    · have e : l.drop i = [] := List.drop_eq_nil_of_le (by omega)
      have e' : l[i]? = none := List.getElem?_eq_none (by omega)
      simp only [loopF, Wk.at, e, e', loopR]
section
variable {β : Type} {S : Sto} {env : Env1}
@[simp ↓] theorem z_loopF (b : Env1 → Sto → M (Fl × Env1)) (tg : List Nat) (l : List PV) (k : Ks β) : (loopF b tg (.row l) (Wk.len S (.row l)) 0 env S).bind k = (loopR b tg l env S).bind k := by
  rw [loopF_row b tg l _ _ _ _ (by simp [Wk.len])]
  rfl
@[simp ↓] theorem z_stepn (f : Env1 → Sto → M (Fl × Env1)) (k : Ks β) : (stepK f (.nx, env) S).bind k = (f env S).bind k := id rfl
@[simp ↓] theorem z_stepc (f : Env1 → Sto → M (Fl × Env1)) (k : Ks β) : (stepK f (.cnt, env) S).bind k = (f env S).bind k := id rfl
@[simp ↓] theorem z_stepb (f : Env1 → Sto → M (Fl × Env1)) (k : Ks β) : (stepK f (.brk, env) S).bind k = k (.nx, env) S := id rfl
@[simp ↓] theorem z_stepr (f : Env1 → Sto → M (Fl × Env1)) (v : PV) (k : Ks β) : (stepK f (.ret v, env) S).bind k = k (.ret v, env) S := id rfl
theorem z_loopNil (b : Env1 → Sto → M (Fl × Env1)) (tg : List Nat) (k : Ks β) : (loopR b tg [] env S).bind k = k (.nx, env) S := rfl
/-- the next turn -/
theorem z_loopCons (b : Env1 → Sto → M (Fl × Env1)) (tg : List Nat) (v : PV) (l : List PV) {env' : Env1} (h : putT env tg v = some env') (k : Ks β) : (loopR b tg (v :: l) env S).bind k = (b env' S).bind fun r S => (stepK (loopR b tg l) r S).bind k := by
  rw [loopR, h]
  simp only [M.bind_assoc]
/-- a walk all of whose turns go on -/
theorem loopR_ok (b : Env1 → Sto → M (Fl × Env1)) (tg : List Nat) (I : List PV → Env1 → Sto → Prop)
    (h : ∀ v l env S, I (v :: l) env S → ∃ env1 env2 S', putT env tg v = some env1 ∧ (b env1 S = .ok (.nx, env2) S' ∨ b env1 S = .ok (.cnt, env2) S') ∧ I l env2 S') :
    ∀ l env S, I l env S → ∃ env' S', loopR b tg l env S = .ok (.nx, env') S' ∧ I [] env' S' := by
  intro l
  induction l with
  | nil => intro env S h0; exact ⟨env, S, rfl, h0⟩
  | cons v l ih =>
    intro env S h0
    obtain ⟨e1, e2, S', p, q, r⟩ := h v l env S h0
    obtain ⟨e3, S3, u, w⟩ := ih e2 S' r
    refine ⟨e3, S3, ?_, w⟩
    rw [loopR, p]
    rcases q with q | q <;> simp only [q, M.bind_ok, stepK, u]
end
/-- numbered from i on -/
def enmF : Nat → List PV → List PV
  | _, [] => []
  | i, x :: l => .tup [.int i, x] :: enmF (i + 1) l
theorem enmF_eq : ∀ (l : List PV) (i : Nat), (((List.range' i l.length).zip l).map fun p => PV.tup [.int p.1, p.2]) = enmF i l := by
  intro l
  induction l with
  | nil => intro i; rfl
  | cons x l ih => intro i; simp only [List.length_cons, List.range'_succ, List.zip_cons_cons, List.map_cons, enmF, ih]
theorem enmP_eq (l : List PV) : enmP l = enmF 0 l := by rw [enmP, List.range_eq_range', enmF_eq]
theorem enmF_app (l r : List PV) : ∀ i, enmF i (l ++ r) = enmF i l ++ enmF (i + l.length) r := by
  induction l with
  | nil => intro i; rfl
  | cons x l ih =>
    intro i
    simp only [List.cons_append, enmF, ih, List.length_cons]
    rw [show i + 1 + l.length = i + (l.length + 1) by omega]
/-! ### comprehensions -/
/-- the turns of a comprehension over a row -/
def loopCR (f c : Env1 → Sto → M PV) (tg : List Nat) (env : Env1) (n : Nat) : List PV → Sto → M Unit
  | [], S => .ok () S
  | v :: l, S => match putT env tg v with
    | none => .bad
    | some env' => (noX (c env' S)).bind fun b S => match b with
      | .bl true => (noX (f env' S)).bind fun y S => match S[n]? with
        | some (.lst acc) => if acc.length < sizeLine then loopCR f c tg env n l (S.set n (.lst (acc ++ [y]))) else .bad
        | _ => .bad
      | .bl false => loopCR f c tg env n l S
      | _ => .bad
theorem loopC_row (f c : Env1 → Sto → M PV) (tg : List Nat) (env : Env1) (n : Nat) (l : List PV) : ∀ (k i : Nat) (S : Sto), l.length ≤ k + i → loopC f c tg (.row l) env n k i S = loopCR f c tg env n (l.drop i) S := by
  intro k
  induction k with
  | zero =>
    intro i S h
    have e : l.drop i = [] := List.drop_eq_nil_of_le (by omega)
    have e' : l[i]? = none := List.getElem?_eq_none (by omega)
    simp only [loopC, Wk.at, e, e', loopCR]
  | succ k ih =>
    intro i S h
    by_cases d : i < l.length
    · have e : l.drop i = l[i] :: l.drop (i + 1) := List.drop_eq_getElem_cons d
      have e' : l[i]? = some l[i] := List.getElem?_eq_getElem d
      have z : ∀ S, loopC f c tg (.row l) env n k (i + 1) S = loopCR f c tg env n (l.drop (i + 1)) S := fun S => ih (i + 1) S (by omega)
      rw [e, loopC, loopCR]
      simp only [Wk.at, e', z]
      try rfl
    · have e : l.drop i = [] := List.drop_eq_nil_of_le (by omega)
      have e' : l[i]? = none := List.getElem?_eq_none (by omega)
      simp only [loopC, Wk.at, e, e', loopCR]
@[simp ↓] theorem z_loopC {β : Type} {S S' : Sto} {env : Env1} (f c : Env1 → Sto → M PV) (tg : List Nat) (n : Nat) (l : List PV) (k : Unit → Sto → M β) : (loopC f c tg (.row l) env n (Wk.len S' (.row l)) 0 S).bind k = (loopCR f c tg env n l S).bind k := by
  rw [loopC_row f c tg env n l _ _ _ (by simp [Wk.len])]
  rfl
/-- a comprehension whose items do not touch the store -/
theorem loopCR_pure (f cc : Env1 → Sto → M PV) (hc : ∀ env S, cc env S = .ok (.bl true) S) (tg : List Nat) (env : Env1) (S : Sto) (g : PV → PV) : ∀ (l acc : List PV), (∀ v ∈ l, ∃ env', putT env tg v = some env' ∧ ∀ acc, f env' (S ++ [.lst acc]) = .ok (g v) (S ++ [.lst acc])) → acc.length + l.length ≤ sizeLine →
    loopCR f cc tg env S.length l (S ++ [.lst acc]) = .ok () (S ++ [.lst (acc ++ l.map g)]) := by
  intro l
  induction l with
  | nil => intro acc _ _; simp [loopCR]
  | cons v l ih =>
    intro acc h hl
    obtain ⟨e, p, q⟩ := h v List.mem_cons_self
    have z : (S ++ [Ob.lst acc]).set S.length (.lst (acc ++ [g v])) = S ++ [.lst (acc ++ [g v])] := by simp
    have c : acc.length < sizeLine := by simp only [List.length_cons] at hl; omega
    rw [loopCR, p]
    simp only [hc, noX, M.bind_ok, q, List.getElem?_concat_length]
    rw [if_pos c, z, ih (acc ++ [g v]) (fun v hv => h v (List.mem_cons_of_mem _ hv)) (by simp only [List.length_append, List.length_cons, List.length_nil] at hl ⊢; omega)]
    simp
/-! ### texts -/
theorem toNat_inj {a b : Char} (h : a.toNat = b.toNat) : a = b := Char.ext (UInt32.toNat_inj.mp h)
@[simp] theorem ofString_inj {a b : String} : Str.ofString a = Str.ofString b ↔ a = b := by
  constructor
  · intro h
    have e : ∀ s : String, (Str.ofString s).cps.toList = s.toList.map Char.toNat := fun s => cpsOfBytes_string s
    have h2 : a.toList.map Char.toNat = b.toList.map Char.toNat := by rw [← e a, ← e b, h]
    have h3 : a.toList = b.toList := List.map_inj_right (fun _ _ q => toNat_inj q) |>.mp h2
    exact String.toList_inj.mp h3
  · intro h
    rw [h]
@[simp] theorem ofString_beq {a b : String} : (Str.ofString a == Str.ofString b) = (a == b) := by
  rw [Bool.eq_iff_iff, beq_iff_eq, beq_iff_eq]
  exact ofString_inj
@[simp] theorem lk_hit {α : Type} (a : Str) (v : α) (l : List (Str × α)) : List.lookup a ((a, v) :: l) = some v := by simp [List.lookup]
@[simp] theorem lk_miss {α : Type} (a b : String) (v : α) (l : List (Str × α)) (h : ¬ a = b) : List.lookup (Str.ofString a) ((Str.ofString b, v) :: l) = List.lookup (Str.ofString a) l := by
  have : (Str.ofString a == Str.ofString b) = false := by simp [h]
  simp [List.lookup, this]
/-! ### the store -/
theorem get_app {S T : Sto} {n : Nat} {o : Ob} (h : S[n]? = some o) : (S ++ T)[n]? = some o := by
  rw [List.getElem?_append_left, h]
  exact (List.getElem?_eq_some_iff.mp h).1
theorem get_lt {S : Sto} {n : Nat} {o : Ob} (h : S[n]? = some o) : n < S.length := (List.getElem?_eq_some_iff.mp h).1
theorem get_set {S : Sto} {n m : Nat} {o o' : Ob} (h : S[n]? = some o) (hn : m ≠ n) : (S.set m o')[n]? = some o := by
  rw [List.getElem?_set_ne hn, h]
theorem get_set_self {S : Sto} {n : Nat} {o o' : Ob} (h : S[n]? = some o) : (S.set n o')[n]? = some o' := by
  rw [List.getElem?_set_self (get_lt h)]
/-! ### lists at the store's end, places in tuples -/
section
variable {β : Type} {S : Sto}
theorem opI_nat {l : List PV} {n : Nat} {x : PV} (h : l[n]? = some x) (k : Kp β) : (opI (.tup l) (.int (n : Nat)) S).bind k = k x S := by
  have hl : n < l.length := (List.getElem?_eq_some_iff.mp h).1
  have e : atP l (n : Nat) = some x := by
    simp only [atP, ixP]
    rw [if_pos (by omega), if_pos (by omega)]
    simpa using h
  show (one (atP l n) S).bind k = _
  rw [e]
  rfl
theorem opI_pred {l : List PV} {n : Nat} {x : PV} (hn : 1 ≤ n) (h : l[n - 1]? = some x) (k : Kp β) : (opI (.tup l) (.int ((n : Nat) - 1)) S).bind k = k x S := by
  rw [show ((n : Int) - 1) = ((n - 1 : Nat) : Int) by omega]
  exact opI_nat h k
theorem opI_last {l : List PV} {x : PV} (h : l[l.length - 1]? = some x) (k : Kp β) : (opI (.tup l) (.int (-1)) S).bind k = k x S := by
  have hl : l.length - 1 < l.length := (List.getElem?_eq_some_iff.mp h).1
  have e : atP l (-1) = some x := by
    simp only [atP, ixP]
    rw [if_neg (by omega), if_pos (by omega)]
    have : (-1 + (l.length : Int)).toNat = l.length - 1 := by omega
    simp only [Option.bind_some, this, h]
  show (one (atP l (-1)) S).bind k = _
  rw [e]
  rfl
@[simp] theorem isL_end (acc : List PV) : isL (.ref S.length) (S ++ [.lst acc]) = true := by simp [isL]
@[simp] theorem isL_end2 (acc : List PV) (T : Sto) : isL (.ref S.length) (S ++ .lst acc :: T) = true := by simp [isL]
theorem isL_of {n : Nat} {l : List PV} (h : S[n]? = some (.lst l)) : isL (.ref n) S = true := by simp [isL, h]
@[simp ↓] theorem z_appEnd (acc : List PV) (v : PV) (k : Kp β) (h : acc.length < sizeLine) : (opM .append (.ref S.length) [v] (S ++ [.lst acc])).bind k = k .non (S ++ [.lst (acc ++ [v])]) := by simp only [opM, List.getElem?_concat_length]; rw [if_pos h]; simp
@[simp ↓] theorem z_appEnd2 (acc : List PV) (T : Sto) (v : PV) (k : Kp β) (h : acc.length < sizeLine) : (opM .append (.ref S.length) [v] (S ++ .lst acc :: T)).bind k = k .non (S ++ .lst (acc ++ [v]) :: T) := by
  have e : (S ++ Ob.lst acc :: T)[S.length]? = some (.lst acc) := by simp
  simp only [opM, e]; rw [if_pos h]; simp
end
section
variable {β : Type} {S : Sto}
@[simp ↓] theorem z_setFEnd (fl : Nat → Str → Bool) (x : Str) (v : PV) (c : Nat) (fs : List (Str × PV)) (k : Unit → Sto → M β) (h : fl c x = true) (h2 : fs.length < 100) : (setF fl (.ref S.length) x v (S ++ [.ins c fs])).bind k = k () (S ++ [.ins c (putD x v fs)]) := by
  simp only [setF, List.getElem?_concat_length, h]; rw [if_pos (by simp [h2])]; simp
@[simp ↓] theorem z_opFEnd (fl : Nat → Str → Bool) (x : Str) (c : Nat) (fs : List (Str × PV)) (k : Kp β) (h : fl c x = true) : (opF fl (.ref S.length) x (S ++ [.ins c fs])).bind k = (one (fs.lookup x) (S ++ [.ins c fs])).bind k := by
  simp only [opF, List.getElem?_concat_length, h]; rfl
theorem z_opF (fl : Nat → Str → Bool) (x : Str) {n c : Nat} {fs : List (Str × PV)} {v : PV} (k : Kp β) (hn : S[n]? = some (.ins c fs)) (h : fl c x = true) (h2 : fs.lookup x = some v) : (opF fl (.ref n) x S).bind k = k v S := by
  simp only [opF, hn, h, h2]; rfl
theorem z_newI {P : Pr} {c : Nat → List PV → Sto → M PV} {d f : Nat} {vs : List PV} {S' : Sto} (k : Kp β) (h : P.mkr d = some f) (e : c f (.ref S.length :: vs) (S ++ [.ins d []]) = .ok .non S') : (newI d ((P.mkr d).map fun f => c f (.ref S.length :: vs) (S ++ [.ins d []])) S.length).bind k = k (.ref S.length) S' := by
  rw [h, Option.map_some, e]; rfl
theorem methOf_eq {P : Pr} {c : Nat → List PV → Sto → M PV} {n d f : Nat} {m : Str} {fs : List (Str × PV)} (hn : S[n]? = some (.ins d fs)) (h : fs.lookup m = none) (h2 : P.mt d m = some f) : methOf (P.ar c) m (.ref n) S = some (n, f) := by
  have e : (P.ar c).mt d m = some f := h2
  simp only [methOf, hn, h, e]
theorem z_tupL {n : Nat} {l : List PV} (k : Kp β) (h : S[n]? = some (.lst l)) : (opBI .tuple [.ref n] S).bind k = k (.tup l) S := by
  simp only [opBI, items, h]; rfl
@[simp ↓] theorem z_tupLEnd (l : List PV) (k : Kp β) : (opBI .tuple [.ref S.length] (S ++ [.lst l])).bind k = k (.tup l) (S ++ [.lst l]) := z_tupL k (by simp)
@[simp] theorem intsP_map (ns : List Int) : intsP (ns.map .int) = some ns := by
  induction ns with
  | nil => rfl
  | cons n ns ih => simp [intsP, ih]
@[simp ↓] theorem z_sumEnd (ns : List Int) (k : Kp β) : (opBI .sum [.ref S.length] (S ++ [.lst (ns.map .int)])).bind k = k (.int ns.sum) (S ++ [.lst (ns.map .int)]) := by
  simp only [opBI, List.getElem?_concat_length, intsP_map]; rfl
@[simp ↓] theorem z_seqEnd (l : List PV) (k : Wk → Sto → M β) : (wkSeq (.ref S.length) (S ++ [.lst l])).bind k = k (.lst S.length) (S ++ [.lst l]) := by simp [wkSeq]
theorem z_seqLst {n : Nat} {l : List PV} (k : Wk → Sto → M β) (h : S[n]? = some (.lst l)) : (wkSeq (.ref n) S).bind k = k (.lst n) S := by simp [wkSeq, h]
theorem wkLen_lst {n : Nat} {l : List PV} (h : S[n]? = some (.lst l)) : Wk.len S (.lst n) = l.length := by simp [Wk.len, h]
end
section
variable {β : Type} {S : Sto}
theorem z_dget {n : Nat} {kvs : List (Str × PV)} {x : Str} {v : PV} (h : S[n]? = some (.dct kvs)) (h2 : kvs.lookup x = some v) (k : Kp β) : (opI (.ref n) (.str x) S).bind k = k v S := by
  simp only [opI, h, getD_, h2]; rfl
theorem z_lget {n i : Nat} {l : List PV} {v : PV} (h : S[n]? = some (.lst l) ∨ S[n]? = some (.fro l)) (h2 : l[i]? = some v) (k : Kp β) : (opI (.ref n) (.int (i : Nat)) S).bind k = k v S := by
  have hl : i < l.length := (List.getElem?_eq_some_iff.mp h2).1
  have e : atP l (i : Nat) = some v := by
    simp only [atP, ixP]
    rw [if_pos (by omega), if_pos (by omega)]
    simpa using h2
  rcases h with h | h <;> (simp only [opI, h, e]; rfl)
theorem z_dset {n : Nat} {kvs : List (Str × PV)} {x : Str} (v : PV) (h : S[n]? = some (.dct kvs)) (h2 : kvs.length < 100) (k : Unit → Sto → M β) : (setI (.ref n) (.str x) v S).bind k = k () (S.set n (.dct (putKs kvs x v))) := by
  simp only [setI, h]; rw [if_pos h2]; rfl
theorem z_lset {n i : Nat} {l : List PV} (v : PV) (h : S[n]? = some (.lst l)) (h2 : i < l.length) (k : Unit → Sto → M β) : (setI (.ref n) (.int (i : Nat)) v S).bind k = k () (S.set n (.lst (l.set i v))) := by
  have e : ixP l.length (i : Nat) = some i := by
    simp only [ixP]
    rw [if_pos (by omega), if_pos (by omega)]
    simp
  simp only [setI, h, e]; rfl
theorem z_lenL {n : Nat} {l : List PV} (h : S[n]? = some (.lst l) ∨ S[n]? = some (.fro l)) (k : Kp β) : (opBI .len [.ref n] S).bind k = k (.int l.length) S := by
  rcases h with h | h <;> (simp only [opBI, items, h]; rfl)
theorem z_appL {n : Nat} {l : List PV} (v : PV) (h : S[n]? = some (.lst l)) (h2 : l.length < sizeLine) (k : Kp β) : (opM .append (.ref n) [v] S).bind k = k .non (S.set n (.lst (l ++ [v]))) := by
  simp only [opM, h]; rw [if_pos h2]; rfl
theorem toD_ints (k : Nat) (ns : List Int) : (ns.map PV.int).mapM (toD S (k + 1)) = some (ns.map PyData.int) := by
  induction ns with
  | nil => rfl
  | cons n ns ih =>
    have e : toD S (k + 1) (.int n) = some (.int n) := rfl
    simp only [List.map_cons, List.mapM_cons, e, ih]
    rfl
theorem shaped_ints (ns : List Int) : SeqAt.shaped (.list (ns.map .int)) = true := by
  have h1 : PyData.canLayAll0 (ns.map .int) = true := by
    induction ns with
    | nil => rfl
    | cons n ns ih => simp [PyData.canLayAll0, PyData.canLay0, ih]
  have h2 : PyData.depthAll (ns.map .int) = 0 := by
    clear h1
    induction ns with
    | nil => rfl
    | cons n ns ih => simp [PyData.depthAll, PyData.depth, ih]
  simp [SeqAt.shaped, PyData.canLay0, PyData.depth, h1, h2]
/-- a list of integers against an empty one -/
theorem pyEq_nil {g m : Nat} {gs : List Int} (h : S[g]? = some (.lst (gs.map .int))) (h2 : S[m]? = some (.lst [])) : pyEq S (.ref g) (.ref m) = some gs.isEmpty := by
  have e1 : toD S 60 (.ref g) = some (.list (gs.map .int)) := by
    show (match S[g]? with
      | some (.lst l) => (l.mapM (toD S 59)).map PyData.list
      | some (.fro l) => (l.mapM (toD S 59)).map PyData.list
      | _ => none) = _
    rw [h]
    simp only [toD_ints 58 gs, Option.map_some]
  have e2 : toD S 60 (.ref m) = some (.list []) := by
    show (match S[m]? with
      | some (.lst l) => (l.mapM (toD S 59)).map PyData.list
      | some (.fro l) => (l.mapM (toD S 59)).map PyData.list
      | _ => none) = _
    rw [h2]
    rfl
  have e3 : SeqAt.shaped (.list []) = true := by decide
  show (match toD S 60 (.ref g), toD S 60 (.ref m) with
    | some d, some e => if SeqAt.shaped d && SeqAt.shaped e then some (PyData.eqv d e) else none
    | _, _ => none) = _
  rw [e1, e2]
  simp only [shaped_ints, e3, Bool.and_self, if_true]
  cases gs <;> rfl
end
/-- the turns over a numbered list: what holds at each -/
theorem loopF_enl (b : Env1 → Sto → M (Fl × Env1)) (tg : List Nat) (n : Nat) (l : List PV) (I : Nat → Env1 → Sto → Prop)
    (h0 : ∀ i env S, I i env S → S[n]? = some (.lst l) ∨ S[n]? = some (.fro l))
    (h : ∀ i env S (hi : i < l.length), I i env S → ∃ env1 env2 S', putT env tg (.tup [.int i, l[i]]) = some env1 ∧ b env1 S = .ok (.nx, env2) S' ∧ I (i + 1) env2 S') :
    ∀ (k i : Nat) (env : Env1) (S : Sto), l.length = k + i → I i env S → ∃ env' S', loopF b tg (.enl n) k i env S = .ok (.nx, env') S' ∧ I l.length env' S' := by
  intro k
  induction k with
  | zero =>
    intro i env S hk hI
    have hi : l[i]? = none := List.getElem?_eq_none (by omega)
    have e : (Wk.enl n).at S i = some none := by rcases h0 i env S hI with h | h <;> simp [Wk.at, h, hi]
    exact ⟨env, S, by simp [loopF, e], by rw [show l.length = i by omega]; exact hI⟩
  | succ k ih =>
    intro i env S hk hI
    have hlt : i < l.length := by omega
    obtain ⟨e1, e2, S', q1, q2, q3⟩ := h i env S hlt hI
    have hi : l[i]? = some l[i] := List.getElem?_eq_getElem hlt
    have e : (Wk.enl n).at S i = some (some (.tup [.int i, l[i]])) := by rcases h0 i env S hI with h | h <;> simp [Wk.at, h, hi]
    obtain ⟨env', S2, q4, q5⟩ := ih (i + 1) e2 S' (by omega) q3
    refine ⟨env', S2, ?_, q5⟩
    rw [loopF, e]
    simp only [q1, q2, M.bind_ok, q4]
/-- a comprehension over a list, whose items do not touch the store -/
theorem loopC_lst (f cc : Env1 → Sto → M PV) (hc : ∀ env S, cc env S = .ok (.bl true) S) (tg : List Nat) (env : Env1) (S : Sto) (n : Nat) (hn : n < S.length) : ∀ (lr pre : List (PV × PV)) (k : Nat) (acc : List PV), (S[n]? = some (.lst ((pre ++ lr).map Prod.fst)) ∨ S[n]? = some (.fro ((pre ++ lr).map Prod.fst))) → lr.length ≤ k →
    (∀ p ∈ lr, ∃ env', putT env tg p.1 = some env' ∧ ∀ acc, f env' (S ++ [.lst acc]) = .ok p.2 (S ++ [.lst acc])) → acc.length + lr.length ≤ sizeLine →
    loopC f cc tg (.lst n) env S.length k pre.length (S ++ [.lst acc]) = .ok () (S ++ [.lst (acc ++ lr.map Prod.snd)]) := by
  intro lr
  induction lr with
  | nil =>
    intro pre k acc h1 _ _ _
    have e2 : (Wk.lst n).at (S ++ [Ob.lst acc]) pre.length = some none := by
      rcases h1 with h1 | h1
      · have e := get_app (T := [Ob.lst acc]) h1
        simp only [Wk.at, e]; simp
      · have e := get_app (T := [Ob.lst acc]) h1
        simp only [Wk.at, e]; simp
    cases k <;> simp [loopC, e2]
  | cons p lr ih =>
    intro pre k acc h1 hk h hl
    obtain ⟨env', q1, q2⟩ := h p List.mem_cons_self
    have e2 : (Wk.lst n).at (S ++ [Ob.lst acc]) pre.length = some (some p.1) := by
      rcases h1 with h1 | h1
      · have e := get_app (T := [Ob.lst acc]) h1
        simp only [Wk.at, e]; simp
      · have e := get_app (T := [Ob.lst acc]) h1
        simp only [Wk.at, e]; simp
    cases k with
    | zero => simp at hk
    | succ k =>
      have z : (S ++ [Ob.lst acc]).set S.length (.lst (acc ++ [p.2])) = S ++ [.lst (acc ++ [p.2])] := by simp
      have c : acc.length < sizeLine := by simp only [List.length_cons] at hl; omega
      have ih' := ih (pre ++ [p]) k (acc ++ [p.2]) (by simpa using h1) (by simp only [List.length_cons] at hk; omega) (fun v hv => h v (List.mem_cons_of_mem _ hv)) (by simp only [List.length_append, List.length_cons, List.length_nil] at hl ⊢; omega)
      rw [loopC, e2]
      simp only [q1, hc, noX, M.bind_ok, q2, List.getElem?_concat_length]
      rw [if_pos c, z]
      simp only [List.length_append, List.length_cons, List.length_nil] at ih'
      rw [ih']
      simp
@[simp] theorem small10 : small 10 = true := by decide
end Mi
end

section
set_option Elab.async false
set_option linter.all false
set_option maxRecDepth 100000
set_option maxHeartbeats 4000000
/-! MiDr: the numbers that a law draws (the way of k11 and sixty other laws). -/
namespace Mi
open PySem
/-- _law_mixed -/
def dMixed : Df := ⟨["cell", "n"], 3, (.cons
    (.asg (.loc 2) (.bin .add (.bin .add (.bin .mod (.bi .int (.cons (.bin .mul (.bin .mul (.loc 0) (.bin .add (.int 1) (.bin .mul (.int 2) (.loc 1)))) (.int 48271)) .nil)) (.int 2147483647)) (.bin .mul (.bin .mul (.int 7919) (.loc 1)) (.loc 1))) (.bin .mul (.int 104729) (.loc 1)))) (.cons
    (.ret (.bin .fdv (.bin .mod (.bi .int (.cons (.bin .mul (.loc 2) (.int 69621)) .nil)) (.int 2147483629)) (.int 7))) .nil))⟩
/-- _law_draw -/
def dDraw (fm : Nat) : Df := ⟨["m", "limit"], 6, (.cons
    (.asg (.loc 2) (.idx (.loc 0) (.str "spot"))) (.cons
    (.asg (.idx (.loc 0) (.str "spot")) (.bin .add (.loc 2) (.int 1))) (.cons
    (.ife (.cmp .ne (.idx (.loc 0) (.str "great")) (.lst .nil)) (.cons (.asg (.loc 3) (.idx (.loc 0) (.str "great"))) (.cons (.asg (.loc 4) (.bin .mod (.bi .int (.cons (.loc 2) .nil)) (.bi .len (.cons (.loc 3) .nil)))) (.cons (.asg (.loc 5) (.idx (.loc 3) (.loc 4))) (.cons (.ife (.cmp .gt (.loc 5) (.int 0)) (.cons (.asg (.idx (.loc 3) (.loc 4)) (.bin .fdv (.loc 5) (.loc 1))) (.cons (.ret (.bin .mod (.bi .int (.cons (.loc 5) .nil)) (.loc 1))) .nil)) .nil) .nil)))) .nil) (.cons
    (.asg (.loc 3) (.idx (.loc 0) (.str "cells"))) (.cons
    (.ret (.bin .mod (.bi .int (.cons (.call fm (.cons (.call fm (.cons (.bin .add (.idx (.loc 3) (.bin .mod (.bi .int (.cons (.loc 2) .nil)) (.int 64))) (.bin .mul (.int 31) (.bin .fdv (.loc 2) (.int 64)))) (.cons (.loc 2) .nil))) (.cons (.bin .add (.loc 2) (.int 7)) .nil))) .nil)) (.loc 1))) .nil)))))⟩
/-- _law_of -/
def dOf (fd : Nat) : Df := ⟨["m", "some"], 2, (.cons
    (.ret (.idx (.loc 1) (.call fd (.cons (.loc 0) (.cons (.bi .len (.cons (.loc 1) .nil)) .nil))))) .nil)⟩
theorem Pr.cl_eq {P : Pr} {d f : Nat} {D : Df} {vs : List PV} {S : Sto} (e : P.df f = some D) (hl : vs.length = D.ps.length) : P.cl (d + 1) f vs S = (exs (P.ar (P.cl d)) D.body (start1 D.n vs) S).bind finK := by
  show (match P.df f with
    | none => M.bad
    | some D => if vs.length = D.ps.length then fin (exs (P.ar (P.cl d)) D.body (start1 D.n vs) S) else .bad) = _
  rw [e]
  exact if_pos hl
def isLs (S : Sto) (n : Nat) : Prop := ∃ l, S[n]? = some (.lst l) ∨ S[n]? = some (.fro l)
/-- what stays from store to store, but for what stands at r and g -/
structure Rl (r g : Nat) (S S' : Sto) : Prop where
  kd : ∀ n, isLs S n → isLs S' n
  fr : ∀ k o, k ≠ r → k ≠ g → S[k]? = some o → S'[k]? = some o
  le : S.length ≤ S'.length
theorem Rl.refl {r g : Nat} {S : Sto} : Rl r g S S := ⟨fun _ h => h, fun _ _ _ _ h => h, Nat.le_refl _⟩
theorem Rl.trans {r g : Nat} {S S' S'' : Sto} (h : Rl r g S S') (h' : Rl r g S' S'') : Rl r g S S'' := ⟨fun n q => h'.kd n (h.kd n q), fun k o a b q => h'.fr k o a b (h.fr k o a b q), Nat.le_trans h.le h'.le⟩
theorem Rl.app {r g : Nat} {S : Sto} (T : Sto) : Rl r g S (S ++ T) := ⟨fun n h => by
    obtain ⟨l, h | h⟩ := h
    · exact ⟨l, .inl (get_app h)⟩
    · exact ⟨l, .inr (get_app h)⟩, fun k o _ _ h => get_app h, by simp⟩
def dkv (c g : Nat) (n : Int) : List (Str × PV) := [("cells", .ref c), ("great", .ref g), ("spot", .int n)]
theorem dkv_1 (c g : Nat) (n : Int) : List.lookup ("cells" : Str) (dkv c g n) = some (.ref c) := by simp [dkv]
theorem dkv_2 (c g : Nat) (n : Int) : List.lookup ("great" : Str) (dkv c g n) = some (.ref g) := by simp [dkv]
theorem dkv_3 (c g : Nat) (n : Int) : List.lookup ("spot" : Str) (dkv c g n) = some (.int n) := by simp [dkv]
theorem dkv_put (c g : Nat) (n m : Int) : putKs (dkv c g n) ("spot" : Str) (.int m) = dkv c g m := by simp [dkv, putKs]
section
variable {β : Type} {S : Sto}
theorem z_lgetI {n : Nat} {i : Int} {l : List PV} {v : PV} (h : S[n]? = some (.lst l) ∨ S[n]? = some (.fro l)) (h0 : 0 ≤ i) (h2 : l[i.toNat]? = some v) (k : Kp β) : (opI (.ref n) (.int i) S).bind k = k v S := by
  have := z_lget h h2 k
  rw [Int.toNat_of_nonneg h0] at this
  exact this
theorem z_lsetI {n : Nat} {i : Int} {l : List PV} (v : PV) (h : S[n]? = some (.lst l)) (h0 : 0 ≤ i) (h2 : i.toNat < l.length) (k : Unit → Sto → M β) : (setI (.ref n) (.int i) v S).bind k = k () (S.set n (.lst (l.set i.toNat v))) := by
  have := z_lset v h h2 k
  rw [Int.toNat_of_nonneg h0] at this
  exact this
end
/-- the state from which numbers are drawn: the dict at r, its cells at c, its great ones at g, drawn from at most b times -/
structure Dr (r c g : Nat) (b : Int) (S : Sto) : Prop where
  hm : ∃ n : Int, S[r]? = some (.dct (dkv c g n)) ∧ 0 ≤ n ∧ n ≤ b
  hc : ∃ cs : List Int, S[c]? = some (.lst (cs.map .int)) ∧ cs.length = 64 ∧ ∀ x ∈ cs, 0 ≤ x ∧ x < 2147483647
  hg : ∃ gs : List Int, S[g]? = some (.lst (gs.map .int)) ∧ gs.length < 100
  hne : c ≠ g
theorem Dr.lt {r c g : Nat} {b : Int} {S : Sto} (h : Dr r c g b S) : r < S.length ∧ c < S.length ∧ g < S.length := by
  obtain ⟨⟨n, h1, _⟩, ⟨cs, h2, _⟩, ⟨gs, h3, _⟩, _⟩ := h
  exact ⟨get_lt h1, get_lt h2, get_lt h3⟩
theorem Dr.same {r c g : Nat} {b : Int} {S S' : Sto} (h : Dr r c g b S) (hr : S'[r]? = S[r]?) (hc : S'[c]? = S[c]?) (hg : S'[g]? = S[g]?) : Dr r c g b S' := by
  obtain ⟨⟨n, h1, h1'⟩, ⟨cs, h2, h2'⟩, ⟨gs, h3, h3'⟩, h4⟩ := h
  exact ⟨⟨n, by rw [hr]; exact h1, h1'⟩, ⟨cs, by rw [hc]; exact h2, h2'⟩, ⟨gs, by rw [hg]; exact h3, h3'⟩, h4⟩
theorem Dr.app {r c g : Nat} {b : Int} {S : Sto} (T : Sto) (h : Dr r c g b S) : Dr r c g b (S ++ T) := by
  obtain ⟨h1, h2, h3⟩ := h.lt
  exact h.same (List.getElem?_append_left h1) (List.getElem?_append_left h2) (List.getElem?_append_left h3)
theorem Dr.mono {r c g : Nat} {b b' : Int} {S : Sto} (h : Dr r c g b S) (hb : b ≤ b') : Dr r c g b' S := by
  obtain ⟨⟨n, h1, h2, h3⟩, hc, hg, h4⟩ := h
  exact ⟨⟨n, h1, h2, by omega⟩, hc, hg, h4⟩
/-- drawn from: the state goes on, all else stays -/
structure Nx (r c g : Nat) (b : Int) (S S' : Sto) : Prop where
  dr : Dr r c g b S'
  rl : Rl r g S S'
theorem Nx.trans {r c g : Nat} {b b' : Int} {S S' S'' : Sto} (h : Nx r c g b S S') (h' : Nx r c g b' S' S'') : Nx r c g b' S S'' := ⟨h'.dr, h.rl.trans h'.rl⟩
theorem Nx.mono {r c g : Nat} {b b' : Int} {S S' : Sto} (h : Nx r c g b S S') (hb : b ≤ b') : Nx r c g b' S S' := ⟨h.dr.mono hb, h.rl⟩
theorem Nx.app {r c g : Nat} {b : Int} {S S' : Sto} (h : Nx r c g b S S') (T : Sto) : Nx r c g b S (S' ++ T) := ⟨h.dr.app T, h.rl.trans (Rl.app T)⟩
theorem Dr.here {r c g : Nat} {b : Int} {S : Sto} (h : Dr r c g b S) : Nx r c g b S S := ⟨h, Rl.refl⟩
@[simp] theorem small_lit1 : small 48271 = true := by decide
@[simp] theorem small_lit2 : small 2 = true := by decide
@[simp] theorem small_lit3 : small 7919 = true := by decide
@[simp] theorem small_lit4 : small 104729 = true := by decide
@[simp] theorem small_lit5 : small 69621 = true := by decide
@[simp] theorem small_lit6 : small 31 = true := by decide
theorem lg7 : Nat.log2 7 < 9000 := by decide
theorem lg64 : Nat.log2 64 < 9000 := by decide
section
variable {P : Pr} {fm fd : Nat}
theorem mixed_spec (h : P.df fm = some dMixed) (d : Nat) (cell n : Int) (S : Sto) (hc : small cell = true) (hn : small n = true) : ∃ x : Int, P.cl (d + 1) fm [.int cell, .int n] S = .ok (.int x) S ∧ 0 ≤ x ∧ x < 2147483647 := by
  refine ⟨(cell * (1 + 2 * n) * 48271 % 2147483647 + 7919 * n * n + 104729 * n) * 69621 % 2147483629 / 7, ?_, ?_, ?_⟩
  · rw [P.cl_eq h rfl]
    simp [dMixed, start1, hc, hn, lg7]
  · have := Int.emod_nonneg ((cell * (1 + 2 * n) * 48271 % 2147483647 + 7919 * n * n + 104729 * n) * 69621) (show (2147483629 : Int) ≠ 0 by decide)
    omega
  · have := Int.emod_lt_of_pos ((cell * (1 + 2 * n) * 48271 % 2147483647 + 7919 * n * n + 104729 * n) * 69621) (show (0 : Int) < 2147483629 by decide)
    omega
/-- a drawn number -/
theorem draw_spec (h1 : P.df fm = some dMixed) (h2 : P.df fd = some (dDraw fm)) (d : Nat) {r c g : Nat} {b limit : Int} {S : Sto} (h : Dr r c g b S) (hb : b ≤ 2 ^ 60) (hl : 0 < limit) (hl2 : limit.natAbs.log2 < 9000) :
    ∃ (x : Int) (S' : Sto), P.cl (d + 2) fd [.ref r, .int limit] S = .ok (.int x) S' ∧ 0 ≤ x ∧ x < limit ∧ Nx r c g (b + 1) S S' := by
  obtain ⟨⟨n, q1, q2, q3⟩, ⟨cs, q4, q5, q6⟩, ⟨gs, q7, q8⟩, q9⟩ := h
  have hrg : g ≠ r := fun e => by rw [e, q1] at q7; cases q7
  have hrc : c ≠ r := fun e => by rw [e, q1] at q4; cases q4
  have s1 : ∀ k : Unit → Sto → M PV, (setI (.ref r) (.str "spot") (.int (n + 1)) S).bind k = k () (S.set r (.dct (dkv c g (n + 1)))) := fun k => by rw [z_dset _ q1 (by simp [dkv]), dkv_put]
  have g0 : ∀ k : Kp PV, (opI (.ref r) (.str "spot") S).bind k = k (.int n) S := z_dget q1 (dkv_3 ..)
  obtain ⟨S1, hS1⟩ : ∃ S1, S1 = S.set r (.dct (dkv c g (n + 1))) := ⟨_, rfl⟩
  rw [← hS1] at s1
  have t1 : S1[r]? = some (.dct (dkv c g (n + 1))) := by rw [hS1]; exact get_set_self q1
  have t2 : S1[c]? = some (.lst (cs.map .int)) := by rw [hS1]; exact get_set q4 (Ne.symm hrc)
  have t3 : S1[g]? = some (.lst (gs.map .int)) := by rw [hS1]; exact get_set q7 (Ne.symm hrg)
  have r1 : Rl r g S S1 := ⟨fun k hk => by
      obtain ⟨l, hk⟩ := hk
      have : r ≠ k := fun e => by rw [← e, q1] at hk; rcases hk with hk | hk <;> cases hk
      exact ⟨l, by rw [hS1]; exact hk.imp (fun hk => get_set hk this) (fun hk => get_set hk this)⟩,
    fun k o a _ hk => by rw [hS1]; exact get_set hk (Ne.symm a), by rw [hS1]; simp⟩
  have g1 : ∀ k : Kp PV, (opI (.ref r) (.str "great") S1).bind k = k (.ref g) S1 := z_dget t1 (dkv_2 ..)
  have hk : ∀ k : Kp PV, (mkLst [] S1).bind k = k (.ref S1.length) (S1 ++ [.lst []]) := fun k => z_mkLst [] k (by simp)
  obtain ⟨S2, hS2⟩ : ∃ S2, S2 = S1 ++ [Ob.lst []] := ⟨_, rfl⟩
  have w1 : S2[r]? = some (.dct (dkv c g (n + 1))) := by rw [hS2]; exact get_app t1
  have w2 : S2[c]? = some (.lst (cs.map .int)) := by rw [hS2]; exact get_app t2
  have w3 : S2[g]? = some (.lst (gs.map .int)) := by rw [hS2]; exact get_app t3
  have w4 : pyEq S2 (.ref g) (.ref S1.length) = some gs.isEmpty := pyEq_nil w3 (by rw [hS2]; simp)
  have r2 : Rl r g S S2 := by rw [hS2]; exact r1.trans (Rl.app _)
  rw [← hS2] at hk
  have g2 : ∀ k : Kp PV, (opI (.ref r) (.str "great") S2).bind k = k (.ref g) S2 := z_dget w1 (dkv_2 ..)
  have g3 : ∀ k : Kp PV, (opI (.ref r) (.str "cells") S2).bind k = k (.ref c) S2 := z_dget w1 (dkv_1 ..)
  have dr2 : Dr r c g (b + 1) S2 := ⟨⟨n + 1, w1, by omega, by omega⟩, ⟨cs, w2, q5, q6⟩, ⟨gs, w3, q8⟩, q9⟩
  -- the mixed number
  have hi0 : 0 ≤ n % 64 := Int.emod_nonneg _ (by decide)
  have hi1 : n % 64 < 64 := Int.emod_lt_of_pos _ (by decide)
  obtain ⟨cell, hcell⟩ : ∃ x, cs[(n % 64).toNat]? = some x := ⟨cs[(n % 64).toNat]'(by omega), List.getElem?_eq_getElem _⟩
  have hcm := q6 cell (List.mem_of_getElem? hcell)
  have g4 : ∀ k : Kp PV, (opI (.ref c) (.int (n % 64)) S2).bind k = k (.int cell) S2 := z_lgetI (.inl w2) hi0 (by rw [List.getElem?_map, hcell]; rfl)
  have hsn : small n = true := by simp only [small, decide_eq_true_eq]; omega
  have hsn7 : small (n + 7) = true := by simp only [small, decide_eq_true_eq]; omega
  have hsc : small (cell + 31 * (n / 64)) = true := by simp only [small, decide_eq_true_eq]; omega
  obtain ⟨x1, y1, y2, y3⟩ := mixed_spec h1 d (cell + 31 * (n / 64)) n S2 hsc hsn
  have hsx : small x1 = true := by simp only [small, decide_eq_true_eq]; omega
  obtain ⟨x2, y4, y5, y6⟩ := mixed_spec h1 d x1 (n + 7) S2 hsx hsn7
  have hmix : 0 ≤ x2 % limit ∧ x2 % limit < limit := ⟨Int.emod_nonneg _ (by omega), Int.emod_lt_of_pos _ hl⟩
  by_cases hgs : gs = []
  · have hge : gs.isEmpty = true := by rw [hgs]; rfl
    refine ⟨x2 % limit, S2, ?_, hmix.1, hmix.2, dr2, r2⟩
    rw [P.cl_eq h2 rfl]
    simp [dDraw, start1, ↓g0, ↓s1, ↓g1, ↓hk, w4, hge, ↓g3, ↓g4, lg64, ↓cps y1, ↓cps y4, hl]
  · have hge : gs.isEmpty = false := by cases gs with | nil => exact absurd rfl hgs | cons a l => rfl
    have hlen : 0 < gs.length := by cases gs with | nil => exact absurd rfl hgs | cons a l => simp
    have hlen' : (0 : Int) < gs.length := by omega
    have hj0 : 0 ≤ n % (gs.length : Int) := Int.emod_nonneg _ (by omega)
    have hj1 : n % (gs.length : Int) < gs.length := Int.emod_lt_of_pos _ hlen'
    obtain ⟨big, hbig⟩ : ∃ x, gs[(n % (gs.length : Int)).toNat]? = some x := ⟨gs[(n % (gs.length : Int)).toNat]'(by omega), List.getElem?_eq_getElem _⟩
    have g5 : ∀ k : Kp PV, (opI (.ref g) (.int (n % (gs.length : Int))) S2).bind k = k (.int big) S2 := z_lgetI (.inl w3) hj0 (by rw [List.getElem?_map, hbig]; rfl)
    have g6 : ∀ k : Kp PV, (opBI .len [.ref g] S2).bind k = k (.int gs.length) S2 := fun k => by rw [z_lenL (.inl w3)]; simp
    by_cases hpos : 0 < big
    · have g7 : ∀ k : Unit → Sto → M PV, (setI (.ref g) (.int (n % (gs.length : Int))) (.int (big / limit)) S2).bind k = k () (S2.set g (.lst ((gs.set (n % (gs.length : Int)).toNat (big / limit)).map .int))) := fun k => by
        rw [z_lsetI _ w3 hj0 (by rw [List.length_map]; omega), List.map_set]
      refine ⟨big % limit, S2.set g (.lst ((gs.set (n % (gs.length : Int)).toNat (big / limit)).map .int)), ?_, Int.emod_nonneg _ (by omega), Int.emod_lt_of_pos _ hl, ⟨⟨n + 1, get_set w1 hrg, by omega, by omega⟩, ⟨cs, get_set w2 (Ne.symm q9), q5, q6⟩, ⟨_, get_set_self w3, by rw [List.length_set]; exact q8⟩, q9⟩, r2.trans ⟨fun k hk => ?_, fun k o _ a hk => get_set hk (Ne.symm a), by simp⟩⟩
      · rw [P.cl_eq h2 rfl]
        simp [dDraw, start1, ↓g0, ↓s1, ↓g1, ↓hk, w4, hge, ↓g2, ↓g6, ↓g5, hlen, hpos, hl, hl2, ↓g7]
      · by_cases e : k = g
        · subst e; exact ⟨_, .inl (get_set_self w3)⟩
        · obtain ⟨l, hk⟩ := hk
          exact ⟨l, hk.imp (fun hk => get_set hk (Ne.symm e)) (fun hk => get_set hk (Ne.symm e))⟩
    · refine ⟨x2 % limit, S2, ?_, hmix.1, hmix.2, dr2, r2⟩
      rw [P.cl_eq h2 rfl]
      simp [dDraw, start1, ↓g0, ↓s1, ↓g1, ↓hk, w4, hge, ↓g2, ↓g6, ↓g5, hlen, hpos, hl, ↓g3, ↓g4, lg64, ↓cps y1, ↓cps y4]
/-- one of some things -/
theorem of_spec {fo : Nat} (h1 : P.df fm = some dMixed) (h2 : P.df fd = some (dDraw fm)) (h3 : P.df fo = some (dOf fd)) (d : Nat) {r c g n : Nat} {b : Int} {S : Sto} {l : List PV} (h : Dr r c g b S) (hb : b ≤ 2 ^ 60) (hn : S[n]? = some (.lst l)) (hr : n ≠ r) (hg : n ≠ g) (hl : 0 < l.length) (hl2 : l.length < 1000) :
    ∃ (x : PV) (S' : Sto), P.cl (d + 3) fo [.ref r, .ref n] S = .ok x S' ∧ x ∈ l ∧ Nx r c g (b + 1) S S' := by
  have hlog : (l.length : Int).natAbs.log2 < 9000 := by
    have : Nat.log2 l.length < 10 := by
      rcases Nat.eq_zero_or_pos l.length with e | e
      · omega
      · exact (Nat.log2_lt (by omega)).mpr (by omega)
    simp only [Int.natAbs_natCast]
    omega
  obtain ⟨x, S', q1, q2, q3, q4⟩ := draw_spec h1 h2 d h hb (limit := (l.length : Int)) (by omega) hlog
  have hn' := q4.rl.fr n _ hr hg hn
  have hx : x.toNat < l.length := by omega
  have q5 : ∀ k : Kp PV, (opI (.ref n) (.int x) S').bind k = k l[x.toNat] S' := z_lgetI (.inl hn') q2 (List.getElem?_eq_getElem hx)
  refine ⟨l[x.toNat], S', ?_, List.getElem_mem hx, q4⟩
  rw [P.cl_eq h3 rfl]
  simp [dOf, start1, ↓z_lenL (.inl hn), ↓cps q1, ↓q5]
end
/-- _law_folded -/
def bF0 : Ss := .cons (.asg (.idx (.loc 1) (.bin .mod (.bi .int (.cons (.loc 2) .nil)) (.int 64))) (.bin .mod (.bi .int (.cons (.bin .add (.bin .mul (.idx (.loc 1) (.bin .mod (.bi .int (.cons (.loc 2) .nil)) (.int 64))) (.int 48271)) (.loc 3)) .nil)) (.int 2147483647))) .nil
def bF1 : Ss := .cons (.asg (.idx (.loc 1) (.loc 2)) (.bin .mod (.bi .int (.cons (.bin .add (.idx (.loc 1) (.loc 2)) (.bin .mul (.idx (.loc 1) (.bin .sub (.loc 2) (.int 1))) (.int 16807))) .nil)) (.int 2147483647))) .nil
def dFolded : Df := ⟨["script"], 4, (.cons
    (.asg (.loc 1) (.comp [2] [2] (.bin .add (.int 17) (.loc 2)) (.rng1 (.int 64)) .no)) (.cons
    (.for_ [2, 3] (.enm (.loc 0)) bF0) (.cons
    (.for_ [2] (.rng2 (.int 1) (.int 64)) bF1) (.cons
    (.ret (.loc 1)) .nil))))⟩
/-- _law_begun -/
def dBegun (ff : Nat) : Df := ⟨["script"], 3, (.cons
    (.asg (.loc 1) (.dct ["cells", "great", "spot"] (.cons (.call ff (.cons (.loc 0) .nil)) (.cons (.lst .nil) (.cons (.int 0) .nil))))) (.cons
    (.asg (.idx (.loc 1) (.str "great")) (.comp [2] [2] (.ite (.cmp .ge (.loc 2) (.bin .pow (.int 10) (.int 18))) (.loc 2) (.int 0)) (.seq (.loc 0)) .no)) (.cons
    (.ret (.loc 1)) .nil)))⟩
/-- sixty-four cells -/
def Cells (cs : List Int) : Prop := cs.length = 64 ∧ ∀ x ∈ cs, 0 ≤ x ∧ x < 2147483647
theorem Cells.set {cs : List Int} (h : Cells cs) (i : Nat) (x : Int) : Cells (cs.set i (x % 2147483647)) := by
  refine ⟨by rw [List.length_set]; exact h.1, fun y hy => ?_⟩
  rcases List.mem_or_eq_of_mem_set hy with hy | rfl
  · exact h.2 y hy
  · exact ⟨Int.emod_nonneg _ (by decide), Int.emod_lt_of_pos _ (by decide)⟩
theorem cell_at {cs : List Int} (h : Cells cs) {i : Int} (h0 : 0 ≤ i) (h1 : i < 64) {β : Type} {S : Sto} : ∃ x, ∀ k : Kp β, (opI (.ref S.length) (.int i) (S ++ [.lst (cs.map .int)])).bind k = k (.int x) (S ++ [.lst (cs.map .int)]) := by
  have hl : i.toNat < cs.length := by rw [h.1]; omega
  exact ⟨cs[i.toNat], fun k => z_lgetI (l := cs.map .int) (.inl (by simp)) h0 (by rw [List.getElem?_map, List.getElem?_eq_getElem hl]; rfl) k⟩
theorem cell_put {cs : List Int} (h : Cells cs) {i : Int} (h0 : 0 ≤ i) (h1 : i < 64) (x : Int) {β : Type} {S : Sto} (k : Unit → Sto → M β) : (setI (.ref S.length) (.int i) (.int x) (S ++ [.lst (cs.map .int)])).bind k = k () (S ++ [.lst ((cs.set i.toNat x).map .int)]) := by
  have hl : i.toNat < (cs.map PV.int).length := by rw [List.length_map, h.1]; omega
  rw [z_lsetI _ (by simp) h0 hl]
  simp [List.map_set]
section
variable {P : Pr} {ff : Nat}
theorem folded_1 (c : Nat → List PV → Sto → M PV) (S : Sto) (s : Nat) (l : List PV) (ns : List Int) (hl : l = ns.map .int) (hs : S[s]? = some (.lst l) ∨ S[s]? = some (.fro l)) (cs : List Int) (hc : Cells cs) (x2 x3 : Option PV) :
    ∃ cs' y2 y3, loopF (fun env S => exs (P.ar c) bF0 env S) [2, 3] (.enl s) l.length 0 [some (.ref s), some (.ref S.length), x2, x3] (S ++ [.lst (cs.map .int)]) = .ok (.nx, [some (.ref s), some (.ref S.length), y2, y3]) (S ++ [.lst (cs'.map .int)]) ∧ Cells cs' := by
  obtain ⟨env', S', h1, ⟨cs', y2, y3, rfl, hc', rfl⟩⟩ := loopF_enl (fun env S => exs (P.ar c) bF0 env S) [2, 3] s l (fun _ env S' => ∃ cs x2 x3, S' = S ++ [.lst (cs.map .int)] ∧ Cells cs ∧ env = [some (.ref s), some (.ref S.length), x2, x3])
    (fun i env S' h => by
      obtain ⟨cs, x2, x3, rfl, _, _⟩ := h
      exact hs.imp get_app get_app)
    (fun i env S' hi h => by
      obtain ⟨cs, x2, x3, rfl, hc, rfl⟩ := h
      obtain ⟨n, hn⟩ : ∃ n : Int, l[i] = .int n := by subst hl; exact ⟨ns[i]'(by simpa using hi), by simp⟩
      have hm0 : 0 ≤ (i : Int) % 64 := Int.emod_nonneg _ (by decide)
      have hm1 : (i : Int) % 64 < 64 := Int.emod_lt_of_pos _ (by decide)
      obtain ⟨x, hx⟩ := cell_at (β := Fl × Env1) (S := S) hc hm0 hm1
      refine ⟨[some (.ref s), some (.ref S.length), some (.int i), some (.int n)], [some (.ref s), some (.ref S.length), some (.int i), some (.int n)], _, by rw [hn]; rfl, ?_, cs.set ((i : Int) % 64).toNat ((x * 48271 + n) % 2147483647), some (.int i), some (.int n), rfl, hc.set _ _, rfl⟩
      rw [← M.bind_id (exs _ _ _ _)]
      simp [bF0, ↓hx, ↓cell_put hc hm0 hm1])
    l.length 0 _ _ rfl ⟨cs, x2, x3, rfl, hc, rfl⟩
  exact ⟨cs', y2, y3, h1, hc'⟩
@[simp] theorem small_lit7 : small 16807 = true := by decide
theorem folded_2 (c : Nat → List PV → Sto → M PV) (S : Sto) (s : Nat) (cs : List Int) (hc : Cells cs) (x2 x3 : Option PV) :
    ∃ cs' y2 y3, loopR (fun env S => exs (P.ar c) bF1 env S) [2] (rngP 1 63) [some (.ref s), some (.ref S.length), x2, x3] (S ++ [.lst (cs.map .int)]) = .ok (.nx, [some (.ref s), some (.ref S.length), y2, y3]) (S ++ [.lst (cs'.map .int)]) ∧ Cells cs' := by
  obtain ⟨env', S', h1, _, cs', y2, y3, rfl, hc', rfl⟩ := loopR_ok (fun env S => exs (P.ar c) bF1 env S) [2] (fun rest env S' => (∀ v ∈ rest, ∃ i : Int, v = .int i ∧ 1 ≤ i ∧ i < 64) ∧ ∃ cs x2 x3, S' = S ++ [.lst (cs.map .int)] ∧ Cells cs ∧ env = [some (.ref s), some (.ref S.length), x2, x3])
    (fun v rest env S' h => by
      obtain ⟨hr, cs, x2, x3, rfl, hc, rfl⟩ := h
      obtain ⟨i, rfl, i1, i2⟩ := hr v List.mem_cons_self
      obtain ⟨x, hx⟩ := cell_at (β := Fl × Env1) (S := S) hc (show 0 ≤ i by omega) i2
      obtain ⟨y, hy⟩ := cell_at (β := Fl × Env1) (S := S) hc (show 0 ≤ i - 1 by omega) (show i - 1 < 64 by omega)
      refine ⟨[some (.ref s), some (.ref S.length), some (.int i), x3], [some (.ref s), some (.ref S.length), some (.int i), x3], _, rfl, .inl ?_, fun v hv => hr v (List.mem_cons_of_mem _ hv), cs.set i.toNat ((x + y * 16807) % 2147483647), some (.int i), x3, rfl, hc.set _ _, rfl⟩
      rw [← M.bind_id (exs _ _ _ _)]
      simp [bF1, ↓hx, ↓hy, ↓cell_put hc (show 0 ≤ i by omega) i2])
    (rngP 1 63) _ _ ⟨fun v hv => by
      obtain ⟨j, hj, rfl⟩ := List.mem_map.mp hv
      have := List.mem_range.mp hj
      exact ⟨1 + (j : Nat), rfl, by omega, by omega⟩, cs, x2, x3, rfl, hc, rfl⟩
  exact ⟨cs', y2, y3, h1, hc'⟩
theorem inRange_1 : inRange 1 = true := by decide
theorem inRange_64 : inRange 64 = true := by decide
def cells0 : List Int := (List.range 64).map fun i : Nat => 17 + (0 + (i : Int))
theorem folded_spec (h : P.df ff = some dFolded) (d : Nat) (S : Sto) (s : Nat) (ns : List Int) (hs : S[s]? = some (.lst (ns.map .int)) ∨ S[s]? = some (.fro (ns.map .int))) : ∃ cs, P.cl (d + 1) ff [.ref s] S = .ok (.ref S.length) (S ++ [.lst (cs.map .int)]) ∧ Cells cs := by
  have hc0 : Cells cells0 := by
    refine ⟨by simp [cells0], fun x hx => ?_⟩
    obtain ⟨j, hj, rfl⟩ := List.mem_map.mp hx
    have := List.mem_range.mp hj
    omega
  have e0 : (rngP 0 64).map (fun v => match v with | .int i => PV.int (17 + i) | _ => .non) = cells0.map .int := by
    simp only [rngP, cells0, List.map_map]; rfl
  have l0 := loopCR_pure (fun env S => ev (P.ar (P.cl d)) (.bin .add (.int 17) (.loc 2)) false env S) (fun env S => evc (P.ar (P.cl d)) .no env S) (fun env S => by rw [evc]) [2] [some (.ref s), none, none, none] S (fun v => match v with | .int i => PV.int (17 + i) | _ => .non) (rngP 0 64) [] (fun v hv => by
    obtain ⟨j, hj, rfl⟩ := List.mem_map.mp hv
    refine ⟨[some (.ref s), none, some (.int (0 + (j : Nat))), none], rfl, fun acc => ?_⟩
    rw [← M.bind_id (ev _ _ _ _ _)]
    simp) (by simp [rngP])
  rw [List.nil_append, e0] at l0
  obtain ⟨cs1, a2, a3, l1, hc1⟩ := folded_1 (P := P) (P.cl d) S s _ ns rfl hs _ hc0 none none
  obtain ⟨cs2, b2, b3, l2, hc2⟩ := folded_2 (P := P) (P.cl d) S s cs1 hc1 a2 a3
  have hw : ∀ k : Wk → Sto → M PV, (wkEnm (.ref s) (S ++ [.lst (cells0.map .int)])).bind k = k (.enl s) (S ++ [.lst (cells0.map .int)]) := fun k => by
    rcases hs with hs | hs
    · have := get_app (T := [Ob.lst (cells0.map .int)]) hs
      simp only [wkEnm, this]; rfl
    · have := get_app (T := [Ob.lst (cells0.map .int)]) hs
      simp only [wkEnm, this]; rfl
  have hln : Wk.len (S ++ [.lst (cells0.map .int)]) (.enl s) = (ns.map PV.int).length := by
    rcases hs with hs | hs
    · have := get_app (T := [Ob.lst (cells0.map .int)]) hs
      simp only [Wk.len, this]
    · have := get_app (T := [Ob.lst (cells0.map .int)]) hs
      simp only [Wk.len, this]
  refine ⟨cs2, ?_, hc2⟩
  generalize S ++ [Ob.lst (cells0.map .int)] = S1 at l0 l1 hw hln
  generalize S ++ [Ob.lst (cs1.map .int)] = S2 at l1 l2
  generalize S ++ [Ob.lst (cs2.map .int)] = S3 at l2 ⊢
  rw [P.cl_eq h rfl]
  simp [dFolded, start1, inRange_64]
  rw [cps l0]
  simp [↓hw, hln]
  rw [List.length_map] at l1
  rw [cps l1]
  simp [inRange_1, inRange_64]
  rw [cps l2]
  simp
theorem z_mkDct {β : Type} {S : Sto} {n : Nat} {ks : List Str} {vs : List PV} (k : Kp β) (h : S[n]? = some (.dct [])) (h2 : vs.length = ks.length ∧ ks.Nodup ∧ ks.length ≤ 15) : (mkDct ks n vs S).bind k = k (.ref n) (S.set n (.dct (ks.zip vs))) := by
  simp only [mkDct, h]; rw [if_pos h2]; rfl
theorem putKs_great (c n : Nat) (g : PV) : putKs ([("cells", .ref c), ("great", g), ("spot", .int 0)] : List (Str × PV)) ("great" : Str) (.ref n) = dkv c n 0 := by simp [putKs, dkv]
/-- the state of the draws begun -/
theorem begun_spec {fb : Nat} (h : P.df ff = some dFolded) (h2 : P.df fb = some (dBegun ff)) (d : Nat) (S : Sto) (s : Nat) (ns : List Int) (hlen : ns.length < 100) (hs : S[s]? = some (.lst (ns.map .int)) ∨ S[s]? = some (.fro (ns.map .int))) :
    ∃ (r c g : Nat) (S' : Sto), P.cl (d + 2) fb [.ref s] S = .ok (.ref r) S' ∧ Dr r c g 0 S' ∧ (∀ (k : Nat) (o : Ob), S[k]? = some o → S'[k]? = some o) := by
  have hs1 : (S ++ [Ob.dct []])[s]? = some (.lst (ns.map .int)) ∨ (S ++ [Ob.dct []])[s]? = some (.fro (ns.map .int)) := hs.imp get_app get_app
  obtain ⟨cs, f1, hc⟩ := folded_spec h d (S ++ [.dct []]) s ns hs1
  obtain ⟨S1, hS1⟩ : ∃ S1, S1 = S ++ [Ob.dct []] := ⟨_, rfl⟩
  rw [← hS1] at f1 hs1
  obtain ⟨S2, hS2⟩ : ∃ S2, S2 = S1 ++ [Ob.lst (cs.map .int)] := ⟨_, rfl⟩
  rw [← hS2] at f1
  have hk : ∀ k : Kp PV, (mkLst [] S2).bind k = k (.ref S2.length) (S2 ++ [.lst []]) := fun k => z_mkLst [] k (by simp)
  obtain ⟨S3, hS3⟩ : ∃ S3, S3 = S2 ++ [Ob.lst []] := ⟨_, rfl⟩
  rw [← hS3] at hk
  have lt1 : S.length < S1.length := by rw [hS1]; simp
  have a1 : S1[S.length]? = some (.dct []) := by rw [hS1]; simp
  have a2 : S2[S.length]? = some (.dct []) := by rw [hS2]; exact get_app a1
  have a3 : S3[S.length]? = some (.dct []) := by rw [hS3]; exact get_app a2
  have c2 : S2[S1.length]? = some (.lst (cs.map .int)) := by rw [hS2]; simp
  have c3 : S3[S1.length]? = some (.lst (cs.map .int)) := by rw [hS3]; exact get_app c2
  have s3 : S3[s]? = some (.lst (ns.map .int)) ∨ S3[s]? = some (.fro (ns.map .int)) := by rw [hS3, hS2]; exact (hs1.imp get_app get_app).imp get_app get_app
  have hd : ∀ k : Kp PV, (mkDct ["cells", "great", "spot"] S.length [.ref S1.length, .ref S2.length, .int 0] S3).bind k = k (.ref S.length) (S3.set S.length (.dct [("cells", .ref S1.length), ("great", .ref S2.length), ("spot", .int 0)])) := fun k => z_mkDct k a3 ⟨rfl, by decide, by decide⟩
  obtain ⟨S4, hS4⟩ : ∃ S4, S4 = S3.set S.length (Ob.dct [("cells", .ref S1.length), ("great", .ref S2.length), ("spot", .int 0)]) := ⟨_, rfl⟩
  rw [← hS4] at hd
  have hsl : s ≠ S.length := by
    rintro rfl
    rcases hs with hs | hs <;> exact absurd (get_lt hs) (Nat.lt_irrefl _)
  have a4 : S4[S.length]? = some (.dct [("cells", .ref S1.length), ("great", .ref S2.length), ("spot", .int 0)]) := by rw [hS4]; exact get_set_self a3
  have c4 : S4[S1.length]? = some (.lst (cs.map .int)) := by rw [hS4]; exact get_set c3 (by omega)
  have s4 : S4[s]? = some (.lst (ns.map .int)) ∨ S4[s]? = some (.fro (ns.map .int)) := by rw [hS4]; exact s3.imp (fun h => get_set h (Ne.symm hsl)) (fun h => get_set h (Ne.symm hsl))
  have ls4 : s < S4.length := by rcases s4 with h | h <;> exact get_lt h
  have hw : ∀ k : Wk → Sto → M PV, (wkSeq (.ref s) S4).bind k = k (.lst s) S4 := fun k => by rcases s4 with h | h <;> (simp only [wkSeq, h]; rfl)
  have hln : Wk.len S4 (.lst s) = ns.length := by rcases s4 with h | h <;> simp [Wk.len, h]
  have hC := loopC_lst (fun env S => ev (P.ar (P.cl (d + 1))) (.ite (.cmp .ge (.loc 2) (.bin .pow (.int 10) (.int 18))) (.loc 2) (.int 0)) false env S) (fun env S => evc (P.ar (P.cl (d + 1))) .no env S) (fun env S => by rw [evc]) [2] [some (.ref s), some (.ref S.length), none] S4 s ls4 (ns.map fun n => (PV.int n, PV.int (if 1000000000000000000 ≤ n then n else 0))) [] ns.length [] (by rw [List.nil_append, List.map_map, show (Prod.fst ∘ fun n : Int => (PV.int n, PV.int (if 1000000000000000000 ≤ n then n else 0))) = PV.int from rfl]; exact s4) (by simp) (fun p hp => by
    obtain ⟨n, _, rfl⟩ := List.mem_map.mp hp
    refine ⟨[some (.ref s), some (.ref S.length), some (.int n)], rfl, fun acc => ?_⟩
    rw [← M.bind_id (ev _ _ _ _ _)]
    by_cases hn : 1000000000000000000 ≤ n <;> simp [hn]) (by simp; omega)
  rw [List.map_map, List.nil_append, show (Prod.snd ∘ fun n : Int => (PV.int n, PV.int (if 1000000000000000000 ≤ n then n else 0))) = PV.int ∘ (fun n : Int => if 1000000000000000000 ≤ n then n else 0) from rfl, ← List.map_map] at hC
  obtain ⟨gs, hgs⟩ : ∃ gs, gs = ns.map (fun n : Int => if 1000000000000000000 ≤ n then n else 0) := ⟨_, rfl⟩
  rw [← hgs] at hC
  have hgl : gs.length = ns.length := by rw [hgs]; simp
  obtain ⟨S5, hS5⟩ : ∃ S5, S5 = S4 ++ [Ob.lst (gs.map .int)] := ⟨_, rfl⟩
  rw [← hS5] at hC
  have a5 : S5[S.length]? = some (.dct [("cells", .ref S1.length), ("great", .ref S2.length), ("spot", .int 0)]) := by rw [hS5]; exact get_app a4
  have c5 : S5[S1.length]? = some (.lst (cs.map .int)) := by rw [hS5]; exact get_app c4
  have g5 : S5[S4.length]? = some (.lst (gs.map .int)) := by rw [hS5]; simp
  have hp : ∀ k : Unit → Sto → M PV, (setI (.ref S.length) (.str "great") (.ref S4.length) S5).bind k = k () (S5.set S.length (.dct (dkv S1.length S4.length 0))) := fun k => by rw [z_dset _ a5 (by simp), putKs_great]
  have l4 : S4.length = S3.length := by rw [hS4]; simp
  have l3 : S3.length = S2.length + 1 := by rw [hS3]; simp
  have l2 : S2.length = S1.length + 1 := by rw [hS2]; simp
  refine ⟨S.length, S1.length, S4.length, S5.set S.length (.dct (dkv S1.length S4.length 0)), ?_, ⟨⟨0, get_set_self a5, by omega, by omega⟩, ⟨cs, get_set c5 (by omega), hc.1, hc.2⟩, ⟨gs, get_set g5 (by omega), by omega⟩, by omega⟩, fun k o hk => ?_⟩
  · simp only [List.length_nil] at hC
    clear hS5 hS4 hS3 hS2
    rw [P.cl_eq h2 rfl]
    have f1' : P.cl (d + 1) ff [.ref s] (S ++ [.dct []]) = .ok (.ref S1.length) S2 := by rw [← hS1]; exact f1
    simp [dBegun, start1, ↓cps f1', ↓hk, ↓hd, ↓hw, hln]
    rw [cps hC]
    simp [↓hp]
  · have := get_lt hk
    rw [hS5, hS4, hS3, hS2, hS1]
    refine get_set (get_app (get_set (get_app (get_app (get_app hk))) ?_)) ?_ <;> omega
end
/-- a new list may change -/
theorem Rl.setNew {r g n : Nat} {S S' : Sto} {l l' : List PV} (h : Rl r g S S') (hn : S.length ≤ n) (hl : S'[n]? = some (.lst l)) : Rl r g S (S'.set n (.lst l')) :=
  ⟨fun k hk => by
    by_cases e : n = k
    · subst e; exact ⟨l', .inl (get_set_self hl)⟩
    · obtain ⟨q, hq⟩ := h.kd k hk
      exact ⟨q, hq.imp (fun a => get_set a e) (fun a => get_set a e)⟩,
   fun k o a b hk => get_set (h.fr k o a b hk) (by have := get_lt hk; omega), by rw [List.length_set]; exact h.le⟩
theorem Dr.setNew {r c g n : Nat} {b : Int} {S : Sto} {o : Ob} (h : Dr r c g b S) (h1 : n ≠ r) (h2 : n ≠ c) (h3 : n ≠ g) : Dr r c g b (S.set n o) :=
  h.same (List.getElem?_set_ne h1) (List.getElem?_set_ne h2) (List.getElem?_set_ne h3)
section
variable {β : Type} {S : Sto}
theorem opI_int {l : List PV} {i : Int} {x : PV} (h0 : 0 ≤ i) (h : l[i.toNat]? = some x) (k : Kp β) : (opI (.tup l) (.int i) S).bind k = k x S := by
  have := opI_nat (S := S) h k
  rw [Int.toNat_of_nonneg h0] at this
  exact this
theorem cutP_mem {l : List PV} {lo hi : Option Int} : ∀ x ∈ cutP l lo hi, x ∈ l := fun x hx => List.mem_of_mem_drop (List.mem_of_mem_take hx)
theorem cutP_len (l : List PV) (lo hi : Option Int) : (cutP l lo hi).length ≤ l.length := by
  rw [cutP, List.length_take, List.length_drop]; omega
theorem z_extL {n m : Nat} {l q : List PV} (h : S[n]? = some (.lst l)) (h2 : S[m]? = some (.lst q)) (h3 : l.length + q.length ≤ sizeLine) (k : Kp β) : (opM .extend (.ref n) [.ref m] S).bind k = k .non (S.set n (.lst (l ++ q))) := by
  simp only [opM, h, h2]; rw [if_pos h3]; rfl
end
end Mi
end

section
set_option Elab.async false
set_option linter.all false
set_option maxRecDepth 100000
set_option maxHeartbeats 8000000
/-! K11: the mini trees of the law's text, and that they check. -/
namespace Mi.K11
open PySem PySem.Spec L2 Mi
def top (i : Nat) : Stmt := PySem.Challenge.pw_onebill_k11_lives_and_dials_refused.main.body.getD i (.Pass ⟨0, 0, 0, 0⟩)
def inC (s : Stmt) (x : Str) : Stmt := match s with
  | .ClassDef _ _ _ body _ _ _ _ _ _ _ => (body.find? fun t => match t with
    | .FunctionDef n _ _ _ _ _ _ _ _ _ => n == x
    | _ => false).getD (.Pass ⟨0, 0, 0, 0⟩)
  | _ => .Pass ⟨0, 0, 0, 0⟩
/-- law -/
def d0 : Df := ⟨["script"], 7, (.cons 
    (.asg (.loc 1) (.call 1 (.cons (.loc 0) .nil))) (.cons 
    (.for_ [2] (.rng1 (.bin .add (.int 2) (.bi .min2 (.cons (.int 1) (.cons (.bi .len (.cons (.loc 0) .nil)) .nil))))) (.cons (.asg (.loc 4) (.call 2 (.cons (.loc 1) (.cons (.bin .add (.int 1) (.call 3 (.cons (.loc 1) (.cons (.int 12) .nil)))) .nil)))) (.cons (.ife (.or (.inv (.call 5 (.cons (.loc 4) .nil))) (.inv (.call 4 (.cons (.loc 4) .nil)))) (.cons (.ret (.bl false)) .nil) .nil) (.cons (.for_ [5] (.rng1 (.int 5)) (.cons (.ife (.inv (.call 5 (.cons (.call 6 (.cons (.loc 1) (.cons (.loc 4) .nil))) .nil))) (.cons (.ret (.bl false)) .nil) .nil) .nil)) (.cons (.ife (.inv (.call 7 (.cons (.loc 1) .nil))) (.cons (.ret (.bl false)) .nil) .nil) .nil))))) (.cons 
    (.asg (.loc 3) (.bin .add (.tup (.cons (.tup (.cons (.str "put") (.cons (.int 0) (.cons (.tup (.cons (.int 3) (.cons (.int 5) .nil))) (.cons (.int 7) .nil))))) .nil)) (.bi .tuple (.cons (.comp [6] [6] (.tup (.cons (.str "read") (.cons (.bin .add (.int 1) (.loc 6)) (.cons (.int 7) .nil)))) (.rng1 (.int 39)) .no) .nil)))) (.cons 
    (.ret (.and (.call 5 (.cons (.loc 3) .nil)) (.and (.call 5 (.cons (.bin .add (.loc 3) (.tup (.cons (.tup (.cons (.str "end") (.cons (.int 50) (.cons (.int 7) .nil)))) .nil))) .nil)) (.call 5 (.cons (.slc (.loc 3) .no (.so (.int 1))) .nil))))) .nil))))⟩
def n0 : List Str := ["script", "m", "turn", "long", "rows", "bend", "number"]
/-- _law_begun -/
def d1 : Df := ⟨["script"], 3, (.cons 
    (.asg (.loc 1) (.dct ["cells", "great", "spot"] (.cons (.call 8 (.cons (.loc 0) .nil)) (.cons (.lst .nil) (.cons (.int 0) .nil))))) (.cons 
    (.asg (.idx (.loc 1) (.str "great")) (.comp [2] [2] (.ite (.cmp .ge (.loc 2) (.bin .pow (.int 10) (.int 18))) (.loc 2) (.int 0)) (.seq (.loc 0)) .no)) (.cons 
    (.ret (.loc 1)) .nil)))⟩
def n1 : List Str := ["script", "m", "cell"]
/-- _law_life -/
def d2 : Df := ⟨["m", "many"], 7, (.cons 
    (.par [3, 4, 5] (.cons (.lst .nil) (.cons (.call 3 (.cons (.loc 0) (.cons (.int 30) .nil))) (.cons .non .nil)))) (.cons 
    (.for_ [2] (.rng1 (.loc 1)) (.cons (.ife (.cmp .is (.loc 5) .non) (.cons (.asg (.loc 5) (.call 9 (.cons (.loc 0) .nil))) (.cons (.exp (.meth .append (.loc 3) (.cons (.tup (.cons (.str "put") (.cons (.loc 4) (.cons (.loc 5) (.cons (.call 3 (.cons (.loc 0) (.cons (.call 10 (.cons (.idx (.loc 5) (.int 0)) .nil)) .nil))) .nil))))) .nil))) .nil)) (.cons (.aug 4 .add (.bin .add (.int 1) (.call 3 (.cons (.loc 0) (.cons (.int 9) .nil))))) (.cons (.asg (.loc 6) (.ite (.cmp .eq (.call 3 (.cons (.loc 0) (.cons (.int 4) .nil))) (.int 0)) (.str "end") (.str "read"))) (.cons (.exp (.meth .append (.loc 3) (.cons (.tup (.cons (.loc 6) (.cons (.loc 4) (.cons (.call 3 (.cons (.loc 0) (.cons (.call 10 (.cons (.idx (.loc 5) (.int 0)) .nil)) .nil))) .nil)))) .nil))) (.cons (.ife (.cmp .eq (.loc 6) (.str "end")) (.cons (.asg (.loc 5) .non) (.cons (.aug 4 .add (.call 3 (.cons (.loc 0) (.cons (.int 3) .nil)))) .nil)) .nil) .nil))))) .nil)) (.cons 
    (.ret (.bi .tuple (.cons (.loc 3) .nil))) .nil)))⟩
def n2 : List Str := ["m", "many", "turn", "rows", "moment", "device", "word"]
/-- _law_draw -/
def d3 : Df := ⟨["m", "limit"], 6, (.cons 
    (.asg (.loc 2) (.idx (.loc 0) (.str "spot"))) (.cons 
    (.asg (.idx (.loc 0) (.str "spot")) (.bin .add (.loc 2) (.int 1))) (.cons 
    (.ife (.cmp .ne (.idx (.loc 0) (.str "great")) (.lst .nil)) (.cons (.asg (.loc 3) (.idx (.loc 0) (.str "great"))) (.cons (.asg (.loc 4) (.bin .mod (.bi .int (.cons (.loc 2) .nil)) (.bi .len (.cons (.loc 3) .nil)))) (.cons (.asg (.loc 5) (.idx (.loc 3) (.loc 4))) (.cons (.ife (.cmp .gt (.loc 5) (.int 0)) (.cons (.asg (.idx (.loc 3) (.loc 4)) (.bin .fdv (.loc 5) (.loc 1))) (.cons (.ret (.bin .mod (.bi .int (.cons (.loc 5) .nil)) (.loc 1))) .nil)) .nil) .nil)))) .nil) (.cons 
    (.asg (.loc 3) (.idx (.loc 0) (.str "cells"))) (.cons 
    (.ret (.bin .mod (.bi .int (.cons (.call 11 (.cons (.call 11 (.cons (.bin .add (.idx (.loc 3) (.bin .mod (.bi .int (.cons (.loc 2) .nil)) (.int 64))) (.bin .mul (.int 31) (.bin .fdv (.loc 2) (.int 64)))) (.cons (.loc 2) .nil))) (.cons (.bin .add (.loc 2) (.int 7)) .nil))) .nil)) (.loc 1))) .nil)))))⟩
def n3 : List Str := ["m", "limit", "n", "lot", "here", "cell"]
/-- _law_sums_right -/
def d4 : Df := ⟨["rows"], 5, (.cons 
    (.asg (.loc 1) (.call 12 (.cons (.loc 0) .nil))) (.cons 
    (.asg (.loc 2) (.bi .tuple (.cons (.comp [4] [4] (.tup (.cons (.idx (.loc 4) (.int 0)) (.cons (.idx (.loc 4) (.int 2)) (.cons (.idx (.loc 4) (.int 3)) (.cons (.idx (.loc 4) (.int 6)) (.cons (.idx (.loc 4) (.int 7)) .nil)))))) (.seq (.loc 1)) .no) .nil))) (.cons 
    (.asg (.loc 3) (.bin .sub (.bin .sub (.idx (.idx (.loc 0) (.neg (.int 1))) (.int 1)) (.idx (.idx (.loc 0) (.int 0)) (.int 1))) (.bi .sum (.cons (.comp [4] [4] (.bin .sub (.idx (.loc 4) (.int 3)) (.idx (.loc 4) (.int 2))) (.seq (.loc 1)) .no) .nil)))) (.cons 
    (.ret (.call 13 (.cons (.tup (.cons (.call 14 (.cons (.loc 0) .nil)) (.cons (.calk 14 .nil ["life"] (.cons (.loc 0) .nil)) (.cons (.call 15 (.cons (.loc 0) .nil)) .nil)))) (.cons (.tup (.cons (.loc 2) (.cons (.loc 2) (.cons (.loc 3) .nil)))) .nil)))) .nil))))⟩
def n4 : List Str := ["rows", "spans", "due", "idle", "gap"]
/-- _law_life_right -/
def d5 : Df := ⟨["value"], 4, (.cons 
    (.asg (.loc 1) (.call 16 (.cons (.loc 0) .nil))) (.cons 
    (.ife (.inv (.call 13 (.cons (.tup (.cons (.call 17 (.cons (.loc 0) .nil)) (.cons (.calk 17 .nil ["value"] (.cons (.loc 0) .nil)) .nil))) (.cons (.tup (.cons (.cmp .eq (.loc 1) (.tup .nil)) (.cons (.cmp .eq (.loc 1) (.tup .nil)) .nil))) .nil)))) (.cons (.ret (.bl false)) .nil) .nil) (.cons 
    (.ife (.cmp .eq (.loc 1) (.tup .nil)) (.cons (.ret (.and (.call 13 (.cons (.calk 18 .nil ["life"] (.cons (.loc 0) .nil)) (.cons (.loc 0) .nil))) (.call 13 (.cons (.lam 0 (.call 14 (.cons (.loc 0) .nil))) (.cons (.tup (.cons (.str "told") .nil)) .nil))))) .nil) .nil) (.cons 
    (.asg (.loc 2) (.tup (.cons (.str "life") (.cons (.idx (.loc 1) (.int 0)) (.cons (.bl true) (.cons (.bl false) (.cons (.bl false) .nil))))))) (.cons 
    (.asg (.loc 3) (.lst (.cons (.lam 0 (.call 18 (.cons (.loc 0) .nil))) .nil))) (.cons 
    (.exp (.meth .append (.loc 3) (.cons (.lam 0 (.call 14 (.cons (.loc 0) .nil))) .nil))) (.cons 
    (.exp (.meth .append (.loc 3) (.cons (.lam 0 (.calk 15 .nil ["life"] (.cons (.loc 0) .nil))) .nil))) (.cons 
    (.ret (.call 13 (.cons (.bi .tuple (.cons (.loc 3) .nil)) (.cons (.tup (.cons (.loc 2) (.cons (.loc 2) (.cons (.loc 2) .nil)))) .nil)))) .nil))))))))⟩
def n5 : List Str := ["value", "due", "wanted", "told"]
/-- _law_bent -/
def d6 : Df := ⟨["m", "rows"], 7, (.cons 
    (.par [3, 4] (.cons (.call 3 (.cons (.loc 0) (.cons (.int 9) .nil))) (.cons (.call 3 (.cons (.loc 0) (.cons (.bi .len (.cons (.loc 1) .nil)) .nil))) .nil))) (.cons 
    (.asg (.loc 2) (.idx (.loc 1) (.loc 4))) (.cons 
    (.ife (.cmp .lt (.loc 3) (.int 4)) (.cons (.asg (.loc 5) (.call 3 (.cons (.loc 0) (.cons (.bi .len (.cons (.loc 2) .nil)) .nil)))) (.cons (.ret (.bin .add (.bin .add (.slc (.loc 1) .no (.so (.loc 4))) (.tup (.cons (.bin .add (.bin .add (.slc (.loc 2) .no (.so (.loc 5))) (.tup (.cons (.call 19 (.cons (.loc 0) .nil)) .nil))) (.slc (.loc 2) (.so (.bin .add (.loc 5) (.int 1))) .no)) .nil))) (.slc (.loc 1) (.so (.bin .add (.loc 4) (.int 1))) .no))) .nil)) .nil) (.cons 
    (.ife (.cmp .eq (.loc 3) (.int 4)) (.cons (.asg (.loc 6) (.call 20 (.cons (.loc 0) (.cons (.lst (.cons (.neg (.int 1)) (.cons (.int 1) (.cons (.bin .pow (.int 10) (.int 9)) .nil)))) .nil)))) (.cons (.asg (.loc 5) (.call 20 (.cons (.loc 0) (.cons (.lst (.cons (.int 1) (.cons (.bin .sub (.bi .len (.cons (.loc 2) .nil)) (.int 1)) .nil))) .nil)))) (.cons (.ret (.bin .add (.bin .add (.slc (.loc 1) .no (.so (.loc 4))) (.tup (.cons (.bin .add (.bin .add (.slc (.loc 2) .no (.so (.loc 5))) (.tup (.cons (.bin .add (.idx (.loc 2) (.loc 5)) (.loc 6)) .nil))) (.slc (.loc 2) (.so (.bin .add (.loc 5) (.int 1))) .no)) .nil))) (.slc (.loc 1) (.so (.bin .add (.loc 4) (.int 1))) .no))) .nil))) .nil) (.cons 
    (.ife (.cmp .eq (.loc 3) (.int 5)) (.cons (.ret (.bin .add (.slc (.loc 1) .no (.so (.loc 4))) (.slc (.loc 1) (.so (.bin .add (.loc 4) (.int 1))) .no))) .nil) .nil) (.cons 
    (.ife (.cmp .eq (.loc 3) (.int 6)) (.cons (.ret (.bin .add (.bin .add (.slc (.loc 1) .no (.so (.bin .add (.loc 4) (.int 1)))) (.tup (.cons (.loc 2) .nil))) (.slc (.loc 1) (.so (.bin .add (.loc 4) (.int 1))) .no))) .nil) .nil) (.cons 
    (.ife (.cmp .eq (.loc 3) (.int 7)) (.cons (.ret (.bin .add (.bin .add (.slc (.loc 1) .no (.so (.loc 4))) (.tup (.cons (.call 20 (.cons (.loc 0) (.cons (.lst (.cons (.slc (.loc 2) .no (.so (.neg (.int 1)))) (.cons (.bin .add (.loc 2) (.tup (.cons (.int 0) .nil))) (.cons (.bi .list (.cons (.loc 2) .nil)) (.cons .non (.cons (.call 19 (.cons (.loc 0) .nil)) .nil)))))) .nil))) .nil))) (.slc (.loc 1) (.so (.bin .add (.loc 4) (.int 1))) .no))) .nil) .nil) (.cons 
    (.ret (.call 20 (.cons (.loc 0) (.cons (.lst (.cons (.bi .list (.cons (.loc 1) .nil)) (.cons .non (.cons (.tup .nil) (.cons (.int 7) (.cons (.bin .add (.loc 1) (.tup (.cons (.tup .nil) .nil))) (.cons (.tup (.cons (.loc 1) .nil)) (.cons (.str "life") .nil)))))))) .nil)))) .nil))))))))⟩
def n6 : List Str := ["m", "rows", "row", "way", "spot", "place", "step"]
/-- _law_dial_right -/
def d7 : Df := ⟨["m"], 11, (.cons 
    (.asg (.loc 1) (.call 9 (.cons (.loc 0) .nil))) (.cons 
    (.asg (.loc 2) (.call 10 (.cons (.idx (.loc 1) (.int 0)) .nil))) (.cons 
    (.asg (.tup [9, 10]) (.tup (.cons (.call 3 (.cons (.loc 0) (.cons (.loc 2) .nil))) (.cons (.call 20 (.cons (.loc 0) (.cons (.lst (.cons (.int 0) (.cons (.int 1) (.cons (.int 7) (.cons (.bin .sub (.loc 2) (.int 1)) (.cons (.loc 2) (.cons (.call 3 (.cons (.loc 0) (.cons (.bin .pow (.int 10) (.int 12)) .nil))) (.cons (.bin .pow (.int 10) (.int 60)) .nil)))))))) .nil))) .nil)))) (.cons 
    (.asg (.loc 3) (.tup (.cons (.call 21 (.cons (.loc 1) (.cons (.loc 9) (.cons (.loc 10) .nil)))) (.cons (.calk 21 .nil ["use", "shown", "meter"] (.cons (.loc 10) (.cons (.loc 9) (.cons (.loc 1) .nil)))) .nil)))) (.cons 
    (.asg (.loc 4) (.bin .mod (.bi .int (.cons (.bin .add (.loc 9) (.loc 10)) .nil)) (.loc 2))) (.cons 
    (.ife (.or (.inv (.call 13 (.cons (.loc 3) (.cons (.tup (.cons (.loc 4) (.cons (.loc 4) .nil))) .nil)))) (.inv (.call 13 (.cons (.tup (.cons (.call 22 (.cons (.loc 1) .nil)) (.cons (.calk 22 .nil ["value"] (.cons (.loc 1) .nil)) .nil))) (.cons (.tup (.cons (.bl true) (.cons (.bl true) .nil))) .nil))))) (.cons (.ret (.bl false)) .nil) .nil) (.cons 
    (.asg (.loc 5) (.call 19 (.cons (.loc 0) .nil))) (.cons 
    (.ife (.inv (.call 13 (.cons (.call 22 (.cons (.loc 5) .nil)) (.cons (.call 23 (.cons (.loc 5) .nil)) .nil)))) (.cons (.ret (.bl false)) .nil) .nil) (.cons 
    (.asg (.loc 6) (.call 20 (.cons (.loc 0) (.cons (.lst (.cons (.tup (.cons (.int 0) (.cons (.int 5) .nil))) (.cons (.tup (.cons (.int 10) (.cons (.int 5) .nil))) (.cons (.tup (.cons (.int 3) (.cons (.neg (.int 1)) .nil))) (.cons (.tup (.cons (.int 3) (.cons (.bin .add (.bin .pow (.int 10) (.int 9)) (.int 1)) .nil))) (.cons (.tup (.cons (.int 3) .nil)) (.cons (.lst (.cons (.int 3) (.cons (.int 5) .nil))) (.cons (.tup (.cons (.bl true) (.cons (.int 5) .nil))) (.cons .non (.cons (.tup (.cons (.int 3) (.cons (.int 5) (.cons (.int 0) .nil)))) .nil)))))))))) .nil)))) (.cons 
    (.ife (.inv (.call 13 (.cons (.bin .add (.slc (.lam 0 (.call 21 (.cons (.loc 6) (.cons (.neg (.int 1)) (.cons (.neg (.int 1)) .nil))))) .no (.so (.int 1))) (.tup (.cons (.call 22 (.cons (.loc 6) .nil)) .nil))) (.cons (.tup (.cons (.str "meter") (.cons (.bl false) .nil))) .nil)))) (.cons (.ret (.bl false)) .nil) .nil) (.cons 
    (.asg (.loc 7) (.call 20 (.cons (.loc 0) (.cons (.lst (.cons (.neg (.int 1)) (.cons (.loc 2) (.cons .non (.cons (.bl true) (.cons (.bin .pow (.int 10) (.int 60)) .nil)))))) .nil)))) (.cons 
    (.ife (.inv (.call 13 (.cons (.lam 0 (.call 21 (.cons (.loc 1) (.cons (.loc 7) (.cons (.neg (.int 1)) .nil))))) (.cons (.tup (.cons (.str "shown") (.cons (.loc 7) (.cons (.bl true) (.cons (.bl false) .nil))))) .nil)))) (.cons (.ret (.bl false)) .nil) .nil) (.cons 
    (.asg (.loc 8) (.call 20 (.cons (.loc 0) (.cons (.lst (.cons (.neg (.int 1)) (.cons .non (.cons (.bl true) (.cons (.str "0") (.cons (.neg (.bin .pow (.int 10) (.int 60))) .nil)))))) .nil)))) (.cons 
    (.ret (.call 13 (.cons (.lam 0 (.call 21 (.cons (.loc 1) (.cons (.loc 9) (.cons (.loc 8) .nil))))) (.cons (.tup (.cons (.str "use") (.cons (.loc 8) (.cons (.bl true) (.cons (.bl false) .nil))))) .nil)))) .nil))))))))))))))⟩
def n7 : List Str := ["m", "device", "ring", "told", "due", "odd", "wrong", "far", "less", "shown", "units"]
/-- _law_folded -/
def d8 : Df := ⟨["script"], 4, (.cons 
    (.asg (.loc 1) (.comp [2] [2] (.bin .add (.int 17) (.loc 2)) (.rng1 (.int 64)) .no)) (.cons 
    (.for_ [2, 3] (.enm (.loc 0)) (.cons (.asg (.idx (.loc 1) (.bin .mod (.bi .int (.cons (.loc 2) .nil)) (.int 64))) (.bin .mod (.bi .int (.cons (.bin .add (.bin .mul (.idx (.loc 1) (.bin .mod (.bi .int (.cons (.loc 2) .nil)) (.int 64))) (.int 48271)) (.loc 3)) .nil)) (.int 2147483647))) .nil)) (.cons 
    (.for_ [2] (.rng2 (.int 1) (.int 64)) (.cons (.asg (.idx (.loc 1) (.loc 2)) (.bin .mod (.bi .int (.cons (.bin .add (.idx (.loc 1) (.loc 2)) (.bin .mul (.idx (.loc 1) (.bin .sub (.loc 2) (.int 1))) (.int 16807))) .nil)) (.int 2147483647))) .nil)) (.cons 
    (.ret (.loc 1)) .nil))))⟩
def n8 : List Str := ["script", "found", "n", "cell"]
/-- _law_device -/
def d9 : Df := ⟨["m"], 2, (.cons 
    (.asg (.loc 1) (.bin .add (.int 1) (.call 3 (.cons (.loc 0) (.cons (.int 9) .nil))))) (.cons 
    (.ret (.tup (.cons (.loc 1) (.cons (.call 20 (.cons (.loc 0) (.cons (.lst (.cons (.int 0) (.cons (.int 1) (.cons (.int 7) (.cons (.bin .pow (.int 10) (.int 3)) (.cons (.bin .pow (.int 10) (.int 9)) .nil)))))) .nil))) .nil)))) .nil))⟩
def n9 : List Str := ["m", "figures"]
/-- _law_power -/
def d10 : Df := ⟨["figures"], 3, (.cons 
    (.asg (.loc 1) (.int 1)) (.cons 
    (.for_ [2] (.rng1 (.loc 0)) (.cons (.asg (.loc 1) (.bin .mul (.loc 1) (.int 10))) .nil)) (.cons 
    (.ret (.loc 1)) .nil)))⟩
def n10 : List Str := ["figures", "found", "figure"]
/-- _law_mixed -/
def d11 : Df := ⟨["cell", "n"], 3, (.cons 
    (.asg (.loc 2) (.bin .add (.bin .add (.bin .mod (.bi .int (.cons (.bin .mul (.bin .mul (.loc 0) (.bin .add (.int 1) (.bin .mul (.int 2) (.loc 1)))) (.int 48271)) .nil)) (.int 2147483647)) (.bin .mul (.bin .mul (.int 7919) (.loc 1)) (.loc 1))) (.bin .mul (.int 104729) (.loc 1)))) (.cons 
    (.ret (.bin .fdv (.bin .mod (.bi .int (.cons (.bin .mul (.loc 2) (.int 69621)) .nil)) (.int 2147483629)) (.int 7))) .nil))⟩
def n11 : List Str := ["cell", "n", "blend"]
/-- _law_gaps -/
def d12 : Df := ⟨["rows"], 11, (.cons 
    (.par [1, 2] (.cons (.lst .nil) (.cons (.int 0) .nil))) (.cons 
    (.for_ [3, 4] (.enm (.loc 0)) (.cons (.ife (.cmp .eq (.idx (.loc 4) (.int 0)) (.str "put")) (.cons (.asg (.loc 2) (.loc 3)) .nil) (.cons (.par [9, 10] (.cons (.bin .pow (.int 10) (.int 0)) (.cons (.idx (.idx (.idx (.loc 0) (.loc 2)) (.int 2)) (.int 1)) .nil))) (.cons (.for_ [5] (.rng1 (.idx (.idx (.idx (.loc 0) (.loc 2)) (.int 2)) (.int 0))) (.cons (.asg (.loc 9) (.bin .mul (.loc 9) (.int 10))) .nil)) (.cons (.asg (.loc 6) (.idx (.loc 0) (.bin .sub (.loc 3) (.int 1)))) (.cons (.asg (.loc 7) (.bin .mod (.bi .int (.cons (.bin .sub (.idx (.loc 4) (.neg (.int 1))) (.idx (.loc 6) (.neg (.int 1)))) .nil)) (.loc 9))) (.cons (.asg (.loc 8) (.bin .fdv (.bin .sub (.bin .mul (.loc 10) (.bin .sub (.idx (.loc 4) (.int 1)) (.idx (.loc 6) (.int 1)))) (.loc 7)) (.loc 9))) (.cons (.exp (.meth .append (.loc 1) (.cons (.tup (.cons (.bin .sub (.loc 3) (.int 1)) (.cons (.loc 2) (.cons (.idx (.loc 6) (.int 1)) (.cons (.idx (.loc 4) (.int 1)) (.cons (.loc 9) (.cons (.loc 10) (.cons (.loc 7) (.cons (.loc 8) .nil))))))))) .nil))) .nil))))))) .nil)) (.cons 
    (.ret (.loc 1)) .nil)))⟩
def n12 : List Str := ["rows", "found", "first", "number", "row", "figure", "ahead", "least", "turns", "ring", "cap"]
/-- _law_same -/
def d13 : Df := ⟨["told", "due"], 4, (.cons 
    (.ife (.isi (.loc 1) .tuple) (.cons (.ife (.or (.inv (.isi (.loc 0) .tuple)) (.cmp .ne (.bi .len (.cons (.loc 0) .nil)) (.bi .len (.cons (.loc 1) .nil)))) (.cons (.ret (.bl false)) .nil) .nil) (.cons (.for_ [2, 3] (.zip (.loc 0) (.loc 1)) (.cons (.ife (.inv (.call 13 (.cons (.loc 2) (.cons (.loc 3) .nil)))) (.cons (.ret (.bl false)) .nil) .nil) .nil)) (.cons (.ret (.bl true)) .nil))) .nil) (.cons 
    (.ife (.cmp .is (.loc 1) .non) (.cons (.ret (.cmp .is (.loc 0) .non)) .nil) .nil) (.cons 
    (.ife (.isi (.loc 1) .bool) (.cons (.ret (.and (.isi (.loc 0) .bool) (.cmp .eq (.loc 0) (.loc 1)))) .nil) .nil) (.cons 
    (.ife (.isi (.loc 1) .str) (.cons (.ret (.and (.isi (.loc 0) .str) (.cmp .eq (.loc 0) (.loc 1)))) .nil) .nil) (.cons 
    (.ret (.and (.isi (.loc 0) .int) (.and (.inv (.isi (.loc 0) .bool)) (.cmp .eq (.loc 0) (.loc 1))))) .nil)))))⟩
def n13 : List Str := ["told", "due", "one", "far"]
/-- gaps -/
def d14 : Df := ⟨["life"], 2, (.cons 
    (.exp (.call 18 (.cons (.loc 0) .nil))) (.cons 
    (.ret (.bi .tuple (.cons (.comp [1] [1] (.tup (.cons (.fld (.loc 1) "number") (.cons (.fld (.loc 1) "low") (.cons (.fld (.loc 1) "high") (.cons (.fld (.loc 1) "least") (.cons (.fld (.loc 1) "turns") .nil)))))) (.seq (.call 24 (.cons (.loc 0) .nil))) .no) .nil))) .nil))⟩
def n14 : List Str := ["life", "gap"]
/-- idle_hours -/
def d15 : Df := ⟨["life"], 2, (.cons 
    (.exp (.call 18 (.cons (.loc 0) .nil))) (.cons 
    (.ret (.bin .sub (.bin .sub (.idx (.idx (.loc 0) (.neg (.int 1))) (.int 1)) (.idx (.idx (.loc 0) (.int 0)) (.int 1))) (.bi .sum (.cons (.comp [1] [1] (.mca "hours" (.loc 1) .nil) (.seq (.call 24 (.cons (.loc 0) .nil))) .no) .nil)))) .nil))⟩
def n15 : List Str := ["life", "gap"]
/-- _law_fault -/
def d16 : Df := ⟨["value"], 5, (.cons 
    (.ife (.or (.inv (.isi (.loc 0) .tuple)) (.or (.cmp .eq (.bi .len (.cons (.loc 0) .nil)) (.int 0)) (.cmp .gt (.bi .len (.cons (.loc 0) .nil)) (.int 40)))) (.cons (.ret (.tup (.cons .non .nil))) .nil) .nil) (.cons 
    (.asg (.tup [1, 2]) (.tup (.cons .non (.cons (.int 0) .nil)))) (.cons 
    (.for_ [3, 4] (.enm (.loc 0)) (.cons (.ife (.inv (.call 26 (.cons (.loc 4) (.cons (.loc 1) (.cons (.loc 2) .nil))))) (.cons (.ret (.tup (.cons (.loc 3) .nil))) .nil) .nil) (.cons (.asg (.loc 2) (.idx (.loc 4) (.int 1))) (.cons (.ife (.cmp .eq (.idx (.loc 4) (.int 0)) (.str "put")) (.cons (.asg (.loc 1) (.idx (.loc 4) (.int 2))) .nil) .nil) (.cons (.ife (.cmp .eq (.idx (.loc 4) (.int 0)) (.str "end")) (.cons (.asg (.loc 1) .non) .nil) .nil) .nil))))) (.cons 
    (.ret (.tup .nil)) .nil))))⟩
def n16 : List Str := ["value", "device", "moment", "number", "row"]
/-- is_life -/
def d17 : Df := ⟨["value"], 1, (.cons 
    (.tryR (.call 18 (.cons (.loc 0) .nil)) 6 (.bl false)) (.cons 
    (.ret (.bl true)) .nil))⟩
def n17 : List Str := ["value"]
/-- need_life -/
def d18 : Df := ⟨["life"], 5, (.cons 
    (.ife (.or (.inv (.isi (.loc 0) .tuple)) (.inv (.chn .le .le (.int 1) (.bi .len (.cons (.loc 0) .nil)) (.glo 3)))) (.cons (.rai 6 (.cons .non .nil)) .nil) .nil) (.cons 
    (.asg (.tup [1, 2]) (.tup (.cons .non (.cons (.int 0) .nil)))) (.cons 
    (.for_ [3, 4] (.enm (.loc 0)) (.cons (.ife (.inv (.call 27 (.cons (.loc 4) (.cons (.loc 1) (.cons (.loc 2) .nil))))) (.cons (.rai 6 (.cons (.loc 3) .nil)) .nil) .nil) (.cons (.asg (.loc 2) (.idx (.loc 4) (.int 1))) (.cons (.ife (.cmp .eq (.idx (.loc 4) (.int 0)) (.glo 5)) (.cons (.asg (.loc 1) (.idx (.loc 4) (.int 2))) .nil) (.cons (.ife (.cmp .eq (.idx (.loc 4) (.int 0)) (.glo 7)) (.cons (.asg (.loc 1) .non) .nil) .nil) .nil)) .nil)))) (.cons 
    (.ret (.loc 0)) .nil))))⟩
def n18 : List Str := ["life", "meter", "moment", "number", "row"]
/-- _law_odd -/
def d19 : Df := ⟨["m"], 2, (.cons 
    (.asg (.loc 1) (.lst (.cons .non (.cons (.bl true) (.cons (.bl false) (.cons (.str "read") (.cons (.str "put") (.cons (.str "end") (.cons (.str "ends") (.cons (.str "") (.cons (.neg (.int 1)) (.cons (.int 0) (.cons (.int 1) (.cons (.int 9) (.cons (.int 10) (.cons (.int 10000) (.cons (.int 10001) (.cons (.bin .pow (.int 10) (.int 9)) (.cons (.bin .add (.bin .pow (.int 10) (.int 9)) (.int 1)) .nil))))))))))))))))))) (.cons 
    (.exp (.meth .extend (.loc 1) (.cons (.lst (.cons (.bin .pow (.int 10) (.int 60)) (.cons (.tup .nil) (.cons (.tup (.cons (.int 0) (.cons (.int 0) .nil))) (.cons (.tup (.cons (.int 1) (.cons (.bin .pow (.int 10) (.int 9)) .nil))) (.cons (.tup (.cons (.int 10) (.cons (.int 5) .nil))) (.cons (.tup (.cons (.int 0) (.cons (.int 5) .nil))) (.cons (.tup (.cons (.int 3) (.cons (.neg (.int 1)) .nil))) (.cons (.tup (.cons (.int 3) (.cons (.bl true) .nil))) (.cons (.lst (.cons (.int 3) (.cons (.int 5) .nil))) (.cons (.lst .nil) (.cons (.tup (.cons (.str "read") (.cons (.int 5) (.cons (.int 0) .nil)))) .nil)))))))))))) .nil))) (.cons 
    (.ret (.call 20 (.cons (.loc 0) (.cons (.loc 1) .nil)))) .nil)))⟩
def n19 : List Str := ["m", "odd"]
/-- _law_of -/
def d20 : Df := ⟨["m", "some"], 2, (.cons 
    (.ret (.idx (.loc 1) (.call 3 (.cons (.loc 0) (.cons (.bi .len (.cons (.loc 1) .nil)) .nil))))) .nil)⟩
def n20 : List Str := ["m", "some"]
/-- shown_after -/
def d21 : Df := ⟨["meter", "shown", "use"], 3, (.cons 
    (.ife (.inv (.call 22 (.cons (.loc 0) .nil))) (.cons (.rai 3 (.cons (.loc 0) .nil)) .nil) .nil) (.cons 
    (.ife (.inv (.call 28 (.cons (.loc 0) (.cons (.loc 1) .nil)))) (.cons (.rai 4 (.cons (.loc 1) .nil)) .nil) .nil) (.cons 
    (.ife (.or (.inv (.call 29 (.cons (.loc 2) .nil))) (.cmp .lt (.loc 2) (.int 0))) (.cons (.rai 5 (.cons (.loc 2) .nil)) .nil) .nil) (.cons 
    (.ret (.bin .mod (.bin .add (.loc 1) (.loc 2)) (.idx (.glo 0) (.idx (.loc 0) (.int 0))))) .nil))))⟩
def n21 : List Str := ["meter", "shown", "use"]
/-- is_meter -/
def d22 : Df := ⟨["value"], 1, (.cons 
    (.ife (.or (.inv (.isi (.loc 0) .tuple)) (.cmp .ne (.bi .len (.cons (.loc 0) .nil)) (.int 2))) (.cons (.ret (.bl false)) .nil) .nil) (.cons 
    (.ret (.and (.call 30 (.cons (.idx (.loc 0) (.int 0)) (.cons (.int 1) (.cons (.glo 1) .nil)))) (.call 30 (.cons (.idx (.loc 0) (.int 1)) (.cons (.int 0) (.cons (.glo 2) .nil)))))) .nil))⟩
def n22 : List Str := ["value"]
/-- _law_meter_right -/
def d23 : Df := ⟨["value"], 1, (.cons 
    (.ife (.or (.inv (.isi (.loc 0) .tuple)) (.cmp .ne (.bi .len (.cons (.loc 0) .nil)) (.int 2))) (.cons (.ret (.bl false)) .nil) .nil) (.cons 
    (.ret (.and (.call 31 (.cons (.idx (.loc 0) (.int 0)) (.cons (.int 1) (.cons (.int 9) .nil)))) (.call 31 (.cons (.idx (.loc 0) (.int 1)) (.cons (.int 0) (.cons (.bin .pow (.int 10) (.int 9)) .nil)))))) .nil))⟩
def n23 : List Str := ["value"]
/-- gap_rows -/
def d24 : Df := ⟨["life"], 5, (.cons 
    (.par [1, 2] (.cons (.lst .nil) (.cons (.int 0) .nil))) (.cons 
    (.for_ [3, 4] (.enm (.loc 0)) (.cons (.ife (.cmp .eq (.idx (.loc 4) (.int 0)) (.glo 5)) (.cons (.asg (.loc 2) (.loc 3)) .nil) (.cons (.exp (.meth .append (.loc 1) (.cons (.new 0 (.cons (.bin .sub (.loc 3) (.int 1)) (.cons (.loc 2) (.cons (.idx (.idx (.loc 0) (.loc 2)) (.int 2)) (.cons (.idx (.loc 0) (.bin .sub (.loc 3) (.int 1))) (.cons (.loc 4) .nil)))))) .nil))) .nil)) .nil)) (.cons 
    (.ret (.loc 1)) .nil)))⟩
def n24 : List Str := ["life", "found", "start", "number", "row"]
/-- Gap.hours -/
def d25 : Df := ⟨["self"], 1, (.cons 
    (.ret (.bin .sub (.fld (.loc 0) "high") (.fld (.loc 0) "low"))) .nil)⟩
def n25 : List Str := ["self"]
/-- _law_row_right -/
def d26 : Df := ⟨["row", "device", "moment"], 3, (.cons 
    (.ife (.or (.inv (.isi (.loc 0) .tuple)) (.cmp .lt (.bi .len (.cons (.loc 0) .nil)) (.int 3))) (.cons (.ret (.bl false)) .nil) .nil) (.cons 
    (.ife (.inv (.isi (.idx (.loc 0) (.int 0)) .str)) (.cons (.ret (.bl false)) .nil) .nil) (.cons 
    (.ife (.cmp .is (.loc 1) .non) (.cons (.ife (.or (.cmp .ne (.idx (.loc 0) (.int 0)) (.str "put")) (.or (.cmp .ne (.bi .len (.cons (.loc 0) .nil)) (.int 4)) (.inv (.call 31 (.cons (.idx (.loc 0) (.int 1)) (.cons (.loc 2) (.cons (.int 10000) .nil))))))) (.cons (.ret (.bl false)) .nil) .nil) (.cons (.ret (.and (.call 23 (.cons (.idx (.loc 0) (.int 2)) .nil)) (.call 31 (.cons (.idx (.loc 0) (.int 3)) (.cons (.int 0) (.cons (.bin .sub (.call 10 (.cons (.idx (.idx (.loc 0) (.int 2)) (.int 0)) .nil)) (.int 1)) .nil)))))) .nil)) .nil) (.cons 
    (.ife (.or (.cmp .ne (.bi .len (.cons (.loc 0) .nil)) (.int 3)) (.and (.cmp .ne (.idx (.loc 0) (.int 0)) (.str "read")) (.cmp .ne (.idx (.loc 0) (.int 0)) (.str "end")))) (.cons (.ret (.bl false)) .nil) .nil) (.cons 
    (.ret (.and (.call 31 (.cons (.idx (.loc 0) (.int 1)) (.cons (.bin .add (.loc 2) (.int 1)) (.cons (.int 10000) .nil)))) (.call 31 (.cons (.idx (.loc 0) (.int 2)) (.cons (.int 0) (.cons (.bin .sub (.call 10 (.cons (.idx (.loc 1) (.int 0)) .nil)) (.int 1)) .nil)))))) .nil)))))⟩
def n26 : List Str := ["row", "device", "moment"]
/-- is_life_row -/
def d27 : Df := ⟨["value", "meter", "moment"], 3, (.cons 
    (.ife (.or (.inv (.isi (.loc 0) .tuple)) (.or (.cmp .lt (.bi .len (.cons (.loc 0) .nil)) (.int 3)) (.inv (.isi (.idx (.loc 0) (.int 0)) .str)))) (.cons (.ret (.bl false)) .nil) .nil) (.cons 
    (.ife (.cmp .is (.loc 1) .non) (.cons (.ife (.or (.cmp .ne (.idx (.loc 0) (.int 0)) (.glo 5)) (.or (.cmp .ne (.bi .len (.cons (.loc 0) .nil)) (.int 4)) (.inv (.call 30 (.cons (.idx (.loc 0) (.int 1)) (.cons (.loc 2) (.cons (.glo 4) .nil))))))) (.cons (.ret (.bl false)) .nil) .nil) (.cons (.ret (.and (.call 22 (.cons (.idx (.loc 0) (.int 2)) .nil)) (.call 28 (.cons (.idx (.loc 0) (.int 2)) (.cons (.idx (.loc 0) (.int 3)) .nil))))) .nil)) .nil) (.cons 
    (.ife (.or (.cmp .nin (.idx (.loc 0) (.int 0)) (.tup (.cons (.glo 6) (.cons (.glo 7) .nil)))) (.cmp .ne (.bi .len (.cons (.loc 0) .nil)) (.int 3))) (.cons (.ret (.bl false)) .nil) .nil) (.cons 
    (.ret (.and (.call 30 (.cons (.idx (.loc 0) (.int 1)) (.cons (.bin .add (.loc 2) (.int 1)) (.cons (.glo 4) .nil)))) (.call 28 (.cons (.loc 1) (.cons (.idx (.loc 0) (.int 2)) .nil))))) .nil))))⟩
def n27 : List Str := ["value", "meter", "moment"]
/-- is_shown -/
def d28 : Df := ⟨["meter", "value"], 2, (.cons 
    (.ret (.call 30 (.cons (.loc 1) (.cons (.int 0) (.cons (.bin .sub (.idx (.glo 0) (.idx (.loc 0) (.int 0))) (.int 1)) .nil))))) .nil)⟩
def n28 : List Str := ["meter", "value"]
/-- is_integer -/
def d29 : Df := ⟨["value"], 1, (.cons 
    (.ret (.and (.isi (.loc 0) .int) (.inv (.isi (.loc 0) .bool)))) .nil)⟩
def n29 : List Str := ["value"]
/-- is_from_to -/
def d30 : Df := ⟨["value", "low", "high"], 3, (.cons 
    (.ret (.and (.call 29 (.cons (.loc 0) .nil)) (.chn .le .le (.loc 1) (.loc 0) (.loc 2)))) .nil)⟩
def n30 : List Str := ["value", "low", "high"]
/-- _law_between -/
def d31 : Df := ⟨["value", "low", "high"], 3, (.cons 
    (.ret (.and (.call 33 (.cons (.loc 0) .nil)) (.chn .le .le (.loc 1) (.loc 0) (.loc 2)))) .nil)⟩
def n31 : List Str := ["value", "low", "high"]
/-- Gap.__init__ -/
def d32 : Df := ⟨["self", "number", "start", "meter", "ahead", "row"], 6, (.cons 
    (.asg (.fld (.loc 0) "number") (.loc 1)) (.cons 
    (.asg (.fld (.loc 0) "start") (.loc 2)) (.cons 
    (.asg (.fld (.loc 0) "low") (.idx (.loc 4) (.int 1))) (.cons 
    (.asg (.fld (.loc 0) "high") (.idx (.loc 5) (.int 1))) (.cons 
    (.asg (.fld (.loc 0) "ring") (.idx (.glo 0) (.idx (.loc 3) (.int 0)))) (.cons 
    (.asg (.fld (.loc 0) "cap") (.idx (.loc 3) (.int 1))) (.cons 
    (.asg (.fld (.loc 0) "least") (.bin .mod (.bin .sub (.idx (.loc 5) (.neg (.int 1))) (.idx (.loc 4) (.neg (.int 1)))) (.fld (.loc 0) "ring"))) (.cons 
    (.asg (.fld (.loc 0) "turns") (.bin .fdv (.bin .sub (.bin .mul (.fld (.loc 0) "cap") (.bin .sub (.fld (.loc 0) "high") (.fld (.loc 0) "low"))) (.fld (.loc 0) "least")) (.fld (.loc 0) "ring"))) .nil))))))))⟩
def n32 : List Str := ["self", "number", "start", "meter", "ahead", "row"]
/-- _law_number -/
def d33 : Df := ⟨["value"], 1, (.cons 
    (.ret (.and (.isi (.loc 0) .int) (.inv (.isi (.loc 0) .bool)))) .nil)⟩
def n33 : List Str := ["value"]
def dfs : List Df := [d0, d1, d2, d3, d4, d5, d6, d7, d8, d9, d10, d11, d12, d13, d14, d15, d16, d17, d18, d19, d20, d21, d22, d23, d24, d25, d26, d27, d28, d29, d30, d31, d32, d33]
def c0 : Ct := ⟨.tup [.str "told"], [(6, true, .tup [.str "life", .fld "number", .isi 1, .isi 3, .isi 2]), (3, true, .tup [.str "meter", .fld "meter", .isv, .isi 4]), (4, true, .tup [.str "shown", .fld "shown", .isi 1, .isi 5]), (5, true, .tup [.str "use", .fld "use", .isi 1, .isi 6]), (1, false, .tup [.str "other"])]⟩
def m0 : List Str := ["call", "found", "error"]
def cts : List Ct := [c0]
abbrev gp (x : Str) (g : Gk) : Str × Gk := (x, g)
def gl : List (Str × Gk) := gp "law" (.fn 0) :: gp "_law_begun" (.fn 1) :: gp "_law_life" (.fn 2) :: gp "_law_draw" (.fn 3) :: gp "_law_sums_right" (.fn 4) :: gp "_law_life_right" (.fn 5) :: gp "_law_bent" (.fn 6) :: gp "_law_dial_right" (.fn 7) :: gp "_law_folded" (.fn 8) :: gp "_law_device" (.fn 9) :: gp "_law_power" (.fn 10) :: gp "_law_mixed" (.fn 11) :: gp "_law_gaps" (.fn 12) :: gp "_law_same" (.fn 13) :: gp "gaps" (.fn 14) :: gp "idle_hours" (.fn 15) :: gp "_law_fault" (.fn 16) :: gp "is_life" (.fn 17) :: gp "need_life" (.fn 18) :: gp "_law_odd" (.fn 19) :: gp "_law_of" (.fn 20) :: gp "shown_after" (.fn 21) :: gp "is_meter" (.fn 22) :: gp "_law_meter_right" (.fn 23) :: gp "gap_rows" (.fn 24) :: gp "_law_row_right" (.fn 26) :: gp "is_life_row" (.fn 27) :: gp "is_shown" (.fn 28) :: gp "is_integer" (.fn 29) :: gp "is_from_to" (.fn 30) :: gp "_law_between" (.fn 31) :: gp "_law_number" (.fn 33) :: gp "Gap" (.cls 0) :: gp "BillError" (.exc 1) :: gp "BadPaper" (.exc 2) :: gp "BadMeter" (.exc 3) :: gp "BadShown" (.exc 4) :: gp "BadUse" (.exc 5) :: gp "BadLife" (.exc 6) :: gp "RINGS" (.val 0) :: gp "MOST_FIGURES" (.val 1) :: gp "MOST_CAP" (.val 2) :: gp "MOST_LIFE" (.val 3) :: gp "LAST_MOMENT" (.val 4) :: gp "PUT_WORD" (.val 5) :: gp "READ_WORD" (.val 6) :: gp "END_WORD" (.val 7) :: gp "len" (.blt) :: gp "abs" (.blt) :: gp "min" (.blt) :: gp "max" (.blt) :: gp "sum" (.blt) :: gp "all" (.blt) :: gp "any" (.blt) :: gp "int" (.blt) :: gp "tuple" (.blt) :: gp "list" (.blt) :: gp "gcd" (.blt) :: gp "isinstance" (.blt) :: gp "bool" (.blt) :: gp "str" (.blt) :: gp "range" (.blt) :: gp "enumerate" (.blt) :: gp "zip" (.blt) :: gp "ValueError" (.blt) :: gp "super" (.blt) :: gp "_law_refused" (.cat 0) :: []
def kw : List (Nat × Nat × List Str) := [(14, 0, ["life"]), (17, 0, ["value"]), (18, 0, ["life"]), (15, 0, ["life"]), (21, 0, ["use", "shown", "meter"]), (22, 0, ["value"])]
def xr : List Nat := [6, 3, 4, 5]

abbrev s0 : Stmt := top 53
theorem k0 : ckSs ⟨n0, defScope s0, gl, kw, xr, true, false⟩ d0.body (defBody s0) = true := by decide +kernel
theorem f0 : FnScope n0 d0.ps (defScope s0) := ⟨by kernel_rfl, by kernel_rfl, by kernel_rfl, by decide +kernel, by kernel_rfl, by decide +kernel, by decide +kernel⟩
abbrev s1 : Stmt := top 35
theorem k1 : ckSs ⟨n1, defScope s1, gl, kw, xr, true, false⟩ d1.body (defBody s1) = true := by decide +kernel
theorem f1 : FnScope n1 d1.ps (defScope s1) := ⟨by kernel_rfl, by kernel_rfl, by kernel_rfl, by decide +kernel, by kernel_rfl, by decide +kernel, by decide +kernel⟩
abbrev s2 : Stmt := top 46
theorem k2 : ckSs ⟨n2, defScope s2, gl, kw, xr, true, false⟩ d2.body (defBody s2) = true := by decide +kernel
theorem f2 : FnScope n2 d2.ps (defScope s2) := ⟨by kernel_rfl, by kernel_rfl, by kernel_rfl, by decide +kernel, by kernel_rfl, by decide +kernel, by decide +kernel⟩
abbrev s3 : Stmt := top 34
theorem k3 : ckSs ⟨n3, defScope s3, gl, kw, xr, true, false⟩ d3.body (defBody s3) = true := by decide +kernel
theorem f3 : FnScope n3 d3.ps (defScope s3) := ⟨by kernel_rfl, by kernel_rfl, by kernel_rfl, by decide +kernel, by kernel_rfl, by decide +kernel, by decide +kernel⟩
abbrev s4 : Stmt := top 51
theorem k4 : ckSs ⟨n4, defScope s4, gl, kw, xr, true, false⟩ d4.body (defBody s4) = true := by decide +kernel
theorem f4 : FnScope n4 d4.ps (defScope s4) := ⟨by kernel_rfl, by kernel_rfl, by kernel_rfl, by decide +kernel, by kernel_rfl, by decide +kernel, by decide +kernel⟩
abbrev s5 : Stmt := top 50
theorem k5 : ckSs ⟨n5, defScope s5, gl, kw, xr, true, true⟩ d5.body (defBody s5) = true := by decide +kernel
theorem f5 : FnScope n5 d5.ps (defScope s5) := ⟨by kernel_rfl, by kernel_rfl, by kernel_rfl, by decide +kernel, by kernel_rfl, by decide +kernel, by decide +kernel⟩
abbrev s6 : Stmt := top 48
theorem k6 : ckSs ⟨n6, defScope s6, gl, kw, xr, true, false⟩ d6.body (defBody s6) = true := by decide +kernel
theorem f6 : FnScope n6 d6.ps (defScope s6) := ⟨by kernel_rfl, by kernel_rfl, by kernel_rfl, by decide +kernel, by kernel_rfl, by decide +kernel, by decide +kernel⟩
abbrev s7 : Stmt := top 52
theorem k7 : ckSs ⟨n7, defScope s7, gl, kw, xr, true, true⟩ d7.body (defBody s7) = true := by decide +kernel
theorem f7 : FnScope n7 d7.ps (defScope s7) := ⟨by kernel_rfl, by kernel_rfl, by kernel_rfl, by decide +kernel, by kernel_rfl, by decide +kernel, by decide +kernel⟩
abbrev s8 : Stmt := top 33
theorem k8 : ckSs ⟨n8, defScope s8, gl, kw, xr, true, false⟩ d8.body (defBody s8) = true := by decide +kernel
theorem f8 : FnScope n8 d8.ps (defScope s8) := ⟨by kernel_rfl, by kernel_rfl, by kernel_rfl, by decide +kernel, by kernel_rfl, by decide +kernel, by decide +kernel⟩
abbrev s9 : Stmt := top 45
theorem k9 : ckSs ⟨n9, defScope s9, gl, kw, xr, true, false⟩ d9.body (defBody s9) = true := by decide +kernel
theorem f9 : FnScope n9 d9.ps (defScope s9) := ⟨by kernel_rfl, by kernel_rfl, by kernel_rfl, by decide +kernel, by kernel_rfl, by decide +kernel, by decide +kernel⟩
abbrev s10 : Stmt := top 41
theorem k10 : ckSs ⟨n10, defScope s10, gl, kw, xr, true, false⟩ d10.body (defBody s10) = true := by decide +kernel
theorem f10 : FnScope n10 d10.ps (defScope s10) := ⟨by kernel_rfl, by kernel_rfl, by kernel_rfl, by decide +kernel, by kernel_rfl, by decide +kernel, by decide +kernel⟩
abbrev s11 : Stmt := top 32
theorem k11 : ckSs ⟨n11, defScope s11, gl, kw, xr, true, false⟩ d11.body (defBody s11) = true := by decide +kernel
theorem f11 : FnScope n11 d11.ps (defScope s11) := ⟨by kernel_rfl, by kernel_rfl, by kernel_rfl, by decide +kernel, by kernel_rfl, by decide +kernel, by decide +kernel⟩
abbrev s12 : Stmt := top 38
theorem k12 : ckSs ⟨n12, defScope s12, gl, kw, xr, true, false⟩ d12.body (defBody s12) = true := by decide +kernel
theorem f12 : FnScope n12 d12.ps (defScope s12) := ⟨by kernel_rfl, by kernel_rfl, by kernel_rfl, by decide +kernel, by kernel_rfl, by decide +kernel, by decide +kernel⟩
abbrev s13 : Stmt := top 37
theorem k13 : ckSs ⟨n13, defScope s13, gl, kw, xr, true, false⟩ d13.body (defBody s13) = true := by decide +kernel
theorem f13 : FnScope n13 d13.ps (defScope s13) := ⟨by kernel_rfl, by kernel_rfl, by kernel_rfl, by decide +kernel, by kernel_rfl, by decide +kernel, by decide +kernel⟩
abbrev s14 : Stmt := top 29
theorem k14 : ckSs ⟨n14, defScope s14, gl, kw, xr, true, false⟩ d14.body (defBody s14) = true := by decide +kernel
theorem f14 : FnScope n14 d14.ps (defScope s14) := ⟨by kernel_rfl, by kernel_rfl, by kernel_rfl, by decide +kernel, by kernel_rfl, by decide +kernel, by decide +kernel⟩
abbrev s15 : Stmt := top 30
theorem k15 : ckSs ⟨n15, defScope s15, gl, kw, xr, true, false⟩ d15.body (defBody s15) = true := by decide +kernel
theorem f15 : FnScope n15 d15.ps (defScope s15) := ⟨by kernel_rfl, by kernel_rfl, by kernel_rfl, by decide +kernel, by kernel_rfl, by decide +kernel, by decide +kernel⟩
abbrev s16 : Stmt := top 44
theorem k16 : ckSs ⟨n16, defScope s16, gl, kw, xr, true, false⟩ d16.body (defBody s16) = true := by decide +kernel
theorem f16 : FnScope n16 d16.ps (defScope s16) := ⟨by kernel_rfl, by kernel_rfl, by kernel_rfl, by decide +kernel, by kernel_rfl, by decide +kernel, by decide +kernel⟩
abbrev s17 : Stmt := top 26
theorem k17 : ckSs ⟨n17, defScope s17, gl, kw, xr, true, false⟩ d17.body (defBody s17) = true := by decide +kernel
theorem f17 : FnScope n17 d17.ps (defScope s17) := ⟨by kernel_rfl, by kernel_rfl, by kernel_rfl, by decide +kernel, by kernel_rfl, by decide +kernel, by decide +kernel⟩
abbrev s18 : Stmt := top 25
theorem k18 : ckSs ⟨n18, defScope s18, gl, kw, xr, true, false⟩ d18.body (defBody s18) = true := by decide +kernel
theorem f18 : FnScope n18 d18.ps (defScope s18) := ⟨by kernel_rfl, by kernel_rfl, by kernel_rfl, by decide +kernel, by kernel_rfl, by decide +kernel, by decide +kernel⟩
abbrev s19 : Stmt := top 47
theorem k19 : ckSs ⟨n19, defScope s19, gl, kw, xr, true, false⟩ d19.body (defBody s19) = true := by decide +kernel
theorem f19 : FnScope n19 d19.ps (defScope s19) := ⟨by kernel_rfl, by kernel_rfl, by kernel_rfl, by decide +kernel, by kernel_rfl, by decide +kernel, by decide +kernel⟩
abbrev s20 : Stmt := top 36
theorem k20 : ckSs ⟨n20, defScope s20, gl, kw, xr, true, false⟩ d20.body (defBody s20) = true := by decide +kernel
theorem f20 : FnScope n20 d20.ps (defScope s20) := ⟨by kernel_rfl, by kernel_rfl, by kernel_rfl, by decide +kernel, by kernel_rfl, by decide +kernel, by decide +kernel⟩
abbrev s21 : Stmt := top 27
theorem k21 : ckSs ⟨n21, defScope s21, gl, kw, xr, true, false⟩ d21.body (defBody s21) = true := by decide +kernel
theorem f21 : FnScope n21 d21.ps (defScope s21) := ⟨by kernel_rfl, by kernel_rfl, by kernel_rfl, by decide +kernel, by kernel_rfl, by decide +kernel, by decide +kernel⟩
abbrev s22 : Stmt := top 22
theorem k22 : ckSs ⟨n22, defScope s22, gl, kw, xr, true, false⟩ d22.body (defBody s22) = true := by decide +kernel
theorem f22 : FnScope n22 d22.ps (defScope s22) := ⟨by kernel_rfl, by kernel_rfl, by kernel_rfl, by decide +kernel, by kernel_rfl, by decide +kernel, by decide +kernel⟩
abbrev s23 : Stmt := top 42
theorem k23 : ckSs ⟨n23, defScope s23, gl, kw, xr, true, false⟩ d23.body (defBody s23) = true := by decide +kernel
theorem f23 : FnScope n23 d23.ps (defScope s23) := ⟨by kernel_rfl, by kernel_rfl, by kernel_rfl, by decide +kernel, by kernel_rfl, by decide +kernel, by decide +kernel⟩
abbrev s24 : Stmt := top 28
theorem k24 : ckSs ⟨n24, defScope s24, gl, kw, xr, true, false⟩ d24.body (defBody s24) = true := by decide +kernel
theorem f24 : FnScope n24 d24.ps (defScope s24) := ⟨by kernel_rfl, by kernel_rfl, by kernel_rfl, by decide +kernel, by kernel_rfl, by decide +kernel, by decide +kernel⟩
abbrev s25 : Stmt := inC (top 20) "hours"
theorem k25 : ckSs ⟨n25, defScope s25, gl, kw, xr, true, false⟩ d25.body (defBody s25) = true := by decide +kernel
theorem f25 : FnScope n25 d25.ps (defScope s25) := ⟨by kernel_rfl, by kernel_rfl, by kernel_rfl, by decide +kernel, by kernel_rfl, by decide +kernel, by decide +kernel⟩
abbrev s26 : Stmt := top 43
theorem k26 : ckSs ⟨n26, defScope s26, gl, kw, xr, true, false⟩ d26.body (defBody s26) = true := by decide +kernel
theorem f26 : FnScope n26 d26.ps (defScope s26) := ⟨by kernel_rfl, by kernel_rfl, by kernel_rfl, by decide +kernel, by kernel_rfl, by decide +kernel, by decide +kernel⟩
abbrev s27 : Stmt := top 24
theorem k27 : ckSs ⟨n27, defScope s27, gl, kw, xr, true, false⟩ d27.body (defBody s27) = true := by decide +kernel
theorem f27 : FnScope n27 d27.ps (defScope s27) := ⟨by kernel_rfl, by kernel_rfl, by kernel_rfl, by decide +kernel, by kernel_rfl, by decide +kernel, by decide +kernel⟩
abbrev s28 : Stmt := top 23
theorem k28 : ckSs ⟨n28, defScope s28, gl, kw, xr, true, false⟩ d28.body (defBody s28) = true := by decide +kernel
theorem f28 : FnScope n28 d28.ps (defScope s28) := ⟨by kernel_rfl, by kernel_rfl, by kernel_rfl, by decide +kernel, by kernel_rfl, by decide +kernel, by decide +kernel⟩
abbrev s29 : Stmt := top 10
theorem k29 : ckSs ⟨n29, defScope s29, gl, kw, xr, true, false⟩ d29.body (defBody s29) = true := by decide +kernel
theorem f29 : FnScope n29 d29.ps (defScope s29) := ⟨by kernel_rfl, by kernel_rfl, by kernel_rfl, by decide +kernel, by kernel_rfl, by decide +kernel, by decide +kernel⟩
abbrev s30 : Stmt := top 21
theorem k30 : ckSs ⟨n30, defScope s30, gl, kw, xr, true, false⟩ d30.body (defBody s30) = true := by decide +kernel
theorem f30 : FnScope n30 d30.ps (defScope s30) := ⟨by kernel_rfl, by kernel_rfl, by kernel_rfl, by decide +kernel, by kernel_rfl, by decide +kernel, by decide +kernel⟩
abbrev s31 : Stmt := top 40
theorem k31 : ckSs ⟨n31, defScope s31, gl, kw, xr, true, false⟩ d31.body (defBody s31) = true := by decide +kernel
theorem f31 : FnScope n31 d31.ps (defScope s31) := ⟨by kernel_rfl, by kernel_rfl, by kernel_rfl, by decide +kernel, by kernel_rfl, by decide +kernel, by decide +kernel⟩
abbrev s32 : Stmt := inC (top 20) "__init__"
theorem k32 : ckSs ⟨n32, defScope s32, gl, kw, xr, true, false⟩ d32.body (defBody s32) = true := by decide +kernel
theorem f32 : FnScope n32 d32.ps (defScope s32) := ⟨by kernel_rfl, by kernel_rfl, by kernel_rfl, by decide +kernel, by kernel_rfl, by decide +kernel, by decide +kernel⟩
abbrev s33 : Stmt := top 39
theorem k33 : ckSs ⟨n33, defScope s33, gl, kw, xr, true, false⟩ d33.body (defBody s33) = true := by decide +kernel
theorem f33 : FnScope n33 d33.ps (defScope s33) := ⟨by kernel_rfl, by kernel_rfl, by kernel_rfl, by decide +kernel, by kernel_rfl, by decide +kernel, by decide +kernel⟩
abbrev t0 : Stmt := top 49
def g0 : Sh := ⟨m0, defScope t0, gl, [], [], true, false⟩
theorem kc0 : ckCat g0 c0 (defBody t0) = true := by decide +kernel
theorem fc0 : FnScope m0 (m0.take 1) (defScope t0) := ⟨by kernel_rfl, by kernel_rfl, by kernel_rfl, by decide +kernel, by kernel_rfl, by decide +kernel, by decide +kernel⟩
end Mi.K11
end

section
open PySem PySem.W PyProof.Rows
set_option Elab.async false
set_option maxRecDepth 100000
set_option maxHeartbeats 0
open_top K11top for PySem.Challenge.rw_onebill_k11_lives_and_dials_refused
end

section
set_option Elab.async false
set_option linter.all false
set_option maxRecDepth 100000
set_option maxHeartbeats 8000000
/-! K11: the program's facts. -/
namespace Mi.K11
open PySem PySem.Spec L2 Mi
abbrev prog0 : Program := PySem.Challenge.pw_onebill_k11_lives_and_dials_refused
def gvs : List PV := [.tup (([1, 10, 100, 1000, 10000, 100000, 1000000, 10000000, 100000000, 1000000000] : List Int).map .int), .int 9, .int 1000000000, .int 40, .int 10000, .str "put", .str "read", .str "end"]
def sbs : List (Nat × Nat × Bool) := [(3, 1, true), (3, 2, false), (3, 3, true), (3, 4, false), (3, 5, false), (3, 6, false), (4, 1, true), (4, 2, false), (4, 3, false), (4, 4, true), (4, 5, false), (4, 6, false), (5, 1, true), (5, 2, false), (5, 3, false), (5, 4, false), (5, 5, true), (5, 6, false), (6, 1, true), (6, 2, false), (6, 3, false), (6, 4, false), (6, 5, false), (6, 6, true)]
def xfs : List (Nat × Str) := [(3, "meter"), (4, "shown"), (5, "use"), (6, "number")]
def cas : List Nat := [185, 31, 53, 74, 95, 116, 137]
def fas : List Nat := [401, 279, 356, 274, 389, 384, 370, 396, 267, 349, 321, 262, 300, 293, 250, 255, 342, 231, 224, 363, 286, 238, 203, 328, 245, 168, 335, 217, 210, 146, 196, 314, 161, 307]
def mks : List (Nat × Nat) := [(0, 32)]
def mts : List (Nat × Str × Nat) := [(0, "hours", 25)]
def fls : List (Nat × Str) := [(0, "number"), (0, "start"), (0, "low"), (0, "high"), (0, "ring"), (0, "cap"), (0, "least"), (0, "turns")]
def prg : Pr where
  df f := dfs[f]?
  gv g := gvs[g]?
  mkr c := mks.lookup c
  mt c m := (mts.find? fun q => q.1 == c && q.2.1 == m).map (·.2.2)
  fl c x := fls.any fun q => q.1 == c && q.2 == x
  sub := subL sbs
  xf c := xfs.lookup c
  vs c := xfs.any fun q => q.1 == c
  ct g := cts[g]?
  fu := 0
def tbs : List (Addr × Str) := [(379, ("_law_life_right" : Str) ++ ".<locals>." ++ "<lambda>"), (391, ("_law_dial_right" : Str) ++ ".<locals>." ++ "<lambda>")]
def cs : List (Addr × Addr) := [(383, 379), (395, 391)]
abbrev cn (K : PySem.W.Frag) : Cn := ⟨K, tbs, fun c => cas.getD c 0, fun f => fas.getD f 0, fun c => xfs.lookup c⟩
/-- what the written part says -/
structure Fx (K : PySem.W.Frag) : Prop where
  g0 : PySem.W.nsIn K PySem.mainGlobals "law" = some (some (.ref 401))
  l0 : FnIs K 401 "law" "law" s0 none
  g1 : PySem.W.nsIn K PySem.mainGlobals "_law_begun" = some (some (.ref 279))
  l1 : FnIs K 279 "_law_begun" "_law_begun" s1 none
  g2 : PySem.W.nsIn K PySem.mainGlobals "_law_life" = some (some (.ref 356))
  l2 : FnIs K 356 "_law_life" "_law_life" s2 none
  g3 : PySem.W.nsIn K PySem.mainGlobals "_law_draw" = some (some (.ref 274))
  l3 : FnIs K 274 "_law_draw" "_law_draw" s3 none
  g4 : PySem.W.nsIn K PySem.mainGlobals "_law_sums_right" = some (some (.ref 389))
  l4 : FnIs K 389 "_law_sums_right" "_law_sums_right" s4 none
  g5 : PySem.W.nsIn K PySem.mainGlobals "_law_life_right" = some (some (.ref 384))
  l5 : FnIs K 384 "_law_life_right" "_law_life_right" s5 (some 383)
  g6 : PySem.W.nsIn K PySem.mainGlobals "_law_bent" = some (some (.ref 370))
  l6 : FnIs K 370 "_law_bent" "_law_bent" s6 none
  g7 : PySem.W.nsIn K PySem.mainGlobals "_law_dial_right" = some (some (.ref 396))
  l7 : FnIs K 396 "_law_dial_right" "_law_dial_right" s7 (some 395)
  g8 : PySem.W.nsIn K PySem.mainGlobals "_law_folded" = some (some (.ref 267))
  l8 : FnIs K 267 "_law_folded" "_law_folded" s8 none
  g9 : PySem.W.nsIn K PySem.mainGlobals "_law_device" = some (some (.ref 349))
  l9 : FnIs K 349 "_law_device" "_law_device" s9 none
  g10 : PySem.W.nsIn K PySem.mainGlobals "_law_power" = some (some (.ref 321))
  l10 : FnIs K 321 "_law_power" "_law_power" s10 none
  g11 : PySem.W.nsIn K PySem.mainGlobals "_law_mixed" = some (some (.ref 262))
  l11 : FnIs K 262 "_law_mixed" "_law_mixed" s11 none
  g12 : PySem.W.nsIn K PySem.mainGlobals "_law_gaps" = some (some (.ref 300))
  l12 : FnIs K 300 "_law_gaps" "_law_gaps" s12 none
  g13 : PySem.W.nsIn K PySem.mainGlobals "_law_same" = some (some (.ref 293))
  l13 : FnIs K 293 "_law_same" "_law_same" s13 none
  g14 : PySem.W.nsIn K PySem.mainGlobals "gaps" = some (some (.ref 250))
  l14 : FnIs K 250 "gaps" "gaps" s14 none
  g15 : PySem.W.nsIn K PySem.mainGlobals "idle_hours" = some (some (.ref 255))
  l15 : FnIs K 255 "idle_hours" "idle_hours" s15 none
  g16 : PySem.W.nsIn K PySem.mainGlobals "_law_fault" = some (some (.ref 342))
  l16 : FnIs K 342 "_law_fault" "_law_fault" s16 none
  g17 : PySem.W.nsIn K PySem.mainGlobals "is_life" = some (some (.ref 231))
  l17 : FnIs K 231 "is_life" "is_life" s17 none
  g18 : PySem.W.nsIn K PySem.mainGlobals "need_life" = some (some (.ref 224))
  l18 : FnIs K 224 "need_life" "need_life" s18 none
  g19 : PySem.W.nsIn K PySem.mainGlobals "_law_odd" = some (some (.ref 363))
  l19 : FnIs K 363 "_law_odd" "_law_odd" s19 none
  g20 : PySem.W.nsIn K PySem.mainGlobals "_law_of" = some (some (.ref 286))
  l20 : FnIs K 286 "_law_of" "_law_of" s20 none
  g21 : PySem.W.nsIn K PySem.mainGlobals "shown_after" = some (some (.ref 238))
  l21 : FnIs K 238 "shown_after" "shown_after" s21 none
  g22 : PySem.W.nsIn K PySem.mainGlobals "is_meter" = some (some (.ref 203))
  l22 : FnIs K 203 "is_meter" "is_meter" s22 none
  g23 : PySem.W.nsIn K PySem.mainGlobals "_law_meter_right" = some (some (.ref 328))
  l23 : FnIs K 328 "_law_meter_right" "_law_meter_right" s23 none
  g24 : PySem.W.nsIn K PySem.mainGlobals "gap_rows" = some (some (.ref 245))
  l24 : FnIs K 245 "gap_rows" "gap_rows" s24 none
  l25 : FnIs K 168 "hours" "Gap.hours" s25 none
  g26 : PySem.W.nsIn K PySem.mainGlobals "_law_row_right" = some (some (.ref 335))
  l26 : FnIs K 335 "_law_row_right" "_law_row_right" s26 none
  g27 : PySem.W.nsIn K PySem.mainGlobals "is_life_row" = some (some (.ref 217))
  l27 : FnIs K 217 "is_life_row" "is_life_row" s27 none
  g28 : PySem.W.nsIn K PySem.mainGlobals "is_shown" = some (some (.ref 210))
  l28 : FnIs K 210 "is_shown" "is_shown" s28 none
  g29 : PySem.W.nsIn K PySem.mainGlobals "is_integer" = some (some (.ref 146))
  l29 : FnIs K 146 "is_integer" "is_integer" s29 none
  g30 : PySem.W.nsIn K PySem.mainGlobals "is_from_to" = some (some (.ref 196))
  l30 : FnIs K 196 "is_from_to" "is_from_to" s30 none
  g31 : PySem.W.nsIn K PySem.mainGlobals "_law_between" = some (some (.ref 314))
  l31 : FnIs K 314 "_law_between" "_law_between" s31 none
  l32 : FnIs K 161 "__init__" "Gap.__init__" s32 none
  g33 : PySem.W.nsIn K PySem.mainGlobals "_law_number" = some (some (.ref 307))
  l33 : FnIs K 307 "_law_number" "_law_number" s33 none
  cg0 : PySem.W.nsIn K PySem.mainGlobals "_law_refused" = some (some (.ref 377))
  cl0 : FnIs K 377 "_law_refused" "_law_refused" t0 none
  z_len : PySem.W.nsIn K PySem.mainGlobals "len" = some none
  z_abs : PySem.W.nsIn K PySem.mainGlobals "abs" = some none
  z_min : PySem.W.nsIn K PySem.mainGlobals "min" = some none
  z_max : PySem.W.nsIn K PySem.mainGlobals "max" = some none
  z_sum : PySem.W.nsIn K PySem.mainGlobals "sum" = some none
  z_all : PySem.W.nsIn K PySem.mainGlobals "all" = some none
  z_any : PySem.W.nsIn K PySem.mainGlobals "any" = some none
  z_int : PySem.W.nsIn K PySem.mainGlobals "int" = some none
  z_tuple : PySem.W.nsIn K PySem.mainGlobals "tuple" = some none
  z_list : PySem.W.nsIn K PySem.mainGlobals "list" = some none
  z_gcd : PySem.W.nsIn K PySem.mainGlobals "gcd" = some none
  z_isinstance : PySem.W.nsIn K PySem.mainGlobals "isinstance" = some none
  z_bool : PySem.W.nsIn K PySem.mainGlobals "bool" = some none
  z_str : PySem.W.nsIn K PySem.mainGlobals "str" = some none
  z_range : PySem.W.nsIn K PySem.mainGlobals "range" = some none
  z_enumerate : PySem.W.nsIn K PySem.mainGlobals "enumerate" = some none
  z_zip : PySem.W.nsIn K PySem.mainGlobals "zip" = some none
  z_ValueError : PySem.W.nsIn K PySem.mainGlobals "ValueError" = some none
  z_super : PySem.W.nsIn K PySem.mainGlobals "super" = some none
  v_RINGS : ∃ (a : Addr) (od : Option Addr) (its : Array Value) (n : Nat) (sl : Array (Option Value)), PySem.W.nsIn K PySem.mainGlobals "RINGS" = some (some (.ref a)) ∧ K.lookup a = some ⟨.type "tuple", od, .seq its n, sl⟩ ∧ its.size ≤ 1000 ∧ Vals (([1, 10, 100, 1000, 10000, 100000, 1000000, 10000000, 100000000, 1000000000] : List Int).map V.int) its.toList
  v_MOST_FIGURES : ∃ t : Tok, PySem.W.nsIn K PySem.mainGlobals "MOST_FIGURES" = some (some (.int 9 t))
  v_MOST_LIFE : ∃ t : Tok, PySem.W.nsIn K PySem.mainGlobals "MOST_LIFE" = some (some (.int 40 t))
  v_LAST_MOMENT : ∃ t : Tok, PySem.W.nsIn K PySem.mainGlobals "LAST_MOMENT" = some (some (.int 10000 t))
  v_PUT_WORD : ∃ t : Tok, PySem.W.nsIn K PySem.mainGlobals "PUT_WORD" = some (some (.str "put" t))
  v_READ_WORD : ∃ t : Tok, PySem.W.nsIn K PySem.mainGlobals "READ_WORD" = some (some (.str "read" t))
  v_END_WORD : ∃ t : Tok, PySem.W.nsIn K PySem.mainGlobals "END_WORD" = some (some (.str "end" t))
  c_Gap : PySem.W.nsIn K PySem.mainGlobals "Gap" = some (some (.ref 185))
  c_BillError : PySem.W.nsIn K PySem.mainGlobals "BillError" = some (some (.ref 31))
  c_BadPaper : PySem.W.nsIn K PySem.mainGlobals "BadPaper" = some (some (.ref 53))
  c_BadMeter : PySem.W.nsIn K PySem.mainGlobals "BadMeter" = some (some (.ref 74))
  c_BadShown : PySem.W.nsIn K PySem.mainGlobals "BadShown" = some (some (.ref 95))
  c_BadUse : PySem.W.nsIn K PySem.mainGlobals "BadUse" = some (some (.ref 116))
  c_BadLife : PySem.W.nsIn K PySem.mainGlobals "BadLife" = some (some (.ref 137))
  k_Gap : Cls K 185
  m_Gap : Mk K 185 161
  n_0_number : PySem.W.findIn K (.ref 185) "number" = some none
  n_0_start : PySem.W.findIn K (.ref 185) "start" = some none
  n_0_low : PySem.W.findIn K (.ref 185) "low" = some none
  n_0_high : PySem.W.findIn K (.ref 185) "high" = some none
  n_0_ring : PySem.W.findIn K (.ref 185) "ring" = some none
  n_0_cap : PySem.W.findIn K (.ref 185) "cap" = some none
  n_0_least : PySem.W.findIn K (.ref 185) "least" = some none
  n_0_turns : PySem.W.findIn K (.ref 185) "turns" = some none
  t_0_hours : Meth K 185 "hours" 168
  x3 : ExIs K 74
  y3 : PySem.W.findIn K (.ref 74) "meter" = some none
  w3 : PySem.W.kitOne K (.ref 74) (.type "ValueError") = some true
  e3 : ErrTxt prog0 K 74 71 "meter"
  x4 : ExIs K 95
  y4 : PySem.W.findIn K (.ref 95) "shown" = some none
  w4 : PySem.W.kitOne K (.ref 95) (.type "ValueError") = some true
  e4 : ErrTxt prog0 K 95 92 "shown"
  x5 : ExIs K 116
  y5 : PySem.W.findIn K (.ref 116) "use" = some none
  w5 : PySem.W.kitOne K (.ref 116) (.type "ValueError") = some true
  e5 : ErrTxt prog0 K 116 113 "use"
  x6 : ExIs K 137
  y6 : PySem.W.findIn K (.ref 137) "number" = some none
  w6 : PySem.W.kitOne K (.ref 137) (.type "ValueError") = some true
  e6 : ErrTxt prog0 K 137 134 "number"
  s_3_1 : PySem.W.exmOne K (.ref 74) (.ref 31) = some true ∧ PySem.W.kitOne K (.ref 74) (.ref 31) = some true
  s_3_2 : PySem.W.exmOne K (.ref 74) (.ref 53) = some false ∧ PySem.W.kitOne K (.ref 74) (.ref 53) = some false
  s_3_3 : PySem.W.exmOne K (.ref 74) (.ref 74) = some true ∧ PySem.W.kitOne K (.ref 74) (.ref 74) = some true
  s_3_4 : PySem.W.exmOne K (.ref 74) (.ref 95) = some false ∧ PySem.W.kitOne K (.ref 74) (.ref 95) = some false
  s_3_5 : PySem.W.exmOne K (.ref 74) (.ref 116) = some false ∧ PySem.W.kitOne K (.ref 74) (.ref 116) = some false
  s_3_6 : PySem.W.exmOne K (.ref 74) (.ref 137) = some false ∧ PySem.W.kitOne K (.ref 74) (.ref 137) = some false
  s_4_1 : PySem.W.exmOne K (.ref 95) (.ref 31) = some true ∧ PySem.W.kitOne K (.ref 95) (.ref 31) = some true
  s_4_2 : PySem.W.exmOne K (.ref 95) (.ref 53) = some false ∧ PySem.W.kitOne K (.ref 95) (.ref 53) = some false
  s_4_3 : PySem.W.exmOne K (.ref 95) (.ref 74) = some false ∧ PySem.W.kitOne K (.ref 95) (.ref 74) = some false
  s_4_4 : PySem.W.exmOne K (.ref 95) (.ref 95) = some true ∧ PySem.W.kitOne K (.ref 95) (.ref 95) = some true
  s_4_5 : PySem.W.exmOne K (.ref 95) (.ref 116) = some false ∧ PySem.W.kitOne K (.ref 95) (.ref 116) = some false
  s_4_6 : PySem.W.exmOne K (.ref 95) (.ref 137) = some false ∧ PySem.W.kitOne K (.ref 95) (.ref 137) = some false
  s_5_1 : PySem.W.exmOne K (.ref 116) (.ref 31) = some true ∧ PySem.W.kitOne K (.ref 116) (.ref 31) = some true
  s_5_2 : PySem.W.exmOne K (.ref 116) (.ref 53) = some false ∧ PySem.W.kitOne K (.ref 116) (.ref 53) = some false
  s_5_3 : PySem.W.exmOne K (.ref 116) (.ref 74) = some false ∧ PySem.W.kitOne K (.ref 116) (.ref 74) = some false
  s_5_4 : PySem.W.exmOne K (.ref 116) (.ref 95) = some false ∧ PySem.W.kitOne K (.ref 116) (.ref 95) = some false
  s_5_5 : PySem.W.exmOne K (.ref 116) (.ref 116) = some true ∧ PySem.W.kitOne K (.ref 116) (.ref 116) = some true
  s_5_6 : PySem.W.exmOne K (.ref 116) (.ref 137) = some false ∧ PySem.W.kitOne K (.ref 116) (.ref 137) = some false
  s_6_1 : PySem.W.exmOne K (.ref 137) (.ref 31) = some true ∧ PySem.W.kitOne K (.ref 137) (.ref 31) = some true
  s_6_2 : PySem.W.exmOne K (.ref 137) (.ref 53) = some false ∧ PySem.W.kitOne K (.ref 137) (.ref 53) = some false
  s_6_3 : PySem.W.exmOne K (.ref 137) (.ref 74) = some false ∧ PySem.W.kitOne K (.ref 137) (.ref 74) = some false
  s_6_4 : PySem.W.exmOne K (.ref 137) (.ref 95) = some false ∧ PySem.W.kitOne K (.ref 137) (.ref 95) = some false
  s_6_5 : PySem.W.exmOne K (.ref 137) (.ref 116) = some false ∧ PySem.W.kitOne K (.ref 137) (.ref 116) = some false
  s_6_6 : PySem.W.exmOne K (.ref 137) (.ref 137) = some true ∧ PySem.W.kitOne K (.ref 137) (.ref 137) = some true
section
variable {K : PySem.W.Frag} {mg : Str → Option Value} {h : Heap}
theorem pf (F : Fx K) (X : K.In h) (G : h.Ns PySem.mainGlobals mg) (v_MOST_CAP : ValIs K mg "MOST_CAP" (.int 1000000000)) : Pf (cn K) prg prog0 mg gl kw xr cs := by
  have ge : ∀ x g, gl.lookup x = some g → (∀ c, g = .exc c → mg x = some (.ref ((cn K).ca c))) ∧ (g = .blt → mg x = none) := by
    have z : GeAll (cn K) mg gl := by
      refine ⟨⟨fun c e => (by cases e), fun e => (by cases e)⟩, ⟨⟨fun c e => (by cases e), fun e => (by cases e)⟩, ⟨⟨fun c e => (by cases e), fun e => (by cases e)⟩, ⟨⟨fun c e => (by cases e), fun e => (by cases e)⟩, ⟨⟨fun c e => (by cases e), fun e => (by cases e)⟩, ⟨⟨fun c e => (by cases e), fun e => (by cases e)⟩, ⟨⟨fun c e => (by cases e), fun e => (by cases e)⟩, ⟨⟨fun c e => (by cases e), fun e => (by cases e)⟩, ⟨⟨fun c e => (by cases e), fun e => (by cases e)⟩, ⟨⟨fun c e => (by cases e), fun e => (by cases e)⟩, ⟨⟨fun c e => (by cases e), fun e => (by cases e)⟩, ⟨⟨fun c e => (by cases e), fun e => (by cases e)⟩, ⟨⟨fun c e => (by cases e), fun e => (by cases e)⟩, ⟨⟨fun c e => (by cases e), fun e => (by cases e)⟩, ⟨⟨fun c e => (by cases e), fun e => (by cases e)⟩, ⟨⟨fun c e => (by cases e), fun e => (by cases e)⟩, ⟨⟨fun c e => (by cases e), fun e => (by cases e)⟩, ⟨⟨fun c e => (by cases e), fun e => (by cases e)⟩, ⟨⟨fun c e => (by cases e), fun e => (by cases e)⟩, ⟨⟨fun c e => (by cases e), fun e => (by cases e)⟩, ⟨⟨fun c e => (by cases e), fun e => (by cases e)⟩, ⟨⟨fun c e => (by cases e), fun e => (by cases e)⟩, ⟨⟨fun c e => (by cases e), fun e => (by cases e)⟩, ⟨⟨fun c e => (by cases e), fun e => (by cases e)⟩, ⟨⟨fun c e => (by cases e), fun e => (by cases e)⟩, ⟨⟨fun c e => (by cases e), fun e => (by cases e)⟩, ⟨⟨fun c e => (by cases e), fun e => (by cases e)⟩, ⟨⟨fun c e => (by cases e), fun e => (by cases e)⟩, ⟨⟨fun c e => (by cases e), fun e => (by cases e)⟩, ⟨⟨fun c e => (by cases e), fun e => (by cases e)⟩, ⟨⟨fun c e => (by cases e), fun e => (by cases e)⟩, ⟨⟨fun c e => (by cases e), fun e => (by cases e)⟩, ⟨⟨fun c e => (by cases e), fun e => (by cases e)⟩, ⟨⟨fun c e => (by cases e; exact PySem.W.mg_of X G F.c_BillError), fun e => (by cases e)⟩, ⟨⟨fun c e => (by cases e; exact PySem.W.mg_of X G F.c_BadPaper), fun e => (by cases e)⟩, ⟨⟨fun c e => (by cases e; exact PySem.W.mg_of X G F.c_BadMeter), fun e => (by cases e)⟩, ⟨⟨fun c e => (by cases e; exact PySem.W.mg_of X G F.c_BadShown), fun e => (by cases e)⟩, ⟨⟨fun c e => (by cases e; exact PySem.W.mg_of X G F.c_BadUse), fun e => (by cases e)⟩, ⟨⟨fun c e => (by cases e; exact PySem.W.mg_of X G F.c_BadLife), fun e => (by cases e)⟩, ⟨⟨fun c e => (by cases e), fun e => (by cases e)⟩, ⟨⟨fun c e => (by cases e), fun e => (by cases e)⟩, ⟨⟨fun c e => (by cases e), fun e => (by cases e)⟩, ⟨⟨fun c e => (by cases e), fun e => (by cases e)⟩, ⟨⟨fun c e => (by cases e), fun e => (by cases e)⟩, ⟨⟨fun c e => (by cases e), fun e => (by cases e)⟩, ⟨⟨fun c e => (by cases e), fun e => (by cases e)⟩, ⟨⟨fun c e => (by cases e), fun e => (by cases e)⟩, ⟨⟨fun c e => (by cases e), fun e => PySem.W.mg_none_of X G F.z_len⟩, ⟨⟨fun c e => (by cases e), fun e => PySem.W.mg_none_of X G F.z_abs⟩, ⟨⟨fun c e => (by cases e), fun e => PySem.W.mg_none_of X G F.z_min⟩, ⟨⟨fun c e => (by cases e), fun e => PySem.W.mg_none_of X G F.z_max⟩, ⟨⟨fun c e => (by cases e), fun e => PySem.W.mg_none_of X G F.z_sum⟩, ⟨⟨fun c e => (by cases e), fun e => PySem.W.mg_none_of X G F.z_all⟩, ⟨⟨fun c e => (by cases e), fun e => PySem.W.mg_none_of X G F.z_any⟩, ⟨⟨fun c e => (by cases e), fun e => PySem.W.mg_none_of X G F.z_int⟩, ⟨⟨fun c e => (by cases e), fun e => PySem.W.mg_none_of X G F.z_tuple⟩, ⟨⟨fun c e => (by cases e), fun e => PySem.W.mg_none_of X G F.z_list⟩, ⟨⟨fun c e => (by cases e), fun e => PySem.W.mg_none_of X G F.z_gcd⟩, ⟨⟨fun c e => (by cases e), fun e => PySem.W.mg_none_of X G F.z_isinstance⟩, ⟨⟨fun c e => (by cases e), fun e => PySem.W.mg_none_of X G F.z_bool⟩, ⟨⟨fun c e => (by cases e), fun e => PySem.W.mg_none_of X G F.z_str⟩, ⟨⟨fun c e => (by cases e), fun e => PySem.W.mg_none_of X G F.z_range⟩, ⟨⟨fun c e => (by cases e), fun e => PySem.W.mg_none_of X G F.z_enumerate⟩, ⟨⟨fun c e => (by cases e), fun e => PySem.W.mg_none_of X G F.z_zip⟩, ⟨⟨fun c e => (by cases e), fun e => PySem.W.mg_none_of X G F.z_ValueError⟩, ⟨⟨fun c e => (by cases e), fun e => PySem.W.mg_none_of X G F.z_super⟩, ⟨⟨fun c e => (by cases e), fun e => (by cases e)⟩, True.intro⟩⟩⟩⟩⟩⟩⟩⟩⟩⟩⟩⟩⟩⟩⟩⟩⟩⟩⟩⟩⟩⟩⟩⟩⟩⟩⟩⟩⟩⟩⟩⟩⟩⟩⟩⟩⟩⟩⟩⟩⟩⟩⟩⟩⟩⟩⟩⟩⟩⟩⟩⟩⟩⟩⟩⟩⟩⟩⟩⟩⟩⟩⟩⟩⟩⟩⟩
    exact ge_of z
  have ct0 : CatOk (cn K) prg.ct K mg "_law_refused" 0 := by
    obtain ⟨oc, od, kV, doc, pm, an, cdv, ct, osl, l1, l2, l3, l4⟩ := F.cl0
    exact ⟨377, c0, g0, "call", defArgs t0, defBody t0, .none, kV, doc, pm, cdv, ct, oc, an, od, osl, rfl, PySem.W.mg_of X G F.cg0, l3, l1, l2, .all fun us hl => (match us, hl with | [_], _ => by kernel_rfl), fc0, rfl, .inl (by kernel_rfl), by decide, by decide, kc0, fun x c e => (ge x _ e).1 c rfl, fun x e => (ge x _ e).2 rfl⟩
  refine { gl := gl_of ?gl, df := df_of ?df, mt := ?mt, fl := ?fl, xr := ?xr, hms := PySem.W.mg_none_of X G F.z_super, xk := ?xk }
  case gl =>
    exact ⟨⟨PySem.W.mg_of X G F.g0, d0, rfl⟩, ⟨⟨PySem.W.mg_of X G F.g1, d1, rfl⟩, ⟨⟨PySem.W.mg_of X G F.g2, d2, rfl⟩, ⟨⟨PySem.W.mg_of X G F.g3, d3, rfl⟩, ⟨⟨PySem.W.mg_of X G F.g4, d4, rfl⟩, ⟨⟨PySem.W.mg_of X G F.g5, d5, rfl⟩, ⟨⟨PySem.W.mg_of X G F.g6, d6, rfl⟩, ⟨⟨PySem.W.mg_of X G F.g7, d7, rfl⟩, ⟨⟨PySem.W.mg_of X G F.g8, d8, rfl⟩, ⟨⟨PySem.W.mg_of X G F.g9, d9, rfl⟩, ⟨⟨PySem.W.mg_of X G F.g10, d10, rfl⟩, ⟨⟨PySem.W.mg_of X G F.g11, d11, rfl⟩, ⟨⟨PySem.W.mg_of X G F.g12, d12, rfl⟩, ⟨⟨PySem.W.mg_of X G F.g13, d13, rfl⟩, ⟨⟨PySem.W.mg_of X G F.g14, d14, rfl⟩, ⟨⟨PySem.W.mg_of X G F.g15, d15, rfl⟩, ⟨⟨PySem.W.mg_of X G F.g16, d16, rfl⟩, ⟨⟨PySem.W.mg_of X G F.g17, d17, rfl⟩, ⟨⟨PySem.W.mg_of X G F.g18, d18, rfl⟩, ⟨⟨PySem.W.mg_of X G F.g19, d19, rfl⟩, ⟨⟨PySem.W.mg_of X G F.g20, d20, rfl⟩, ⟨⟨PySem.W.mg_of X G F.g21, d21, rfl⟩, ⟨⟨PySem.W.mg_of X G F.g22, d22, rfl⟩, ⟨⟨PySem.W.mg_of X G F.g23, d23, rfl⟩, ⟨⟨PySem.W.mg_of X G F.g24, d24, rfl⟩, ⟨⟨PySem.W.mg_of X G F.g26, d26, rfl⟩, ⟨⟨PySem.W.mg_of X G F.g27, d27, rfl⟩, ⟨⟨PySem.W.mg_of X G F.g28, d28, rfl⟩, ⟨⟨PySem.W.mg_of X G F.g29, d29, rfl⟩, ⟨⟨PySem.W.mg_of X G F.g30, d30, rfl⟩, ⟨⟨PySem.W.mg_of X G F.g31, d31, rfl⟩, ⟨⟨PySem.W.mg_of X G F.g33, d33, rfl⟩, ⟨⟨PySem.W.mg_of X G F.c_Gap, 32, d32, by kernel_rfl, F.m_Gap, rfl⟩, ⟨PySem.W.mg_of X G F.c_BillError, ⟨PySem.W.mg_of X G F.c_BadPaper, ⟨PySem.W.mg_of X G F.c_BadMeter, ⟨PySem.W.mg_of X G F.c_BadShown, ⟨PySem.W.mg_of X G F.c_BadUse, ⟨PySem.W.mg_of X G F.c_BadLife, ⟨(let ⟨a, od, its, n, sl, h1, h2, h3, h4⟩ := F.v_RINGS; gl_val (P := prg) rfl (val_tupI (PySem.W.mg_of X G h1) h2 (Nat.le_trans h3 (by decide)) h4)), ⟨(let ⟨t, e⟩ := F.v_MOST_FIGURES; gl_val (P := prg) rfl (val_int (PySem.W.mg_of X G e))), ⟨gl_val (P := prg) rfl v_MOST_CAP, ⟨(let ⟨t, e⟩ := F.v_MOST_LIFE; gl_val (P := prg) rfl (val_int (PySem.W.mg_of X G e))), ⟨(let ⟨t, e⟩ := F.v_LAST_MOMENT; gl_val (P := prg) rfl (val_int (PySem.W.mg_of X G e))), ⟨(let ⟨t, e⟩ := F.v_PUT_WORD; gl_val (P := prg) rfl (val_str (PySem.W.mg_of X G e))), ⟨(let ⟨t, e⟩ := F.v_READ_WORD; gl_val (P := prg) rfl (val_str (PySem.W.mg_of X G e))), ⟨(let ⟨t, e⟩ := F.v_END_WORD; gl_val (P := prg) rfl (val_str (PySem.W.mg_of X G e))), ⟨PySem.W.mg_none_of X G F.z_len, ⟨PySem.W.mg_none_of X G F.z_abs, ⟨PySem.W.mg_none_of X G F.z_min, ⟨PySem.W.mg_none_of X G F.z_max, ⟨PySem.W.mg_none_of X G F.z_sum, ⟨PySem.W.mg_none_of X G F.z_all, ⟨PySem.W.mg_none_of X G F.z_any, ⟨PySem.W.mg_none_of X G F.z_int, ⟨PySem.W.mg_none_of X G F.z_tuple, ⟨PySem.W.mg_none_of X G F.z_list, ⟨PySem.W.mg_none_of X G F.z_gcd, ⟨PySem.W.mg_none_of X G F.z_isinstance, ⟨PySem.W.mg_none_of X G F.z_bool, ⟨PySem.W.mg_none_of X G F.z_str, ⟨PySem.W.mg_none_of X G F.z_range, ⟨PySem.W.mg_none_of X G F.z_enumerate, ⟨PySem.W.mg_none_of X G F.z_zip, ⟨PySem.W.mg_none_of X G F.z_ValueError, ⟨PySem.W.mg_none_of X G F.z_super, ⟨ct0, True.intro⟩⟩⟩⟩⟩⟩⟩⟩⟩⟩⟩⟩⟩⟩⟩⟩⟩⟩⟩⟩⟩⟩⟩⟩⟩⟩⟩⟩⟩⟩⟩⟩⟩⟩⟩⟩⟩⟩⟩⟩⟩⟩⟩⟩⟩⟩⟩⟩⟩⟩⟩⟩⟩⟩⟩⟩⟩⟩⟩⟩⟩⟩⟩⟩⟩⟩⟩
  case df =>
    have D0 : DefOk (cn K) gl kw xr cs 0 d0 := defOk_of (C := cn K) F.l0 f0 rfl k0 (fun _ _ _ _ _ _ us hl => match us, hl with | [_], _ => by kernel_rfl) (fun kV doc pm an cdv ct n ks hm => by
      exact absurd hm (by simp [kwOf, kw])) (fun e => by cases e)
    have D1 : DefOk (cn K) gl kw xr cs 1 d1 := defOk_of (C := cn K) F.l1 f1 rfl k1 (fun _ _ _ _ _ _ us hl => match us, hl with | [_], _ => by kernel_rfl) (fun kV doc pm an cdv ct n ks hm => by
      exact absurd hm (by simp [kwOf, kw])) (fun e => by cases e)
    have D2 : DefOk (cn K) gl kw xr cs 2 d2 := defOk_of (C := cn K) F.l2 f2 rfl k2 (fun _ _ _ _ _ _ us hl => match us, hl with | [_, _], _ => by kernel_rfl) (fun kV doc pm an cdv ct n ks hm => by
      exact absurd hm (by simp [kwOf, kw])) (fun e => by cases e)
    have D3 : DefOk (cn K) gl kw xr cs 3 d3 := defOk_of (C := cn K) F.l3 f3 rfl k3 (fun _ _ _ _ _ _ us hl => match us, hl with | [_, _], _ => by kernel_rfl) (fun kV doc pm an cdv ct n ks hm => by
      exact absurd hm (by simp [kwOf, kw])) (fun e => by cases e)
    have D4 : DefOk (cn K) gl kw xr cs 4 d4 := defOk_of (C := cn K) F.l4 f4 rfl k4 (fun _ _ _ _ _ _ us hl => match us, hl with | [_], _ => by kernel_rfl) (fun kV doc pm an cdv ct n ks hm => by
      exact absurd hm (by simp [kwOf, kw])) (fun e => by cases e)
    have D5 : DefOk (cn K) gl kw xr cs 5 d5 := defOk_of (C := cn K) F.l5 f5 rfl k5 (fun _ _ _ _ _ _ us hl => match us, hl with | [_], _ => by kernel_rfl) (fun kV doc pm an cdv ct n ks hm => by
      exact absurd hm (by simp [kwOf, kw])) (fun _ => ⟨383, 379, rfl, (List.Mem.head _), (List.Mem.head _), by
      intro p hp e
      rcases List.mem_cons.mp hp with z | hp
      · subst z
        rfl
      rcases List.mem_cons.mp hp with z | hp
      · subst z
        exact absurd e (by decide)
      cases hp⟩)
    have D6 : DefOk (cn K) gl kw xr cs 6 d6 := defOk_of (C := cn K) F.l6 f6 rfl k6 (fun _ _ _ _ _ _ us hl => match us, hl with | [_, _], _ => by kernel_rfl) (fun kV doc pm an cdv ct n ks hm => by
      exact absurd hm (by simp [kwOf, kw])) (fun e => by cases e)
    have D7 : DefOk (cn K) gl kw xr cs 7 d7 := defOk_of (C := cn K) F.l7 f7 rfl k7 (fun _ _ _ _ _ _ us hl => match us, hl with | [_], _ => by kernel_rfl) (fun kV doc pm an cdv ct n ks hm => by
      exact absurd hm (by simp [kwOf, kw])) (fun _ => ⟨395, 391, rfl, (List.Mem.tail _ (List.Mem.head _)), (List.Mem.tail _ (List.Mem.head _)), by
      intro p hp e
      rcases List.mem_cons.mp hp with z | hp
      · subst z
        exact absurd e (by decide)
      rcases List.mem_cons.mp hp with z | hp
      · subst z
        rfl
      cases hp⟩)
    have D8 : DefOk (cn K) gl kw xr cs 8 d8 := defOk_of (C := cn K) F.l8 f8 rfl k8 (fun _ _ _ _ _ _ us hl => match us, hl with | [_], _ => by kernel_rfl) (fun kV doc pm an cdv ct n ks hm => by
      exact absurd hm (by simp [kwOf, kw])) (fun e => by cases e)
    have D9 : DefOk (cn K) gl kw xr cs 9 d9 := defOk_of (C := cn K) F.l9 f9 rfl k9 (fun _ _ _ _ _ _ us hl => match us, hl with | [_], _ => by kernel_rfl) (fun kV doc pm an cdv ct n ks hm => by
      exact absurd hm (by simp [kwOf, kw])) (fun e => by cases e)
    have D10 : DefOk (cn K) gl kw xr cs 10 d10 := defOk_of (C := cn K) F.l10 f10 rfl k10 (fun _ _ _ _ _ _ us hl => match us, hl with | [_], _ => by kernel_rfl) (fun kV doc pm an cdv ct n ks hm => by
      exact absurd hm (by simp [kwOf, kw])) (fun e => by cases e)
    have D11 : DefOk (cn K) gl kw xr cs 11 d11 := defOk_of (C := cn K) F.l11 f11 rfl k11 (fun _ _ _ _ _ _ us hl => match us, hl with | [_, _], _ => by kernel_rfl) (fun kV doc pm an cdv ct n ks hm => by
      exact absurd hm (by simp [kwOf, kw])) (fun e => by cases e)
    have D12 : DefOk (cn K) gl kw xr cs 12 d12 := defOk_of (C := cn K) F.l12 f12 rfl k12 (fun _ _ _ _ _ _ us hl => match us, hl with | [_], _ => by kernel_rfl) (fun kV doc pm an cdv ct n ks hm => by
      exact absurd hm (by simp [kwOf, kw])) (fun e => by cases e)
    have D13 : DefOk (cn K) gl kw xr cs 13 d13 := defOk_of (C := cn K) F.l13 f13 rfl k13 (fun _ _ _ _ _ _ us hl => match us, hl with | [_, _], _ => by kernel_rfl) (fun kV doc pm an cdv ct n ks hm => by
      exact absurd hm (by simp [kwOf, kw])) (fun e => by cases e)
    have D14 : DefOk (cn K) gl kw xr cs 14 d14 := defOk_of (C := cn K) F.l14 f14 rfl k14 (fun _ _ _ _ _ _ us hl => match us, hl with | [_], _ => by kernel_rfl) (fun kV doc pm an cdv ct n ks hm => by
      have hm2 : (n, ks) = ((0, ["life"]) : Nat × List Str) := by simpa [kwOf, kw] using hm
      cases hm2
      exact kwB_of fun us ws hu hw => (match us, ws, hu, hw with | [], [b0], _, _ => ⟨[b0], by kernel_rfl, by kernel_rfl⟩)) (fun e => by cases e)
    have D15 : DefOk (cn K) gl kw xr cs 15 d15 := defOk_of (C := cn K) F.l15 f15 rfl k15 (fun _ _ _ _ _ _ us hl => match us, hl with | [_], _ => by kernel_rfl) (fun kV doc pm an cdv ct n ks hm => by
      have hm2 : (n, ks) = ((0, ["life"]) : Nat × List Str) := by simpa [kwOf, kw] using hm
      cases hm2
      exact kwB_of fun us ws hu hw => (match us, ws, hu, hw with | [], [b0], _, _ => ⟨[b0], by kernel_rfl, by kernel_rfl⟩)) (fun e => by cases e)
    have D16 : DefOk (cn K) gl kw xr cs 16 d16 := defOk_of (C := cn K) F.l16 f16 rfl k16 (fun _ _ _ _ _ _ us hl => match us, hl with | [_], _ => by kernel_rfl) (fun kV doc pm an cdv ct n ks hm => by
      exact absurd hm (by simp [kwOf, kw])) (fun e => by cases e)
    have D17 : DefOk (cn K) gl kw xr cs 17 d17 := defOk_of (C := cn K) F.l17 f17 rfl k17 (fun _ _ _ _ _ _ us hl => match us, hl with | [_], _ => by kernel_rfl) (fun kV doc pm an cdv ct n ks hm => by
      have hm2 : (n, ks) = ((0, ["value"]) : Nat × List Str) := by simpa [kwOf, kw] using hm
      cases hm2
      exact kwB_of fun us ws hu hw => (match us, ws, hu, hw with | [], [b0], _, _ => ⟨[b0], by kernel_rfl, by kernel_rfl⟩)) (fun e => by cases e)
    have D18 : DefOk (cn K) gl kw xr cs 18 d18 := defOk_of (C := cn K) F.l18 f18 rfl k18 (fun _ _ _ _ _ _ us hl => match us, hl with | [_], _ => by kernel_rfl) (fun kV doc pm an cdv ct n ks hm => by
      have hm2 : (n, ks) = ((0, ["life"]) : Nat × List Str) := by simpa [kwOf, kw] using hm
      cases hm2
      exact kwB_of fun us ws hu hw => (match us, ws, hu, hw with | [], [b0], _, _ => ⟨[b0], by kernel_rfl, by kernel_rfl⟩)) (fun e => by cases e)
    have D19 : DefOk (cn K) gl kw xr cs 19 d19 := defOk_of (C := cn K) F.l19 f19 rfl k19 (fun _ _ _ _ _ _ us hl => match us, hl with | [_], _ => by kernel_rfl) (fun kV doc pm an cdv ct n ks hm => by
      exact absurd hm (by simp [kwOf, kw])) (fun e => by cases e)
    have D20 : DefOk (cn K) gl kw xr cs 20 d20 := defOk_of (C := cn K) F.l20 f20 rfl k20 (fun _ _ _ _ _ _ us hl => match us, hl with | [_, _], _ => by kernel_rfl) (fun kV doc pm an cdv ct n ks hm => by
      exact absurd hm (by simp [kwOf, kw])) (fun e => by cases e)
    have D21 : DefOk (cn K) gl kw xr cs 21 d21 := defOk_of (C := cn K) F.l21 f21 rfl k21 (fun _ _ _ _ _ _ us hl => match us, hl with | [_, _, _], _ => by kernel_rfl) (fun kV doc pm an cdv ct n ks hm => by
      have hm2 : (n, ks) = ((0, ["use", "shown", "meter"]) : Nat × List Str) := by simpa [kwOf, kw] using hm
      cases hm2
      exact kwB_of fun us ws hu hw => (match us, ws, hu, hw with | [], [b0, b1, b2], _, _ => ⟨[b2, b1, b0], by kernel_rfl, by kernel_rfl⟩)) (fun e => by cases e)
    have D22 : DefOk (cn K) gl kw xr cs 22 d22 := defOk_of (C := cn K) F.l22 f22 rfl k22 (fun _ _ _ _ _ _ us hl => match us, hl with | [_], _ => by kernel_rfl) (fun kV doc pm an cdv ct n ks hm => by
      have hm2 : (n, ks) = ((0, ["value"]) : Nat × List Str) := by simpa [kwOf, kw] using hm
      cases hm2
      exact kwB_of fun us ws hu hw => (match us, ws, hu, hw with | [], [b0], _, _ => ⟨[b0], by kernel_rfl, by kernel_rfl⟩)) (fun e => by cases e)
    have D23 : DefOk (cn K) gl kw xr cs 23 d23 := defOk_of (C := cn K) F.l23 f23 rfl k23 (fun _ _ _ _ _ _ us hl => match us, hl with | [_], _ => by kernel_rfl) (fun kV doc pm an cdv ct n ks hm => by
      exact absurd hm (by simp [kwOf, kw])) (fun e => by cases e)
    have D24 : DefOk (cn K) gl kw xr cs 24 d24 := defOk_of (C := cn K) F.l24 f24 rfl k24 (fun _ _ _ _ _ _ us hl => match us, hl with | [_], _ => by kernel_rfl) (fun kV doc pm an cdv ct n ks hm => by
      exact absurd hm (by simp [kwOf, kw])) (fun e => by cases e)
    have D25 : DefOk (cn K) gl kw xr cs 25 d25 := defOk_of (C := cn K) F.l25 f25 rfl k25 (fun _ _ _ _ _ _ us hl => match us, hl with | [_], _ => by kernel_rfl) (fun kV doc pm an cdv ct n ks hm => by
      exact absurd hm (by simp [kwOf, kw])) (fun e => by cases e)
    have D26 : DefOk (cn K) gl kw xr cs 26 d26 := defOk_of (C := cn K) F.l26 f26 rfl k26 (fun _ _ _ _ _ _ us hl => match us, hl with | [_, _, _], _ => by kernel_rfl) (fun kV doc pm an cdv ct n ks hm => by
      exact absurd hm (by simp [kwOf, kw])) (fun e => by cases e)
    have D27 : DefOk (cn K) gl kw xr cs 27 d27 := defOk_of (C := cn K) F.l27 f27 rfl k27 (fun _ _ _ _ _ _ us hl => match us, hl with | [_, _, _], _ => by kernel_rfl) (fun kV doc pm an cdv ct n ks hm => by
      exact absurd hm (by simp [kwOf, kw])) (fun e => by cases e)
    have D28 : DefOk (cn K) gl kw xr cs 28 d28 := defOk_of (C := cn K) F.l28 f28 rfl k28 (fun _ _ _ _ _ _ us hl => match us, hl with | [_, _], _ => by kernel_rfl) (fun kV doc pm an cdv ct n ks hm => by
      exact absurd hm (by simp [kwOf, kw])) (fun e => by cases e)
    have D29 : DefOk (cn K) gl kw xr cs 29 d29 := defOk_of (C := cn K) F.l29 f29 rfl k29 (fun _ _ _ _ _ _ us hl => match us, hl with | [_], _ => by kernel_rfl) (fun kV doc pm an cdv ct n ks hm => by
      exact absurd hm (by simp [kwOf, kw])) (fun e => by cases e)
    have D30 : DefOk (cn K) gl kw xr cs 30 d30 := defOk_of (C := cn K) F.l30 f30 rfl k30 (fun _ _ _ _ _ _ us hl => match us, hl with | [_, _, _], _ => by kernel_rfl) (fun kV doc pm an cdv ct n ks hm => by
      exact absurd hm (by simp [kwOf, kw])) (fun e => by cases e)
    have D31 : DefOk (cn K) gl kw xr cs 31 d31 := defOk_of (C := cn K) F.l31 f31 rfl k31 (fun _ _ _ _ _ _ us hl => match us, hl with | [_, _, _], _ => by kernel_rfl) (fun kV doc pm an cdv ct n ks hm => by
      exact absurd hm (by simp [kwOf, kw])) (fun e => by cases e)
    have D32 : DefOk (cn K) gl kw xr cs 32 d32 := defOk_of (C := cn K) F.l32 f32 rfl k32 (fun _ _ _ _ _ _ us hl => match us, hl with | [_, _, _, _, _, _], _ => by kernel_rfl) (fun kV doc pm an cdv ct n ks hm => by
      exact absurd hm (by simp [kwOf, kw])) (fun e => by cases e)
    have D33 : DefOk (cn K) gl kw xr cs 33 d33 := defOk_of (C := cn K) F.l33 f33 rfl k33 (fun _ _ _ _ _ _ us hl => match us, hl with | [_], _ => by kernel_rfl) (fun kV doc pm an cdv ct n ks hm => by
      exact absurd hm (by simp [kwOf, kw])) (fun e => by cases e)
    exact ⟨D0, ⟨D1, ⟨D2, ⟨D3, ⟨D4, ⟨D5, ⟨D6, ⟨D7, ⟨D8, ⟨D9, ⟨D10, ⟨D11, ⟨D12, ⟨D13, ⟨D14, ⟨D15, ⟨D16, ⟨D17, ⟨D18, ⟨D19, ⟨D20, ⟨D21, ⟨D22, ⟨D23, ⟨D24, ⟨D25, ⟨D26, ⟨D27, ⟨D28, ⟨D29, ⟨D30, ⟨D31, ⟨D32, ⟨D33, True.intro⟩⟩⟩⟩⟩⟩⟩⟩⟩⟩⟩⟩⟩⟩⟩⟩⟩⟩⟩⟩⟩⟩⟩⟩⟩⟩⟩⟩⟩⟩⟩⟩⟩⟩
  case mt =>
    intro c m f e
    obtain ⟨q, h1, h2⟩ := Option.map_eq_some_iff.mp (show (mts.find? fun q => q.1 == c && q.2.1 == m).map (·.2.2) = some f from e)
    have h3 := List.find?_some h1
    have h4 := List.mem_of_find?_eq_some h1
    simp only [Bool.and_eq_true, beq_iff_eq] at h3
    obtain ⟨c1, m1, f1⟩ := q
    obtain ⟨rfl, rfl⟩ := h3
    cases h2
    simp only [mts, List.mem_cons, List.not_mem_nil, or_false, Prod.mk.injEq] at h4
    rcases h4 with ⟨rfl, rfl, rfl⟩
    · exact ⟨F.k_Gap, F.t_0_hours, d25, rfl⟩
  case fl =>
    intro c x e
    obtain ⟨q, h1, h2⟩ := List.any_eq_true.mp (show (fls.any fun q => q.1 == c && q.2 == x) = true from e)
    obtain ⟨c1, x1⟩ := q
    simp only [Bool.and_eq_true, beq_iff_eq] at h2
    obtain ⟨rfl, rfl⟩ := h2
    simp only [fls, List.mem_cons, List.not_mem_nil, or_false, Prod.mk.injEq] at h1
    rcases h1 with ⟨rfl, rfl⟩ | ⟨rfl, rfl⟩ | ⟨rfl, rfl⟩ | ⟨rfl, rfl⟩ | ⟨rfl, rfl⟩ | ⟨rfl, rfl⟩ | ⟨rfl, rfl⟩ | ⟨rfl, rfl⟩
    · exact ⟨F.k_Gap, F.n_0_number⟩
    · exact ⟨F.k_Gap, F.n_0_start⟩
    · exact ⟨F.k_Gap, F.n_0_low⟩
    · exact ⟨F.k_Gap, F.n_0_high⟩
    · exact ⟨F.k_Gap, F.n_0_ring⟩
    · exact ⟨F.k_Gap, F.n_0_cap⟩
    · exact ⟨F.k_Gap, F.n_0_least⟩
    · exact ⟨F.k_Gap, F.n_0_turns⟩
  case xr =>
    intro c h
    simp only [xr, List.mem_cons, List.not_mem_nil, or_false] at h
    rcases h with rfl | rfl | rfl | rfl
    · exact ⟨"number", 134, by kernel_rfl, F.e6⟩
    · exact ⟨"meter", 71, by kernel_rfl, F.e3⟩
    · exact ⟨"shown", 92, by kernel_rfl, F.e4⟩
    · exact ⟨"use", 113, by kernel_rfl, F.e5⟩
  case xk =>
    have ex : ∀ p ∈ xfs, ExIs K ((cn K).ca p.1) ∧ PySem.W.findIn K (.ref ((cn K).ca p.1)) p.2 = some none ∧ PySem.W.kitOne K (.ref ((cn K).ca p.1)) (.type "ValueError") = some true := by
      intro p hp
      simp only [xfs, List.mem_cons, List.not_mem_nil, or_false] at hp
      rcases hp with rfl | rfl | rfl | rfl
      · exact ⟨F.x3, F.y3, F.w3⟩
      · exact ⟨F.x4, F.y4, F.w4⟩
      · exact ⟨F.x5, F.y5, F.w5⟩
      · exact ⟨F.x6, F.y6, F.w6⟩
    have sb : SubAll K (cn K).ca sbs := ⟨F.s_3_1, ⟨F.s_3_2, ⟨F.s_3_3, ⟨F.s_3_4, ⟨F.s_3_5, ⟨F.s_3_6, ⟨F.s_4_1, ⟨F.s_4_2, ⟨F.s_4_3, ⟨F.s_4_4, ⟨F.s_4_5, ⟨F.s_4_6, ⟨F.s_5_1, ⟨F.s_5_2, ⟨F.s_5_3, ⟨F.s_5_4, ⟨F.s_5_5, ⟨F.s_5_6, ⟨F.s_6_1, ⟨F.s_6_2, ⟨F.s_6_3, ⟨F.s_6_4, ⟨F.s_6_5, ⟨F.s_6_6, True.intro⟩⟩⟩⟩⟩⟩⟩⟩⟩⟩⟩⟩⟩⟩⟩⟩⟩⟩⟩⟩⟩⟩⟩⟩
    refine ⟨fun c f e => ?_, fun c d b e => ?_, fun c e => ?_⟩
    · have hm := mem_look e
      exact ⟨(ex _ hm).1.f, (ex _ hm).2.1, e⟩
    · have hm := sub_mem e
      obtain ⟨a1, a2⟩ := sub_all sb _ hm
      have hc : ∃ f, (c, f) ∈ xfs := by
        simp only [sbs, List.mem_cons, List.not_mem_nil, or_false, Prod.mk.injEq] at hm
        rcases hm with ⟨rfl, rfl, rfl⟩ | ⟨rfl, rfl, rfl⟩ | ⟨rfl, rfl, rfl⟩ | ⟨rfl, rfl, rfl⟩ | ⟨rfl, rfl, rfl⟩ | ⟨rfl, rfl, rfl⟩ | ⟨rfl, rfl, rfl⟩ | ⟨rfl, rfl, rfl⟩ | ⟨rfl, rfl, rfl⟩ | ⟨rfl, rfl, rfl⟩ | ⟨rfl, rfl, rfl⟩ | ⟨rfl, rfl, rfl⟩ | ⟨rfl, rfl, rfl⟩ | ⟨rfl, rfl, rfl⟩ | ⟨rfl, rfl, rfl⟩ | ⟨rfl, rfl, rfl⟩ | ⟨rfl, rfl, rfl⟩ | ⟨rfl, rfl, rfl⟩ | ⟨rfl, rfl, rfl⟩ | ⟨rfl, rfl, rfl⟩ | ⟨rfl, rfl, rfl⟩ | ⟨rfl, rfl, rfl⟩ | ⟨rfl, rfl, rfl⟩ | ⟨rfl, rfl, rfl⟩ <;> exact ⟨_, by simp [xfs]; rfl⟩
      obtain ⟨f, hf⟩ := hc
      exact ⟨a1, a2, (ex _ hf).1.c⟩
    · obtain ⟨p, h1, h2⟩ := List.any_eq_true.mp (show (xfs.any fun q => q.1 == c) = true from e)
      rw [← eq_of_beq h2]
      exact ⟨(ex _ h1).2.2, (ex _ h1).1.c⟩
end
end Mi.K11
end

section
set_option Elab.async false
set_option linter.all false
set_option maxRecDepth 100000
set_option maxHeartbeats 8000000
namespace Mi.K11
open PySem PySem.W PySem.Spec L2 Mi
theorem fx (p : Params) : Fx (K11top.heap_39 p) ∧ PySem.Challenge.rw_onebill_k11_lives_and_dials_refused = PySem.Challenge.rw_onebill_k11_lives_and_dials_refused := by
  refine ⟨?_, rfl⟩
  have z : K11top.heap_39 p = K11top.heap_39 p ∧ PySem.Challenge.rw_onebill_k11_lives_and_dials_refused = PySem.Challenge.rw_onebill_k11_lives_and_dials_refused := by
    k_fill
    exact ⟨rfl, rfl⟩
  refine { g0 := ?g0, l0 := ?l0, g1 := ?g1, l1 := ?l1, g2 := ?g2, l2 := ?l2, g3 := ?g3, l3 := ?l3, g4 := ?g4, l4 := ?l4, g5 := ?g5, l5 := ?l5, g6 := ?g6, l6 := ?l6, g7 := ?g7, l7 := ?l7, g8 := ?g8, l8 := ?l8, g9 := ?g9, l9 := ?l9, g10 := ?g10, l10 := ?l10, g11 := ?g11, l11 := ?l11, g12 := ?g12, l12 := ?l12, g13 := ?g13, l13 := ?l13, g14 := ?g14, l14 := ?l14, g15 := ?g15, l15 := ?l15, g16 := ?g16, l16 := ?l16, g17 := ?g17, l17 := ?l17, g18 := ?g18, l18 := ?l18, g19 := ?g19, l19 := ?l19, g20 := ?g20, l20 := ?l20, g21 := ?g21, l21 := ?l21, g22 := ?g22, l22 := ?l22, g23 := ?g23, l23 := ?l23, g24 := ?g24, l24 := ?l24, l25 := ?l25, g26 := ?g26, l26 := ?l26, g27 := ?g27, l27 := ?l27, g28 := ?g28, l28 := ?l28, g29 := ?g29, l29 := ?l29, g30 := ?g30, l30 := ?l30, g31 := ?g31, l31 := ?l31, l32 := ?l32, g33 := ?g33, l33 := ?l33, cg0 := ?cg0, cl0 := ?cl0, z_len := ?z_len, z_abs := ?z_abs, z_min := ?z_min, z_max := ?z_max, z_sum := ?z_sum, z_all := ?z_all, z_any := ?z_any, z_int := ?z_int, z_tuple := ?z_tuple, z_list := ?z_list, z_gcd := ?z_gcd, z_isinstance := ?z_isinstance, z_bool := ?z_bool, z_str := ?z_str, z_range := ?z_range, z_enumerate := ?z_enumerate, z_zip := ?z_zip, z_ValueError := ?z_ValueError, z_super := ?z_super, v_RINGS := ?v_RINGS, v_MOST_FIGURES := ?v_MOST_FIGURES, v_MOST_LIFE := ?v_MOST_LIFE, v_LAST_MOMENT := ?v_LAST_MOMENT, v_PUT_WORD := ?v_PUT_WORD, v_READ_WORD := ?v_READ_WORD, v_END_WORD := ?v_END_WORD, c_Gap := ?c_Gap, c_BillError := ?c_BillError, c_BadPaper := ?c_BadPaper, c_BadMeter := ?c_BadMeter, c_BadShown := ?c_BadShown, c_BadUse := ?c_BadUse, c_BadLife := ?c_BadLife, k_Gap := ?k_Gap, m_Gap := ?m_Gap, n_0_number := ?n_0_number, n_0_start := ?n_0_start, n_0_low := ?n_0_low, n_0_high := ?n_0_high, n_0_ring := ?n_0_ring, n_0_cap := ?n_0_cap, n_0_least := ?n_0_least, n_0_turns := ?n_0_turns, t_0_hours := ?t_0_hours, x3 := ?x3, y3 := ?y3, w3 := ?w3, e3 := ?e3, x4 := ?x4, y4 := ?y4, w4 := ?w4, e4 := ?e4, x5 := ?x5, y5 := ?y5, w5 := ?w5, e5 := ?e5, x6 := ?x6, y6 := ?y6, w6 := ?w6, e6 := ?e6, s_3_1 := ?s_3_1, s_3_2 := ?s_3_2, s_3_3 := ?s_3_3, s_3_4 := ?s_3_4, s_3_5 := ?s_3_5, s_3_6 := ?s_3_6, s_4_1 := ?s_4_1, s_4_2 := ?s_4_2, s_4_3 := ?s_4_3, s_4_4 := ?s_4_4, s_4_5 := ?s_4_5, s_4_6 := ?s_4_6, s_5_1 := ?s_5_1, s_5_2 := ?s_5_2, s_5_3 := ?s_5_3, s_5_4 := ?s_5_4, s_5_5 := ?s_5_5, s_5_6 := ?s_5_6, s_6_1 := ?s_6_1, s_6_2 := ?s_6_2, s_6_3 := ?s_6_3, s_6_4 := ?s_6_4, s_6_5 := ?s_6_5, s_6_6 := ?s_6_6 }
  case g0 => k_is
  case l0 => exact ⟨_, _, _, _, _, _, _, _, _, by k_is, by k_is, by k_is, fun c e => by first | (cases e; rfl) | cases e⟩
  case g1 => k_is
  case l1 => exact ⟨_, _, _, _, _, _, _, _, _, by k_is, by k_is, by k_is, fun c e => by first | (cases e; rfl) | cases e⟩
  case g2 => k_is
  case l2 => exact ⟨_, _, _, _, _, _, _, _, _, by k_is, by k_is, by k_is, fun c e => by first | (cases e; rfl) | cases e⟩
  case g3 => k_is
  case l3 => exact ⟨_, _, _, _, _, _, _, _, _, by k_is, by k_is, by k_is, fun c e => by first | (cases e; rfl) | cases e⟩
  case g4 => k_is
  case l4 => exact ⟨_, _, _, _, _, _, _, _, _, by k_is, by k_is, by k_is, fun c e => by first | (cases e; rfl) | cases e⟩
  case g5 => k_is
  case l5 => exact ⟨_, _, _, _, _, _, _, _, _, by k_is, by k_is, by k_is, fun c e => by first | (cases e; rfl) | cases e⟩
  case g6 => k_is
  case l6 => exact ⟨_, _, _, _, _, _, _, _, _, by k_is, by k_is, by k_is, fun c e => by first | (cases e; rfl) | cases e⟩
  case g7 => k_is
  case l7 => exact ⟨_, _, _, _, _, _, _, _, _, by k_is, by k_is, by k_is, fun c e => by first | (cases e; rfl) | cases e⟩
  case g8 => k_is
  case l8 => exact ⟨_, _, _, _, _, _, _, _, _, by k_is, by k_is, by k_is, fun c e => by first | (cases e; rfl) | cases e⟩
  case g9 => k_is
  case l9 => exact ⟨_, _, _, _, _, _, _, _, _, by k_is, by k_is, by k_is, fun c e => by first | (cases e; rfl) | cases e⟩
  case g10 => k_is
  case l10 => exact ⟨_, _, _, _, _, _, _, _, _, by k_is, by k_is, by k_is, fun c e => by first | (cases e; rfl) | cases e⟩
  case g11 => k_is
  case l11 => exact ⟨_, _, _, _, _, _, _, _, _, by k_is, by k_is, by k_is, fun c e => by first | (cases e; rfl) | cases e⟩
  case g12 => k_is
  case l12 => exact ⟨_, _, _, _, _, _, _, _, _, by k_is, by k_is, by k_is, fun c e => by first | (cases e; rfl) | cases e⟩
  case g13 => k_is
  case l13 => exact ⟨_, _, _, _, _, _, _, _, _, by k_is, by k_is, by k_is, fun c e => by first | (cases e; rfl) | cases e⟩
  case g14 => k_is
  case l14 => exact ⟨_, _, _, _, _, _, _, _, _, by k_is, by k_is, by k_is, fun c e => by first | (cases e; rfl) | cases e⟩
  case g15 => k_is
  case l15 => exact ⟨_, _, _, _, _, _, _, _, _, by k_is, by k_is, by k_is, fun c e => by first | (cases e; rfl) | cases e⟩
  case g16 => k_is
  case l16 => exact ⟨_, _, _, _, _, _, _, _, _, by k_is, by k_is, by k_is, fun c e => by first | (cases e; rfl) | cases e⟩
  case g17 => k_is
  case l17 => exact ⟨_, _, _, _, _, _, _, _, _, by k_is, by k_is, by k_is, fun c e => by first | (cases e; rfl) | cases e⟩
  case g18 => k_is
  case l18 => exact ⟨_, _, _, _, _, _, _, _, _, by k_is, by k_is, by k_is, fun c e => by first | (cases e; rfl) | cases e⟩
  case g19 => k_is
  case l19 => exact ⟨_, _, _, _, _, _, _, _, _, by k_is, by k_is, by k_is, fun c e => by first | (cases e; rfl) | cases e⟩
  case g20 => k_is
  case l20 => exact ⟨_, _, _, _, _, _, _, _, _, by k_is, by k_is, by k_is, fun c e => by first | (cases e; rfl) | cases e⟩
  case g21 => k_is
  case l21 => exact ⟨_, _, _, _, _, _, _, _, _, by k_is, by k_is, by k_is, fun c e => by first | (cases e; rfl) | cases e⟩
  case g22 => k_is
  case l22 => exact ⟨_, _, _, _, _, _, _, _, _, by k_is, by k_is, by k_is, fun c e => by first | (cases e; rfl) | cases e⟩
  case g23 => k_is
  case l23 => exact ⟨_, _, _, _, _, _, _, _, _, by k_is, by k_is, by k_is, fun c e => by first | (cases e; rfl) | cases e⟩
  case g24 => k_is
  case l24 => exact ⟨_, _, _, _, _, _, _, _, _, by k_is, by k_is, by k_is, fun c e => by first | (cases e; rfl) | cases e⟩
  case l25 => exact ⟨_, _, _, _, _, _, _, _, _, by k_is, by k_is, by k_is, fun c e => by first | (cases e; rfl) | cases e⟩
  case g26 => k_is
  case l26 => exact ⟨_, _, _, _, _, _, _, _, _, by k_is, by k_is, by k_is, fun c e => by first | (cases e; rfl) | cases e⟩
  case g27 => k_is
  case l27 => exact ⟨_, _, _, _, _, _, _, _, _, by k_is, by k_is, by k_is, fun c e => by first | (cases e; rfl) | cases e⟩
  case g28 => k_is
  case l28 => exact ⟨_, _, _, _, _, _, _, _, _, by k_is, by k_is, by k_is, fun c e => by first | (cases e; rfl) | cases e⟩
  case g29 => k_is
  case l29 => exact ⟨_, _, _, _, _, _, _, _, _, by k_is, by k_is, by k_is, fun c e => by first | (cases e; rfl) | cases e⟩
  case g30 => k_is
  case l30 => exact ⟨_, _, _, _, _, _, _, _, _, by k_is, by k_is, by k_is, fun c e => by first | (cases e; rfl) | cases e⟩
  case g31 => k_is
  case l31 => exact ⟨_, _, _, _, _, _, _, _, _, by k_is, by k_is, by k_is, fun c e => by first | (cases e; rfl) | cases e⟩
  case l32 => exact ⟨_, _, _, _, _, _, _, _, _, by k_is, by k_is, by k_is, fun c e => by first | (cases e; rfl) | cases e⟩
  case g33 => k_is
  case l33 => exact ⟨_, _, _, _, _, _, _, _, _, by k_is, by k_is, by k_is, fun c e => by first | (cases e; rfl) | cases e⟩
  case cg0 => k_is
  case cl0 => exact ⟨_, _, _, _, _, _, _, _, _, by k_is, by k_is, by k_is, fun c e => by first | (cases e; rfl) | cases e⟩
  case z_len => k_is
  case z_abs => k_is
  case z_min => k_is
  case z_max => k_is
  case z_sum => k_is
  case z_all => k_is
  case z_any => k_is
  case z_int => k_is
  case z_tuple => k_is
  case z_list => k_is
  case z_gcd => k_is
  case z_isinstance => k_is
  case z_bool => k_is
  case z_str => k_is
  case z_range => k_is
  case z_enumerate => k_is
  case z_zip => k_is
  case z_ValueError => k_is
  case z_super => k_is
  case v_RINGS => exact ⟨147, _, _, _, _, by k_is, by k_is, by decide, Paired.cons ⟨_, rfl⟩ (Paired.cons ⟨_, rfl⟩ (Paired.cons ⟨_, rfl⟩ (Paired.cons ⟨_, rfl⟩ (Paired.cons ⟨_, rfl⟩ (Paired.cons ⟨_, rfl⟩ (Paired.cons ⟨_, rfl⟩ (Paired.cons ⟨_, rfl⟩ (Paired.cons ⟨_, rfl⟩ (Paired.cons ⟨_, rfl⟩ (Paired.nil))))))))))⟩
  case v_MOST_FIGURES => exact ⟨_, by k_is⟩
  case v_MOST_LIFE => exact ⟨_, by k_is⟩
  case v_LAST_MOMENT => exact ⟨_, by k_is⟩
  case v_PUT_WORD => exact ⟨_, by k_is⟩
  case v_READ_WORD => exact ⟨_, by k_is⟩
  case v_END_WORD => exact ⟨_, by k_is⟩
  case c_Gap => k_is
  case c_BillError => k_is
  case c_BadPaper => k_is
  case c_BadMeter => k_is
  case c_BadShown => k_is
  case c_BadUse => k_is
  case c_BadLife => k_is
  case k_Gap => exact ⟨by k_is, by k_is, by k_is, by k_is⟩
  case m_Gap => exact ⟨by k_is, by k_is, by k_is, by k_is⟩
  case n_0_number => k_is
  case n_0_start => k_is
  case n_0_low => k_is
  case n_0_high => k_is
  case n_0_ring => k_is
  case n_0_cap => k_is
  case n_0_least => k_is
  case n_0_turns => k_is
  case t_0_hours => exact ⟨by k_is, by k_is, by k_is⟩
  case x3 => exact ⟨by k_is, by k_is, by k_is, by k_is, by k_is, by k_is, by k_is, by k_is⟩
  case y3 => k_is
  case w3 => kit_is
  case e3 => exact { cls := ⟨_, _, _, _, _, _, _, _, _, _, _, _, _, _, _, by k_is, by decide +kernel⟩, sa := by k_is, ga := by k_is, gg := by k_is, noN := by k_is, iC := by k_is, tC := by k_is, kC := by k_is, exC := by k_is, vlC := by k_is, tyC := by k_is, hdC := by k_is, sup := by ks_is, opq := by k_is, slf := by k_is, top := by kernel_rfl, fn := ⟨"meter", "BadMeter.__init__", _, _, _, _, _, _, _, _, _, _, _, _, _, _, _, _, _, _, _, _, _, _, _, _, _, _, _, _, _, _, _, _, _, by k_is, by k_is, by k_is, by rfl, by kernel_rfl, by k_is, rfl, rfl, rfl, by kernel_rfl, by kernel_rfl, by kernel_rfl, by kernel_rfl, by kernel_rfl, by decide, by decide, by kernel_rfl, fun u v => rfl⟩ }
  case x4 => exact ⟨by k_is, by k_is, by k_is, by k_is, by k_is, by k_is, by k_is, by k_is⟩
  case y4 => k_is
  case w4 => kit_is
  case e4 => exact { cls := ⟨_, _, _, _, _, _, _, _, _, _, _, _, _, _, _, by k_is, by decide +kernel⟩, sa := by k_is, ga := by k_is, gg := by k_is, noN := by k_is, iC := by k_is, tC := by k_is, kC := by k_is, exC := by k_is, vlC := by k_is, tyC := by k_is, hdC := by k_is, sup := by ks_is, opq := by k_is, slf := by k_is, top := by kernel_rfl, fn := ⟨"shown", "BadShown.__init__", _, _, _, _, _, _, _, _, _, _, _, _, _, _, _, _, _, _, _, _, _, _, _, _, _, _, _, _, _, _, _, _, _, by k_is, by k_is, by k_is, by rfl, by kernel_rfl, by k_is, rfl, rfl, rfl, by kernel_rfl, by kernel_rfl, by kernel_rfl, by kernel_rfl, by kernel_rfl, by decide, by decide, by kernel_rfl, fun u v => rfl⟩ }
  case x5 => exact ⟨by k_is, by k_is, by k_is, by k_is, by k_is, by k_is, by k_is, by k_is⟩
  case y5 => k_is
  case w5 => kit_is
  case e5 => exact { cls := ⟨_, _, _, _, _, _, _, _, _, _, _, _, _, _, _, by k_is, by decide +kernel⟩, sa := by k_is, ga := by k_is, gg := by k_is, noN := by k_is, iC := by k_is, tC := by k_is, kC := by k_is, exC := by k_is, vlC := by k_is, tyC := by k_is, hdC := by k_is, sup := by ks_is, opq := by k_is, slf := by k_is, top := by kernel_rfl, fn := ⟨"use", "BadUse.__init__", _, _, _, _, _, _, _, _, _, _, _, _, _, _, _, _, _, _, _, _, _, _, _, _, _, _, _, _, _, _, _, _, _, by k_is, by k_is, by k_is, by rfl, by kernel_rfl, by k_is, rfl, rfl, rfl, by kernel_rfl, by kernel_rfl, by kernel_rfl, by kernel_rfl, by kernel_rfl, by decide, by decide, by kernel_rfl, fun u v => rfl⟩ }
  case x6 => exact ⟨by k_is, by k_is, by k_is, by k_is, by k_is, by k_is, by k_is, by k_is⟩
  case y6 => k_is
  case w6 => kit_is
  case e6 => exact { cls := ⟨_, _, _, _, _, _, _, _, _, _, _, _, _, _, _, by k_is, by decide +kernel⟩, sa := by k_is, ga := by k_is, gg := by k_is, noN := by k_is, iC := by k_is, tC := by k_is, kC := by k_is, exC := by k_is, vlC := by k_is, tyC := by k_is, hdC := by k_is, sup := by ks_is, opq := by k_is, slf := by k_is, top := by kernel_rfl, fn := ⟨"number", "BadLife.__init__", _, _, _, _, _, _, _, _, _, _, _, _, _, _, _, _, _, _, _, _, _, _, _, _, _, _, _, _, _, _, _, _, _, by k_is, by k_is, by k_is, by rfl, by kernel_rfl, by k_is, rfl, rfl, rfl, by kernel_rfl, by kernel_rfl, by kernel_rfl, by kernel_rfl, by kernel_rfl, by decide, by decide, by kernel_rfl, fun u v => rfl⟩ }
  case s_3_1 => exact ⟨by kernel_rfl, by kit_is⟩
  case s_3_2 => exact ⟨by kernel_rfl, by kit_is⟩
  case s_3_3 => exact ⟨by kernel_rfl, by kit_is⟩
  case s_3_4 => exact ⟨by kernel_rfl, by kit_is⟩
  case s_3_5 => exact ⟨by kernel_rfl, by kit_is⟩
  case s_3_6 => exact ⟨by kernel_rfl, by kit_is⟩
  case s_4_1 => exact ⟨by kernel_rfl, by kit_is⟩
  case s_4_2 => exact ⟨by kernel_rfl, by kit_is⟩
  case s_4_3 => exact ⟨by kernel_rfl, by kit_is⟩
  case s_4_4 => exact ⟨by kernel_rfl, by kit_is⟩
  case s_4_5 => exact ⟨by kernel_rfl, by kit_is⟩
  case s_4_6 => exact ⟨by kernel_rfl, by kit_is⟩
  case s_5_1 => exact ⟨by kernel_rfl, by kit_is⟩
  case s_5_2 => exact ⟨by kernel_rfl, by kit_is⟩
  case s_5_3 => exact ⟨by kernel_rfl, by kit_is⟩
  case s_5_4 => exact ⟨by kernel_rfl, by kit_is⟩
  case s_5_5 => exact ⟨by kernel_rfl, by kit_is⟩
  case s_5_6 => exact ⟨by kernel_rfl, by kit_is⟩
  case s_6_1 => exact ⟨by kernel_rfl, by kit_is⟩
  case s_6_2 => exact ⟨by kernel_rfl, by kit_is⟩
  case s_6_3 => exact ⟨by kernel_rfl, by kit_is⟩
  case s_6_4 => exact ⟨by kernel_rfl, by kit_is⟩
  case s_6_5 => exact ⟨by kernel_rfl, by kit_is⟩
  case s_6_6 => exact ⟨by kernel_rfl, by kit_is⟩
end Mi.K11
end

section
set_option Elab.async false
set_option linter.all false
set_option maxRecDepth 100000
set_option maxHeartbeats 8000000
namespace Mi.K11
open PySem PySem.W PySem.Spec L2 Mi
open PyProof.Rows hiding St
/-- where the plain law holds, the row holds -/
theorem join (D : Nat) (hD : 4 * (D + 1) ≤ 160) (hp : ∀ (ns : List Int) (o : Ob), ns.length ≤ 63 → (o = .fro (ns.map .int) ∨ o = .lst (ns.map .int)) → ∃ S', prg.cl (D + 1) 0 [.ref 0] [o] = .ok (.bl true) S') :
    PySem.Challenge.rw_onebill_k11_lives_and_dials_refused.Holds := by
  refine K11top (Att.attach_callB (n := 63) rfl rfl fun w s₀ s₁ mg mb fa o pm cd doc a vs ns G Y ho hd hcd hmg hobj hints hlen hbits hg => ?_)
  have KX := km_in_of Y
  have tabs := km_tabs_of Y
  have F := (fx w.params).1
  have cap : ValIs (K11top.heap_39 w.params) mg "MOST_CAP" (.int 1000000000) := by
    obtain ⟨v, h1, h2⟩ := G.X.2.val ("MOST_CAP", .int 1000000000) List.mem_cons_self
    cases h2
    exact val_int h1
  have T := pf F KX G.T.g cap
  have e0 : mg "law" = some (.ref (fas.getD 0 0)) := PySem.W.mg_of KX G.T.g F.g0
  have e1 : some (Value.ref fa) = some (Value.ref (fas.getD 0 0)) := by
    rw [← e0, ← hmg]
  cases e1
  obtain ⟨oc, od, kV, dc, pm2, an, cdv, ct, osl, l1, l2, l3, l4⟩ := F.l0
  have hr0 : Room 160 callerA := ⟨rfl, by decide, by decide⟩
  have hr : Room (4 * (D + 1)) callerA := hr0.mono hD
  refine LamX.law_callTs (cs := cs) (K := K11top.heap_39 w.params) (x := "script") KX G.T.g G.T.b G.T.builtins G.T.nolimit hg ?hT ?nT ?C G.T.bmain hobj hints (Nat.le_trans hlen (by decide)) hr
    (fun base hK hns hTb => def_ok T hTb D 0 d0 rfl (fun f D1 e X q1 q2 q3 q4 q5 => all_ok T hTb D f D1 e X q1 q2 q3 q4 q5) l1 l2 f0 rfl k0 (fun e => by cases e))
    (fun s u => .of_eq (by kernel_rfl)) ?sp ?cx
  case hT =>
    intro p hp
    rcases List.mem_cons.mp hp with z | hp
    · subst z
      exact tabs _ (by decide)
    rcases List.mem_cons.mp hp with z | hp
    · subst z
      exact tabs _ (by decide)
    cases hp
  case nT =>
    intro p hp
    rcases List.mem_cons.mp hp with z | hp
    · subst z
      kernel_rfl
    rcases List.mem_cons.mp hp with z | hp
    · subst z
      kernel_rfl
    cases hp
  case C =>
    intro p hp
    rcases List.mem_cons.mp hp with z | hp
    · subst z
      exact codeHd_of_K KX (by kernel_rfl)
    rcases List.mem_cons.mp hp with z | hp
    · subst z
      exact codeHd_of_K KX (by kernel_rfl)
    cases hp
  case sp =>
    intro H hH hS
    have ob : ∃ o, (o = Ob.fro (ns.map .int) ∨ o = Ob.lst (ns.map .int)) ∧ ∀ φ, ObR (cn (K11top.heap_39 w.params)) φ H o a := by
      rcases hS with (h | ⟨o, h⟩) | ⟨o, its, n, h1, h2, h3, h4, h5, h6⟩
      · exact ⟨_, .inr rfl, fun φ => ⟨_, h, ra_ints _ _ _ ns⟩⟩
      · exact ⟨_, .inl rfl, fun φ => .inl ⟨o, _, h, ra_ints _ _ _ ns⟩⟩
      · exact ⟨_, .inl rfl, fun φ => .inr ⟨_, ⟨o, its, n, h1, h2, h3, h4, h5, h6⟩, ra_ints _ _ _ ns⟩⟩
    obtain ⟨o, ho2, hob⟩ := ob
    obtain ⟨S', e⟩ := hp ns o hlen ho2
    refine ⟨rfl, [a], [o], [.ref 0], ⟨rfl, fun n o' a' q1 q2 => ?_, fun n m a' q1 q2 => ?_, ?_⟩, .cons (.ref rfl) .nil, ?_⟩
    · cases n with
      | zero => cases q1; cases q2; exact hob _
      | succ n => simp at q1
    · cases n with
      | zero => cases m with
        | zero => exact .inl rfl
        | succ m => simp at q2
      | succ n => simp at q1
    · have tb : ∀ (c P : Addr) (q : Str), (c, P) ∈ cs → LamX.TabS H P q := fun c P q hm => ⟨#[], hH (c, P) hm, trivial, fun pos cv h => by cases h⟩
      intro p hp
      rcases List.mem_cons.mp hp with z | hp
      · subst z
        exact tb _ _ _ (List.Mem.head _)
      rcases List.mem_cons.mp hp with z | hp
      · subst z
        exact tb _ _ _ (List.Mem.tail _ (List.Mem.head _))
      cases hp
    · have e2 : prg.cl (0 + D + 1) 0 [.ref 0] [o] = .ok (.bl true) S' := by rw [Nat.zero_add]; exact e
      rw [e]
      intro φ' H' x l r q
      cases q
      rfl
  case cx =>
    intro H e s' z
    obtain ⟨_, _, _, _, _, _, _, _, _, _, _, _, hE⟩ := z
    exact hE
end Mi.K11
end

section
set_option Elab.async false
set_option linter.all false
set_option maxRecDepth 100000
set_option maxHeartbeats 8000000
namespace Mi.K11
open PySem Mi
theorem cl_eq {d f : Nat} {D : Df} {vs : List PV} {S : Sto} (e : prg.df f = some D) (hl : vs.length = D.ps.length) : prg.cl (d + 1) f vs S = (exs (prg.ar (prg.cl d)) D.body (start1 D.n vs) S).bind finK := by
  show (match prg.df f with
    | none => M.bad
    | some D => if vs.length = D.ps.length then fin (exs (prg.ar (prg.cl d)) D.body (start1 D.n vs) S) else .bad) = _
  rw [e]
  exact if_pos hl
/-- law -/
theorem u0 (d : Nat) (x0 : PV) (S : Sto) : prg.cl (d + 1) 0 [x0] S = (exs (prg.ar (prg.cl d)) d0.body [some x0, none, none, none, none, none, none] S).bind finK := cl_eq rfl rfl
/-- _law_begun -/
theorem u1 (d : Nat) (x0 : PV) (S : Sto) : prg.cl (d + 1) 1 [x0] S = (exs (prg.ar (prg.cl d)) d1.body [some x0, none, none] S).bind finK := cl_eq rfl rfl
/-- _law_life -/
theorem u2 (d : Nat) (x0 x1 : PV) (S : Sto) : prg.cl (d + 1) 2 [x0, x1] S = (exs (prg.ar (prg.cl d)) d2.body [some x0, some x1, none, none, none, none, none] S).bind finK := cl_eq rfl rfl
/-- _law_draw -/
theorem u3 (d : Nat) (x0 x1 : PV) (S : Sto) : prg.cl (d + 1) 3 [x0, x1] S = (exs (prg.ar (prg.cl d)) d3.body [some x0, some x1, none, none, none, none] S).bind finK := cl_eq rfl rfl
/-- _law_sums_right -/
theorem u4 (d : Nat) (x0 : PV) (S : Sto) : prg.cl (d + 1) 4 [x0] S = (exs (prg.ar (prg.cl d)) d4.body [some x0, none, none, none, none] S).bind finK := cl_eq rfl rfl
/-- _law_life_right -/
theorem u5 (d : Nat) (x0 : PV) (S : Sto) : prg.cl (d + 1) 5 [x0] S = (exs (prg.ar (prg.cl d)) d5.body [some x0, none, none, none] S).bind finK := cl_eq rfl rfl
/-- _law_bent -/
theorem u6 (d : Nat) (x0 x1 : PV) (S : Sto) : prg.cl (d + 1) 6 [x0, x1] S = (exs (prg.ar (prg.cl d)) d6.body [some x0, some x1, none, none, none, none, none] S).bind finK := cl_eq rfl rfl
/-- _law_dial_right -/
theorem u7 (d : Nat) (x0 : PV) (S : Sto) : prg.cl (d + 1) 7 [x0] S = (exs (prg.ar (prg.cl d)) d7.body [some x0, none, none, none, none, none, none, none, none, none, none] S).bind finK := cl_eq rfl rfl
/-- _law_folded -/
theorem u8 (d : Nat) (x0 : PV) (S : Sto) : prg.cl (d + 1) 8 [x0] S = (exs (prg.ar (prg.cl d)) d8.body [some x0, none, none, none] S).bind finK := cl_eq rfl rfl
/-- _law_device -/
theorem u9 (d : Nat) (x0 : PV) (S : Sto) : prg.cl (d + 1) 9 [x0] S = (exs (prg.ar (prg.cl d)) d9.body [some x0, none] S).bind finK := cl_eq rfl rfl
/-- _law_power -/
theorem u10 (d : Nat) (x0 : PV) (S : Sto) : prg.cl (d + 1) 10 [x0] S = (exs (prg.ar (prg.cl d)) d10.body [some x0, none, none] S).bind finK := cl_eq rfl rfl
/-- _law_mixed -/
theorem u11 (d : Nat) (x0 x1 : PV) (S : Sto) : prg.cl (d + 1) 11 [x0, x1] S = (exs (prg.ar (prg.cl d)) d11.body [some x0, some x1, none] S).bind finK := cl_eq rfl rfl
/-- _law_gaps -/
theorem u12 (d : Nat) (x0 : PV) (S : Sto) : prg.cl (d + 1) 12 [x0] S = (exs (prg.ar (prg.cl d)) d12.body [some x0, none, none, none, none, none, none, none, none, none, none] S).bind finK := cl_eq rfl rfl
/-- _law_same -/
theorem u13 (d : Nat) (x0 x1 : PV) (S : Sto) : prg.cl (d + 1) 13 [x0, x1] S = (exs (prg.ar (prg.cl d)) d13.body [some x0, some x1, none, none] S).bind finK := cl_eq rfl rfl
/-- gaps -/
theorem u14 (d : Nat) (x0 : PV) (S : Sto) : prg.cl (d + 1) 14 [x0] S = (exs (prg.ar (prg.cl d)) d14.body [some x0, none] S).bind finK := cl_eq rfl rfl
/-- idle_hours -/
theorem u15 (d : Nat) (x0 : PV) (S : Sto) : prg.cl (d + 1) 15 [x0] S = (exs (prg.ar (prg.cl d)) d15.body [some x0, none] S).bind finK := cl_eq rfl rfl
/-- _law_fault -/
theorem u16 (d : Nat) (x0 : PV) (S : Sto) : prg.cl (d + 1) 16 [x0] S = (exs (prg.ar (prg.cl d)) d16.body [some x0, none, none, none, none] S).bind finK := cl_eq rfl rfl
/-- is_life -/
theorem u17 (d : Nat) (x0 : PV) (S : Sto) : prg.cl (d + 1) 17 [x0] S = (exs (prg.ar (prg.cl d)) d17.body [some x0] S).bind finK := cl_eq rfl rfl
/-- need_life -/
theorem u18 (d : Nat) (x0 : PV) (S : Sto) : prg.cl (d + 1) 18 [x0] S = (exs (prg.ar (prg.cl d)) d18.body [some x0, none, none, none, none] S).bind finK := cl_eq rfl rfl
/-- _law_odd -/
theorem u19 (d : Nat) (x0 : PV) (S : Sto) : prg.cl (d + 1) 19 [x0] S = (exs (prg.ar (prg.cl d)) d19.body [some x0, none] S).bind finK := cl_eq rfl rfl
/-- _law_of -/
theorem u20 (d : Nat) (x0 x1 : PV) (S : Sto) : prg.cl (d + 1) 20 [x0, x1] S = (exs (prg.ar (prg.cl d)) d20.body [some x0, some x1] S).bind finK := cl_eq rfl rfl
/-- shown_after -/
theorem u21 (d : Nat) (x0 x1 x2 : PV) (S : Sto) : prg.cl (d + 1) 21 [x0, x1, x2] S = (exs (prg.ar (prg.cl d)) d21.body [some x0, some x1, some x2] S).bind finK := cl_eq rfl rfl
/-- is_meter -/
theorem u22 (d : Nat) (x0 : PV) (S : Sto) : prg.cl (d + 1) 22 [x0] S = (exs (prg.ar (prg.cl d)) d22.body [some x0] S).bind finK := cl_eq rfl rfl
/-- _law_meter_right -/
theorem u23 (d : Nat) (x0 : PV) (S : Sto) : prg.cl (d + 1) 23 [x0] S = (exs (prg.ar (prg.cl d)) d23.body [some x0] S).bind finK := cl_eq rfl rfl
/-- gap_rows -/
theorem u24 (d : Nat) (x0 : PV) (S : Sto) : prg.cl (d + 1) 24 [x0] S = (exs (prg.ar (prg.cl d)) d24.body [some x0, none, none, none, none] S).bind finK := cl_eq rfl rfl
/-- Gap.hours -/
theorem u25 (d : Nat) (x0 : PV) (S : Sto) : prg.cl (d + 1) 25 [x0] S = (exs (prg.ar (prg.cl d)) d25.body [some x0] S).bind finK := cl_eq rfl rfl
/-- _law_row_right -/
theorem u26 (d : Nat) (x0 x1 x2 : PV) (S : Sto) : prg.cl (d + 1) 26 [x0, x1, x2] S = (exs (prg.ar (prg.cl d)) d26.body [some x0, some x1, some x2] S).bind finK := cl_eq rfl rfl
/-- is_life_row -/
theorem u27 (d : Nat) (x0 x1 x2 : PV) (S : Sto) : prg.cl (d + 1) 27 [x0, x1, x2] S = (exs (prg.ar (prg.cl d)) d27.body [some x0, some x1, some x2] S).bind finK := cl_eq rfl rfl
/-- is_shown -/
theorem u28 (d : Nat) (x0 x1 : PV) (S : Sto) : prg.cl (d + 1) 28 [x0, x1] S = (exs (prg.ar (prg.cl d)) d28.body [some x0, some x1] S).bind finK := cl_eq rfl rfl
/-- is_integer -/
theorem u29 (d : Nat) (x0 : PV) (S : Sto) : prg.cl (d + 1) 29 [x0] S = (exs (prg.ar (prg.cl d)) d29.body [some x0] S).bind finK := cl_eq rfl rfl
/-- is_from_to -/
theorem u30 (d : Nat) (x0 x1 x2 : PV) (S : Sto) : prg.cl (d + 1) 30 [x0, x1, x2] S = (exs (prg.ar (prg.cl d)) d30.body [some x0, some x1, some x2] S).bind finK := cl_eq rfl rfl
/-- _law_between -/
theorem u31 (d : Nat) (x0 x1 x2 : PV) (S : Sto) : prg.cl (d + 1) 31 [x0, x1, x2] S = (exs (prg.ar (prg.cl d)) d31.body [some x0, some x1, some x2] S).bind finK := cl_eq rfl rfl
/-- Gap.__init__ -/
theorem u32 (d : Nat) (x0 x1 x2 x3 x4 x5 : PV) (S : Sto) : prg.cl (d + 1) 32 [x0, x1, x2, x3, x4, x5] S = (exs (prg.ar (prg.cl d)) d32.body [some x0, some x1, some x2, some x3, some x4, some x5] S).bind finK := cl_eq rfl rfl
/-- _law_number -/
theorem u33 (d : Nat) (x0 : PV) (S : Sto) : prg.cl (d + 1) 33 [x0] S = (exs (prg.ar (prg.cl d)) d33.body [some x0] S).bind finK := cl_eq rfl rfl
def b0_1 : Ss := .cons (.ife (.inv (.call 5 (.cons (.call 6 (.cons (.loc 1) (.cons (.loc 4) .nil))) .nil))) (.cons (.ret (.bl false)) .nil) .nil) .nil
def b0_0 : Ss := .cons (.asg (.loc 4) (.call 2 (.cons (.loc 1) (.cons (.bin .add (.int 1) (.call 3 (.cons (.loc 1) (.cons (.int 12) .nil)))) .nil)))) (.cons (.ife (.or (.inv (.call 5 (.cons (.loc 4) .nil))) (.inv (.call 4 (.cons (.loc 4) .nil)))) (.cons (.ret (.bl false)) .nil) .nil) (.cons (.for_ [5] (.rng1 (.int 5)) b0_1) (.cons (.ife (.inv (.call 7 (.cons (.loc 1) .nil))) (.cons (.ret (.bl false)) .nil) .nil) .nil)))
theorem e0 : d0.body = (.cons 
    (.asg (.loc 1) (.call 1 (.cons (.loc 0) .nil))) (.cons 
    (.for_ [2] (.rng1 (.bin .add (.int 2) (.bi .min2 (.cons (.int 1) (.cons (.bi .len (.cons (.loc 0) .nil)) .nil))))) b0_0) (.cons 
    (.asg (.loc 3) (.bin .add (.tup (.cons (.tup (.cons (.str "put") (.cons (.int 0) (.cons (.tup (.cons (.int 3) (.cons (.int 5) .nil))) (.cons (.int 7) .nil))))) .nil)) (.bi .tuple (.cons (.comp [6] [6] (.tup (.cons (.str "read") (.cons (.bin .add (.int 1) (.loc 6)) (.cons (.int 7) .nil)))) (.rng1 (.int 39)) .no) .nil)))) (.cons 
    (.ret (.and (.call 5 (.cons (.loc 3) .nil)) (.and (.call 5 (.cons (.bin .add (.loc 3) (.tup (.cons (.tup (.cons (.str "end") (.cons (.int 50) (.cons (.int 7) .nil)))) .nil))) .nil)) (.call 5 (.cons (.slc (.loc 3) .no (.so (.int 1))) .nil))))) .nil)))) := rfl
def b2_0 : Ss := .cons (.ife (.cmp .is (.loc 5) .non) (.cons (.asg (.loc 5) (.call 9 (.cons (.loc 0) .nil))) (.cons (.exp (.meth .append (.loc 3) (.cons (.tup (.cons (.str "put") (.cons (.loc 4) (.cons (.loc 5) (.cons (.call 3 (.cons (.loc 0) (.cons (.call 10 (.cons (.idx (.loc 5) (.int 0)) .nil)) .nil))) .nil))))) .nil))) .nil)) (.cons (.aug 4 .add (.bin .add (.int 1) (.call 3 (.cons (.loc 0) (.cons (.int 9) .nil))))) (.cons (.asg (.loc 6) (.ite (.cmp .eq (.call 3 (.cons (.loc 0) (.cons (.int 4) .nil))) (.int 0)) (.str "end") (.str "read"))) (.cons (.exp (.meth .append (.loc 3) (.cons (.tup (.cons (.loc 6) (.cons (.loc 4) (.cons (.call 3 (.cons (.loc 0) (.cons (.call 10 (.cons (.idx (.loc 5) (.int 0)) .nil)) .nil))) .nil)))) .nil))) (.cons (.ife (.cmp .eq (.loc 6) (.str "end")) (.cons (.asg (.loc 5) .non) (.cons (.aug 4 .add (.call 3 (.cons (.loc 0) (.cons (.int 3) .nil)))) .nil)) .nil) .nil))))) .nil
theorem e2 : d2.body = (.cons 
    (.par [3, 4, 5] (.cons (.lst .nil) (.cons (.call 3 (.cons (.loc 0) (.cons (.int 30) .nil))) (.cons .non .nil)))) (.cons 
    (.for_ [2] (.rng1 (.loc 1)) b2_0) (.cons 
    (.ret (.bi .tuple (.cons (.loc 3) .nil))) .nil))) := rfl
def b8_0 : Ss := .cons (.asg (.idx (.loc 1) (.bin .mod (.bi .int (.cons (.loc 2) .nil)) (.int 64))) (.bin .mod (.bi .int (.cons (.bin .add (.bin .mul (.idx (.loc 1) (.bin .mod (.bi .int (.cons (.loc 2) .nil)) (.int 64))) (.int 48271)) (.loc 3)) .nil)) (.int 2147483647))) .nil
def b8_1 : Ss := .cons (.asg (.idx (.loc 1) (.loc 2)) (.bin .mod (.bi .int (.cons (.bin .add (.idx (.loc 1) (.loc 2)) (.bin .mul (.idx (.loc 1) (.bin .sub (.loc 2) (.int 1))) (.int 16807))) .nil)) (.int 2147483647))) .nil
theorem e8 : d8.body = (.cons 
    (.asg (.loc 1) (.comp [2] [2] (.bin .add (.int 17) (.loc 2)) (.rng1 (.int 64)) .no)) (.cons 
    (.for_ [2, 3] (.enm (.loc 0)) b8_0) (.cons 
    (.for_ [2] (.rng2 (.int 1) (.int 64)) b8_1) (.cons 
    (.ret (.loc 1)) .nil)))) := rfl
def b10_0 : Ss := .cons (.asg (.loc 1) (.bin .mul (.loc 1) (.int 10))) .nil
theorem e10 : d10.body = (.cons 
    (.asg (.loc 1) (.int 1)) (.cons 
    (.for_ [2] (.rng1 (.loc 0)) b10_0) (.cons 
    (.ret (.loc 1)) .nil))) := rfl
def b12_1 : Ss := .cons (.asg (.loc 9) (.bin .mul (.loc 9) (.int 10))) .nil
def b12_0 : Ss := .cons (.ife (.cmp .eq (.idx (.loc 4) (.int 0)) (.str "put")) (.cons (.asg (.loc 2) (.loc 3)) .nil) (.cons (.par [9, 10] (.cons (.bin .pow (.int 10) (.int 0)) (.cons (.idx (.idx (.idx (.loc 0) (.loc 2)) (.int 2)) (.int 1)) .nil))) (.cons (.for_ [5] (.rng1 (.idx (.idx (.idx (.loc 0) (.loc 2)) (.int 2)) (.int 0))) b12_1) (.cons (.asg (.loc 6) (.idx (.loc 0) (.bin .sub (.loc 3) (.int 1)))) (.cons (.asg (.loc 7) (.bin .mod (.bi .int (.cons (.bin .sub (.idx (.loc 4) (.neg (.int 1))) (.idx (.loc 6) (.neg (.int 1)))) .nil)) (.loc 9))) (.cons (.asg (.loc 8) (.bin .fdv (.bin .sub (.bin .mul (.loc 10) (.bin .sub (.idx (.loc 4) (.int 1)) (.idx (.loc 6) (.int 1)))) (.loc 7)) (.loc 9))) (.cons (.exp (.meth .append (.loc 1) (.cons (.tup (.cons (.bin .sub (.loc 3) (.int 1)) (.cons (.loc 2) (.cons (.idx (.loc 6) (.int 1)) (.cons (.idx (.loc 4) (.int 1)) (.cons (.loc 9) (.cons (.loc 10) (.cons (.loc 7) (.cons (.loc 8) .nil))))))))) .nil))) .nil))))))) .nil
theorem e12 : d12.body = (.cons 
    (.par [1, 2] (.cons (.lst .nil) (.cons (.int 0) .nil))) (.cons 
    (.for_ [3, 4] (.enm (.loc 0)) b12_0) (.cons 
    (.ret (.loc 1)) .nil))) := rfl
def b13_0 : Ss := .cons (.ife (.inv (.call 13 (.cons (.loc 2) (.cons (.loc 3) .nil)))) (.cons (.ret (.bl false)) .nil) .nil) .nil
theorem e13 : d13.body = (.cons 
    (.ife (.isi (.loc 1) .tuple) (.cons (.ife (.or (.inv (.isi (.loc 0) .tuple)) (.cmp .ne (.bi .len (.cons (.loc 0) .nil)) (.bi .len (.cons (.loc 1) .nil)))) (.cons (.ret (.bl false)) .nil) .nil) (.cons (.for_ [2, 3] (.zip (.loc 0) (.loc 1)) b13_0) (.cons (.ret (.bl true)) .nil))) .nil) (.cons 
    (.ife (.cmp .is (.loc 1) .non) (.cons (.ret (.cmp .is (.loc 0) .non)) .nil) .nil) (.cons 
    (.ife (.isi (.loc 1) .bool) (.cons (.ret (.and (.isi (.loc 0) .bool) (.cmp .eq (.loc 0) (.loc 1)))) .nil) .nil) (.cons 
    (.ife (.isi (.loc 1) .str) (.cons (.ret (.and (.isi (.loc 0) .str) (.cmp .eq (.loc 0) (.loc 1)))) .nil) .nil) (.cons 
    (.ret (.and (.isi (.loc 0) .int) (.and (.inv (.isi (.loc 0) .bool)) (.cmp .eq (.loc 0) (.loc 1))))) .nil))))) := rfl
def b16_0 : Ss := .cons (.ife (.inv (.call 26 (.cons (.loc 4) (.cons (.loc 1) (.cons (.loc 2) .nil))))) (.cons (.ret (.tup (.cons (.loc 3) .nil))) .nil) .nil) (.cons (.asg (.loc 2) (.idx (.loc 4) (.int 1))) (.cons (.ife (.cmp .eq (.idx (.loc 4) (.int 0)) (.str "put")) (.cons (.asg (.loc 1) (.idx (.loc 4) (.int 2))) .nil) .nil) (.cons (.ife (.cmp .eq (.idx (.loc 4) (.int 0)) (.str "end")) (.cons (.asg (.loc 1) .non) .nil) .nil) .nil)))
theorem e16 : d16.body = (.cons 
    (.ife (.or (.inv (.isi (.loc 0) .tuple)) (.or (.cmp .eq (.bi .len (.cons (.loc 0) .nil)) (.int 0)) (.cmp .gt (.bi .len (.cons (.loc 0) .nil)) (.int 40)))) (.cons (.ret (.tup (.cons .non .nil))) .nil) .nil) (.cons 
    (.asg (.tup [1, 2]) (.tup (.cons .non (.cons (.int 0) .nil)))) (.cons 
    (.for_ [3, 4] (.enm (.loc 0)) b16_0) (.cons 
    (.ret (.tup .nil)) .nil)))) := rfl
def b18_0 : Ss := .cons (.ife (.inv (.call 27 (.cons (.loc 4) (.cons (.loc 1) (.cons (.loc 2) .nil))))) (.cons (.rai 6 (.cons (.loc 3) .nil)) .nil) .nil) (.cons (.asg (.loc 2) (.idx (.loc 4) (.int 1))) (.cons (.ife (.cmp .eq (.idx (.loc 4) (.int 0)) (.glo 5)) (.cons (.asg (.loc 1) (.idx (.loc 4) (.int 2))) .nil) (.cons (.ife (.cmp .eq (.idx (.loc 4) (.int 0)) (.glo 7)) (.cons (.asg (.loc 1) .non) .nil) .nil) .nil)) .nil))
theorem e18 : d18.body = (.cons 
    (.ife (.or (.inv (.isi (.loc 0) .tuple)) (.inv (.chn .le .le (.int 1) (.bi .len (.cons (.loc 0) .nil)) (.glo 3)))) (.cons (.rai 6 (.cons .non .nil)) .nil) .nil) (.cons 
    (.asg (.tup [1, 2]) (.tup (.cons .non (.cons (.int 0) .nil)))) (.cons 
    (.for_ [3, 4] (.enm (.loc 0)) b18_0) (.cons 
    (.ret (.loc 0)) .nil)))) := rfl
def b24_0 : Ss := .cons (.ife (.cmp .eq (.idx (.loc 4) (.int 0)) (.glo 5)) (.cons (.asg (.loc 2) (.loc 3)) .nil) (.cons (.exp (.meth .append (.loc 1) (.cons (.new 0 (.cons (.bin .sub (.loc 3) (.int 1)) (.cons (.loc 2) (.cons (.idx (.idx (.loc 0) (.loc 2)) (.int 2)) (.cons (.idx (.loc 0) (.bin .sub (.loc 3) (.int 1))) (.cons (.loc 4) .nil)))))) .nil))) .nil)) .nil
theorem e24 : d24.body = (.cons 
    (.par [1, 2] (.cons (.lst .nil) (.cons (.int 0) .nil))) (.cons 
    (.for_ [3, 4] (.enm (.loc 0)) b24_0) (.cons 
    (.ret (.loc 1)) .nil))) := rfl
section
variable {β : Type} {c : Nat → List PV → Sto → M PV} {S : Sto}
@[simp ↓] theorem kw0 (w0 : PV) (k : Kp β) : (kwC prg c 14 [] ["life"] [w0] S).bind k = (c 14 [w0] S).bind k := by
  have e : kwC prg c 14 [] ["life"] [w0] S = c 14 [w0] S := by kernel_rfl
  rw [e]
@[simp ↓] theorem kw1 (w0 : PV) (k : Kp β) : (kwC prg c 17 [] ["value"] [w0] S).bind k = (c 17 [w0] S).bind k := by
  have e : kwC prg c 17 [] ["value"] [w0] S = c 17 [w0] S := by kernel_rfl
  rw [e]
@[simp ↓] theorem kw2 (w0 : PV) (k : Kp β) : (kwC prg c 18 [] ["life"] [w0] S).bind k = (c 18 [w0] S).bind k := by
  have e : kwC prg c 18 [] ["life"] [w0] S = c 18 [w0] S := by kernel_rfl
  rw [e]
@[simp ↓] theorem kw3 (w0 : PV) (k : Kp β) : (kwC prg c 15 [] ["life"] [w0] S).bind k = (c 15 [w0] S).bind k := by
  have e : kwC prg c 15 [] ["life"] [w0] S = c 15 [w0] S := by kernel_rfl
  rw [e]
@[simp ↓] theorem kw4 (w0 w1 w2 : PV) (k : Kp β) : (kwC prg c 21 [] ["use", "shown", "meter"] [w0, w1, w2] S).bind k = (c 21 [w2, w1, w0] S).bind k := by
  have e : kwC prg c 21 [] ["use", "shown", "meter"] [w0, w1, w2] S = c 21 [w2, w1, w0] S := by kernel_rfl
  rw [e]
@[simp ↓] theorem kw5 (w0 : PV) (k : Kp β) : (kwC prg c 22 [] ["value"] [w0] S).bind k = (c 22 [w0] S).bind k := by
  have e : kwC prg c 22 [] ["value"] [w0] S = c 22 [w0] S := by kernel_rfl
  rw [e]
def gv0 : PV := .tup (([1, 10, 100, 1000, 10000, 100000, 1000000, 10000000, 100000000, 1000000000] : List Int).map .int)
@[simp ↓] theorem pgv0 (k : Kp β) : (one (prg.gv 0) S).bind k = k (gv0) S := id rfl
def gv1 : PV := .int 9
@[simp ↓] theorem pgv1 (k : Kp β) : (one (prg.gv 1) S).bind k = k (.int 9) S := id rfl
def gv2 : PV := .int 1000000000
@[simp ↓] theorem pgv2 (k : Kp β) : (one (prg.gv 2) S).bind k = k (.int 1000000000) S := id rfl
def gv3 : PV := .int 40
@[simp ↓] theorem pgv3 (k : Kp β) : (one (prg.gv 3) S).bind k = k (.int 40) S := id rfl
def gv4 : PV := .int 10000
@[simp ↓] theorem pgv4 (k : Kp β) : (one (prg.gv 4) S).bind k = k (.int 10000) S := id rfl
def gv5 : PV := .str "put"
@[simp ↓] theorem pgv5 (k : Kp β) : (one (prg.gv 5) S).bind k = k (.str "put") S := id rfl
def gv6 : PV := .str "read"
@[simp ↓] theorem pgv6 (k : Kp β) : (one (prg.gv 6) S).bind k = k (.str "read") S := id rfl
def gv7 : PV := .str "end"
@[simp ↓] theorem pgv7 (k : Kp β) : (one (prg.gv 7) S).bind k = k (.str "end") S := id rfl
@[simp] theorem pfl_0_number : prg.fl 0 "number" = true := by decide +kernel
@[simp] theorem pfl_0_start : prg.fl 0 "start" = true := by decide +kernel
@[simp] theorem pfl_0_low : prg.fl 0 "low" = true := by decide +kernel
@[simp] theorem pfl_0_high : prg.fl 0 "high" = true := by decide +kernel
@[simp] theorem pfl_0_ring : prg.fl 0 "ring" = true := by decide +kernel
@[simp] theorem pfl_0_cap : prg.fl 0 "cap" = true := by decide +kernel
@[simp] theorem pfl_0_least : prg.fl 0 "least" = true := by decide +kernel
@[simp] theorem pfl_0_turns : prg.fl 0 "turns" = true := by decide +kernel
theorem pmk_0 : prg.mkr 0 = some 32 := by decide +kernel
theorem pmt_0_hours : prg.mt 0 "hours" = some 25 := by decide +kernel
end
end Mi.K11
end

section
set_option Elab.async false
set_option linter.all false
set_option maxRecDepth 100000
set_option maxHeartbeats 4000000
namespace Mi.K11
open PySem Mi
/-- whether it is an integer, and no truth value -/
def isI : PV → Bool
  | .int _ => true
  | _ => false
/-- a value that stands in the store as a list, or no place of the store -/
def okV (S : Sto) : PV → Prop
  | .ref n => (∃ l, S[n]? = some (.lst l) ∨ S[n]? = some (.fro l))
  | _ => True
@[simp] theorem isI_int (i : Int) : isI (.int i) = true := rfl
@[simp] theorem isI_bl (i : Bool) : isI (.bl i) = false := rfl
@[simp] theorem isI_non : isI .non = false := rfl
@[simp] theorem isI_str (i : Str) : isI (.str i) = false := rfl
@[simp] theorem isI_tup (i : List PV) : isI (.tup i) = false := rfl
@[simp] theorem isI_ref (i : Nat) : isI (.ref i) = false := rfl
theorem cl_number (d : Nat) (v : PV) (S : Sto) (h : okV S v) : prg.cl (d + 1) 33 [v] S = .ok (.bl (isI v)) S := by
  rw [u33]
  cases v with
  | ref n =>
    obtain ⟨l, h⟩ := h
    simp [d33, ↓z_isTlst _ _ h]
  | _ => simp [d33]
theorem cl_integer (d : Nat) (v : PV) (S : Sto) (h : okV S v) : prg.cl (d + 1) 29 [v] S = .ok (.bl (isI v)) S := by
  rw [u29]
  cases v with
  | ref n =>
    obtain ⟨l, h⟩ := h
    simp [d29, ↓z_isTlst _ _ h]
  | _ => simp [d29]
/-- an integer from lo to hi -/
def btw (v : PV) (lo hi : Int) : Bool := match v with
  | .int i => decide (lo ≤ i) && decide (i ≤ hi)
  | _ => false
theorem cl_between (d : Nat) (v : PV) (lo hi : Int) (S : Sto) (h : okV S v) : prg.cl (d + 2) 31 [v, .int lo, .int hi] S = .ok (.bl (btw v lo hi)) S := by
  rw [u31]
  cases v with
  | int i => by_cases c : lo ≤ i <;> simp [d31, ↓cps (cl_number d _ S h), btw, c]
  | _ => simp [d31, ↓cps (cl_number d _ S h), btw]
theorem cl_fromto (d : Nat) (v : PV) (lo hi : Int) (S : Sto) (h : okV S v) : prg.cl (d + 2) 30 [v, .int lo, .int hi] S = .ok (.bl (btw v lo hi)) S := by
  rw [u30]
  cases v with
  | int i => by_cases c : lo ≤ i <;> simp [d30, ↓cps (cl_integer d _ S h), btw, c]
  | _ => simp [d30, ↓cps (cl_integer d _ S h), btw]
theorem cl_power (d : Nat) (n : Nat) (h : n ≤ 9) (S : Sto) : prg.cl (d + 1) 10 [.int (n : Int)] S = .ok (.int (10 ^ n)) S := by
  rw [cl_eq (D := d10) rfl rfl]
  match n, h with
  | 0, _ => kernel_rfl
  | 1, _ => kernel_rfl
  | 2, _ => kernel_rfl
  | 3, _ => kernel_rfl
  | 4, _ => kernel_rfl
  | 5, _ => kernel_rfl
  | 6, _ => kernel_rfl
  | 7, _ => kernel_rfl
  | 8, _ => kernel_rfl
  | 9, _ => kernel_rfl
/-- a meter -/
def mtr : PV → Bool
  | .tup [a, b] => btw a 1 9 && btw b 0 1000000000
  | _ => false
theorem cl_meterR (d : Nat) (v : PV) (S : Sto) (h : okV S v) (hs : ∀ l, v = .tup l → ∀ x ∈ l, okV S x) : prg.cl (d + 3) 23 [v] S = .ok (.bl (mtr v)) S := by
  rw [u23]
  cases v with
  | ref n =>
    obtain ⟨l, h⟩ := h
    simp [d23, ↓z_isTlst _ _ h, mtr]
  | tup l =>
    match l, hs with
    | [], _ => simp [d23, mtr]
    | [_], _ => simp [d23, mtr]
    | _ :: _ :: _ :: t, _ =>
      have c : ¬ ((t.length : Int) + 1 + 1 + 1 = 2) := by omega
      simp [c, d23, mtr]
    | [a, b], hs =>
      have ha := hs _ rfl a (by simp)
      have hb := hs _ rfl b (by simp)
      cases c : btw a 1 9 <;> simp [d23, mtr, ↓cps (cl_between d _ _ _ S ha), ↓cps (cl_between d _ _ _ S hb), c]
  | _ => simp [d23, mtr]
end Mi.K11
end

section
set_option Elab.async false
set_option linter.all false
set_option maxRecDepth 100000
set_option maxHeartbeats 4000000
namespace Mi.K11
open PySem Mi
mutual
/-- a value whose places of the store are lists, all the way down -/
def okT (S : Sto) : PV → Prop
  | .ref n => ∃ l, S[n]? = some (.lst l) ∨ S[n]? = some (.fro l)
  | .tup l => okL S l
  | _ => True
def okL (S : Sto) : List PV → Prop
  | [] => True
  | v :: l => okT S v ∧ okL S l
end
theorem okV_of {S : Sto} {v : PV} (h : okT S v) : okV S v := by
  cases v with
  | ref n => rw [okT] at h; exact h
  | _ => trivial
theorem okL_mem {S : Sto} {l : List PV} (h : okL S l) : ∀ x ∈ l, okT S x := by
  induction l with
  | nil => intro x hx; cases hx
  | cons v l ih =>
    rw [okL] at h
    intro x hx
    rcases List.mem_cons.mp hx with e | e
    · exact e ▸ h.1
    · exact ih h.2 x e
theorem okL_of {S : Sto} {l : List PV} (h : ∀ x ∈ l, okT S x) : okL S l := by
  induction l with
  | nil => rw [okL]; trivial
  | cons v l ih => rw [okL]; exact ⟨h v List.mem_cons_self, ih fun x hx => h x (List.mem_cons_of_mem _ hx)⟩
theorem okT_tup {S : Sto} {l : List PV} : okT S (.tup l) ↔ ∀ x ∈ l, okT S x := by
  rw [okT]
  exact ⟨okL_mem, okL_of⟩
theorem cl_meterP (d : Nat) (v : PV) (S : Sto) (h : okT S v) : prg.cl (d + 3) 22 [v] S = .ok (.bl (mtr v)) S := by
  rw [u22]
  cases v with
  | ref n =>
    rw [okT] at h
    obtain ⟨l, h⟩ := h
    simp [d22, ↓z_isTlst _ _ h, mtr]
  | tup l =>
    rw [okT_tup] at h
    match l, h with
    | [], _ => simp [d22, mtr]
    | [_], _ => simp [d22, mtr]
    | _ :: _ :: _ :: t, _ =>
      have c : ¬ ((t.length : Int) + 1 + 1 + 1 = 2) := by omega
      simp [c, d22, mtr]
    | [a, b], hs =>
      have ha := okV_of (hs a (by simp))
      have hb := okV_of (hs b (by simp))
      cases c : btw a 1 9 <;> simp [d22, mtr, ↓cps (cl_fromto d _ _ _ S ha), ↓cps (cl_fromto d _ _ _ S hb), c]
  | _ => simp [d22, mtr]
theorem cl_meterL (d : Nat) (v : PV) (S : Sto) (h : okT S v) : prg.cl (d + 3) 23 [v] S = .ok (.bl (mtr v)) S :=
  cl_meterR d v S (okV_of h) fun l e x hx => okV_of (okT_tup.mp (e ▸ h) x hx)
theorem mtr_iff {v : PV} : mtr v = true ↔ ∃ (f : Nat) (c : Int), v = .tup [.int f, .int c] ∧ 1 ≤ f ∧ f ≤ 9 ∧ 0 ≤ c ∧ c ≤ 1000000000 := by
  constructor
  · intro h
    unfold mtr at h
    split at h
    · rename_i a b
      unfold btw at h
      cases a with
      | int i => cases b with
        | int j =>
          simp at h
          refine ⟨i.toNat, j, ?_, ?_, ?_, ?_, ?_⟩
          · rw [Int.toNat_of_nonneg (by omega)]
          all_goals omega
        | _ => simp at h
      | _ => simp at h
    · cases h
  · rintro ⟨f, c, rfl, h1, h2, h3, h4⟩
    simp [mtr, btw]
    omega
/-- what the dial of a meter may show -/
def shw (m v : PV) : Bool := match m with
  | .tup (.int f :: _) => btw v 0 (10 ^ f.toNat - 1)
  | _ => false
theorem ring_at (f : Nat) (h : f ≤ 9) {β : Type} {S : Sto} (k : Kp β) : (opI gv0 (.int f) S).bind k = k (.int (10 ^ f)) S := by
  match f, h with
  | 0, _ => simp [gv0]
  | 1, _ => simp [gv0]
  | 2, _ => simp [gv0]
  | 3, _ => simp [gv0]
  | 4, _ => simp [gv0]
  | 5, _ => simp [gv0]
  | 6, _ => simp [gv0]
  | 7, _ => simp [gv0]
  | 8, _ => simp [gv0]
  | 9, _ => simp [gv0]
theorem cl_shown (d : Nat) (m v : PV) (S : Sto) (hm : mtr m = true) (h : okV S v) : prg.cl (d + 3) 28 [m, v] S = .ok (.bl (shw m v)) S := by
  obtain ⟨f, c, rfl, h1, h2, h3, h4⟩ := mtr_iff.mp hm
  rw [u28]
  simp [d28, ↓ring_at f h2, ↓cps (cl_fromto d v 0 (10 ^ f - 1) S h), shw]
/-- whether a row may come next -/
def rowOk (row dev : PV) (t : Int) : Bool := match row with
  | .tup (.str w :: b :: c :: r) => (match dev with
    | .non => decide (w = "put") && (match r with
      | [e] => btw b t 10000 && mtr c && shw c e
      | _ => false)
    | _ => r.isEmpty && (decide (w = "read") || decide (w = "end")) && btw b (t + 1) 10000 && shw dev c)
  | _ => false
theorem power_m {m : PV} {f : Nat} {c : Int} (d : Nat) (S : Sto) (h2 : f ≤ 9) {β : Type} (k : Kp β) : (prg.cl (d + 1) 10 [.int f] S).bind k = k (.int (10 ^ f)) S := cps (cl_power d f h2 S) k
theorem isIn_re (S : Sto) (w : Str) : isIn S (.str w) (.tup [.str "read", .str "end"]) = some (decide (w = "read") || decide (w = "end")) := by
  have e : ∀ a b : Str, (a == b) = decide (b = a) := fun a b => by
    by_cases h : a = b
    · subst h; simp
    · simp [h, Ne.symm h]
  simp [isIn, items, flat, eqF, e]
theorem put_ne_read : ¬ (("put" : Str) = "read") := by decide
theorem put_ne_end : ¬ (("put" : Str) = "end") := by decide
theorem rowR_none (d : Nat) (w : Str) (b c : PV) (r : List PV) (t : Int) (S : Sto) (hb : okV S b) (hc : okT S c) (hs : ∀ x ∈ r, okT S x) : prg.cl (d + 4) 26 [.tup (.str w :: b :: c :: r), .non, .int t] S = .ok (.bl (rowOk (.tup (.str w :: b :: c :: r)) .non t)) S := by
  rw [u26]
  have c3 : ¬ ((r.length : Int) + 1 + 1 + 1 < 3) := by omega
  by_cases hw : w = "put"
  · match r, hs with
    | [], _ => simp [d26, rowOk, hw]
    | _ :: _ :: r, _ =>
      have c4 : ¬ ((r.length : Int) + 1 + 1 + 1 + 1 + 1 = 4) := by omega
      have c5 : ¬ ((r.length : Int) + 1 + 1 + 1 + 1 + 1 < 3) := by omega
      simp [d26, rowOk, hw, c4, c5]
    | [e], hs =>
      have he := okV_of (hs e (by simp))
      cases h1 : btw b t 10000
      · simp [d26, rowOk, hw, ↓cps (cl_between (d + 1) _ _ _ S hb), h1]
      · cases h2 : mtr c
        · simp [d26, rowOk, hw, ↓cps (cl_between (d + 1) _ _ _ S hb), h1, ↓cps (cl_meterL d _ S hc), h2]
        · obtain ⟨f, g, rfl, k1, k2, k3, k4⟩ := mtr_iff.mp h2
          simp [d26, rowOk, hw, ↓cps (cl_between (d + 1) _ _ _ S hb), h1, ↓cps (cl_meterL d _ S hc), h2, ↓cps (cl_power (d + 2) f k2 S), ↓cps (cl_between (d + 1) _ _ _ S he), shw]
  · simp [d26, rowOk, hw, c3]
theorem rowR_some (d : Nat) (w : Str) (b c : PV) (r : List PV) (f : Nat) (g : Int) (k2 : f ≤ 9) (t : Int) (S : Sto) (hb : okV S b) (hc : okV S c) : prg.cl (d + 4) 26 [.tup (.str w :: b :: c :: r), .tup [.int f, .int g], .int t] S = .ok (.bl (rowOk (.tup (.str w :: b :: c :: r)) (.tup [.int f, .int g]) t)) S := by
  rw [u26]
  match r with
  | e :: r =>
    have c4 : ¬ ((r.length : Int) + 1 + 1 + 1 + 1 = 3) := by omega
    have c5 : ¬ ((r.length : Int) + 1 + 1 + 1 + 1 < 3) := by omega
    simp [d26, rowOk, c4, c5]
  | [] =>
    by_cases w1 : w = "read"
    · cases h1 : btw b (t + 1) 10000 <;>
        simp [d26, rowOk, w1, ↓cps (cl_between (d + 1) _ _ _ S hb), h1, ↓cps (cl_power (d + 2) f k2 S), ↓cps (cl_between (d + 1) _ _ _ S hc), shw]
    · by_cases w2 : w = "end"
      · cases h1 : btw b (t + 1) 10000 <;>
          simp [d26, rowOk, w1, w2, ↓cps (cl_between (d + 1) _ _ _ S hb), h1, ↓cps (cl_power (d + 2) f k2 S), ↓cps (cl_between (d + 1) _ _ _ S hc), shw]
      · simp [d26, rowOk, w1, w2]
theorem cl_rowR (d : Nat) (row dev : PV) (t : Int) (S : Sto) (hr : okT S row) (hd : dev = .non ∨ mtr dev = true) : prg.cl (d + 4) 26 [row, dev, .int t] S = .ok (.bl (rowOk row dev t)) S := by
  cases row with
  | ref n =>
    rw [okT] at hr
    obtain ⟨l, h⟩ := hr
    rw [u26]
    simp [d26, ↓z_isTlst _ _ h, rowOk]
  | tup l =>
    rw [okT_tup] at hr
    match l, hr with
    | [], _ => rw [u26]; simp [d26, rowOk]
    | [_], _ => rw [u26]; simp [d26, rowOk]
    | [_, _], _ => rw [u26]; simp [d26, rowOk]
    | a :: b :: c :: r, hs =>
      have hb := okV_of (hs b (by simp))
      have hc := hs c (by simp)
      have c3 : ¬ ((r.length : Int) + 1 + 1 + 1 < 3) := by omega
      cases a with
      | str w =>
        rcases hd with rfl | hm
        · exact rowR_none d w b c r t S hb hc fun x hx => hs x (by simp [hx])
        · obtain ⟨f, g, rfl, k1, k2, k3, k4⟩ := mtr_iff.mp hm
          exact rowR_some d w b c r f g k2 t S hb (okV_of hc)
      | ref n =>
        have ha := hs _ List.mem_cons_self
        rw [okT] at ha
        obtain ⟨l, h⟩ := ha
        rw [u26]
        simp [d26, ↓z_isTlst _ _ h, rowOk, c3]
      | _ => rw [u26]; simp [d26, rowOk, c3]
  | _ => rw [u26]; simp [d26, rowOk]
theorem cl_rowP (d : Nat) (row dev : PV) (t : Int) (S : Sto) (hr : okT S row) (hd : dev = .non ∨ mtr dev = true) : prg.cl (d + 4) 27 [row, dev, .int t] S = .ok (.bl (rowOk row dev t)) S := by
  rw [u27]
  cases row with
  | ref n =>
    rw [okT] at hr
    obtain ⟨l, h⟩ := hr
    simp [d27, ↓z_isTlst _ _ h, rowOk]
  | tup l =>
    rw [okT_tup] at hr
    match l, hr with
    | [], _ => simp [d27, rowOk]
    | [_], _ => simp [d27, rowOk]
    | [_, _], _ => simp [d27, rowOk]
    | a :: b :: c :: r, hs =>
      have hb := okV_of (hs b (by simp))
      have hc := hs c (by simp)
      have hc' := okV_of hc
      have c3 : ¬ ((r.length : Int) + 1 + 1 + 1 < 3) := by omega
      cases a with
      | str w =>
        rcases hd with rfl | hm
        · by_cases hw : w = "put"
          · match r, hs with
            | [], _ => simp [d27, rowOk, hw]
            | _ :: _ :: r, _ =>
              have c4 : ¬ ((r.length : Int) + 1 + 1 + 1 + 1 + 1 = 4) := by omega
              have c5 : ¬ ((r.length : Int) + 1 + 1 + 1 + 1 + 1 < 3) := by omega
              simp [d27, rowOk, hw, c4, c5]
            | [e], hs =>
              have he := okV_of (hs e (by simp))
              cases h1 : btw b t 10000
              · simp [d27, rowOk, hw, ↓cps (cl_fromto (d + 1) _ _ _ S hb), h1]
              · cases h2 : mtr c
                · simp [d27, rowOk, hw, ↓cps (cl_fromto (d + 1) _ _ _ S hb), h1, ↓cps (cl_meterP d _ S hc), h2]
                · simp [d27, rowOk, hw, ↓cps (cl_fromto (d + 1) _ _ _ S hb), h1, ↓cps (cl_meterP d _ S hc), h2, ↓cps (cl_shown d c e S h2 he)]
          · simp [d27, rowOk, hw, c3]
        · have hn : isN dev = false := by obtain ⟨f, g, rfl, k1, k2, k3, k4⟩ := mtr_iff.mp hm; rfl
          have hro : rowOk (.tup (.str w :: b :: c :: r)) dev t = (r.isEmpty && (decide (w = "read") || decide (w = "end")) && btw b (t + 1) 10000 && shw dev c) := by obtain ⟨f, g, rfl, k1, k2, k3, k4⟩ := mtr_iff.mp hm; rfl
          rw [hro]
          by_cases w1 : (decide (w = "read") || decide (w = "end")) = true
          · match r, hs with
            | e :: r, _ =>
              have c4 : ¬ ((r.length : Int) + 1 + 1 + 1 + 1 = 3) := by omega
              have c5 : ¬ ((r.length : Int) + 1 + 1 + 1 + 1 < 3) := by omega
              simp [d27, c4, c5, hn, isIn_re, w1]
            | [], _ =>
              cases h1 : btw b (t + 1) 10000 <;>
                simp [d27, hn, isIn_re, w1, ↓cps (cl_fromto (d + 1) _ _ _ S hb), h1, ↓cps (cl_shown d dev c S hm hc')]
          · have w2 : (decide (w = "read") || decide (w = "end")) = false := by simpa using w1
            simp [d27, hn, isIn_re, w2, c3]
      | ref n =>
        have ha := hs _ List.mem_cons_self
        rw [okT] at ha
        obtain ⟨l, h⟩ := ha
        simp [d27, ↓z_isTlst _ _ h, rowOk, c3]
      | _ => simp [d27, rowOk, c3]
  | _ => simp [d27, rowOk]
end Mi.K11
end

section
set_option Elab.async false
set_option linter.all false
set_option maxRecDepth 100000
set_option maxHeartbeats 4000000
namespace Mi.K11
open PySem Mi
/-! ### typed lives -/
inductive Rw where
  | put (t : Int) (f : Nat) (c v : Int)
  | red (e : Bool) (t v : Int)
def wrd : Bool → Str
  | true => "end"
  | false => "read"
theorem wrd_true : wrd true = "end" := rfl
theorem wrd_false : wrd false = "read" := rfl
theorem wrd_put (e : Bool) : ¬ wrd e = "put" := by cases e <;> simp [wrd]
def Rw.pv : Rw → PV
  | .put t f c v => .tup [.str "put", .int t, .tup [.int f, .int c], .int v]
  | .red e t v => .tup [.str (wrd e), .int t, .int v]
def devP : Option (Nat × Int) → PV
  | none => .non
  | some (f, c) => .tup [.int f, .int c]
def devG : Option (Nat × Int) → Prop
  | none => True
  | some (f, c) => 1 ≤ f ∧ f ≤ 9 ∧ 0 ≤ c ∧ c ≤ 1000000000
def good : List Rw → Option (Nat × Int) → Int → Prop
  | [], _, _ => True
  | .put t' f c v :: l, none, t => devG (some (f, c)) ∧ t ≤ t' ∧ t' ≤ 10000 ∧ 0 ≤ v ∧ v ≤ 10 ^ f - 1 ∧ good l (some (f, c)) t'
  | .red e t' v :: l, some (f, c), t => t + 1 ≤ t' ∧ t' ≤ 10000 ∧ 0 ≤ v ∧ v ≤ 10 ^ f - 1 ∧ good l (if e then none else some (f, c)) t'
  | _, _, _ => False
/-! ### the walk over any rows -/
def mom : PV → Int
  | .tup (_ :: .int m :: _) => m
  | _ => 0
def nxd (row dev : PV) : PV := match row with
  | .tup (.str w :: _ :: c :: _) => if w = "put" then c else if w = "end" then .non else dev
  | _ => dev
def walk : List PV → PV → Int → Nat → Option Nat
  | [], _, _, _ => none
  | row :: l, dev, t, i => if rowOk row dev t = true then walk l (nxd row dev) (mom row) (i + 1) else some i
theorem btw_iff {v : PV} {lo hi : Int} : btw v lo hi = true ↔ ∃ i : Int, v = .int i ∧ lo ≤ i ∧ i ≤ hi := by
  cases v <;> simp [btw]
theorem dev_of {dev : PV} (h : dev = .non ∨ mtr dev = true) : ∃ D, dev = devP D ∧ devG D := by
  rcases h with rfl | h
  · exact ⟨none, rfl, trivial⟩
  · obtain ⟨f, c, rfl, h2⟩ := mtr_iff.mp h
    exact ⟨some (f, c), rfl, h2⟩
theorem devG_ite (e : Bool) {p : Nat × Int} (h : devG (some p)) : devG (if e then none else some p) := by
  cases e
  · exact h
  · trivial
theorem devP_ok {D : Option (Nat × Int)} (h : devG D) : devP D = .non ∨ mtr (devP D) = true := by
  cases D with
  | none => exact .inl rfl
  | some p => exact .inr (mtr_iff.mpr ⟨p.1, p.2, rfl, h⟩)
/-- a row that may come next, typed -/
theorem rowOk_typed {row : PV} {D : Option (Nat × Int)} {t : Int} (hD : devG D) (h : rowOk row (devP D) t = true) : ∃ r : Rw, row = r.pv ∧ ((∃ t' f c v, r = .put t' f c v ∧ D = none ∧ devG (some (f, c)) ∧ t ≤ t' ∧ t' ≤ 10000 ∧ 0 ≤ v ∧ v ≤ 10 ^ f - 1) ∨ (∃ e t' v f c, r = .red e t' v ∧ D = some (f, c) ∧ t + 1 ≤ t' ∧ t' ≤ 10000 ∧ 0 ≤ v ∧ v ≤ 10 ^ f - 1)) := by
  unfold rowOk at h
  split at h
  · rename_i w b c r
    cases D with
    | none =>
      simp only [devP, Bool.and_eq_true, decide_eq_true_eq] at h
      obtain ⟨rfl, h⟩ := h
      match r, h with
      | [e], h =>
        simp only [Bool.and_eq_true] at h
        obtain ⟨⟨h1, h2⟩, h3⟩ := h
        obtain ⟨t', rfl, h4, h5⟩ := btw_iff.mp h1
        obtain ⟨f, g, rfl, h6⟩ := mtr_iff.mp h2
        rw [shw] at h3
        obtain ⟨v, rfl, h7, h8⟩ := btw_iff.mp h3
        exact ⟨.put t' f g v, rfl, .inl ⟨t', f, g, v, rfl, rfl, h6, h4, h5, h7, h8⟩⟩
    | some p =>
      obtain ⟨f, g⟩ := p
      simp only [devP, Bool.and_eq_true, Bool.or_eq_true, decide_eq_true_eq, List.isEmpty_iff] at h
      obtain ⟨⟨⟨rfl, h0⟩, h1⟩, h2⟩ := h
      obtain ⟨t', rfl, h4, h5⟩ := btw_iff.mp h1
      rw [shw] at h2
      obtain ⟨v, rfl, h7, h8⟩ := btw_iff.mp h2
      rcases h0 with rfl | rfl
      · exact ⟨.red false t' v, rfl, .inr ⟨false, t', v, f, g, rfl, rfl, h4, h5, h7, h8⟩⟩
      · exact ⟨.red true t' v, rfl, .inr ⟨true, t', v, f, g, rfl, rfl, h4, h5, h7, h8⟩⟩
  · cases h
theorem nxd_put (t' : Int) (f : Nat) (c v : Int) : nxd (Rw.put t' f c v).pv (devP none) = devP (some (f, c)) := by simp [Rw.pv, nxd, devP]
theorem nxd_red (e : Bool) (t' v : Int) (f : Nat) (c : Int) : nxd (Rw.red e t' v).pv (devP (some (f, c))) = devP (if e then none else some (f, c)) := by cases e <;> simp [Rw.pv, nxd, devP, wrd]
theorem mom_put (t' : Int) (f : Nat) (c v : Int) : mom (Rw.put t' f c v).pv = t' := rfl
theorem mom_red (e : Bool) (t' v : Int) : mom (Rw.red e t' v).pv = t' := rfl
theorem nxd_ok {row : PV} {D : Option (Nat × Int)} {t : Int} (hD : devG D) (h : rowOk row (devP D) t = true) : ∃ D', nxd row (devP D) = devP D' ∧ devG D' := by
  obtain ⟨r, rfl, h | h⟩ := rowOk_typed hD h
  · obtain ⟨t', f, c, v, rfl, rfl, h2, _⟩ := h
    exact ⟨some (f, c), by simp [Rw.pv, nxd, devP], h2⟩
  · obtain ⟨e, t', v, f, c, rfl, rfl, _⟩ := h
    cases e
    · exact ⟨some (f, c), by simp [Rw.pv, nxd, devP, wrd], hD⟩
    · exact ⟨none, by simp [Rw.pv, nxd, devP, wrd], trivial⟩
theorem walk_typed : ∀ (l : List PV) (D : Option (Nat × Int)) (t : Int) (i : Nat), devG D → walk l (devP D) t i = none → ∃ rs : List Rw, l = rs.map Rw.pv ∧ good rs D t := by
  intro l
  induction l with
  | nil => intro D t i _ _; exact ⟨[], rfl, trivial⟩
  | cons row l ih =>
    intro D t i hD h
    rw [walk] at h
    by_cases c : rowOk row (devP D) t = true
    · rw [if_pos c] at h
      obtain ⟨r, rfl, h' | h'⟩ := rowOk_typed hD c
      · obtain ⟨t', f, g, v, rfl, rfl, h1, h2⟩ := h'
        have e : nxd (Rw.put t' f g v).pv (devP none) = devP (some (f, g)) := by simp [Rw.pv, nxd, devP]
        rw [e] at h
        obtain ⟨rs, rfl, h3⟩ := ih _ _ _ h1 h
        exact ⟨.put t' f g v :: rs, rfl, h1, h2.1, h2.2.1, h2.2.2.1, h2.2.2.2, h3⟩
      · obtain ⟨e, t', v, f, g, rfl, rfl, h2⟩ := h'
        have e' : nxd (Rw.red e t' v).pv (devP (some (f, g))) = devP (if e then none else some (f, g)) := by cases e <;> simp [Rw.pv, nxd, devP, wrd]
        have h1 : devG (if e then none else some (f, g)) := devG_ite e hD
        rw [e'] at h
        obtain ⟨rs, rfl, h3⟩ := ih _ _ _ h1 h
        exact ⟨.red e t' v :: rs, rfl, h2.1, h2.2.1, h2.2.2.1, h2.2.2.2, h3⟩
    · rw [if_neg c] at h
      cases h
theorem good_walk : ∀ (rs : List Rw) (D : Option (Nat × Int)) (t : Int) (i : Nat), devG D → good rs D t → walk (rs.map Rw.pv) (devP D) t i = none := by
  intro rs
  induction rs with
  | nil => intro D t i _ _; rfl
  | cons r rs ih =>
    intro D t i hD h
    rw [List.map_cons, walk]
    cases r with
    | put t' f c v =>
      cases D with
      | some p => simp [good] at h
      | none =>
        obtain ⟨h1, h2, h3, h4, h5, h6⟩ := h
        have e : rowOk (Rw.put t' f c v).pv (devP none) t = true := by
          have hm : mtr (.tup [.int f, .int c]) = true := mtr_iff.mpr ⟨f, c, rfl, h1⟩
          simp [Rw.pv, devP, rowOk, hm, btw, shw, h2, h3, h4, h5]
        rw [if_pos e]
        have e2 : nxd (Rw.put t' f c v).pv (devP none) = devP (some (f, c)) := by simp [Rw.pv, nxd, devP]
        rw [e2]
        exact ih _ _ _ h1 h6
    | red e t' v =>
      cases D with
      | none => simp [good] at h
      | some p =>
        obtain ⟨f, c⟩ := p
        obtain ⟨h2, h3, h4, h5, h6⟩ := h
        have e1 : rowOk (Rw.red e t' v).pv (devP (some (f, c))) t = true := by
          cases e <;> simp [Rw.pv, devP, rowOk, wrd, btw, shw, h2, h3, h4, h5]
        rw [if_pos e1]
        have e2 : nxd (Rw.red e t' v).pv (devP (some (f, c))) = devP (if e then none else some (f, c)) := by cases e <;> simp [Rw.pv, nxd, devP, wrd]
        rw [e2]
        exact ih _ _ _ (devG_ite e hD) h6
/-! ### the law's walk and the program's -/
def fltV : Option Nat → PV
  | none => .tup []
  | some j => .tup [.int j]
theorem fault_walk (d : Nat) (v : PV) (S : Sto) : ∀ (l : List PV) (i : Nat) (D : Option (Nat × Int)) (t : Int) (x3 x4 : Option PV), (∀ x ∈ l, okT S x) → devG D →
    ((loopR (fun env S => exs (prg.ar (prg.cl (d + 4))) b16_0 env S) [3, 4] (enmF i l) [some v, some (devP D), some (.int t), x3, x4] S).bind fun r S => (seqK (exs (prg.ar (prg.cl (d + 4))) (.cons (.ret (.tup .nil)) .nil)) r S).bind finK) = .ok (fltV (walk l (devP D) t i)) S := by
  intro l
  induction l with
  | nil => intro i D t x3 x4 _ _; rw [enmF, z_loopNil]; simp [walk, fltV]
  | cons row l ih =>
    intro i D t x3 x4 hl hD
    have hr := hl row List.mem_cons_self
    rw [enmF, z_loopCons _ _ _ _ (env' := [some v, some (devP D), some (.int t), some (.int i), some row]) rfl, walk]
    by_cases c : rowOk row (devP D) t = true
    · rw [if_pos c]
      have hl' := fun x hx => hl x (List.mem_cons_of_mem _ hx)
      obtain ⟨r, rfl, h' | h'⟩ := rowOk_typed hD c
      · obtain ⟨t', f, g, w, rfl, rfl, h1, _⟩ := h'
        have z := fun x3 x4 => ih (i + 1) (some (f, g)) t' x3 x4 hl' h1
        rw [nxd_put, mom_put]
        simp only [Rw.pv, devP] at hr c z ⊢
        simp [b16_0, ↓cps (cl_rowR d _ _ t S hr (.inl rfl)), c]
        exact z _ _
      · obtain ⟨e, t', w, f, g, rfl, rfl, _⟩ := h'
        have z := fun x3 x4 => ih (i + 1) (if e then none else some (f, g)) t' x3 x4 hl' (devG_ite e hD)
        rw [nxd_red, mom_red]
        have hd := devP_ok hD
        cases e
        · simp only [Rw.pv, devP, wrd_false, Bool.false_eq_true, if_false] at hr c z hd ⊢
          simp [b16_0, ↓cps (cl_rowR d _ _ t S hr hd), c]
          exact z _ _
        · simp only [Rw.pv, devP, wrd_true, if_true] at hr c z hd ⊢
          simp [b16_0, ↓cps (cl_rowR d _ _ t S hr hd), c]
          exact z _ _
    · rw [if_neg c]
      have c' : rowOk row (devP D) t = false := by simpa using c
      simp [b16_0, ↓cps (cl_rowR d row _ t S hr (devP_ok hD)), c', fltV]
end Mi.K11
end

section
set_option Elab.async false
set_option linter.all false
set_option maxRecDepth 100000
set_option maxHeartbeats 4000000
namespace Mi.K11
open PySem Mi
/-- the number of the first wrong row, by any value; none: a life -/
def wrong : PV → Option PV
  | .tup l => if l.length = 0 ∨ 40 < l.length then some .non else (walk l .non 0 0).map fun j : Nat => PV.int (j : Int)
  | _ => some .non
def flt (v : PV) : PV := match wrong v with
  | none => .tup []
  | some x => .tup [x]
theorem cl_fault (d : Nat) (v : PV) (S : Sto) (h : okT S v) : prg.cl (d + 5) 16 [v] S = .ok (flt v) S := by
  rw [u16, e16]
  cases v with
  | ref n =>
    rw [okT] at h
    obtain ⟨l, h⟩ := h
    simp [↓z_isTlst _ _ h, flt, wrong]
  | tup l =>
    rw [okT_tup] at h
    by_cases c1 : l.length = 0
    · simp [flt, wrong, c1]
    · have c1' : ¬ ((l.length : Int) = 0) := by omega
      by_cases c2 : 40 < l.length
      · have c2' : (40 : Int) < l.length := by omega
        simp [flt, wrong, c1, c1', c2, c2']
      · have c2' : ¬ (40 : Int) < l.length := by omega
        have z := fault_walk d (.tup l) S l 0 none 0 none none h trivial
        rw [← enmP_eq] at z
        have e : flt (.tup l) = fltV (walk l .non 0 0) := by
          have c1'' : ¬ l = [] := fun e => c1 (by rw [e]; rfl)
          simp only [flt, wrong, c1, c2, or_self, if_false]
          cases walk l .non 0 0 <;> rfl
        rw [e]
        have c1'' : ¬ l = [] := fun e => c1 (by rw [e]; rfl)
        simp only [devP] at z
        simp [c1'', c2']
        exact z
  | _ => simp [flt, wrong]
def ndR (v : PV) (S : Sto) : Option Nat → M PV
  | none => .ok v S
  | some j => .exc 6 (.int j) S
theorem need_walk (d : Nat) (v : PV) (S : Sto) : ∀ (l : List PV) (i : Nat) (D : Option (Nat × Int)) (t : Int) (x3 x4 : Option PV), (∀ x ∈ l, okT S x) → devG D →
    ((loopR (fun env S => exs (prg.ar (prg.cl (d + 4))) b18_0 env S) [3, 4] (enmF i l) [some v, some (devP D), some (.int t), x3, x4] S).bind fun r S => (seqK (exs (prg.ar (prg.cl (d + 4))) (.cons (.ret (.loc 0)) .nil)) r S).bind finK) = ndR v S (walk l (devP D) t i) := by
  intro l
  induction l with
  | nil => intro i D t x3 x4 _ _; rw [enmF, z_loopNil]; simp [walk, ndR]
  | cons row l ih =>
    intro i D t x3 x4 hl hD
    have hr := hl row List.mem_cons_self
    rw [enmF, z_loopCons _ _ _ _ (env' := [some v, some (devP D), some (.int t), some (.int i), some row]) rfl, walk]
    by_cases c : rowOk row (devP D) t = true
    · rw [if_pos c]
      have hl' := fun x hx => hl x (List.mem_cons_of_mem _ hx)
      obtain ⟨r, rfl, h' | h'⟩ := rowOk_typed hD c
      · obtain ⟨t', f, g, w, rfl, rfl, h1, _⟩ := h'
        have z := fun x3 x4 => ih (i + 1) (some (f, g)) t' x3 x4 hl' h1
        rw [nxd_put, mom_put]
        simp only [Rw.pv, devP] at hr c z ⊢
        simp [b18_0, ↓cps (cl_rowP d _ _ t S hr (.inl rfl)), c]
        exact z _ _
      · obtain ⟨e, t', w, f, g, rfl, rfl, _⟩ := h'
        have z := fun x3 x4 => ih (i + 1) (if e then none else some (f, g)) t' x3 x4 hl' (devG_ite e hD)
        rw [nxd_red, mom_red]
        have hd := devP_ok hD
        cases e
        · simp only [Rw.pv, devP, wrd_false, Bool.false_eq_true, if_false] at hr c z hd ⊢
          simp [b18_0, ↓cps (cl_rowP d _ _ t S hr hd), c]
          exact z _ _
        · simp only [Rw.pv, devP, wrd_true, if_true] at hr c z hd ⊢
          simp [b18_0, ↓cps (cl_rowP d _ _ t S hr hd), c]
          exact z _ _
    · rw [if_neg c]
      have c' : rowOk row (devP D) t = false := by simpa using c
      simp [b18_0, ↓cps (cl_rowP d row _ t S hr (devP_ok hD)), c', ndR]
theorem cl_need (d : Nat) (v : PV) (S : Sto) (h : okT S v) : prg.cl (d + 5) 18 [v] S = match wrong v with
    | none => .ok v S
    | some x => .exc 6 x S := by
  rw [u18, e18]
  cases v with
  | ref n =>
    rw [okT] at h
    obtain ⟨l, h⟩ := h
    simp [↓z_isTlst _ _ h, wrong]
  | tup l =>
    rw [okT_tup] at h
    by_cases c1 : l.length = 0
    · simp [wrong, c1]
    · have c1' : ((1 : Int) ≤ l.length) := by omega
      by_cases c2 : 40 < l.length
      · have c2' : ¬ (l.length : Int) ≤ 40 := by omega
        simp [wrong, c1, c1', c2, c2']
      · have c2' : (l.length : Int) ≤ 40 := by omega
        have z := need_walk d (.tup l) S l 0 none 0 none none h trivial
        rw [← enmP_eq] at z
        have e : (match wrong (.tup l) with
            | none => M.ok (PV.tup l) S
            | some x => .exc 6 x S) = ndR (.tup l) S (walk l .non 0 0) := by
          simp only [wrong, c1, c2, or_self, if_false]
          cases walk l .non 0 0 <;> rfl
        rw [e]
        simp only [devP] at z
        simp [c1', c2']
        exact z
  | _ => simp [wrong]
theorem need_ok (d : Nat) {v : PV} {S : Sto} (h : okT S v) (w : wrong v = none) : prg.cl (d + 5) 18 [v] S = .ok v S := by rw [cl_need d v S h, w]
theorem need_x (d : Nat) {v x : PV} {S : Sto} (h : okT S v) (w : wrong v = some x) : prg.cl (d + 5) 18 [v] S = .exc 6 x S := by rw [cl_need d v S h, w]
theorem sub66 : prg.sub 6 6 = some true := by decide
theorem cl_isLife (d : Nat) (v : PV) (S : Sto) (h : okT S v) : prg.cl (d + 6) 17 [v] S = .ok (.bl (wrong v).isNone) S := by
  rw [u17]
  cases w : wrong v with
  | none => simp [d17, ↓cps (need_ok d h w)]
  | some x => simp [d17, ↓cpx (need_x d h w), sub66]
/-! ### the very same -/
mutual
def tre : PV → Bool
  | .ref _ => false
  | .tup l => treL l
  | _ => true
def treL : List PV → Bool
  | [] => true
  | v :: l => tre v && treL l
end
mutual
def dep : PV → Nat
  | .tup l => depL l + 1
  | _ => 1
def depL : List PV → Nat
  | [] => 0
  | v :: l => max (dep v) (depL l)
end
theorem same_walk (c : Nat → List PV → Sto → M PV) (S : Sto) : ∀ (l : List PV) (x0 x1 x2 x3 : Option PV), (∀ x ∈ l, c 13 [x, x] S = .ok (.bl true) S) →
    ∃ e, loopR (fun env S => exs (prg.ar c) b13_0 env S) [2, 3] (zipP l l) [x0, x1, x2, x3] S = .ok (.nx, x0 :: x1 :: e) S := by
  intro l
  induction l with
  | nil => intro x0 x1 x2 x3 _; exact ⟨[x2, x3], rfl⟩
  | cons v l ih =>
    intro x0 x1 x2 x3 h
    obtain ⟨e, he⟩ := ih x0 x1 (some v) (some v) fun x hx => h x (List.mem_cons_of_mem _ hx)
    refine ⟨e, ?_⟩
    rw [show zipP (v :: l) (v :: l) = .tup [v, v] :: zipP l l from rfl, ← M.bind_id (loopR _ _ _ _ _), z_loopCons _ _ _ _ (env' := [x0, x1, some v, some v]) rfl]
    simp [b13_0, ↓cps (h v List.mem_cons_self)]
    simp only [b13_0] at he
    rw [he]
    rfl
theorem depL_le {l : List PV} : ∀ x ∈ l, dep x ≤ depL l := by
  induction l with
  | nil => intro x hx; cases hx
  | cons v l ih =>
    intro x hx
    rw [depL]
    rcases List.mem_cons.mp hx with e | e
    · subst e; omega
    · have := ih x e; omega
theorem treL_mem {l : List PV} (h : treL l = true) : ∀ x ∈ l, tre x = true := by
  induction l with
  | nil => intro x hx; cases hx
  | cons v l ih =>
    rw [treL, Bool.and_eq_true] at h
    intro x hx
    rcases List.mem_cons.mp hx with e | e
    · subst e; exact h.1
    · exact ih h.2 x e
theorem cl_same (d : Nat) (S : Sto) : ∀ (k : Nat) (v : PV), tre v = true → dep v ≤ k → prg.cl (d + k) 13 [v, v] S = .ok (.bl true) S := by
  intro k
  induction k with
  | zero => intro v _ h; cases v <;> simp [dep] at h
  | succ k ih =>
    intro v ht hd
    rw [← Nat.add_assoc, u13, e13]
    cases v with
    | tup l =>
      rw [tre] at ht
      rw [dep] at hd
      obtain ⟨e, he⟩ := same_walk (prg.cl (d + k)) S l (some (.tup l)) (some (.tup l)) none none fun x hx => ih x (treL_mem ht x hx) (by have := depL_le x hx; omega)
      simp [↓cps he]
    | ref n => simp [tre] at ht
    | _ => simp
end Mi.K11
end

section
set_option Elab.async false
set_option linter.all false
set_option maxRecDepth 100000
set_option maxHeartbeats 4000000
namespace Mi.K11
open PySem Mi
structure Gp where
  n : Int
  s : Nat
  lo : Int
  hi : Int
  ring : Int
  cap : Int
  least : Int
  turns : Int
/-- the gaps of typed rows, behind a row -/
def gps : List Rw → Nat → Nat → Nat → Int → Int → Int → List Gp
  | [], _, _, _, _, _, _ => []
  | .put t f c v :: l, i, _, _, _, _, _ => gps l (i + 1) i f c t v
  | .red _ t v :: l, i, s, f, c, t0, v0 => ⟨(i : Int) - 1, s, t0, t, 10 ^ f, c, (v - v0) % 10 ^ f, (c * (t - t0) - (v - v0) % 10 ^ f) / 10 ^ f⟩ :: gps l (i + 1) s f c t v
def gpv8 (g : Gp) : PV := .tup [.int g.n, .int g.s, .int g.lo, .int g.hi, .int g.ring, .int g.cap, .int g.least, .int g.turns]
theorem ring_ok (f : Nat) (h : f ≤ 9) : 0 < (10 : Int) ^ f ∧ ((10 : Int) ^ f).natAbs.log2 < 9000 := by
  match f, h with
  | 0, _ => decide
  | 1, _ => decide
  | 2, _ => decide
  | 3, _ => decide
  | 4, _ => decide
  | 5, _ => decide
  | 6, _ => decide
  | 7, _ => decide
  | 8, _ => decide
  | 9, _ => decide
theorem inRange_fig (f : Nat) (h : f ≤ 9) : inRange (f : Int) = true := by
  simp only [inRange, decide_eq_true_eq]; omega
theorem small_cap (c : Int) (h : 0 ≤ c) (h' : c ≤ 1000000000) : small c = true := by
  simp only [small, decide_eq_true_eq]; omega
theorem pow_turns (c : Nat → List PV → Sto → M PV) (S : Sto) (x0 x1 x2 x3 x4 x6 x7 x8 x10 : Option PV) : ∀ (l : List PV) (r : Int) (x5 : Option PV),
    ∃ y, loopR (fun env S => exs (prg.ar c) b12_1 env S) [5] l [x0, x1, x2, x3, x4, x5, x6, x7, x8, some (.int r), x10] S = .ok (.nx, [x0, x1, x2, x3, x4, y, x6, x7, x8, some (.int (r * 10 ^ l.length)), x10]) S := by
  intro l
  induction l with
  | nil => intro r x5; exact ⟨x5, by simp [loopR]⟩
  | cons v l ih =>
    intro r x5
    obtain ⟨y, hy⟩ := ih (r * 10) (some v)
    refine ⟨y, ?_⟩
    rw [← M.bind_id (loopR _ _ _ _ _), z_loopCons _ _ _ _ (env' := [x0, x1, x2, x3, x4, some v, x6, x7, x8, some (.int r), x10]) rfl]
    simp [b12_1]
    simp only [b12_1] at hy
    rw [hy, M.bind_ok, Int.mul_assoc, ← Int.pow_succ']
def Rw.tm : Rw → Int
  | .put t _ _ _ => t
  | .red _ t _ => t
def Rw.vl : Rw → Int
  | .put _ _ _ v => v
  | .red _ _ v => v
/-- what stands behind: the put row and the row ahead -/
def Bh (all : List PV) (i s f : Nat) (c t0 v0 : Int) : Prop := 1 ≤ i ∧ (∃ tp vp, all[s]? = some (.tup [.str "put", .int tp, .tup [.int f, .int c], .int vp])) ∧ ∃ r : Rw, all[i - 1]? = some r.pv ∧ r.tm = t0 ∧ r.vl = v0
/-- what a row shows by its places -/
theorem row_at (r : Rw) {β : Type} {S : Sto} (k : Kp β) : (opI r.pv (.int 1) S).bind k = k (.int r.tm) S := by cases r <;> simp [Rw.pv, Rw.tm]
theorem row_last (r : Rw) {β : Type} {S : Sto} (k : Kp β) : (opI r.pv (.int (-1)) S).bind k = k (.int r.vl) S := by cases r <;> simp [Rw.pv, Rw.vl]
theorem ring_ok2 (f : Nat) (h : f ≤ 9) : ((10 : Nat) ^ f).log2 < 9000 := by
  match f, h with
  | 0, _ => decide
  | 1, _ => decide
  | 2, _ => decide
  | 3, _ => decide
  | 4, _ => decide
  | 5, _ => decide
  | 6, _ => decide
  | 7, _ => decide
  | 8, _ => decide
  | 9, _ => decide
theorem lawGaps_walk (c : Nat → List PV → Sto → M PV) (S : Sto) (all : List PV) : ∀ (rs : List Rw) (pre : List PV) (i s f : Nat) (cp t0 v0 : Int) (acc : List PV) (D : Option (Nat × Int)) (t : Int) (x3 x4 x5 x6 x7 x8 x9 x10 : Option PV), all = pre ++ rs.map Rw.pv → pre.length = i → good rs D t → devG D → (D = none ∨ D = some (f, cp) ∧ Bh all i s f cp t0 v0) → acc.length + rs.length ≤ 1000 →
    ∃ e, loopR (fun env S => exs (prg.ar c) b12_0 env S) [3, 4] (enmF i (rs.map Rw.pv)) [some (.tup all), some (.ref S.length), some (.int s), x3, x4, x5, x6, x7, x8, x9, x10] (S ++ [.lst acc]) = .ok (.nx, some (.tup all) :: some (.ref S.length) :: e) (S ++ [.lst (acc ++ (gps rs i s f cp t0 v0).map gpv8)]) := by
  intro rs
  induction rs with
  | nil => intro pre i s f cp t0 v0 acc D t x3 x4 x5 x6 x7 x8 x9 x10 _ _ _ _ _ _; exact ⟨[some (.int s), x3, x4, x5, x6, x7, x8, x9, x10], by simp [enmF, loopR, gps]⟩
  | cons r rs ih =>
    intro pre i s f cp t0 v0 acc D t x3 x4 x5 x6 x7 x8 x9 x10 ha hi hg hG hD hl
    have hi' : all[i]? = some r.pv := by rw [ha, ← hi]; simp
    have hlen : acc.length < 16777216 := by simp only [List.length_cons] at hl; omega
    cases r with
    | put t' f' c' v' =>
      have hg' : devG (some (f', c')) ∧ good rs (some (f', c')) t' := by
        cases D with
        | some p => simp [good] at hg
        | none => exact ⟨hg.1, hg.2.2.2.2.2⟩
      obtain ⟨e, he⟩ := ih (pre ++ [(Rw.put t' f' c' v').pv]) (i + 1) i f' c' t' v' acc (some (f', c')) t' (some (.int i)) (some (Rw.put t' f' c' v').pv) x5 x6 x7 x8 x9 x10 (by rw [ha]; simp) (by simp [hi]) hg'.2 hg'.1 (.inr ⟨rfl, by omega, ⟨t', v', hi'⟩, .put t' f' c' v', by simpa using hi', rfl, rfl⟩) (by simp only [List.length_cons] at hl; omega)
      refine ⟨e, ?_⟩
      rw [List.map_cons, enmF, ← M.bind_id (loopR _ _ _ _ _), z_loopCons _ _ _ _ (env' := [some (.tup all), some (.ref S.length), some (.int s), some (.int i), some (Rw.put t' f' c' v').pv, x5, x6, x7, x8, x9, x10]) rfl]
      simp only [gps]
      simp only [Rw.pv] at he ⊢
      simp [b12_0]
      simp only [b12_0] at he
      rw [he]
      rfl
    | red e' t' v' =>
      rcases hD with rfl | ⟨rfl, hb⟩
      · simp [good] at hg
      obtain ⟨h1, ⟨tp, vp, h2⟩, r0, h3, h4⟩ := hb
      have hg' : good rs (if e' then none else some (f, cp)) t' := hg.2.2.2.2
      have hG2 : 1 ≤ f ∧ f ≤ 9 ∧ 0 ≤ cp ∧ cp ≤ 1000000000 := hG
      have hin := inRange_fig f hG2.2.1
      have hsm := small_cap cp hG2.2.2.1 hG2.2.2.2
      have hro := ring_ok f hG2.2.1
      obtain ⟨e1, e2⟩ := h4
      have hro3 := ring_ok2 f hG2.2.1
      obtain ⟨y, hy⟩ := pow_turns c (S ++ [.lst acc]) (some (.tup all)) (some (.ref S.length)) (some (.int s)) (some (.int i)) (some (Rw.red e' t' v').pv) x6 x7 x8 (some (.int cp)) (rngP 0 f) 1 x5
      have hy2 : (rngP 0 f).length = f := by simp [rngP]
      rw [hy2, Int.one_mul] at hy
      have w1 : ¬ (Rw.red e' t' v').pv = .non := by simp [Rw.pv]
      obtain ⟨e, he⟩ := ih (pre ++ [(Rw.red e' t' v').pv]) (i + 1) s f cp t' v' (acc ++ [gpv8 ⟨(i : Int) - 1, s, t0, t', 10 ^ f, cp, (v' - v0) % 10 ^ f, (cp * (t' - t0) - (v' - v0) % 10 ^ f) / 10 ^ f⟩]) (if e' then none else some (f, cp)) t' (some (.int i)) (some (Rw.red e' t' v').pv) y (some r0.pv) (some (.int ((v' - v0) % 10 ^ f))) (some (.int ((cp * (t' - t0) - (v' - v0) % 10 ^ f) / 10 ^ f))) (some (.int (10 ^ f))) (some (.int cp)) (by rw [ha]; simp) (by simp [hi]) hg' (devG_ite e' hG) (by
        cases e'
        · exact .inr ⟨rfl, by omega, ⟨tp, vp, h2⟩, .red false t' v', by simpa using hi', rfl, rfl⟩
        · exact .inl rfl) (by simp only [List.length_cons, List.length_append, List.length_nil] at hl ⊢; omega)
      refine ⟨e, ?_⟩
      rw [List.map_cons, enmF, ← M.bind_id (loopR _ _ _ _ _), z_loopCons _ _ _ _ (env' := [some (.tup all), some (.ref S.length), some (.int s), some (.int i), some (Rw.red e' t' v').pv, x5, x6, x7, x8, x9, x10]) rfl]
      have w0 := wrd_put e'
      have w2 : (Rw.red e' t' v').pv = .tup [.str (wrd e'), .int t', .int v'] := rfl
      simp only [gps, List.map_cons]
      have he' := he
      simp only [w2] at he' hy ⊢
      simp only [b12_0, gpv8, List.append_assoc, List.cons_append, List.nil_append] at he' ⊢
      simp [w0, ↓opI_nat h2, ↓opI_pred h1 h3, hin, ↓cps hy, ↓row_at, ↓row_last, e1, e2, hsm, hro, hro3, hlen]
      rw [he']
      rfl
end Mi.K11
end

section
set_option Elab.async false
set_option linter.all false
set_option maxRecDepth 100000
set_option maxHeartbeats 4000000
namespace Mi.K11
open PySem Mi
def gapO (g : Gp) : Ob := .ins 0 [("number", .int g.n), ("start", .int g.s), ("low", .int g.lo), ("high", .int g.hi), ("ring", .int g.ring), ("cap", .int g.cap), ("least", .int g.least), ("turns", .int g.turns)]
theorem cl_gapInit (d : Nat) (S : Sto) (n : Int) (s f : Nat) (cp t0 v0 t v : Int) (r0 r : Rw) (hf : f ≤ 9) (h1 : 0 ≤ cp) (h2 : cp ≤ 1000000000) (e1 : r0.tm = t0) (e2 : r0.vl = v0) (e3 : r.tm = t) (e4 : r.vl = v) :
    prg.cl (d + 1) 32 [.ref S.length, .int n, .int s, .tup [.int f, .int cp], r0.pv, r.pv] (S ++ [.ins 0 []]) = .ok .non (S ++ [gapO ⟨n, s, t0, t, 10 ^ f, cp, (v - v0) % 10 ^ f, (cp * (t - t0) - (v - v0) % 10 ^ f) / 10 ^ f⟩]) := by
  have hsm := small_cap cp h1 h2
  have hro := ring_ok f hf
  have hro3 := ring_ok2 f hf
  rw [u32]
  simp [d32, ↓row_at, ↓row_last, e1, e2, e3, e4, putD, ↓ring_at f hf, hsm, hro, hro3, gapO]
/-- the list of gaps as it stands in the store -/
def gst (n : Nat) (gs : List Gp) : Sto := .lst ((gs.zipIdx (n + 1)).map fun p => .ref p.2) :: gs.map gapO
theorem gst_app (S : Sto) (gs : List Gp) (g : Gp) (h : gs.length < 16777216) {β : Type} (k : Kp β) : (opM .append (.ref S.length) [.ref (S.length + (gst S.length gs).length)] (S ++ (gst S.length gs ++ [gapO g]))).bind k = k .non (S ++ gst S.length (gs ++ [g])) := by
  have e : S.length + (gst S.length gs).length = S.length + 1 + gs.length := by simp [gst]; omega
  rw [e]
  have h2 : ((gs.zipIdx (S.length + 1)).map fun p => PV.ref p.2).length < sizeLine := by simpa using h
  rw [show S ++ (gst S.length gs ++ [gapO g]) = S ++ .lst ((gs.zipIdx (S.length + 1)).map fun p => PV.ref p.2) :: (gs.map gapO ++ [gapO g]) by simp [gst]]
  rw [z_appEnd2 _ _ _ _ h2]
  simp [gst, List.zipIdx_append]
theorem rows_walk (d : Nat) (S : Sto) (all : List PV) : ∀ (rs : List Rw) (pre : List PV) (i s f : Nat) (cp t0 v0 : Int) (acc : List Gp) (D : Option (Nat × Int)) (t : Int) (x3 x4 : Option PV), all = pre ++ rs.map Rw.pv → pre.length = i → good rs D t → devG D → (D = none ∨ D = some (f, cp) ∧ Bh all i s f cp t0 v0) → acc.length + rs.length ≤ 1000 →
    ∃ e, loopR (fun env S => exs (prg.ar (prg.cl (d + 1))) b24_0 env S) [3, 4] (enmF i (rs.map Rw.pv)) [some (.tup all), some (.ref S.length), some (.int s), x3, x4] (S ++ gst S.length acc) = .ok (.nx, some (.tup all) :: some (.ref S.length) :: e) (S ++ gst S.length (acc ++ gps rs i s f cp t0 v0)) := by
  intro rs
  induction rs with
  | nil => intro pre i s f cp t0 v0 acc D t x3 x4 _ _ _ _ _ _; exact ⟨[some (.int s), x3, x4], by simp [enmF, loopR, gps]⟩
  | cons r rs ih =>
    intro pre i s f cp t0 v0 acc D t x3 x4 ha hi hg hG hD hl
    have hi' : all[i]? = some r.pv := by rw [ha, ← hi]; simp
    have hlen : acc.length < 16777216 := by simp only [List.length_cons] at hl; omega
    cases r with
    | put t' f' c' v' =>
      have hg' : devG (some (f', c')) ∧ good rs (some (f', c')) t' := by
        cases D with
        | some p => simp [good] at hg
        | none => exact ⟨hg.1, hg.2.2.2.2.2⟩
      obtain ⟨e, he⟩ := ih (pre ++ [(Rw.put t' f' c' v').pv]) (i + 1) i f' c' t' v' acc (some (f', c')) t' (some (.int i)) (some (Rw.put t' f' c' v').pv) (by rw [ha]; simp) (by simp [hi]) hg'.2 hg'.1 (.inr ⟨rfl, by omega, ⟨t', v', hi'⟩, .put t' f' c' v', by simpa using hi', rfl, rfl⟩) (by simp only [List.length_cons] at hl; omega)
      refine ⟨e, ?_⟩
      rw [List.map_cons, enmF, ← M.bind_id (loopR _ _ _ _ _), z_loopCons _ _ _ _ (env' := [some (.tup all), some (.ref S.length), some (.int s), some (.int i), some (Rw.put t' f' c' v').pv]) rfl]
      simp only [gps]
      simp only [Rw.pv] at he ⊢
      simp [b24_0]
      simp only [b24_0] at he
      rw [he]
      rfl
    | red e' t' v' =>
      rcases hD with rfl | ⟨rfl, hb⟩
      · simp [good] at hg
      obtain ⟨h1, ⟨tp, vp, h2⟩, r0, h3, e1, e2⟩ := hb
      have hg' : good rs (if e' then none else some (f, cp)) t' := hg.2.2.2.2
      have hG2 : 1 ≤ f ∧ f ≤ 9 ∧ 0 ≤ cp ∧ cp ≤ 1000000000 := hG
      obtain ⟨e, he⟩ := ih (pre ++ [(Rw.red e' t' v').pv]) (i + 1) s f cp t' v' (acc ++ [⟨(i : Int) - 1, s, t0, t', 10 ^ f, cp, (v' - v0) % 10 ^ f, (cp * (t' - t0) - (v' - v0) % 10 ^ f) / 10 ^ f⟩]) (if e' then none else some (f, cp)) t' (some (.int i)) (some (Rw.red e' t' v').pv) (by rw [ha]; simp) (by simp [hi]) hg' (devG_ite e' hG) (by
        cases e'
        · exact .inr ⟨rfl, by omega, ⟨tp, vp, h2⟩, .red false t' v', by simpa using hi', rfl, rfl⟩
        · exact .inl rfl) (by simp only [List.length_cons, List.length_append, List.length_nil] at hl ⊢; omega)
      refine ⟨e, ?_⟩
      rw [List.map_cons, enmF, ← M.bind_id (loopR _ _ _ _ _), z_loopCons _ _ _ _ (env' := [some (.tup all), some (.ref S.length), some (.int s), some (.int i), some (Rw.red e' t' v').pv]) rfl]
      have w0 := wrd_put e'
      have w2 : (Rw.red e' t' v').pv = .tup [.str (wrd e'), .int t', .int v'] := rfl
      have hI := cl_gapInit d (S ++ gst S.length acc) ((i : Int) - 1) s f cp t0 v0 t' v' r0 (.red e' t' v') hG2.2.1 hG2.2.2.1 hG2.2.2.2 e1 e2 rfl rfl
      have hN : ∀ {β : Type} (k : Kp β), _ := fun k => z_newI (c := prg.cl (d + 1)) k pmk_0 hI
      simp only [gps]
      have hL : isL (.ref S.length) (S ++ gst S.length acc) = true := by simp [gst]
      simp only [w2] at he hN ⊢
      simp only [b24_0, List.append_assoc, List.cons_append, List.nil_append] at he ⊢
      simp [w0, ↓opI_nat h2, ↓opI_pred h1 h3, ↓hN, hL, ↓gst_app S acc _ hlen]
      rw [he]
      rfl
/-! ### a life's gaps -/
/-- a life, typed -/
def life (rs : List Rw) : Prop := good rs none 0 ∧ rs ≠ [] ∧ rs.length ≤ 40
def lpv (rs : List Rw) : PV := .tup (rs.map Rw.pv)
def lgs (rs : List Rw) : List Gp := gps rs 0 0 0 0 0 0
theorem wrong_life {rs : List Rw} (h : life rs) : wrong (lpv rs) = none := by
  obtain ⟨h1, h2, h3⟩ := h
  have e : ¬ ((rs.map Rw.pv).length = 0 ∨ 40 < (rs.map Rw.pv).length) := by
    rw [List.length_map]
    rintro (h | h)
    · exact h2 (List.length_eq_zero_iff.mp h)
    · omega
  rw [lpv, wrong, if_neg e, show PV.non = devP none from rfl, good_walk rs none 0 0 trivial h1]
  rfl
theorem life_of {v : PV} (h : wrong v = none) : ∃ rs, v = lpv rs ∧ life rs := by
  cases v with
  | tup l =>
    rw [wrong] at h
    by_cases c : l.length = 0 ∨ 40 < l.length
    · rw [if_pos c] at h; cases h
    · rw [if_neg c] at h
      have h' : walk l (devP none) 0 0 = none := Option.map_eq_none_iff.mp h
      obtain ⟨rs, rfl, hg⟩ := walk_typed l none 0 0 trivial h'
      rw [List.length_map] at c
      refine ⟨rs, rfl, hg, fun e => c (.inl (by rw [e]; rfl)), by omega⟩
  | _ => simp [wrong] at h
theorem okT_rw (S : Sto) (r : Rw) : okT S r.pv := by cases r <;> simp [Rw.pv, okT, okL]
theorem okT_life (S : Sto) (rs : List Rw) : okT S (lpv rs) := by
  rw [lpv, okT_tup]
  intro x hx
  obtain ⟨r, _, rfl⟩ := List.mem_map.mp hx
  exact okT_rw S r
theorem tre_life (rs : List Rw) : tre (lpv rs) = true ∧ dep (lpv rs) ≤ 4 := by
  have h1 : ∀ rs : List Rw, treL (rs.map Rw.pv) = true := by
    intro rs
    induction rs with
    | nil => rfl
    | cons r rs ih => rw [List.map_cons, treL, ih]; cases r <;> simp [Rw.pv, tre, treL]
  have h2 : ∀ rs : List Rw, depL (rs.map Rw.pv) ≤ 3 := by
    intro rs
    induction rs with
    | nil => simp [depL]
    | cons r rs ih =>
      rw [List.map_cons, depL]
      have : dep r.pv ≤ 3 := by cases r <;> simp [Rw.pv, dep, depL]
      omega
  exact ⟨h1 rs, by have := h2 rs; rw [lpv, dep]; omega⟩
theorem cl_lawGaps (d : Nat) (rs : List Rw) (h : life rs) (S : Sto) : prg.cl (d + 1) 12 [lpv rs] S = .ok (.ref S.length) (S ++ [.lst ((lgs rs).map gpv8)]) := by
  obtain ⟨e, he⟩ := lawGaps_walk (prg.cl d) S (rs.map Rw.pv) rs [] 0 0 0 0 0 0 [] none 0 none none none none none none none none rfl rfl h.1 trivial (.inl rfl) (by have := h.2.2; simp; omega)
  rw [← enmP_eq, show ((0 : Nat) : Int) = 0 from rfl] at he
  rw [u12, e12, lpv]
  simp only [List.nil_append] at he
  simp
  rw [cps he]
  simp [lgs]
theorem cl_rows (d : Nat) (rs : List Rw) (h : life rs) (S : Sto) : prg.cl (d + 2) 24 [lpv rs] S = .ok (.ref S.length) (S ++ gst S.length (lgs rs)) := by
  obtain ⟨e, he⟩ := rows_walk d S (rs.map Rw.pv) rs [] 0 0 0 0 0 0 [] none 0 none none rfl rfl h.1 trivial (.inl rfl) (by have := h.2.2; simp; omega)
  rw [← enmP_eq, show ((0 : Nat) : Int) = 0 from rfl] at he
  rw [u24, e24, lpv]
  simp only [gst, List.nil_append, List.zipIdx_nil, List.map_nil] at he
  simp
  rw [cps he]
  simp [lgs, gst]
end Mi.K11
end

section
set_option Elab.async false
set_option linter.all false
set_option maxRecDepth 100000
set_option maxHeartbeats 4000000
namespace Mi.K11
open PySem Mi
def gpv5 (g : Gp) : PV := .tup [.int g.n, .int g.lo, .int g.hi, .int g.least, .int g.turns]
def due5 (rs : List Rw) : PV := .tup ((lgs rs).map gpv5)
theorem gst_at (n : Nat) (gs : List Gp) (g : Gp) (j : Nat) (h : (g, j) ∈ gs.zipIdx (n + 1)) : n + 1 ≤ j ∧ (gst n gs)[j - n]? = some (gapO g) := by
  obtain ⟨h1, h2, h3⟩ := List.mem_zipIdx h
  refine ⟨h1, ?_⟩
  rw [gst, show j - n = (j - (n + 1)) + 1 by omega, List.getElem?_cons_succ, List.getElem?_map, List.getElem?_eq_getElem (by omega), ← h3]
  rfl
theorem gst_get (S T : Sto) (gs : List Gp) (g : Gp) (j : Nat) (h : (g, j) ∈ gs.zipIdx (S.length + 1)) : (S ++ gst S.length gs ++ T)[j]? = some (gapO g) := by
  obtain ⟨h1, h2⟩ := gst_at _ gs g j h
  apply get_app
  rw [List.getElem?_append_right (by omega), h2]
theorem gst_lst (S : Sto) (gs : List Gp) : (S ++ gst S.length gs)[S.length]? = some (.lst ((gs.zipIdx (S.length + 1)).map fun p => PV.ref p.2)) := by simp [gst]
theorem len_gps : ∀ (rs : List Rw) (i s f : Nat) (c t0 v0 : Int), (gps rs i s f c t0 v0).length ≤ rs.length := by
  intro rs
  induction rs with
  | nil => intros; simp [gps]
  | cons r rs ih =>
    intro i s f c t0 v0
    cases r with
    | put t f' c' v => rw [gps]; have := ih (i + 1) i f' c' t v; simp; omega
    | red e t v => rw [gps]; have := ih (i + 1) s f c t v; simp; omega
theorem len_lgs {rs : List Rw} (h : life rs) : (lgs rs).length ≤ 40 := Nat.le_trans (len_gps rs 0 0 0 0 0 0) h.2.2
theorem evc_no (A : Ar) (env : Env1) (S : Sto) : evc A .no env S = .ok (.bl true) S := by rw [evc]
/-- the list, element by element, of the comprehension over the gaps -/
theorem gaps_comp (d : Nat) (S : Sto) (gs : List Gp) (hl : gs.length ≤ 40) (x0 x1 : Option PV) (elt : E) (r : Gp → PV)
    (he : ∀ (g : Gp) (j : Nat) (T : Sto), T[j]? = some (gapO g) → ev (prg.ar (prg.cl d)) elt false [x0, some (.ref j)] T = .ok (r g) T) :
    loopC (fun env S => ev (prg.ar (prg.cl d)) elt false env S) (fun env S => evc (prg.ar (prg.cl d)) .no env S) [1] (.lst S.length) [x0, none] (S ++ gst S.length gs).length (Wk.len (S ++ gst S.length gs) (.lst S.length)) 0 (S ++ gst S.length gs ++ [.lst []]) = .ok () (S ++ gst S.length gs ++ [.lst (gs.map r)]) := by
  have h1 := gst_lst S gs
  have e1 : ((gs.zipIdx (S.length + 1)).map fun p => (PV.ref p.2, r p.1)).map Prod.fst = (gs.zipIdx (S.length + 1)).map fun p => PV.ref p.2 := by simp
  have e2 : ((gs.zipIdx (S.length + 1)).map fun p => (PV.ref p.2, r p.1)).map Prod.snd = gs.map r := by
    rw [List.map_map, show (Prod.snd ∘ fun p : Gp × Nat => (PV.ref p.2, r p.1)) = r ∘ Prod.fst from rfl, ← List.map_map, List.zipIdx_map_fst]
  have := loopC_lst (fun env S => ev (prg.ar (prg.cl d)) elt false env S) (fun env S => evc (prg.ar (prg.cl d)) .no env S) (fun env S => evc_no _ env S) [1] [x0, none] (S ++ gst S.length gs) S.length (by simp [gst]) ((gs.zipIdx (S.length + 1)).map fun p => (PV.ref p.2, r p.1)) [] (Wk.len (S ++ gst S.length gs) (.lst S.length)) [] (.inl (by rw [h1, List.nil_append, e1])) (by rw [wkLen_lst h1]; simp) (fun p hp => by
    obtain ⟨⟨g, j⟩, hq, rfl⟩ := List.mem_map.mp hp
    exact ⟨[x0, some (.ref j)], rfl, fun acc => he g j _ (gst_get S _ gs g j hq)⟩) (by simp; omega)
  rw [e2] at this
  exact this
theorem gap_fld (d : Nat) {j : Nat} {g : Gp} {T : Sto} (x : Str) (v : PV) (h : T[j]? = some (gapO g)) (h2 : prg.fl 0 x = true) (h3 : List.lookup x [(("number" : Str), PV.int g.n), ("start", .int g.s), ("low", .int g.lo), ("high", .int g.hi), ("ring", .int g.ring), ("cap", .int g.cap), ("least", .int g.least), ("turns", .int g.turns)] = some v) {β : Type} (k : Kp β) : (opF prg.fl (.ref j) x T).bind k = k v T := z_opF prg.fl x k h h2 h3
theorem cl_gaps (d : Nat) (rs : List Rw) (h : life rs) (S : Sto) : prg.cl (d + 6) 14 [lpv rs] S = .ok (due5 rs) (S ++ gst S.length (lgs rs) ++ [.lst ((lgs rs).map gpv5)]) := by
  have hn := need_ok d (okT_life S rs) (wrong_life h)
  have hr := cl_rows (d + 3) rs h S
  have hc := fun elt => gaps_comp (d + 5) S (lgs rs) (len_lgs h) (some (lpv rs)) none elt
  have hq := z_seqLst (S := S ++ gst S.length (lgs rs)) (β := PV) (n := S.length) (h := gst_lst S (lgs rs))
  generalize S ++ gst S.length (lgs rs) = T at hr hc hq ⊢
  rw [u14]
  simp [d14, ↓cps hn, ↓cps hr, ↓hq]
  rw [cps (hc _ gpv5 ?_)]
  · simp [due5]
  · intro g j T hT
    rw [← M.bind_id (ev _ _ _ _ _)]
    simp [↓gap_fld d "number" (.int g.n) hT, ↓gap_fld d "low" (.int g.lo) hT, ↓gap_fld d "high" (.int g.hi) hT, ↓gap_fld d "least" (.int g.least) hT, ↓gap_fld d "turns" (.int g.turns) hT, gpv5]
theorem cl_hours (d j : Nat) (g : Gp) (T : Sto) (hT : T[j]? = some (gapO g)) : prg.cl (d + 1) 25 [.ref j] T = .ok (.int (g.hi - g.lo)) T := by
  rw [u25]
  simp [d25, ↓gap_fld d "high" (.int g.hi) hT, ↓gap_fld d "low" (.int g.lo) hT]
/-- the hours of a life, and those of no gap -/
def idl (rs : List Rw) : Int := (match rs.getLast? with | some r => r.tm | none => 0) - (match rs.head? with | some r => r.tm | none => 0) - ((lgs rs).map fun g => g.hi - g.lo).sum
theorem first_last {rs : List Rw} (h : rs ≠ []) : ∃ r0 r1, rs.head? = some r0 ∧ rs.getLast? = some r1 ∧ (rs.map Rw.pv)[(rs.map Rw.pv).length - 1]? = some r1.pv ∧ (rs.map Rw.pv)[0]? = some r0.pv := by
  refine ⟨rs.head h, rs.getLast h, List.head?_eq_some_head h, List.getLast?_eq_some_getLast h, ?_, ?_⟩
  · rw [List.length_map, List.getElem?_map, ← List.getLast?_eq_getElem?, List.getLast?_eq_some_getLast h]; rfl
  · cases rs with
    | nil => exact absurd rfl h
    | cons r rs => rfl
theorem cl_idle (d : Nat) (rs : List Rw) (h : life rs) (S : Sto) : prg.cl (d + 6) 15 [lpv rs] S = .ok (.int (idl rs)) (S ++ gst S.length (lgs rs) ++ [.lst (((lgs rs).map fun g => g.hi - g.lo).map .int)]) := by
  have hn := need_ok d (okT_life S rs) (wrong_life h)
  have hr := cl_rows (d + 3) rs h S
  have hc := fun elt => gaps_comp (d + 5) S (lgs rs) (len_lgs h) (some (lpv rs)) none elt
  have hq := z_seqLst (S := S ++ gst S.length (lgs rs)) (β := PV) (n := S.length) (h := gst_lst S (lgs rs))
  obtain ⟨r0, r1, q1, q2, q3, q4⟩ := first_last h.2.1
  generalize S ++ gst S.length (lgs rs) = T at hr hc hq ⊢
  rw [u15]
  simp only [lpv] at hn hr hc ⊢
  have q4' := fun (S : Sto) => opI_nat (S := S) (β := PV) q4
  rw [show ((0 : Nat) : Int) = 0 from rfl] at q4'
  simp [d15, ↓cps hn, ↓cps hr, ↓hq, ↓opI_last q3, ↓q4', ↓row_at]
  rw [cps (hc _ (fun g => .int (g.hi - g.lo)) ?_)]
  · have e : (lgs rs).map (fun g => PV.int (g.hi - g.lo)) = ((lgs rs).map fun g => g.hi - g.lo).map .int := by rw [List.map_map]; rfl
    rw [e]
    simp [idl, q1, q2, -List.map_map]
    exact List.map_map
  · intro g j T hT
    rw [← M.bind_id (ev _ _ _ _ _)]
    have hm := methOf_eq (P := prg) (c := prg.cl (d + 5)) hT (by simp [gapO]) pmt_0_hours
    simp [hm, ↓cps (cl_hours (d + 4) j g T hT)]
/-- a comprehension of the law over its gaps -/
theorem law_comp (d : Nat) (T : Sto) (n : Nat) (gs : List Gp) (hl : gs.length ≤ 40) (h : T[n]? = some (.lst (gs.map gpv8))) (x0 x1 x2 x3 : Option PV) (elt : E) (r : Gp → PV)
    (he : ∀ (g : Gp) (T : Sto), ev (prg.ar (prg.cl d)) elt false [x0, x1, x2, x3, some (gpv8 g)] T = .ok (r g) T) :
    loopC (fun env S => ev (prg.ar (prg.cl d)) elt false env S) (fun env S => evc (prg.ar (prg.cl d)) .no env S) [4] (.lst n) [x0, x1, x2, x3, none] T.length (Wk.len T (.lst n)) 0 (T ++ [.lst []]) = .ok () (T ++ [.lst (gs.map r)]) := by
  have := loopC_lst (fun env S => ev (prg.ar (prg.cl d)) elt false env S) (fun env S => evc (prg.ar (prg.cl d)) .no env S) (fun env S => evc_no _ env S) [4] [x0, x1, x2, x3, none] T n (get_lt h) (gs.map fun g => (gpv8 g, r g)) [] (Wk.len T (.lst n)) [] (.inl (by rw [h, List.nil_append, List.map_map]; rfl)) (by rw [wkLen_lst h]; simp) (fun p hp => by
    obtain ⟨g, hq, rfl⟩ := List.mem_map.mp hp
    exact ⟨[x0, x1, x2, x3, some (gpv8 g)], rfl, fun acc => he g _⟩) (by simp; omega)
  rw [List.map_map] at this
  exact this
theorem cl_sums (d : Nat) (rs : List Rw) (h : life rs) (S : Sto) : ∃ T, prg.cl (d + 7) 4 [lpv rs] S = .ok (.bl true) (S ++ T) := by
  obtain ⟨r0, r1, q1, q2, q3, q4⟩ := first_last h.2.1
  have q4' := fun (S : Sto) => opI_nat (S := S) (β := PV) q4
  rw [show ((0 : Nat) : Int) = 0 from rfl] at q4'
  have hl := len_lgs h
  have k1 := cl_lawGaps (d + 5) rs h S
  have g1 : (S ++ [Ob.lst ((lgs rs).map gpv8)])[S.length]? = some (.lst ((lgs rs).map gpv8)) := by simp
  obtain ⟨S1, hS1⟩ : ∃ S1 : Sto, S1 = S ++ [Ob.lst ((lgs rs).map gpv8)] := ⟨_, rfl⟩
  rw [← hS1] at k1 g1
  generalize S.length = n at k1 g1
  have m1 := law_comp (d + 6) S1 n (lgs rs) hl g1 (some (lpv rs)) (some (.ref n)) none none
  have t1 := fun r => z_tupLEnd (β := PV) (S := S1) ((lgs rs).map r)
  have w1 := z_seqLst (S := S1) (β := PV) (h := g1)
  obtain ⟨S2, hS2⟩ : ∃ S2 : Sto, S2 = S1 ++ [Ob.lst ((lgs rs).map gpv5)] := ⟨_, rfl⟩
  have g2 : S2[n]? = some (.lst ((lgs rs).map gpv8)) := by rw [hS2]; exact get_app g1
  have m2 := law_comp (d + 6) S2 n (lgs rs) hl g2 (some (lpv rs)) (some (.ref n)) (some (due5 rs)) none
  have w2 := z_seqLst (S := S2) (β := PV) (h := g2)
  have u2 := z_sumEnd (β := PV) (S := S2) ((lgs rs).map fun g => g.hi - g.lo)
  obtain ⟨S3, hS3⟩ : ∃ S3 : Sto, S3 = S2 ++ [.lst (((lgs rs).map fun g => g.hi - g.lo).map .int)] := ⟨_, rfl⟩
  rw [← hS3] at u2
  have k2 := cl_gaps d rs h S3
  obtain ⟨S4, hS4⟩ : ∃ S4 : Sto, S4 = S3 ++ gst S3.length (lgs rs) ++ [.lst ((lgs rs).map gpv5)] := ⟨_, rfl⟩
  rw [← hS4] at k2
  have k3 := cl_gaps d rs h S4
  obtain ⟨S5, hS5⟩ : ∃ S5 : Sto, S5 = S4 ++ gst S4.length (lgs rs) ++ [.lst ((lgs rs).map gpv5)] := ⟨_, rfl⟩
  rw [← hS5] at k3
  have k4 := cl_idle d rs h S5
  obtain ⟨S6, hS6⟩ : ∃ S6 : Sto, S6 = S5 ++ gst S5.length (lgs rs) ++ [.lst (((lgs rs).map fun g => g.hi - g.lo).map .int)] := ⟨_, rfl⟩
  rw [← hS6] at k4
  have e1 : ∀ (g : Gp) (T : Sto), ev (prg.ar (prg.cl (d + 6))) (.tup (.cons (.idx (.loc 4) (.int 0)) (.cons (.idx (.loc 4) (.int 2)) (.cons (.idx (.loc 4) (.int 3)) (.cons (.idx (.loc 4) (.int 6)) (.cons (.idx (.loc 4) (.int 7)) .nil)))))) false [some (lpv rs), some (.ref n), none, none, some (gpv8 g)] T = .ok (gpv5 g) T := by
    intro g T
    rw [← M.bind_id (ev _ _ _ _ _)]
    simp [gpv8, gpv5]
  have e2 : ∀ (g : Gp) (T : Sto), ev (prg.ar (prg.cl (d + 6))) (.bin .sub (.idx (.loc 4) (.int 3)) (.idx (.loc 4) (.int 2))) false [some (lpv rs), some (.ref n), some (due5 rs), none, some (gpv8 g)] T = .ok (.int (g.hi - g.lo)) T := by
    intro g T
    rw [← M.bind_id (ev _ _ _ _ _)]
    simp [gpv8]
  have m1' := m1 _ _ e1
  have m2' := m2 _ _ e2
  rw [← hS2] at m1'
  rw [show (lgs rs).map (fun g => PV.int (g.hi - g.lo)) = ((lgs rs).map fun g => g.hi - g.lo).map .int by rw [List.map_map]; rfl, ← hS3] at m2'
  have t1' := t1 gpv5
  rw [← hS2] at t1'
  have ht : tre (.tup [due5 rs, due5 rs, .int (idl rs)]) = true ∧ dep (.tup [due5 rs, due5 rs, .int (idl rs)]) ≤ 6 := by
    have h1 : ∀ gs : List Gp, treL (gs.map gpv5) = true := by
      intro gs
      induction gs with
      | nil => rfl
      | cons g gs ih => rw [List.map_cons, treL, ih]; simp [gpv5, tre, treL]
    have h2 : ∀ gs : List Gp, depL (gs.map gpv5) ≤ 2 := by
      intro gs
      induction gs with
      | nil => simp [depL]
      | cons g gs ih =>
        rw [List.map_cons, depL]
        have : dep (gpv5 g) ≤ 2 := by simp [gpv5, dep, depL]
        omega
    have := h2 (lgs rs)
    simp [tre, treL, dep, depL, due5, h1]
    omega
  have hs := cl_same d S6 6 _ ht.1 ht.2
  refine ⟨[.lst ((lgs rs).map gpv8)] ++ [.lst ((lgs rs).map gpv5)] ++ [.lst (((lgs rs).map fun g => g.hi - g.lo).map .int)] ++ gst S3.length (lgs rs) ++ [.lst ((lgs rs).map gpv5)] ++ gst S4.length (lgs rs) ++ [.lst ((lgs rs).map gpv5)] ++ gst S5.length (lgs rs) ++ [.lst (((lgs rs).map fun g => g.hi - g.lo).map .int)], ?_⟩
  have hfin : S6 = S ++ ([.lst ((lgs rs).map gpv8)] ++ [.lst ((lgs rs).map gpv5)] ++ [.lst (((lgs rs).map fun g => g.hi - g.lo).map .int)] ++ gst S3.length (lgs rs) ++ [.lst ((lgs rs).map gpv5)] ++ gst S4.length (lgs rs) ++ [.lst ((lgs rs).map gpv5)] ++ gst S5.length (lgs rs) ++ [.lst (((lgs rs).map fun g => g.hi - g.lo).map .int)]) := by
    rw [hS6, hS5, hS4, hS3, hS2, hS1]
    simp only [List.append_assoc]
  rw [← hfin]
  clear hfin hS6 hS5 hS4 hS3 hS2 hS1
  rw [u4]
  simp only [lpv, due5] at *
  simp [d4, ↓cps k1, ↓w1]
  rw [cps m1']
  simp [↓t1', ↓w2, ↓opI_last q3, ↓q4', ↓row_at]
  rw [cps m2']
  have hd : ∀ x : Int, r1.tm - r0.tm - x = r1.tm - r0.tm - x := fun _ => rfl
  have hid : r1.tm - r0.tm - ((lgs rs).map fun g => g.hi - g.lo).sum = idl rs := by simp [idl, q1, q2]
  simp [↓u2, ↓cps k2, ↓cps k3, ↓cps k4, hid, ↓cps hs]
end Mi.K11
end

section
set_option Elab.async false
set_option linter.all false
set_option maxRecDepth 100000
set_option maxHeartbeats 4000000
namespace Mi.K11
open PySem Mi
section
variable {β : Type} {S : Sto}
@[simp ↓, simp] theorem ct0_ok (x : PV) (k : Kp β) : (ctK prg.sub prg.xf prg.vs (prg.ct 0) (.ok x S)).bind k = k (.tup [.str "told"]) S := id rfl
theorem pk3 : pick prg.sub 3 c0.hs = some (.tup [.str "meter", .fld "meter", .isv, .isi 4]) := by kernel_rfl
theorem pk4 : pick prg.sub 4 c0.hs = some (.tup [.str "shown", .fld "shown", .isi 1, .isi 5]) := by kernel_rfl
theorem pk5 : pick prg.sub 5 c0.hs = some (.tup [.str "use", .fld "use", .isi 1, .isi 6]) := by kernel_rfl
theorem pk6 : pick prg.sub 6 c0.hs = some (.tup [.str "life", .fld "number", .isi 1, .isi 3, .isi 2]) := by kernel_rfl
theorem ct0_x {c : Nat} {x : PV} {xe : XE} {y : PV} (h : pick prg.sub c c0.hs = some xe) (h2 : xev prg.sub prg.xf prg.vs c x xe = some y) (k : Kp β) : (ctK prg.sub prg.xf prg.vs (prg.ct 0) (.exc c x S)).bind k = k y S := by
  rw [show prg.ct 0 = some c0 from rfl]
  simp only [ctK, h, Option.bind_some, h2]
  rfl
@[simp ↓, simp] theorem ct0_6 (x : PV) (k : Kp β) : (ctK prg.sub prg.xf prg.vs (prg.ct 0) (.exc 6 x S)).bind k = k (.tup [.str "life", x, .bl true, .bl false, .bl false]) S := ct0_x pk6 (by kernel_rfl) k
@[simp ↓, simp] theorem ct0_3 (x : PV) (k : Kp β) : (ctK prg.sub prg.xf prg.vs (prg.ct 0) (.exc 3 x S)).bind k = k (.tup [.str "meter", x, .bl true, .bl false]) S := ct0_x pk3 (by kernel_rfl) k
@[simp ↓, simp] theorem ct0_4 (x : PV) (k : Kp β) : (ctK prg.sub prg.xf prg.vs (prg.ct 0) (.exc 4 x S)).bind k = k (.tup [.str "shown", x, .bl true, .bl false]) S := ct0_x pk4 (by kernel_rfl) k
@[simp ↓, simp] theorem ct0_5 (x : PV) (k : Kp β) : (ctK prg.sub prg.xf prg.vs (prg.ct 0) (.exc 5 x S)).bind k = k (.tup [.str "use", x, .bl true, .bl false]) S := ct0_x pk5 (by kernel_rfl) k
end
theorem wrong_kind {v x : PV} (h : wrong v = some x) : x = .non ∨ ∃ j : Nat, x = .int j := by
  cases v with
  | tup l =>
    rw [wrong] at h
    by_cases c : l.length = 0 ∨ 40 < l.length
    · rw [if_pos c] at h; cases h; exact .inl rfl
    · rw [if_neg c] at h
      cases e : walk l .non 0 0 with
      | none => rw [e] at h; cases h
      | some j => rw [e] at h; cases h; exact .inr ⟨j, rfl⟩
  | _ => simp [wrong] at h; exact .inl h.symm
theorem eq0_none (S : Sto) : pyEq S (.tup []) (.tup []) = some true := by kernel_rfl
theorem eq0_some (S : Sto) {x : PV} (h : x = .non ∨ ∃ j : Nat, x = .int j) : pyEq S (.tup [x]) (.tup []) = some false := by
  rcases h with rfl | ⟨j, rfl⟩
  · kernel_rfl
  · kernel_rfl
theorem gaps_x (d : Nat) {v x : PV} {S : Sto} (h : okT S v) (w : wrong v = some x) : prg.cl (d + 6) 14 [v] S = .exc 6 x S := by
  rw [u14]
  simp [d14, ↓cpx (need_x d h w)]
theorem idle_x (d : Nat) {v x : PV} {S : Sto} (h : okT S v) (w : wrong v = some x) : prg.cl (d + 6) 15 [v] S = .exc 6 x S := by
  rw [u15]
  simp [d15, ↓cpx (need_x d h w)]
mutual
theorem okT_mono {S : Sto} (T : Sto) : ∀ {v : PV}, okT S v → okT (S ++ T) v
  | .ref n, h => by
    rw [okT] at h ⊢
    obtain ⟨l, h | h⟩ := h
    · exact ⟨l, .inl (get_app h)⟩
    · exact ⟨l, .inr (get_app h)⟩
  | .tup l, h => by
    rw [okT] at h ⊢
    exact okL_mono T h
  | .non, _ => by rw [okT] <;> simp
  | .bl _, _ => by rw [okT] <;> simp
  | .int _, _ => by rw [okT] <;> simp
  | .str _, _ => by rw [okT] <;> simp
theorem okL_mono {S : Sto} (T : Sto) : ∀ {l : List PV}, okL S l → okL (S ++ T) l
  | [], _ => by rw [okL]; trivial
  | v :: l, h => by
    rw [okL] at h ⊢
    exact ⟨okT_mono T h.1, okL_mono T h.2⟩
end
theorem cl_lifeRight (d : Nat) (v : PV) (S : Sto) (h : okT S v) : ∃ T, prg.cl (d + 8) 5 [v] S = .ok (.bl true) (S ++ T) := by
  have hf := cl_fault (d + 2) v S h
  have hi := cl_isLife (d + 1) v S h
  have hs1 := fun b : Bool => cl_same (d + 1) S 6 (.tup [.bl b, .bl b]) (by simp [tre, treL]) (by simp [dep, depL])
  cases w : wrong v with
  | none =>
    obtain ⟨rs, rfl, hl⟩ := life_of w
    have hn := need_ok (d + 2) h w
    have hg := cl_gaps (d + 1) rs hl S
    obtain ⟨t1, t2⟩ := tre_life rs
    have hs2 := cl_same (d + 1) S 6 (lpv rs) t1 (by omega)
    have hs3 := fun S => cl_same (d + 1) S 6 (.tup [.str "told"]) (by simp [tre, treL]) (by simp [dep, depL])
    rw [List.append_assoc] at hg
    refine ⟨gst S.length (lgs rs) ++ [Ob.lst ((lgs rs).map gpv5)], ?_⟩
    rw [flt, w] at hf
    rw [w] at hi
    rw [u5]
    simp [d5, ↓cps hf, ↓cps hi, eq0_none, ↓cps (hs1 true), ↓cps hn, ↓cps hs2, ↓cps hg, ↓cps (hs3 _)]
  | some x =>
    have hx := wrong_kind w
    have e0 := eq0_some S hx
    have hn := fun T => need_x (d + 2) (okT_mono T h) w
    have hg := fun T => gaps_x (d + 1) (okT_mono T h) w
    have hd := fun T => idle_x (d + 1) (okT_mono T h) w
    have hn0 := need_x (d + 2) h w
    have ht : tre x = true ∧ dep x = 1 := by rcases hx with rfl | ⟨j, rfl⟩ <;> simp [tre, dep]
    let wa : PV := .tup [.str "life", x, .bl true, .bl false, .bl false]
    have hs3 := fun S => cl_same (d + 1) S 6 (.tup [wa, wa, wa]) (by simp [wa, tre, treL, ht]) (by simp [wa, dep, depL, ht])
    refine ⟨[.lst [wa, wa, wa]], ?_⟩
    rw [flt, w] at hf
    rw [w] at hi
    rw [u5]
    simp only [wa] at hs3 ⊢
    simp [d5, ↓cps hf, ↓cps hi, e0, ↓cps (hs1 false), ↓cpx hn0, ↓cpx (hg _), ↓cpx (hd _), ↓cps (hs3 _)]
end Mi.K11
end

section
set_option Elab.async false
set_option linter.all false
set_option maxRecDepth 100000
set_option maxHeartbeats 4000000
namespace Mi.K11
open PySem Mi
theorem hM : prg.df 11 = some dMixed := rfl
theorem hD : prg.df 3 = some (dDraw 11) := rfl
theorem hO : prg.df 20 = some (dOf 3) := rfl
theorem hF : prg.df 8 = some dFolded := rfl
theorem hB : prg.df 1 = some (dBegun 8) := rfl
theorem lg_ok {x : Int} (h0 : 0 < x) (h : x < 2 ^ 64) : x.natAbs.log2 < 9000 := by
  have : Nat.log2 x.natAbs < 64 := (Nat.log2_lt (by omega)).mpr (by omega)
  omega
theorem draw (d : Nat) {r c g : Nat} {b : Int} {S : Sto} (h : Dr r c g b S) (hb : b ≤ 2 ^ 60) (limit : Int) (h0 : 0 < limit) (h1 : limit < 2 ^ 64) :
    ∃ (x : Int) (S' : Sto), prg.cl (d + 2) 3 [.ref r, .int limit] S = .ok (.int x) S' ∧ 0 ≤ x ∧ x < limit ∧ Nx r c g (b + 1) S S' :=
  draw_spec hM hD d h hb h0 (lg_ok h0 h1)
theorem ofs (d : Nat) {r c g : Nat} {b : Int} {S : Sto} (h : Dr r c g b S) (hb : b ≤ 2 ^ 60) (vs : List PV) (h0 : 0 < vs.length) (h1 : vs.length < 1000) :
    ∃ (x : PV) (S' : Sto), prg.cl (d + 3) 20 [.ref r, .ref S.length] (S ++ [.lst vs]) = .ok x S' ∧ x ∈ vs ∧ Nx r c g (b + 1) S S' := by
  obtain ⟨l1, l2, l3⟩ := h.lt
  obtain ⟨x, S', q1, q2, q3⟩ := of_spec hM hD hO d (h.app [.lst vs]) hb (n := S.length) (l := vs) (by simp) (by omega) (by omega) h0 h1
  exact ⟨x, S', q1, q2, q3.dr, (Rl.app _).trans q3.rl⟩
theorem device_spec (d : Nat) {r c g : Nat} {b : Int} {S : Sto} (h : Dr r c g b S) (hb : b + 2 ≤ 2 ^ 60) :
    ∃ (f : Nat) (cap : Int) (S' : Sto), prg.cl (d + 4) 9 [.ref r] S = .ok (.tup [.int f, .int cap]) S' ∧ devG (some (f, cap)) ∧ Nx r c g (b + 2) S S' := by
  obtain ⟨x, S1, q1, q2, q3, q4⟩ := draw (d + 1) h (by omega) 9 (by decide) (by decide)
  obtain ⟨y, S2, p1, p2, p3⟩ := ofs d q4.dr (by omega) [.int 0, .int 1, .int 7, .int 1000, .int 1000000000] (by simp) (by simp)
  have hy : ∃ cap : Int, y = .int cap ∧ 0 ≤ cap ∧ cap ≤ 1000000000 := by
    simp only [List.mem_cons, List.not_mem_nil, or_false] at p2
    rcases p2 with rfl | rfl | rfl | rfl | rfl <;> exact ⟨_, rfl, by decide, by decide⟩
  obtain ⟨cap, rfl, c1, c2⟩ := hy
  have e : (1 + x) = ((1 + x).toNat : Int) := by omega
  refine ⟨(1 + x).toNat, cap, S2, ?_, ⟨by omega, by omega, c1, c2⟩, (q4.trans p3).mono (by omega)⟩
  rw [← e, u9]
  simp [d9, ↓cps q1, ↓cps p1]
/-- where typed rows end -/
def endS : List Rw → Option (Nat × Int) × Int → Option (Nat × Int) × Int
  | [], s => s
  | .put t f c _ :: l, _ => endS l (some (f, c), t)
  | .red e t _ :: l, s => endS l (if e then none else s.1, t)
theorem good_snoc (r : Rw) : ∀ (rs : List Rw) (s : Option (Nat × Int) × Int), good rs s.1 s.2 → good [r] (endS rs s).1 (endS rs s).2 → good (rs ++ [r]) s.1 s.2 := by
  intro rs
  induction rs with
  | nil => intro s _ h; exact h
  | cons r' rs ih =>
    intro s h1 h2
    obtain ⟨D, t⟩ := s
    cases r' with
    | put t' f c v =>
      cases D with
      | some p => simp [good] at h1
      | none => exact ⟨h1.1, h1.2.1, h1.2.2.1, h1.2.2.2.1, h1.2.2.2.2.1, ih (some (f, c), t') h1.2.2.2.2.2 h2⟩
    | red e t' v =>
      cases D with
      | none => simp [good] at h1
      | some p =>
        obtain ⟨f, c⟩ := p
        exact ⟨h1.1, h1.2.1, h1.2.2.1, h1.2.2.2.1, ih (if e then none else some (f, c), t') h1.2.2.2.2 h2⟩
theorem endS_snoc (r : Rw) : ∀ (rs : List Rw) (s : Option (Nat × Int) × Int), endS (rs ++ [r]) s = endS [r] (endS rs s) := by
  intro rs
  induction rs with
  | nil => intro s; rfl
  | cons r' rs ih =>
    intro s
    cases r' with
    | put t' f c v => exact ih _
    | red e t' v => exact ih _
def LifeI (r c g n : Nat) (b : Int) (S0 : Sto) (many : Int) (T : Nat) (rest : List PV) (env : Env1) (S : Sto) : Prop :=
  ∃ (j : Nat) (rs : List Rw) (D : Option (Nat × Int)) (mo : Int) (x2 x6 : Option PV), j + rest.length = T ∧ rs.length = j ∧ env = [some (.ref r), some (.int many), x2, some (.ref n), some (.int mo), some (devP D), x6] ∧
    S[n]? = some (.lst (rs.map Rw.pv)) ∧ good rs none 0 ∧ devG D ∧ (endS rs (none, 0)).1 = D ∧ (endS rs (none, 0)).2 ≤ mo ∧ mo ≤ 30 + 12 * j ∧ Dr r c g (b + 4 * j) S ∧ Rl r g S0 S
theorem life_turn (d : Nat) {r c g n : Nat} {b : Int} {S0 : Sto} {many : Int} {T : Nat} (hT : T ≤ 12) (hn : S0.length ≤ n) (hnr : n ≠ r) (hnc : n ≠ c) (hng : n ≠ g) (hb : b + 100 ≤ 2 ^ 60) (v : PV) (rest : List PV) (env : Env1) (S : Sto) (h : LifeI r c g n b S0 many T (v :: rest) env S) :
    ∃ env1 env2 S', putT env [2] v = some env1 ∧ (exs (prg.ar (prg.cl (d + 4))) b2_0 env1 S = .ok (.nx, env2) S' ∨ exs (prg.ar (prg.cl (d + 4))) b2_0 env1 S = .ok (.cnt, env2) S') ∧ LifeI r c g n b S0 many T rest env2 S' := by
  obtain ⟨j, rs, D, mo, x2, x6, hj, hlen, rfl, hS, hg, hG, hD, hmo, hmo2, hdr, hrl⟩ := h
  simp only [List.length_cons] at hj
  have hll : rs.length < 16777216 := by omega
  cases D with
  | none =>
    obtain ⟨f, cap, S1, q1, q2, q3⟩ := device_spec d hdr (by omega)
    have hf : f ≤ 9 := q2.2.1
    have hro := ring_ok f hf
    have hr9 : (10 : Int) ^ f < 2 ^ 64 := by
      match f, hf with
      | 0, _ => decide
      | 1, _ => decide
      | 2, _ => decide
      | 3, _ => decide
      | 4, _ => decide
      | 5, _ => decide
      | 6, _ => decide
      | 7, _ => decide
      | 8, _ => decide
      | 9, _ => decide
    obtain ⟨y, S2, p1, p2, p3, p4⟩ := draw (d + 2) q3.dr (by omega) (10 ^ f) hro.1 hr9
    have h1 := q3.rl.fr n _ hnr hng hS
    have h2 := p4.rl.fr n _ hnr hng h1
    have hgo : good [Rw.put mo f cap y] (endS rs (none, 0)).1 (endS rs (none, 0)).2 := by
      rw [hD]; exact ⟨q2, hmo, by omega, p2, by omega, trivial⟩
    refine ⟨[some (.ref r), some (.int many), some v, some (.ref n), some (.int mo), some .non, x6], [some (.ref r), some (.int many), some v, some (.ref n), some (.int mo), some (devP (some (f, cap))), x6], S2.set n (.lst (rs.map Rw.pv ++ [(Rw.put mo f cap y).pv])), rfl, .inl ?_, j + 1, rs ++ [.put mo f cap y], some (f, cap), mo, some v, x6, by omega, by simp [hlen], rfl, ?_, good_snoc _ rs (none, 0) hg hgo, q2, ?_, ?_, by omega, ?_, ?_⟩
    · rw [← M.bind_id (exs _ _ _ _)]
      simp only [devP]
      simp [b2_0, ↓cps q1, ↓cps (cl_power (d + 3) f hf S1), ↓cps p1, isL_of h1, ↓z_appL _ h2, hll, Rw.pv]
    · rw [get_set_self h2, List.map_append]; rfl
    · rw [endS_snoc]; rfl
    · rw [endS_snoc]; exact Int.le_refl _
    · exact (p4.dr.setNew hnr hnc hng).mono (by omega)
    · exact ((hrl.trans q3.rl).trans p4.rl).setNew hn h2
  | some p =>
    obtain ⟨f, cap⟩ := p
    have hf : f ≤ 9 := hG.2.1
    have hro := ring_ok f hf
    have hr9 : (10 : Int) ^ f < 2 ^ 64 := by
      match f, hf with
      | 0, _ => decide
      | 1, _ => decide
      | 2, _ => decide
      | 3, _ => decide
      | 4, _ => decide
      | 5, _ => decide
      | 6, _ => decide
      | 7, _ => decide
      | 8, _ => decide
      | 9, _ => decide
    obtain ⟨x, S1, q1, q2, q3, q4⟩ := draw (d + 2) hdr (by omega) 9 (by decide) (by decide)
    obtain ⟨w, S2, p1, p2, p3, p4⟩ := draw (d + 2) q4.dr (by omega) 4 (by decide) (by decide)
    obtain ⟨y, S3, o1, o2, o3, o4⟩ := draw (d + 2) p4.dr (by omega) (10 ^ f) hro.1 hr9
    have h1 := q4.rl.fr n _ hnr hng hS
    have h2 := p4.rl.fr n _ hnr hng h1
    have h3 := o4.rl.fr n _ hnr hng h2
    have hgo : ∀ e : Bool, good [Rw.red e (mo + (1 + x)) y] (endS rs (none, 0)).1 (endS rs (none, 0)).2 := fun e => by
      rw [hD]; exact ⟨by omega, by omega, o2, by omega, trivial⟩
    by_cases hw : w = 0
    · have h4 : (S3.set n (.lst (rs.map Rw.pv ++ [(Rw.red true (mo + (1 + x)) y).pv])))[n]? = some (.lst (rs.map Rw.pv ++ [(Rw.red true (mo + (1 + x)) y).pv])) := get_set_self h3
      obtain ⟨z, S4, k1, k2, k3, k4⟩ := draw (d + 2) (o4.dr.setNew (o := .lst (rs.map Rw.pv ++ [(Rw.red true (mo + (1 + x)) y).pv])) hnr hnc hng) (by omega) 3 (by decide) (by decide)
      have h5 := k4.rl.fr n _ hnr hng h4
      refine ⟨[some (.ref r), some (.int many), some v, some (.ref n), some (.int mo), some (devP (some (f, cap))), x6], [some (.ref r), some (.int many), some v, some (.ref n), some (.int (mo + (1 + x) + z)), some (devP none), some (.str "end")], S4, rfl, .inl ?_, j + 1, rs ++ [.red true (mo + (1 + x)) y], none, mo + (1 + x) + z, some v, some (.str "end"), by omega, by simp [hlen], rfl, ?_, good_snoc _ rs (none, 0) hg (hgo true), trivial, ?_, ?_, by omega, ?_, ?_⟩
      · rw [← M.bind_id (exs _ _ _ _)]
        simp only [devP, Rw.pv, wrd_true] at *
        simp [b2_0, ↓cps q1, ↓cps p1, hw, ↓cps (cl_power (d + 3) f hf S2), ↓cps o1, isL_of h2, ↓z_appL _ h3, hll, ↓cps k1]
      · rw [h5, List.map_append]; rfl
      · rw [endS_snoc]; rfl
      · rw [endS_snoc]; show mo + (1 + x) ≤ _; omega
      · exact k4.dr.mono (by omega)
      · exact ((((hrl.trans q4.rl).trans p4.rl).trans o4.rl).setNew hn h3).trans k4.rl
    · refine ⟨[some (.ref r), some (.int many), some v, some (.ref n), some (.int mo), some (devP (some (f, cap))), x6], [some (.ref r), some (.int many), some v, some (.ref n), some (.int (mo + (1 + x))), some (devP (some (f, cap))), some (.str "read")], S3.set n (.lst (rs.map Rw.pv ++ [(Rw.red false (mo + (1 + x)) y).pv])), rfl, .inl ?_, j + 1, rs ++ [.red false (mo + (1 + x)) y], some (f, cap), mo + (1 + x), some v, some (.str "read"), by omega, by simp [hlen], rfl, ?_, good_snoc _ rs (none, 0) hg (hgo false), hG, ?_, ?_, by omega, ?_, ?_⟩
      · rw [← M.bind_id (exs _ _ _ _)]
        simp only [devP, Rw.pv, wrd_false]
        simp [b2_0, ↓cps q1, ↓cps p1, hw, ↓cps (cl_power (d + 3) f hf S2), ↓cps o1, isL_of h2, ↓z_appL _ h3, hll]
      · rw [get_set_self h3, List.map_append]; rfl
      · rw [endS_snoc]; exact hD
      · rw [endS_snoc]; exact Int.le_refl _
      · exact (o4.dr.setNew hnr hnc hng).mono (by omega)
      · exact (((hrl.trans q4.rl).trans p4.rl).trans o4.rl).setNew hn h3
theorem life_spec (d : Nat) {r c g : Nat} {b : Int} {S : Sto} (h : Dr r c g b S) (hb : b + 200 ≤ 2 ^ 60) (T : Nat) (hT : T ≤ 12) (hT1 : 1 ≤ T) :
    ∃ (rs : List Rw) (S' : Sto), prg.cl (d + 5) 2 [.ref r, .int T] S = .ok (lpv rs) S' ∧ life rs ∧ rs.length = T ∧ Nx r c g (b + 50) S S' := by
  obtain ⟨l1, l2, l3⟩ := h.lt
  obtain ⟨x, S1, q1, q2, q3, q4⟩ := draw (d + 2) (h.app [.lst []]) (by omega) 30 (by decide) (by decide)
  have hS1 : S1[S.length]? = some (.lst (([] : List Rw).map Rw.pv)) := q4.rl.fr S.length _ (by omega) (by omega) (by simp)
  have hin : inRange (T : Int) = true := by simp only [inRange, decide_eq_true_eq]; omega
  obtain ⟨env', S', k1, j, rs, D, mo, x2, x6, k2, k3, rfl, k4, k5, k6, k7, k8, k9, k10, k11⟩ := loopR_ok (fun env S => exs (prg.ar (prg.cl (d + 4))) b2_0 env S) [2] (LifeI r c g S.length (b + 1) S T T)
    (fun v l env S' => life_turn d hT (Nat.le_refl _) (by omega) (by omega) (by omega) (by omega) v l env S') (rngP 0 T) [some (.ref r), some (.int T), none, some (.ref S.length), some (.int x), some .non, none] S1
    ⟨0, [], none, x, none, none, by simp [rngP], rfl, rfl, hS1, trivial, trivial, rfl, q2, by omega, q4.dr.mono (by omega), (Rl.app _).trans q4.rl⟩
  simp only [List.length_nil, Nat.add_zero] at k2
  refine ⟨rs, S', ?_, ⟨k5, fun e => by rw [e] at k3; simp at k3; omega, by omega⟩, by omega, k10.mono (by omega), k11⟩
  rw [u2, e2]
  have hin2 : (T : Int).toNat = T := by omega
  simp [↓cps q1, hin]
  rw [cps k1]
  simp [↓z_tupL _ k4, lpv]
end Mi.K11
end

section
set_option Elab.async false
set_option linter.all false
set_option maxRecDepth 100000
set_option maxHeartbeats 4000000
namespace Mi.K11
open PySem Mi
mutual
theorem okT_kd {S S' : Sto} (hk : ∀ n, isLs S n → isLs S' n) : ∀ {v : PV}, okT S v → okT S' v
  | .ref n, h => by
    rw [okT] at h ⊢
    exact hk n h
  | .tup l, h => by
    rw [okT] at h ⊢
    exact okL_kd hk h
  | .non, _ => by rw [okT] <;> simp
  | .bl _, _ => by rw [okT] <;> simp
  | .int _, _ => by rw [okT] <;> simp
  | .str _, _ => by rw [okT] <;> simp
theorem okL_kd {S S' : Sto} (hk : ∀ n, isLs S n → isLs S' n) : ∀ {l : List PV}, okL S l → okL S' l
  | [], _ => by rw [okL]; trivial
  | v :: l, h => by
    rw [okL] at h ⊢
    exact ⟨okT_kd hk h.1, okL_kd hk h.2⟩
end
theorem okT_ref {S : Sto} {n : Nat} {l : List PV} (h : S[n]? = some (.lst l)) : okT S (.ref n) := by rw [okT]; exact ⟨l, .inl h⟩
def odd1 : List PV := [.non, .bl true, .bl false, .str "read", .str "put", .str "end", .str "ends", .str "", .int (-1), .int 0, .int 1, .int 9, .int 10, .int 10000, .int 10001, .int 1000000000, .int 1000000001]
def odd2 (n : Nat) : List PV := [.int 1000000000000000000000000000000000000000000000000000000000000, .tup [], .tup [.int 0, .int 0], .tup [.int 1, .int 1000000000], .tup [.int 10, .int 5], .tup [.int 0, .int 5], .tup [.int 3, .int (-1)], .tup [.int 3, .bl true], .ref (n + 1), .ref (n + 2), .tup [.str "read", .int 5, .int 0]]
theorem odd_spec (d : Nat) {r c g : Nat} {b : Int} {S : Sto} (h : Dr r c g b S) (hb : b ≤ 2 ^ 60) :
    ∃ (x : PV) (S' : Sto), prg.cl (d + 4) 19 [.ref r] S = .ok x S' ∧ okT S' x ∧ Nx r c g (b + 1) S S' := by
  obtain ⟨l1, l2, l3⟩ := h.lt
  let T : Sto := [.lst (odd1 ++ odd2 S.length), .lst [.int 3, .int 5], .lst [], .lst (odd2 S.length)]
  obtain ⟨x, S', q1, q2, q3⟩ := of_spec hM hD hO d (h.app T) hb (n := S.length) (l := odd1 ++ odd2 S.length) (by simp [T]) (by omega) (by omega) (by simp [odd1]) (by simp [odd1, odd2])
  refine ⟨x, S', ?_, ?_, q3.dr, (Rl.app _).trans q3.rl⟩
  · have he : ∀ k : Kp PV, (opM .extend (.ref S.length) [.ref (S.length + 3)] (S ++ [.lst odd1, .lst [.int 3, .int 5], .lst [], .lst (odd2 S.length)])).bind k = k .non (S ++ T) := fun k => by
      rw [z_extL (l := odd1) (q := odd2 S.length) (by simp) (by rw [List.getElem?_append_right (by omega), Nat.add_sub_cancel_left]; rfl) (by simp [odd1, odd2])]
      simp [T]
    rw [u19]
    simp only [odd1, odd2] at he
    simp [d19]
    rw [he, cps q1]
  · refine okT_kd q3.rl.kd ?_
    have hL : okL (S ++ T) (odd1 ++ odd2 S.length) := by
      have r1 : okT (S ++ T) (.ref (S.length + 1)) := okT_ref (l := [.int 3, .int 5]) (by simp [T])
      have r2 : okT (S ++ T) (.ref (S.length + 2)) := okT_ref (l := []) (by simp [T])
      simp [odd1, odd2, okL, okT] at r1 r2 ⊢
      exact ⟨r1, r2⟩
    exact okL_mem hL x q2
theorem okT_app {S : Sto} {l r : List PV} (h : ∀ x ∈ l, okT S x) (h2 : ∀ x ∈ r, okT S x) : ∀ x ∈ l ++ r, okT S x := fun x hx => (List.mem_append.mp hx).elim (h x) (h2 x)
theorem okT_cut {S : Sto} {l : List PV} (lo hi : Option Int) (h : ∀ x ∈ l, okT S x) : ∀ x ∈ cutP l lo hi, okT S x := fun x hx => h x (cutP_mem x hx)
theorem okT_one {S : Sto} {v : PV} (h : okT S v) : ∀ x ∈ [v], okT S x := fun x hx => by rw [List.mem_singleton.mp hx]; exact h
theorem rw_shape (r : Rw) : ∃ R : List PV, r.pv = .tup R ∧ 3 ≤ R.length ∧ R.length ≤ 4 ∧ (∃ i : Int, R[1]? = some (.int i)) ∧ (∃ i : Int, R[R.length - 1]? = some (.int i)) ∧ ∀ S, ∀ x ∈ R, okT S x := by
  cases r with
  | put t f c v => exact ⟨[.str "put", .int t, .tup [.int f, .int c], .int v], rfl, by simp, by simp, ⟨t, rfl⟩, ⟨v, rfl⟩, fun S => okL_mem (by simp [okL, okT])⟩
  | red e t v => exact ⟨[.str (wrd e), .int t, .int v], rfl, by simp, by simp, ⟨t, rfl⟩, ⟨v, rfl⟩, fun S => okL_mem (by simp [okL, okT])⟩
theorem bent_spec (d : Nat) {r c g : Nat} {b : Int} {S : Sto} (h : Dr r c g b S) (hb : b + 10 ≤ 2 ^ 60) (rs : List Rw) (h1 : 1 ≤ rs.length) (h2 : rs.length ≤ 12) :
    ∃ (v : PV) (S' : Sto), prg.cl (d + 5) 6 [.ref r, lpv rs] S = .ok v S' ∧ okT S' v ∧ Nx r c g (b + 6) S S' := by
  obtain ⟨way, S1, q1, q2, q3, q4⟩ := draw (d + 2) h (by omega) 9 (by decide) (by decide)
  obtain ⟨spot, S2, p1, p2, p3, p4⟩ := draw (d + 2) q4.dr (by omega) ((rs.map Rw.pv).length : Int) (by rw [List.length_map]; omega) (by rw [List.length_map]; omega)
  rw [List.length_map] at p3
  have hsp : spot.toNat < rs.length := by omega
  obtain ⟨R, r1, r2, r3, ⟨i1, r4⟩, ⟨i2, r5⟩, r6⟩ := rw_shape (rs[spot.toNat])
  have hrow : (rs.map Rw.pv)[spot.toNat]? = some (.tup R) := by rw [List.getElem?_map, List.getElem?_eq_getElem hsp, Option.map_some, r1]
  have hL : (rs.map Rw.pv).length ≤ 12 := by rw [List.length_map]; exact h2
  have oL : ∀ S, ∀ x ∈ rs.map Rw.pv, okT S x := fun S x hx => by
    obtain ⟨q, _, rfl⟩ := List.mem_map.mp hx
    exact okT_rw S q
  have hx2 : Nx r c g (b + 2) S S2 := (q4.trans p4).mono (by omega)
  have hrow' : ∀ (S : Sto) (k : Kp PV), (opI (.tup (rs.map Rw.pv)) (.int spot) S).bind k = k (.tup R) S := fun S k => opI_int p2 hrow k
  rw [u6, lpv]
  generalize rs.map Rw.pv = L at *
  have cl := cutP_len L
  have cr := cutP_len R
  by_cases w4 : way < 4
  · obtain ⟨place, S3, o1, o2, o3, o4⟩ := draw (d + 2) hx2.dr (by omega) (R.length : Int) (by omega) (by omega)
    obtain ⟨odd, S4, n1, n2, n3⟩ := odd_spec d o4.dr (by omega)
    have c1 := cl none (some spot)
    have c2 := cl (some (spot + 1)) none
    have c3 := cr none (some place)
    have c4 := cr (some (place + 1)) none
    refine ⟨.tup (cutP L none (some spot) ++ [.tup (cutP R none (some place) ++ [odd] ++ cutP R (some (place + 1)) none)] ++ cutP L (some (spot + 1)) none), S4, ?_, ?_, ((hx2.trans o4).trans n3).mono (by omega)⟩
    · have hd : decide (way < 4) = true := decide_eq_true w4
      simp (disch := first | assumption | (simp only [List.length_append, List.length_cons, List.length_nil, sizeLine_eq]; omega)) only [d6, ↓zok, ↓y_cons, ↓y_par, ↓z_cons, ↓z_call, ↓z_nil, ↓z_loc0, ↓z_loc1, ↓z_loc2, ↓z_loc3, ↓z_loc4, ↓z_loc5, ↓z_int, ↓z_test0, ↓cps q1, ↓z_bi, ↓z_lenT, ↓cps p1, ↓y_parC, ↓y_put3, ↓y_put4, ↓y_parN, ↓y_nx, ↓y_asg, ↓y_put2, ↓z_idx, ↓hrow', ↓y_ife, ↓z_cmp, ↓z_lt, ↓y_ifT, ↓cps o1, ↓y_put5, ↓y_retE, ↓z_bin, ↓z_slc, ↓z_no, ↓z_so, ↓z_asInt, ↓z_cutT, ↓z_tup, ↓z_mkTup, ↓cps n1, ↓z_addT, ↓z_add, ↓y_ret, ↓finK_ret]
    · rw [okT_tup]
      refine okT_app (okT_app (okT_cut _ _ (oL _)) (okT_one ?_)) (okT_cut _ _ (oL _))
      rw [okT_tup]
      exact okT_app (okT_app (okT_cut _ _ (r6 _)) (okT_one n2)) (okT_cut _ _ (r6 _))
  have hd4 : decide (way < 4) = false := decide_eq_false w4
  by_cases w5 : way = 4
  · obtain ⟨st, S3, o1, o2, o3⟩ := ofs (d + 1) hx2.dr (by omega) [.int (-1), .int 1, .int 1000000000] (by simp) (by simp)
    obtain ⟨pl, S4, n1, n2, n3⟩ := ofs (d + 1) o3.dr (by omega) [.int 1, .int ((R.length : Int) - 1)] (by simp) (by simp)
    have hst : ∃ s : Int, st = .int s := by
      simp only [List.mem_cons, List.not_mem_nil, or_false] at o2
      rcases o2 with rfl | rfl | rfl <;> exact ⟨_, rfl⟩
    have hpl : ∃ (p i : Int), pl = .int p ∧ 0 ≤ p ∧ R[p.toNat]? = some (.int i) := by
      simp only [List.mem_cons, List.not_mem_nil, or_false] at n2
      rcases n2 with rfl | rfl
      · exact ⟨1, i1, rfl, by omega, r4⟩
      · exact ⟨(R.length : Int) - 1, i2, rfl, by omega, by rw [show ((R.length : Int) - 1).toNat = R.length - 1 by omega]; exact r5⟩
    obtain ⟨s, rfl⟩ := hst
    obtain ⟨place, i, rfl, m1, m2⟩ := hpl
    have c1 := cl none (some spot)
    have c2 := cl (some (spot + 1)) none
    have c3 := cr none (some place)
    have c4 := cr (some (place + 1)) none
    have hri : ∀ (S : Sto) (k : Kp PV), (opI (.tup R) (.int place) S).bind k = k (.int i) S := fun S k => opI_int m1 m2 k
    refine ⟨.tup (cutP L none (some spot) ++ [.tup (cutP R none (some place) ++ [.int (i + s)] ++ cutP R (some (place + 1)) none)] ++ cutP L (some (spot + 1)) none), S4, ?_, ?_, ((hx2.trans o3).trans n3).mono (by omega)⟩
    · have hd : decide (way = 4) = true := decide_eq_true w5
      simp (disch := first | assumption | (simp only [List.length_append, List.length_cons, List.length_nil, sizeLine_eq]; omega) | decide) only [d6, ↓zok, ↓y_cons, ↓y_nil, ↓y_par, ↓z_cons, ↓z_call, ↓z_nil, ↓z_loc0, ↓z_loc1, ↓z_loc2, ↓z_loc3, ↓z_loc4, ↓z_loc5, ↓z_loc6, ↓z_int, ↓z_test0, ↓cps q1, ↓z_bi, ↓z_lenT, ↓cps p1, ↓y_parC, ↓y_put3, ↓y_put4, ↓y_parN, ↓y_nx, ↓y_asg, ↓y_put2, ↓z_idx, ↓hrow', ↓y_ife, ↓z_cmp, ↓z_lt, ↓y_ifF, ↓z_eq, ↓z_qint, ↓y_ifT, ↓z_lst, ↓z_neg, ↓z_opN, ↓z_pow, ↓z_mkLst, ↓cps o1, ↓cps n1, ↓y_put5, ↓y_put6, ↓y_retE, ↓z_bin, ↓z_sub, ↓hri, ↓z_slc, ↓z_no, ↓z_so, ↓z_asInt, ↓z_cutT, ↓z_tup, ↓z_mkTup, ↓z_addT, ↓z_add, ↓y_ret, ↓finK_ret, Int.reducePow, Int.toNat, Int.reduceNeg, Int.reduceToNat]
    · rw [okT_tup]
      refine okT_app (okT_app (okT_cut _ _ (oL _)) (okT_one ?_)) (okT_cut _ _ (oL _))
      rw [okT_tup]
      exact okT_app (okT_app (okT_cut _ _ (r6 _)) (okT_one (by simp [okT]))) (okT_cut _ _ (r6 _))
  have hd5 : decide (way = 4) = false := decide_eq_false w5
  by_cases w6 : way = 5
  · have c1 := cl none (some spot)
    have c2 := cl (some (spot + 1)) none
    have hd : decide (way = 5) = true := decide_eq_true w6
    refine ⟨.tup (cutP L none (some spot) ++ cutP L (some (spot + 1)) none), S2, ?_, ?_, hx2.mono (by omega)⟩
    · simp (disch := first | assumption | (simp only [List.length_append, List.length_cons, List.length_nil, sizeLine_eq]; omega) | decide) [d6, ↓cps q1, ↓cps p1, ↓hrow', -decide_eq_true_eq]
    · rw [okT_tup]
      exact okT_app (okT_cut _ _ (oL _)) (okT_cut _ _ (oL _))
  have hd6 : decide (way = 5) = false := decide_eq_false w6
  by_cases w7 : way = 6
  · have c1 := cl none (some (spot + 1))
    have c2 := cl (some (spot + 1)) none
    have hd : decide (way = 6) = true := decide_eq_true w7
    refine ⟨.tup (cutP L none (some (spot + 1)) ++ [.tup R] ++ cutP L (some (spot + 1)) none), S2, ?_, ?_, hx2.mono (by omega)⟩
    · simp (disch := first | assumption | (simp only [List.length_append, List.length_cons, List.length_nil, sizeLine_eq]; omega) | decide) [d6, ↓cps q1, ↓cps p1, ↓hrow', -List.append_assoc]
    · rw [okT_tup]
      refine okT_app (okT_app (okT_cut _ _ (oL _)) (okT_one ?_)) (okT_cut _ _ (oL _))
      rw [okT_tup]
      exact r6 _
  have hd7 : decide (way = 6) = false := decide_eq_false w7
  by_cases w8 : way = 7
  · obtain ⟨odd, S3, n1, n2, n3⟩ := odd_spec d (hx2.dr.app [.lst R]) (by omega)
    have hlr : S3[S2.length]? = some (.lst R) := by
      obtain ⟨l1, l2, l3⟩ := hx2.dr.lt
      exact n3.rl.fr _ _ (by omega) (by omega) (by simp)
    have c5 := cr none (some (-1))
    obtain ⟨x, S4, o1, o2, o3⟩ := ofs (d + 1) n3.dr (by omega) [.tup (cutP R none (some (-1))), .tup (R ++ [.int 0]), .ref S2.length, .non, odd] (by simp) (by simp)
    have c1 := cl none (some spot)
    have c2 := cl (some (spot + 1)) none
    have hd : decide (way = 7) = true := decide_eq_true w8
    have hS : Nx r c g (b + 4) S S4 := ⟨o3.dr.mono (by omega), ((hx2.rl.trans (Rl.app _)).trans n3.rl).trans o3.rl⟩
    refine ⟨.tup (cutP L none (some spot) ++ [x] ++ cutP L (some (spot + 1)) none), S4, ?_, ?_, hS.mono (by omega)⟩
    · simp (disch := first | assumption | (simp only [List.length_append, List.length_cons, List.length_nil, sizeLine_eq]; omega) | decide) [d6, ↓cps q1, ↓cps p1, ↓hrow', ↓cps n1, ↓cps o1, -List.append_assoc]
    · rw [okT_tup]
      refine okT_app (okT_app (okT_cut _ _ (oL _)) (okT_one ?_)) (okT_cut _ _ (oL _))
      simp only [List.mem_cons, List.not_mem_nil, or_false] at o2
      rcases o2 with rfl | rfl | rfl | rfl | rfl
      · rw [okT_tup]; exact okT_cut _ _ (r6 _)
      · rw [okT_tup]; exact okT_app (r6 _) (okT_one (by simp [okT]))
      · have := o3.rl.kd _ ⟨R, .inl hlr⟩
        rw [okT]; exact this
      · simp [okT]
      · exact okT_kd o3.rl.kd n2
  have hd8 : decide (way = 7) = false := decide_eq_false w8
  obtain ⟨x, S4, o1, o2, o3⟩ := ofs (d + 1) (hx2.dr.app [.lst L]) (by omega) [.ref S2.length, .non, .tup [], .int 7, .tup (L ++ [.tup []]), .tup [.tup L], .str "life"] (by simp) (by simp)
  have hS : Nx r c g (b + 4) S S4 := ⟨o3.dr.mono (by omega), (hx2.rl.trans (Rl.app _)).trans o3.rl⟩
  refine ⟨x, S4, ?_, ?_, hS.mono (by omega)⟩
  · simp (disch := first | assumption | (simp only [List.length_append, List.length_cons, List.length_nil, sizeLine_eq]; omega) | decide) [d6, ↓cps q1, ↓cps p1, ↓hrow', ↓cps o1, -List.append_assoc]
    simp only [List.length_append, List.length_cons, List.length_nil, Nat.zero_add] at o1
    rw [cps o1]
  · simp only [List.mem_cons, List.not_mem_nil, or_false] at o2
    rcases o2 with rfl | rfl | rfl | rfl | rfl | rfl | rfl
    · have := o3.rl.kd S2.length ⟨L, .inl (by simp)⟩
      rw [okT]; exact this
    · simp [okT]
    · simp [okT, okL]
    · simp [okT]
    · rw [okT_tup]; exact okT_app (oL _) (okT_one (by simp [okT, okL]))
    · rw [okT_tup]; exact okT_one (okT_tup.mpr (oL _))
    · simp [okT]
end Mi.K11
end

section
set_option Elab.async false
set_option linter.all false
set_option maxRecDepth 100000
set_option maxHeartbeats 8000000
namespace Mi.K11
open PySem Mi
theorem sa_meter (d : Nat) {m : PV} (s u : PV) {S : Sto} (h : okT S m) (w : mtr m = false) : prg.cl (d + 4) 21 [m, s, u] S = .exc 3 m S := by
  rw [u21]
  simp [d21, ↓cps (cl_meterP d m S h), w]
theorem sa_shown (d : Nat) {m s : PV} (u : PV) {S : Sto} (h : okT S m) (w : mtr m = true) (h2 : okV S s) (w2 : shw m s = false) : prg.cl (d + 4) 21 [m, s, u] S = .exc 4 s S := by
  rw [u21]
  simp [d21, ↓cps (cl_meterP d m S h), w, ↓cps (cl_shown d m s S w h2), w2]
theorem sa_use (d : Nat) {m s u : PV} {S : Sto} (h : okT S m) (w : mtr m = true) (h2 : okV S s) (w2 : shw m s = true) (h3 : okV S u) (w3 : isI u = false ∨ ∃ i : Int, u = .int i ∧ i < 0) : prg.cl (d + 4) 21 [m, s, u] S = .exc 5 u S := by
  rw [u21]
  rcases w3 with w3 | ⟨i, rfl, w3⟩
  · simp [d21, ↓cps (cl_meterP d m S h), w, ↓cps (cl_shown d m s S w h2), w2, ↓cps (cl_integer (d + 2) u S h3), w3]
  · simp [d21, ↓cps (cl_meterP d m S h), w, ↓cps (cl_shown d m s S w h2), w2, ↓cps (cl_integer (d + 2) _ S h3), w3]
theorem sa_ok (d : Nat) {f : Nat} {c s u : Int} {S : Sto} (hG : devG (some (f, c))) (w2 : shw (.tup [.int f, .int c]) (.int s) = true) (h3 : 0 ≤ u) : prg.cl (d + 4) 21 [.tup [.int f, .int c], .int s, .int u] S = .ok (.int ((s + u) % 10 ^ f)) S := by
  have h : okT S (.tup [.int f, .int c]) := by simp [okT, okL]
  have w : mtr (.tup [.int f, .int c]) = true := mtr_iff.mpr ⟨f, c, rfl, hG⟩
  have h2 : okV S (.int s) := trivial
  have hro := ring_ok f hG.2.1
  have h4 : ¬ u < 0 := by omega
  rw [u21]
  simp [d21, ↓cps (cl_meterP d _ S h), w, ↓cps (cl_shown d _ _ S w h2), w2, ↓cps (cl_integer (d + 2) _ S (show okV S (.int u) from trivial)), h4, ↓ring_at f hG.2.1, hro]
theorem pow_lt (f : Nat) (h : f ≤ 9) : (10 : Int) ^ f < 2 ^ 64 := by
  match f, h with
  | 0, _ => decide
  | 1, _ => decide
  | 2, _ => decide
  | 3, _ => decide
  | 4, _ => decide
  | 5, _ => decide
  | 6, _ => decide
  | 7, _ => decide
  | 8, _ => decide
  | 9, _ => decide
theorem pow_lt2 (f : Nat) (h : f ≤ 9) : (10 : Int) ^ f ≤ 1000000000 := by
  match f, h with
  | 0, _ => decide
  | 1, _ => decide
  | 2, _ => decide
  | 3, _ => decide
  | 4, _ => decide
  | 5, _ => decide
  | 6, _ => decide
  | 7, _ => decide
  | 8, _ => decide
  | 9, _ => decide
theorem cut_1 (x : PV) (l : List PV) : cutP (x :: l) none (some 1) = [x] := by simp [cutP, sIxP]
theorem dial_spec (d : Nat) {r c g : Nat} {b : Int} {S : Sto} (h : Dr r c g b S) (hb : b + 20 ≤ 2 ^ 60) :
    ∃ (S' : Sto), prg.cl (d + 9) 7 [.ref r] S = .ok (.bl true) S' ∧ Nx r c g (b + 20) S S' := by
  obtain ⟨f, cap, S1, q1, hG, q3⟩ := device_spec (d + 4) h (by omega)
  have hf := hG.2.1
  have hro := ring_ok f hf
  have hp2 := pow_lt2 f hf
  obtain ⟨shown, S2, p1, p2, p3, p4⟩ := draw (d + 6) q3.dr (by omega) (10 ^ f) hro.1 (pow_lt f hf)
  obtain ⟨y, S3, o1, o2, o3, o4⟩ := draw (d + 6) p4.dr (by omega) 1000000000000 (by decide) (by decide)
  obtain ⟨un, S4, n1, n2, n3⟩ := ofs (d + 5) o4.dr (by omega) [.int 0, .int 1, .int 7, .int (10 ^ f - 1), .int (10 ^ f), .int y, .int 1000000000000000000000000000000000000000000000000000000000000] (by simp) (by simp)
  have hun : ∃ u : Int, un = .int u ∧ 0 ≤ u := by
    simp only [List.mem_cons, List.not_mem_nil, or_false] at n2
    rcases n2 with rfl | rfl | rfl | rfl | rfl | rfl | rfl <;> exact ⟨_, rfl, by omega⟩
  obtain ⟨u, rfl, hu⟩ := hun
  have hsh : shw (.tup [.int f, .int cap]) (.int shown) = true := by simp [shw, btw]; omega
  have hmt : mtr (.tup [.int f, .int cap]) = true := mtr_iff.mpr ⟨f, cap, rfl, hG⟩
  have okd : ∀ S, okT S (.tup [.int f, .int cap]) := fun S => by simp [okT, okL]
  have k1 := fun S => sa_ok (d + 4) (S := S) hG hsh hu
  have k2 := fun S => cl_meterP (d + 5) (.tup [.int f, .int cap]) S (okd S)
  have s1 := fun S (x : Int) => cl_same (d + 2) S 6 (.tup [.int x, .int x]) (by simp [tre, treL]) (by simp [dep, depL])
  have s2 := fun S => cl_same (d + 2) S 6 (.tup [.bl true, .bl true]) (by simp [tre, treL]) (by simp [dep, depL])
  obtain ⟨odd, S5, m1, m2, m3⟩ := odd_spec (d + 4) n3.dr (by omega)
  have k3 := cl_meterP (d + 5) odd S5 m2
  have k4 := cl_meterL (d + 5) odd S5 m2
  have s3 := fun S (x : Bool) => cl_same (d + 2) S 6 (.bl x) (by simp [tre]) (by simp [dep])
  obtain ⟨wrong, S6, v1, v2, v3⟩ := ofs (d + 5) (m3.dr.app [.lst [.int 3, .int 5]]) (by omega) [.tup [.int 0, .int 5], .tup [.int 10, .int 5], .tup [.int 3, .int (-1)], .tup [.int 3, .int 1000000001], .tup [.int 3], .ref S5.length, .tup [.bl true, .int 5], .non, .tup [.int 3, .int 5, .int 0]] (by simp) (by simp)
  have v4 : okT S6 wrong ∧ mtr wrong = false := by
    simp only [List.mem_cons, List.not_mem_nil, or_false] at v2
    rcases v2 with rfl | rfl | rfl | rfl | rfl | rfl | rfl | rfl | rfl
    case inr.inr.inr.inr.inr.inl =>
      have := v3.rl.kd S5.length ⟨[.int 3, .int 5], .inl (by simp)⟩
      exact ⟨by rw [okT]; exact this, rfl⟩
    all_goals exact ⟨by simp [okT, okL], by simp [mtr, btw]⟩
  have k5 := sa_meter (d + 4) (.int (-1)) (.int (-1)) v4.1 v4.2
  have k6 := cl_meterP (d + 5) wrong S6 v4.1
  rw [v4.2] at k6
  have s4 := fun S => cl_same (d + 2) S 6 (.tup [.str "meter", .bl false]) (by simp [tre, treL]) (by simp [dep, depL])
  obtain ⟨far, S7, t1, t2, t3⟩ := ofs (d + 5) v3.dr (by omega) [.int (-1), .int (10 ^ f), .non, .bl true, .int 1000000000000000000000000000000000000000000000000000000000000] (by simp) (by simp)
  have t4 : okV S7 far ∧ shw (.tup [.int f, .int cap]) far = false ∧ tre far = true ∧ dep far ≤ 1 := by
    simp only [List.mem_cons, List.not_mem_nil, or_false] at t2
    rcases t2 with rfl | rfl | rfl | rfl | rfl <;> refine ⟨trivial, ?_, rfl, by simp [dep]⟩ <;> simp [shw, btw] <;> omega
  have k7 := sa_shown (d + 4) (.int (-1)) (okd S7) hmt t4.1 t4.2.1
  have s5 := fun S => cl_same (d + 2) S 6 (.tup [.str "shown", far, .bl true, .bl false]) (by simp [tre, treL, t4.2.2.1]) (by have := t4.2.2.2; simp [dep, depL]; omega)
  obtain ⟨less, S8, z1, z2, z3⟩ := ofs (d + 5) t3.dr (by omega) [.int (-1), .non, .bl true, .str "0", .int (-1000000000000000000000000000000000000000000000000000000000000)] (by simp) (by simp)
  have z4 : okV S8 less ∧ (isI less = false ∨ ∃ i : Int, less = .int i ∧ i < 0) ∧ tre less = true ∧ dep less ≤ 1 := by
    simp only [List.mem_cons, List.not_mem_nil, or_false] at z2
    rcases z2 with rfl | rfl | rfl | rfl | rfl
    · exact ⟨trivial, .inr ⟨_, rfl, by decide⟩, rfl, by simp [dep]⟩
    · exact ⟨trivial, .inl rfl, rfl, by simp [dep]⟩
    · exact ⟨trivial, .inl rfl, rfl, by simp [dep]⟩
    · exact ⟨trivial, .inl rfl, rfl, by simp [dep]⟩
    · exact ⟨trivial, .inr ⟨_, rfl, by decide⟩, rfl, by simp [dep]⟩
  have k8 := sa_use (d + 4) (okd S8) hmt (s := .int shown) trivial hsh z4.1 z4.2.1
  have s6 := fun S => cl_same (d + 2) S 6 (.tup [.str "use", less, .bl true, .bl false]) (by simp [tre, treL, z4.2.2.1]) (by have := z4.2.2.2; simp [dep, depL]; omega)
  have hS : Nx r c g (b + 20) S S8 := ⟨z3.dr.mono (by omega), (((((((q3.rl.trans p4.rl).trans o4.rl).trans n3.rl).trans m3.rl).trans (Rl.app _)).trans v3.rl).trans t3.rl).trans z3.rl⟩
  refine ⟨S8, ?_, hS⟩
  simp only [List.append_assoc, List.cons_append, List.nil_append, List.length_append, List.length_cons, List.length_nil, Nat.zero_add] at v1
  rw [u7]
  simp [d7, ↓cps q1, ↓cps (cl_power (d + 7) f hf _), ↓cps p1, ↓cps o1, ↓cps n1, ↓cps (k1 _), hro, ↓cps (s1 _ _), ↓cps (k2 _), hmt, ↓cps (s2 _), ↓cps m1, ↓cps k3, ↓cps k4, ↓cps (s3 _ _)]
  rw [cps v1]
  simp [↓cpx k5, ↓cps k6, cut_1, ↓cps (s4 _), ↓cps t1, ↓cpx k7, ↓cps (s5 _), ↓cps z1, ↓cpx k8, ↓cps (s6 _)]
/-! ### the law -/
theorem bends (d : Nat) {r c g : Nat} (rs : List Rw) (h1 : 1 ≤ rs.length) (h2 : rs.length ≤ 12) (x0 x2 x3 x6 : Option PV) : ∀ (l : List PV) (x5 : Option PV) (b : Int) (S : Sto), Dr r c g b S → b + 10 * l.length ≤ 2 ^ 60 →
    ∃ (y : Option PV) (S' : Sto), loopR (fun env S => exs (prg.ar (prg.cl (d + 9))) b0_1 env S) [5] l [x0, some (.ref r), x2, x3, some (lpv rs), x5, x6] S = .ok (.nx, [x0, some (.ref r), x2, x3, some (lpv rs), y, x6]) S' ∧ Dr r c g (b + 10 * l.length) S' := by
  intro l
  induction l with
  | nil => intro x5 b S h _; exact ⟨x5, S, rfl, by simpa using h⟩
  | cons v l ih =>
    intro x5 b S h hb
    simp only [List.length_cons] at hb
    obtain ⟨w, S1, q1, q2, q3⟩ := bent_spec (d + 4) h (by omega) rs h1 h2
    obtain ⟨T, p1⟩ := cl_lifeRight (d + 1) w S1 q2
    obtain ⟨y, S', k1, k2⟩ := ih (some v) (b + 10) (S1 ++ T) ((q3.dr.app T).mono (by omega)) (by omega)
    refine ⟨y, S', ?_, k2.mono (by simp only [List.length_cons]; omega)⟩
    rw [← M.bind_id (loopR _ _ _ _ _), z_loopCons _ _ _ _ (env' := [x0, some (.ref r), x2, x3, some (lpv rs), some v, x6]) rfl]
    simp [b0_1, ↓cps q1, ↓cps p1]
    simp only [b0_1] at k1
    rw [k1]
    rfl
def LawI (r c g : Nat) (T : Nat) (rest : List PV) (env : Env1) (S : Sto) : Prop :=
  ∃ (j : Nat) (x2 x3 x4 x5 x6 : Option PV), j + rest.length = T ∧ env = [some (.ref 0), some (.ref r), x2, x3, x4, x5, x6] ∧ Dr r c g (1000 * j) S
theorem inRange_5 : inRange 5 = true := by decide
theorem law_turn (d : Nat) {r c g : Nat} {T : Nat} (hT : T ≤ 3) (v : PV) (rest : List PV) (env : Env1) (S : Sto) (h : LawI r c g T (v :: rest) env S) :
    ∃ env1 env2 S', putT env [2] v = some env1 ∧ (exs (prg.ar (prg.cl (d + 9))) b0_0 env1 S = .ok (.nx, env2) S' ∨ exs (prg.ar (prg.cl (d + 9))) b0_0 env1 S = .ok (.cnt, env2) S') ∧ LawI r c g T rest env2 S' := by
  obtain ⟨j, x2, x3, x4, x5, x6, hj, rfl, hdr⟩ := h
  simp only [List.length_cons] at hj
  obtain ⟨x, S1, q1, q2, q3, q4⟩ := draw (d + 7) hdr (by omega) 12 (by decide) (by decide)
  obtain ⟨rs, S2, p1, p2, p3, p4⟩ := life_spec (d + 4) q4.dr (by omega) (1 + x).toNat (by omega) (by omega)
  rw [Int.toNat_of_nonneg (by omega)] at p1
  obtain ⟨T1, o1⟩ := cl_lifeRight (d + 1) (lpv rs) S2 (okT_life S2 rs)
  obtain ⟨T2, n1⟩ := cl_sums (d + 2) rs p2 (S2 ++ T1)
  obtain ⟨y, S3, m1, m2⟩ := bends d rs (by omega) (by omega) (some (.ref 0)) (some v) x3 x6 (rngP 0 5) x5 _ (S2 ++ T1 ++ T2) ((p4.dr.app T1).app T2) (by simp [rngP]; omega)
  obtain ⟨S4, k1, k2⟩ := dial_spec d m2 (by simp [rngP]; omega)
  refine ⟨[some (.ref 0), some (.ref r), some v, x3, x4, x5, x6], [some (.ref 0), some (.ref r), some v, x3, some (lpv rs), y, x6], S4, rfl, .inl ?_, j + 1, some v, x3, some (lpv rs), y, x6, by omega, rfl, k2.dr.mono (by simp [rngP]; omega)⟩
  rw [← M.bind_id (exs _ _ _ _)]
  simp [b0_0, ↓cps q1, ↓cps p1, ↓cps o1]
  rw [cps n1]
  simp [inRange_5]
  rw [List.append_assoc] at m1
  rw [cps m1]
  simp [↓cps k1]
theorem inRange_39 : inRange 39 = true := by decide
def longs : List PV := (List.range 39).map fun i : Nat => .tup [.str "read", .int (1 + (0 + (i : Int))), .int 7]
theorem long_comp (d : Nat) (S : Sto) (x0 x1 x2 x3 x4 x5 : Option PV) : loopCR (fun env S => ev (prg.ar (prg.cl d)) (.tup (.cons (.str "read") (.cons (.bin .add (.int 1) (.loc 6)) (.cons (.int 7) .nil)))) false env S) (fun env S => evc (prg.ar (prg.cl d)) .no env S) [6] [x0, x1, x2, x3, x4, x5, none] S.length (rngP 0 39) (S ++ [.lst []]) = .ok () (S ++ [.lst longs]) := by
  have := loopCR_pure (fun env S => ev (prg.ar (prg.cl d)) (.tup (.cons (.str "read") (.cons (.bin .add (.int 1) (.loc 6)) (.cons (.int 7) .nil)))) false env S) (fun env S => evc (prg.ar (prg.cl d)) .no env S) (fun env S => by rw [evc]) [6] [x0, x1, x2, x3, x4, x5, none] S (fun v => .tup [.str "read", .int (match v with | .int i => 1 + i | _ => 0), .int 7]) (rngP 0 39) [] (fun v hv => by
    obtain ⟨j, hj, rfl⟩ := List.mem_map.mp hv
    refine ⟨[x0, x1, x2, x3, x4, x5, some (.int (0 + (j : Nat)))], rfl, fun acc => ?_⟩
    rw [← M.bind_id (ev _ _ _ _ _)]
    simp) (by simp [rngP])
  rw [this]
  simp only [longs, rngP, List.nil_append, List.map_map]
  rfl
theorem plain (ns : List Int) (o : Ob) (hn : ns.length ≤ 63) (ho : o = .fro (ns.map .int) ∨ o = .lst (ns.map .int)) : ∃ S', prg.cl 10 0 [.ref 0] [o] = .ok (.bl true) S' := by
  have hs : ([o] : Sto)[0]? = some (.lst (ns.map .int)) ∨ ([o] : Sto)[0]? = some (.fro (ns.map .int)) := by
    rcases ho with rfl | rfl
    · exact .inr rfl
    · exact .inl rfl
  obtain ⟨r, c, g, S1, q1, q2, q3⟩ := begun_spec hF hB 7 [o] 0 ns (by omega) hs
  have hs1 : S1[0]? = some (.lst (ns.map .int)) ∨ S1[0]? = some (.fro (ns.map .int)) := hs.imp (q3 _ _) (q3 _ _)
  have hlen := fun k : Kp PV => z_lenL (β := PV) hs1 k
  rw [List.length_map] at hlen
  obtain ⟨N, hN, hN1, hN2⟩ : ∃ N : Nat, (2 + (if (ns.length : Int) < 1 then (ns.length : Int) else 1)) = N ∧ 2 ≤ N ∧ N ≤ 3 := by
    by_cases e : (ns.length : Int) < 1
    · exact ⟨2, by rw [if_pos e]; omega, by omega, by omega⟩
    · exact ⟨3, by rw [if_neg e]; rfl, by omega, by omega⟩
  have hin : inRange (N : Int) = true := by simp only [inRange, decide_eq_true_eq]; omega
  obtain ⟨env', S2, k1, j, x2, x3, x4, x5, x6, k2, rfl, k3⟩ := loopR_ok (fun env S => exs (prg.ar (prg.cl 9)) b0_0 env S) [2] (LawI r c g N) (fun v l env S => law_turn 0 hN2 v l env S) (rngP 0 N) [some (.ref 0), some (.ref r), none, none, none, none, none] S1 ⟨0, none, none, none, none, none, by simp [rngP], rfl, by simpa using q2⟩
  have hl0 : ∀ S, ∀ x ∈ longs, okT S x := fun S x hx => by
    obtain ⟨i, _, rfl⟩ := List.mem_map.mp hx
    simp [okT, okL]
  have hll : longs.length = 39 := by simp [longs]
  let p0 : PV := .tup [.str "put", .int 0, .tup [.int 3, .int 5], .int 7]
  let p1 : PV := .tup [.str "end", .int 50, .int 7]
  have hp0 : ∀ S, okT S p0 := fun S => by simp [p0, okT, okL]
  have hp1 : ∀ S, okT S p1 := fun S => by simp [p1, okT, okL]
  have ok1 : ∀ S, okT S (.tup ([p0] ++ longs)) := fun S => okT_tup.mpr (okT_app (okT_one (hp0 S)) (hl0 S))
  have ok2 : ∀ S, okT S (.tup ([p0] ++ longs ++ [p1])) := fun S => okT_tup.mpr (okT_app (okT_app (okT_one (hp0 S)) (hl0 S)) (okT_one (hp1 S)))
  have ok3 : ∀ S, okT S (.tup (cutP ([p0] ++ longs) none (some 1))) := fun S => okT_tup.mpr (okT_cut _ _ (okT_app (okT_one (hp0 S)) (hl0 S)))
  obtain ⟨S3, hS3⟩ : ∃ S3, S3 = S2 ++ [Ob.lst longs] := ⟨_, rfl⟩
  have hc := long_comp 9 S2 (some (.ref 0)) (some (.ref r)) x2 x3 x4 x5
  have ht := z_tupLEnd (β := PV) (S := S2) longs
  rw [← hS3] at hc ht
  obtain ⟨T1, a1⟩ := cl_lifeRight 1 _ S3 (ok1 S3)
  obtain ⟨T2, a2⟩ := cl_lifeRight 1 _ (S3 ++ T1) (ok2 _)
  obtain ⟨T3, a3⟩ := cl_lifeRight 1 _ (S3 ++ T1 ++ T2) (ok3 _)
  refine ⟨S3 ++ T1 ++ T2 ++ T3, ?_⟩
  rw [show 10 = 9 + 1 from rfl, u0, e0]
  simp only [p0, p1] at a1 a2 a3
  generalize longs = L at *
  simp only [List.cons_append, List.nil_append, List.append_assoc] at a1 a2 a3
  have hin2 : (N : Int).toNat = N := by omega
  simp [↓cps q1, ↓hlen]
  rw [hN]
  simp [hin, hin2]
  rw [cps k1]
  simp [inRange_39]
  rw [cps hc]
  simp [↓ht, hll, ↓cps a1, ↓cps a2, ↓cps a3]
end Mi.K11
end

set_option maxRecDepth 100000 in
theorem PySem.Challenge.cw_onebill_k11_lives_and_dials_refused_holds : PySem.Challenge.rw_onebill_k11_lives_and_dials_refused.Holds :=
  Mi.K11.join 9 (by decide) fun ns o hn ho => Mi.K11.plain ns o hn ho
