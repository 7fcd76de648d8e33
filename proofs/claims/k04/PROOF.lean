import PyProof.Rows.All
import Wide.All
import OpenK.AllK
import Wide.FinOn
import HandS.ForMost
import HandS.IsInst
import HandS.TupAny
import HandS.Deep
import HandS.Zip
import HandS.SortInts
import HandS.Defaults
import HandS.Flow
import PySem.Challenge.RW_tidewaits_k04_tides_and_passings
set_option Elab.async false
set_option linter.all false
set_option maxRecDepth 100000
set_option maxHeartbeats 4000000
/-! Ev1: a deep embedding of the laws' Python over data as values: terms, their evaluator, the check against the text. -/
namespace Ev
open PySem PySem.Spec PyProof.Rows L2

abbrev D := PyData
abbrev Env := List (Option D)
/-- texts, lists: below this size -/
def lim : Nat := 1000000

inductive Bo | add | sub | mul | fdiv | mod | pow
  deriving DecidableEq
inductive Co | eq | ne | lt | le | gt | ge | isN | notN | isin | notin
  deriving DecidableEq
inductive Pr | len | int | str | repr | sum | all | any | max | min | sorted | list | tuple | abs | isiT (t : String)
  deriving DecidableEq
/-- targets -/
inductive Tg | nm (i : Nat) | tp (ts : List Tg)
/-- what a loop walks -/
inductive Ik | seq | range | enum | zip
  deriving DecidableEq
/-- expressions -/
inductive PX
  | var (i : Nat) | int (i : Int) | str (x : Str) | bl (b : Bool) | non | nop
  | bin (o : Bo) (a b : PX) | neg (a : PX)
  | cmp (o : Co) (a b : PX) | chain (o p : Co) (a b c : PX)
  | and (a b : PX) | or (a b : PX) | not (a : PX) | ite (c a b : PX)
  | lst (es : List PX) | tup (es : List PX)
  | idx (a i : PX) | sl (a lo hi : PX)
  | call (f : Nat) (es ks : List PX) | prim (p : Pr) (es : List PX)
  | comp (e : PX) (t : Tg) (k : Ik) (its : List PX) (c : PX) (own : List (Str × Nat))
/-- statements -/
inductive SX
  | set (i : Nat) (e : PX) | unp (t : Tg) (e : PX) | par (i j : Nat) (a b : PX)
  | aug (i : Nat) (o : Bo) (e : PX)
  | setIx (i : Nat) (ix e : PX) | app (i : Nat) (e : PX) | exp (e : PX)
  | ite (c : PX) (a b : List SX)
  | for (t : Tg) (k : Ik) (es : List PX) (b : List SX) (os : List Nat)
  | ret (e : PX) | brk | cont | pass

/-! ### the evaluator -/
@[simp] def truthD : D → Option Bool
  | .none => some false
  | .bool b => some b
  | .int i => some (i != 0)
  | .str x => if x.length < lim then some (x.length != 0) else none
  | .list ds => some (!ds.isEmpty)
  | .tuple ds => some (!ds.isEmpty)
  | .dict _ => none
def binD : Bo → D → D → Option D
  | .add, .int a, .int b => some (.int (a + b))
  | .add, .str a, .str b => if a.length + b.length < lim then some (.str (a ++ b)) else none
  | .add, .list a, .list b => if a.length + b.length < lim then some (.list (a ++ b)) else none
  | .add, .tuple a, .tuple b => if a.length + b.length < lim then some (.tuple (a ++ b)) else none
  | .sub, .int a, .int b => some (.int (a - b))
  | .mul, .int a, .int b => if a.natAbs < 2 ^ 64 ∨ b.natAbs < 2 ^ 64 then some (.int (a * b)) else none
  | .mul, .list a, .int k => if k.natAbs < lim ∧ a.length * k.toNat < lim then some (.list (List.replicate k.toNat a).flatten) else none
  | .fdiv, .int a, .int b => if b ≠ 0 ∧ b.natAbs < 1073741824 then some (.int (a.fdiv b)) else none
  | .mod, .int a, .int b => if b ≠ 0 then some (.int (a.fmod b)) else none
  | .pow, .int a, .int b => if 0 ≤ b ∧ b ≤ 1000000 ∧ a.natAbs < 2 ^ 64 then some (.int (a ^ b.toNat)) else none
  | _, _, _ => none
@[simp] def isNoneD : D → Bool
  | .none => true
  | _ => false
def cmpD : Co → D → D → Option D
  | .eq, a, b => if SeqAt.shaped a && SeqAt.shaped b then some (.bool (PyData.eqv a b)) else none
  | .ne, a, b => if SeqAt.shaped a && SeqAt.shaped b then some (.bool (!PyData.eqv a b)) else none
  | .lt, .int a, .int b => some (.bool (decide (a < b)))
  | .le, .int a, .int b => some (.bool (decide (a ≤ b)))
  | .gt, .int a, .int b => some (.bool (decide (b < a)))
  | .ge, .int a, .int b => some (.bool (decide (b ≤ a)))
  | .isN, a, .none => some (.bool (isNoneD a))
  | .notN, a, .none => some (.bool (!isNoneD a))
  | .isin, a, .list ds => if SeqAt.shaped a && SeqAt.shaped (.list ds) then some (.bool (ds.any fun z => PyData.eqv z a)) else none
  | .notin, a, .list ds => if SeqAt.shaped a && SeqAt.shaped (.list ds) then some (.bool (!ds.any fun z => PyData.eqv z a)) else none
  | _, _, _ => none
def idxD : D → D → Option D
  | .list ds, .int i => atI ds i
  | .tuple ds, .int i => atI ds i
  | .str x, .int i => if x.length < lim then (atI x.cps.toList i).map fun c => .str ⟨#[c]⟩ else none
  | _, _ => none
def cutL (ds : List D) (lo hi : Option Int) : List D := (ds.drop (HT.sIx ds.length 0 lo)).take (HT.sIx ds.length ds.length hi - HT.sIx ds.length 0 lo)
@[simp] def optI : D → Option (Option Int)
  | .int i => some (some i)
  | _ => none
@[simp] def isNop : PX → Bool
  | .nop => true
  | _ => false
@[simp] def slD : D → Option Int → Option Int → Option D
  | .list ds, lo, hi => some (.list (cutL ds lo hi))
  | .tuple ds, lo, hi => some (.tuple (cutL ds lo hi))
  | _, _, _ => none
@[simp] def intsOf : List D → Option (List Int)
  | [] => some []
  | .int i :: r => (intsOf r).map (i :: ·)
  | _ :: _ => none
@[simp] def boolsOf : List D → Option (List Bool)
  | [] => some []
  | .bool i :: r => (boolsOf r).map (i :: ·)
  | _ :: _ => none
def maxI : Int → List Int → Int
  | m, [] => m
  | m, x :: r => maxI (if x > m then x else m) r
def minI : Int → List Int → Int
  | m, [] => m
  | m, x :: r => minI (if x < m then x else m) r
@[simp] def tyD : D → String
  | .none => "NoneType"
  | .bool _ => "bool"
  | .int _ => "int"
  | .str _ => "str"
  | .list _ => "list"
  | .tuple _ => "tuple"
  | .dict _ => "dict"
def insI (x : Int) : List Int → List Int
  | [] => [x]
  | y :: r => if x ≤ y then x :: y :: r else y :: insI x r
def sortI : List Int → List Int
  | [] => []
  | x :: r => insI x (sortI r)
def reprD (d : D) : Option D := if d.showable && !d.hasDict && decide (d.depth < 60) && decide (d.shown.length < lim) then some (.str d.shown) else none
def primD : Pr → List D → Option D
  | .len, [.list ds] => some (.int ds.length)
  | .len, [.tuple ds] => some (.int ds.length)
  | .len, [.str x] => if x.length < lim then some (.int x.length) else none
  | .int, [.int i] => some (.int i)
  | .int, [.bool b] => some (.int (if b then 1 else 0))
  | .str, [.int i] => if i.natAbs.log2 < 1920 then some (.str (toString i)) else none
  | .repr, [.list ds] => reprD (.list ds)
  | .repr, [.tuple ds] => reprD (.tuple ds)
  | .sum, [.list ds] => (intsOf ds).map fun ns => .int ns.sum
  | .all, [.list ds] => (boolsOf ds).map fun bs => .bool (bs.all id)
  | .any, [.list ds] => (boolsOf ds).map fun bs => .bool (bs.any id)
  | .max, [.list ds] => match intsOf ds with
    | some (n :: r) => some (.int (maxI n r))
    | _ => none
  | .min, [.list ds] => match intsOf ds with
    | some (n :: r) => some (.int (minI n r))
    | _ => none
  | .max, [.int i, .int j] => some (.int (if j > i then j else i))
  | .min, [.int i, .int j] => some (.int (if j < i then j else i))
  | .abs, [.int i] => some (.int (if i < 0 then -i else i))
  | .sorted, [.list ds] => match intsOf ds with
    | some ns => some (.list ((sortI ns).map .int))
    | _ => none
  | .list, [.list ds] => some (.list ds)
  | .list, [.tuple ds] => some (.list ds)
  | .tuple, [.list ds] => some (.tuple ds)
  | .tuple, [.tuple ds] => some (.tuple ds)
  | .isiT t, [d] => (kitB (tyD d) t).map .bool
  | _, _ => none

mutual
@[simp] def bindT : Tg → D → Env → Option Env
  | .nm i, d, env => some (env.set i (some d))
  | .tp ts, .tuple ds, env => bindTs ts ds env
  | .tp _, _, _ => none
@[simp] def bindTs : List Tg → List D → Env → Option Env
  | [], [], env => some env
  | t :: ts, d :: ds, env => (bindT t d env).bind fun e => bindTs ts ds e
  | _, _, _ => none
end
@[simp] def wipeE (env : Env) : List Nat → Env
  | [] => env
  | v :: vs => (wipeE env vs).set v none
def upto (lo : Int) : Nat → List D
  | 0 => []
  | n + 1 => .int lo :: upto (lo + 1) n
def rngOk (i : Int) : Bool := decide (-(2 ^ 62) ≤ i) && decide (i < 2 ^ 62)
def enumD (i : Nat) : List D → List D
  | [] => []
  | d :: r => .tuple [.int i, d] :: enumD (i + 1) r
def zipD : List D → List D → List D
  | a :: r, b :: s => .tuple [a, b] :: zipD r s
  | _, _ => []
def itD : Ik → List D → Option (List D)
  | .seq, [.list ds] => some ds
  | .seq, [.tuple ds] => some ds
  | .range, [.int n] => if rngOk n then some (upto 0 n.toNat) else none
  | .range, [.int a, .int b] => if rngOk a && rngOk b then some (upto a (b - a).toNat) else none
  | .enum, [.list ds] => some (enumD 0 ds)
  | .zip, [.list a, .list b] => some (zipD a b)
  | .zip, [.tuple a, .tuple b] => some (zipD a b)
  | _, _ => none
def compD (f : D → Option (Option D)) : List D → Option (List D)
  | [] => some []
  | d :: ds => match f d with
    | some (some x) => (compD f ds).map (x :: ·)
    | some none => compD f ds
    | none => none
inductive Out | nx (env : Env) | rt (d : D) | bk (env : Env) | ct (env : Env)
def forD (f : D → Env → Option Out) : List D → Env → Option Out
  | [], env => some (.nx env)
  | d :: ds, env => match f d env with
    | some (.nx e) => forD f ds e
    | some (.ct e) => forD f ds e
    | some (.bk e) => some (.nx e)
    | some (.rt r) => some (.rt r)
    | none => none

inductive Mode | fr | sh | pk
  deriving DecidableEq
/-- a def that may be called: its name, how many arguments, how its value comes, what it is worth -/
structure FnI where
  name : Str
  np : Nat
  kw : List Str
  md : Mode
  sem : List D → Option D
variable (Γ : List FnI)
mutual
@[simp] def evE : PX → Env → Option D
  | .var i, env => (env[i]?).join
  | .int i, _ => some (.int i)
  | .str x, _ => some (.str x)
  | .bl b, _ => some (.bool b)
  | .non, _ => some .none
  | .nop, _ => none
  | .bin o a b, env => (evE a env).bind fun x => (evE b env).bind fun y => binD o x y
  | .neg a, env => match evE a env with
    | some (.int i) => some (.int (-i))
    | _ => none
  | .cmp o a b, env => (evE a env).bind fun x => (evE b env).bind fun y => cmpD o x y
  | .chain o p a b c, env => (evE a env).bind fun x => (evE b env).bind fun y => match cmpD o x y with
    | some (.bool true) => (evE c env).bind fun z => cmpD p y z
    | some (.bool false) => some (.bool false)
    | _ => none
  | .and a b, env => match evE a env with
    | some (.bool true) => evE b env
    | some (.bool false) => some (.bool false)
    | _ => none
  | .or a b, env => match evE a env with
    | some (.bool true) => some (.bool true)
    | some (.bool false) => evE b env
    | _ => none
  | .not a, env => ((evE a env).bind truthD).map fun b => .bool (!b)
  | .ite c a b, env => match evT c env with
    | some true => evE a env
    | some false => evE b env
    | none => none
  | .lst es, env => (evL es env).bind fun ds => if ds.length < lim then some (.list ds) else none
  | .tup es, env => (evL es env).bind fun ds => if ds.length < lim then some (.tuple ds) else none
  | .idx a i, env => (evE a env).bind fun x => (evE i env).bind fun y => idxD x y
  | .sl a lo hi, env => (evE a env).bind fun x => (if isNop lo then some none else (evE lo env).bind optI).bind fun l => (if isNop hi then some none else (evE hi env).bind optI).bind fun h => slD x l h
  | .call f es ks, env => (evL es env).bind fun ds => (evL ks env).bind fun zs => (Γ[f]?).bind fun F => F.sem (ds ++ zs)
  | .prim p es, env => (evL es env).bind fun ds => primD p ds
  | .comp e t k its c own, env => (evL its env).bind fun ws => (itD k ws).bind fun ds =>
      if ds.length < lim then
        (compD (fun d => (bindT t d (wipeE env (own.map (·.2)))).bind fun env1 => match evT c env1 with
          | some true => (evE e env1).map some
          | some false => some none
          | none => none) ds).map .list
      else none
@[simp] def evT : PX → Env → Option Bool
  | .and a b, env => match evT a env with
    | some true => evT b env
    | some false => some false
    | none => none
  | .or a b, env => match evT a env with
    | some true => some true
    | some false => evT b env
    | none => none
  | .not a, env => (evT a env).map (!·)
  | .nop, _ => some true
  | .var i, env => ((env[i]?).join).bind truthD
  | .bl b, _ => some b
  | .cmp o a b, env => ((evE a env).bind fun x => (evE b env).bind fun y => cmpD o x y).bind truthD
  | .chain o p a b c, env => ((evE a env).bind fun x => (evE b env).bind fun y => match cmpD o x y with
    | some (.bool true) => (evE c env).bind fun z => cmpD p y z
    | some (.bool false) => some (.bool false)
    | _ => none).bind truthD
  | .idx a i, env => ((evE a env).bind fun x => (evE i env).bind fun y => idxD x y).bind truthD
  | .call f es ks, env => ((evL es env).bind fun ds => (evL ks env).bind fun zs => (Γ[f]?).bind fun F => F.sem (ds ++ zs)).bind truthD
  | .prim p es, env => ((evL es env).bind fun ds => primD p ds).bind truthD
  | _, _ => none
@[simp] def evL : List PX → Env → Option (List D)
  | [], _ => some []
  | e :: es, env => (evE e env).bind fun x => (evL es env).map (x :: ·)
end
mutual
@[simp] def exS : SX → Env → Option Out
  | .set i e, env => (evE Γ e env).map fun d => .nx (env.set i (some d))
  | .unp t e, env => (evE Γ e env).bind fun d => (bindT t d env).map .nx
  | .par i j a b, env => (evE Γ a env).bind fun x => (evE Γ b env).map fun y => .nx ((env.set i (some x)).set j (some y))
  | .aug i o e, env => ((env[i]?).join).bind fun x => (evE Γ e env).bind fun y => match x, y with
    | .int _, .int _ => (binD o x y).map fun z => .nx (env.set i (some z))
    | _, _ => none
  | .setIx i ix e, env => (evE Γ e env).bind fun d => match (env[i]?).join with
    | some (.list ds) => (evE Γ ix env).bind fun k => match k with
      | .int k => (ixN ds.length k).map fun j => .nx (env.set i (some (.list (ds.set j d))))
      | _ => none
    | _ => none
  | .app i e, env => match (env[i]?).join with
    | some (.list ds) => (evE Γ e env).bind fun d => if ds.length < lim then some (.nx (env.set i (some (.list (ds ++ [d]))))) else none
    | _ => none
  | .exp e, env => (evE Γ e env).map fun _ => .nx env
  | .ite c a b, env => match evT Γ c env with
    | some true => exB a env
    | some false => exB b env
    | none => none
  | .for t k es b _, env => (evL Γ es env).bind fun ws => (itD k ws).bind fun ds => forD (fun d env => (bindT t d env).bind fun e1 => exB b e1) ds env
  | .ret e, env => (evE Γ e env).map .rt
  | .brk, env => some (.bk env)
  | .cont, env => some (.ct env)
  | .pass, env => some (.nx env)
@[simp] def exB : List SX → Env → Option Out
  | [], env => some (.nx env)
  | s :: r, env => match exS s env with
    | some (.nx e) => exB r e
    | o => o
end
/-- what a def is worth -/
def runD (n : Nat) (b : List SX) (np : Nat) (ds : List D) : Option D :=
  if ds.length = np then
    match exB Γ b (ds.map some ++ List.replicate (n - ds.length) none) with
    | some (.rt d) => some d
    | some (.nx _) => some .none
    | _ => none
  else none
end Ev
/-! Ev2: the check of a term against the text; who owns its list. -/
namespace Ev
open PySem PySem.Spec PyProof.Rows L2

/-- the names that own a fresh list; those that are lent -/
structure Ow where
  o : List Nat
  b : List Nat
structure CC where
  N : List Str
  sc : Scope
  Γ : List FnI
  blt : List Str
  gk : Bool
  inb : Bool
def meet : Mode → Mode → Mode
  | .pk, _ => .pk
  | _, .pk => .pk
  | .sh, _ => .sh
  | _, .sh => .sh
  | .fr, .fr => .fr
def le : Mode → Mode → Bool
  | .fr, _ => true
  | .sh, .fr => false
  | .sh, _ => true
  | .pk, .pk => true
  | .pk, _ => false
def md (Γ : List FnI) (W : Ow) : PX → Mode
  | .var i => if W.o.contains i || W.b.contains i then .pk else .sh
  | .idx .. => .sh
  | .ite _ a b => meet (md Γ W a) (md Γ W b)
  | .and _ b => md Γ W b
  | .or _ b => md Γ W b
  | .call f _ _ => match Γ[f]? with
    | some F => F.md
    | none => .pk
  | _ => .fr
def isTst : PX → Bool
  | .and a b => isTst a && isTst b
  | .or a b => isTst a && isTst b
  | .not a => isTst a
  | .var _ => true
  | .bl _ => true
  | .cmp .. => true
  | .chain .. => true
  | .idx .. => true
  | .call .. => true
  | .prim .. => true
  | _ => false
def vis (sc : Scope) (x : Str) : Bool := match sc.names.lookup x with
  | some .local => true
  | some .cell => true
  | some .free => true
  | _ => false
def glb (sc : Scope) (x : Str) : Bool := match sc.names.lookup x with
  | some .globalImplicit => true
  | _ => false
def locl (sc : Scope) (x : Str) : Bool := match sc.names.lookup x with
  | some .local => true
  | _ => false
def stor (C : CC) (x : Str) : Bool := match C.sc.names.lookup x with
  | some .local => true
  | some .cell => !C.inb
  | _ => false
def noDbg (x : Str) : Bool := !(x == ("__debug__" : Str)) && !(x == ("__classdict__" : Str)) && !(x == ("__name__" : Str))
def boM : Bo → Operator → Bool
  | .add, .Add => true
  | .sub, .Sub => true
  | .mul, .Mult => true
  | .fdiv, .FloorDiv => true
  | .mod, .Mod => true
  | .pow, .Pow => true
  | _, _ => false
def coM : Co → CmpOp → Bool
  | .eq, .Eq => true
  | .ne, .NotEq => true
  | .lt, .Lt => true
  | .le, .LtE => true
  | .gt, .Gt => true
  | .ge, .GtE => true
  | .isN, .Is => true
  | .notN, .IsNot => true
  | .isin, .In => true
  | .notin, .NotIn => true
  | _, _ => false
def isNonE : Expr → Bool
  | .Constant .none _ _ => true
  | _ => false
/-- is None: the right side is written -/
def coOk : Co → Expr → Bool
  | .isN, r => isNonE r
  | .notN, r => isNonE r
  | _, _ => true
def isBasic : Co → Bool
  | .isN => false
  | .notN => false
  | .isin => false
  | .notin => false
  | _ => true
def prN : Pr → Str
  | .len => "len" | .int => "int" | .str => "str" | .repr => "repr" | .sum => "sum" | .all => "all" | .any => "any"
  | .max => "max" | .min => "min" | .sorted => "sorted" | .list => "list" | .tuple => "tuple" | .abs => "abs" | .isiT _ => "isinstance"
def isTupE : Expr → Bool
  | .Tuple .. => true
  | _ => false
def isSlice : Expr → Bool
  | .Slice .. => true
  | _ => false
def isStar : Expr → Bool
  | .Starred .. => true
  | _ => false
def noStar (es : List Expr) : Bool := es.all fun e => !isStar e
mutual
def chkTg (C : CC) (W : Ow) : Tg → Expr → Bool
  | .nm i, .Name x _ => decide (C.N[i]? = some x) && stor C x && !W.o.contains i && !W.b.contains i
  | .tp ts, .Tuple es _ _ => chkTgs C W ts es
  | _, _ => false
def chkTgs (C : CC) (W : Ow) : List Tg → List Expr → Bool
  | [], [] => true
  | t :: ts, e :: es => !isStar e && chkTg C W t e && chkTgs C W ts es
  | _, _ => false
end
def tgIn : Tg → List Nat → Bool
  | .nm i, own => own.contains i
  | .tp ts, own => tgIns ts own
where
  tgIns : List Tg → List Nat → Bool
  | [], _ => true
  | t :: ts, own => tgIn t own && tgIns ts own
/-- the names of keywords, their values -/
def kwn (kws : List Keyword) : List (Option Str) := kws.map fun ⟨n, _, _⟩ => n
def kwv (kws : List Keyword) : List Expr := kws.map fun ⟨_, v, _⟩ => v
def isiOk (t : String) : Bool := t == "bool" || t == "int" || t == "str" || t == "list" || t == "tuple"
/-- the arguments of what is walked -/
def itArgs (C : CC) (tg : Expr) : Ik → Expr → Option (List Expr)
  | .seq, .Set .. => none
  | .seq, x => some [x]
  | .range, .Call (.Name n _) xs [] _ => if decide (n = "range") && glb C.sc n && C.blt.contains n && (xs.length == 1 || xs.length == 2) then some xs else none
  | .enum, .Call (.Name n _) [x] [] _ => if decide (n = "enumerate") && glb C.sc n && C.blt.contains n && isTupE tg then some [x] else none
  | .zip, .Call (.Name n _) [x, y] [] _ => if decide (n = "zip") && glb C.sc n && C.blt.contains n && isTupE tg then some [x, y] else none
  | _, _ => none
mutual
def chkE (C : CC) (W : Ow) : PX → Expr → Bool
  | .var i, .Name x _ => decide (C.N[i]? = some x) && vis C.sc x && noDbg x
  | .int i, .Constant (.int j) _ _ => decide (i = j)
  | .str x, .Constant (.str y) _ _ => decide (x = y)
  | .bl a, .Constant (.bool b) _ _ => decide (a = b)
  | .non, .Constant .none _ _ => true
  | .bin o a b, .BinOp x op y _ => boM o op && chkE C W a x && chkE C W b y
  | .neg a, .UnaryOp .USub x _ => chkE C W a x
  | .cmp o a b, .Compare x [op] [y] _ => coM o op && coOk o y && !behindInMarks op y && chkE C W a x && chkE C W b y
  | .chain o p a b c, .Compare x [op, op'] [y, z] _ => isBasic o && isBasic p && coM o op && coM p op' && chkE C W a x && chkE C W b y && chkE C W c z
  | .and a b, .BoolOp .And (x :: y :: rest) p => isTst a && isTst b && chkE C W a x && (match rest with
    | [] => chkE C W b y
    | _ :: _ => (match b with
      | .and _ _ => true
      | _ => false) && chkE C W b (.BoolOp .And (y :: rest) p))
  | .or a b, .BoolOp .Or (x :: y :: rest) p => isTst a && isTst b && chkE C W a x && (match rest with
    | [] => chkE C W b y
    | _ :: _ => (match b with
      | .or _ _ => true
      | _ => false) && chkE C W b (.BoolOp .Or (y :: rest) p))
  | .not a, .UnaryOp .Not x _ => isTst a && chkE C W a x
  | .ite c a b, .IfExp z x y _ => isTst c && chkE C W c z && chkE C W a x && chkE C W b y
  | .lst es, .List xs _ => chkL C W .sh es xs
  | .tup es, .Tuple xs _ _ => chkL C W .sh es xs
  | .idx a i, .Subscript x y _ => !isSlice y && chkE C W a x && chkE C W i y
  | .sl a lo hi, .Subscript x (.Slice l h none _) _ => chkE C W a x && (match l with
      | none => isNop lo
      | some y => !isNop lo && chkE C W lo y) && (match h with
      | none => isNop hi
      | some y => !isNop hi && chkE C W hi y)
  | .call f es ks, .Call (.Name x _) xs kws _ => (match C.Γ[f]? with
      | some F => decide (F.name = x) && decide (xs.length + kws.length = F.np) && decide (kwn kws = F.kw.map some) && !xs.isEmpty
      | none => false) && glb C.sc x && noDbg x && chkL C W .sh es xs && chkL C W .sh ks (kwv kws)
  | .prim p es, .Call (.Name x _) xs [] _ => (match p with
      | .isiT t => (match xs with
        | [a, .Name y _] => isiOk t && decide (y = PySem.Str.ofString t) && glb C.sc y && noDbg y && C.blt.contains y && chkL C W .pk es [a] && !isStar a
        | _ => false)
      | .repr => C.gk && chkL C W .pk es xs && !xs.isEmpty
      | _ => chkL C W .pk es xs && !xs.isEmpty) && decide (prN p = x) && glb C.sc x && C.blt.contains x && noDbg x
  | .comp e t k its c own, .ListComp elt [⟨tg, iter, ifs, n⟩] scope _ =>
      decide (n = 0) && blkC C.N C.sc scope own && (match itArgs C tg k iter with
        | some xs => chkL C W .sh its xs
        | none => false) && tgIn t (own.map (·.2)) && chkTg { C with sc := relS scope C.sc, inb := true } W t tg &&
      own.all (fun p => !W.o.contains p.2 && !W.b.contains p.2) && (match ifs with
        | [] => isNop c
        | [z] => isTst c && chkE { C with sc := relS scope C.sc, inb := true } W c z
        | _ => false) && chkE { C with sc := relS scope C.sc, inb := true } W e elt && le (md C.Γ W e) .sh
  | _, _ => false
termination_by structural p => p
def chkL (C : CC) (W : Ow) (m : Mode) : List PX → List Expr → Bool
  | [], [] => true
  | e :: es, x :: xs => !isStar x && chkE C W e x && le (md C.Γ W e) m && chkL C W m es xs
  | _, _ => false
termination_by structural ps => ps
end
def chkIt (C : CC) (W : Ow) (k : Ik) (its : List PX) (iter tg : Expr) : Bool := match itArgs C tg k iter with
  | some xs => chkL C W .sh its xs
  | none => false
/-! who leaves his place in an expression -/
mutual
def esc : Mode → PX → List Nat
  | .pk, .var _ => []
  | _, .var i => [i]
  | _, .bin _ a b => esc .pk a ++ esc .pk b
  | _, .neg a => esc .pk a
  | _, .cmp _ a b => esc .pk a ++ esc .pk b
  | _, .chain _ _ a b c => esc .pk a ++ esc .pk b ++ esc .pk c
  | m, .and a b => esc .pk a ++ esc m b
  | m, .or a b => esc .pk a ++ esc m b
  | _, .not a => esc .pk a
  | m, .ite c a b => esc .pk c ++ esc m a ++ esc m b
  | _, .lst es => escL .sh es
  | _, .tup es => escL .sh es
  | _, .idx a i => esc .pk a ++ esc .pk i
  | _, .sl a lo hi => esc .pk a ++ esc .pk lo ++ esc .pk hi
  | _, .call _ es ks => escL .sh es ++ escL .sh ks
  | _, .prim _ es => escL .pk es
  | _, .comp e _ _ its c _ => esc .sh e ++ escL .sh its ++ esc .pk c
  | _, _ => []
termination_by structural _ p => p
def escL : Mode → List PX → List Nat
  | _, [] => []
  | m, e :: es => esc m e ++ escL m es
termination_by structural _ ps => ps
end
/-- a name that owns -/
def isOwn (o : List Nat) : PX → Bool
  | .var i => o.contains i
  | _ => false
def dropL (o : List Nat) (l : List Nat) : List Nat := o.filter fun i => !l.contains i
/-- name i is stored: by a fresh value, or by a shared one -/
def putL (o : List Nat) (i : Nat) (m : Mode) : List Nat := if m = .fr then i :: o.filter (fun j => j != i) else o.filter (fun j => j != i)
def sub (a b : List Nat) : Bool := a.all fun i => b.contains i
def inter (a b : List Nat) : List Nat := a.filter fun i => b.contains i
/-- behind a statement: none: the check fails; some none: it never ends so; some o: who owns then -/
abbrev WR := Option (Option (List Nat))
def wjoin : Option (List Nat) → Option (List Nat) → Option (List Nat)
  | none, w => w
  | w, none => w
  | some a, some b => some (inter a b)
abbrev ow (o : List Nat) : Ow := ⟨o, []⟩
def swpB (C : CC) (e : Expr) (x : Str) (px : Pos) : Bool := match e with
  | .ListComp _ _ sc pos => locl C.sc x && px.line == pos.line && !(sc.names.any fun (n, k) => n == x && (k == .local || k == .cell))
  | _ => false
def isLc : Expr → Bool
  | .ListComp .. => true
  | _ => false
def badC : Expr → Bool
  | .SetComp .. => true
  | .DictComp .. => true
  | _ => false
def isTup : Expr → Bool
  | .Tuple .. => true
  | _ => false
mutual
def chkS (C : CC) (m : Mode) (L : Option (List Nat)) (o : List Nat) : SX → Stmt → WR
  | .set i e, .Assign [.Name x px] v _ =>
    if decide (C.N[i]? = some x) && stor C x && !badC v && chkE C (ow (dropL o (esc .sh e))) e v && le (md C.Γ (ow (dropL o (esc .sh e))) e) .sh then some (some (putL (dropL o (esc .sh e)) i (md C.Γ (ow (dropL o (esc .sh e))) e))) else none
  | .unp t e, .Assign [.Tuple ts k q] v _ =>
    if chkTg C (ow (dropL o (esc .sh e))) t (.Tuple ts k q) && chkE C (ow (dropL o (esc .sh e))) e v && le (md C.Γ (ow (dropL o (esc .sh e))) e) .sh && !badC v && !isLc v && !isTup v then some (some (dropL o (esc .sh e))) else none
  | .par i j a b, .Assign [.Tuple [.Name x px, .Name y py] _ _] (.Tuple [u, v] _ _) _ =>
    if decide (C.N[i]? = some x) && decide (C.N[j]? = some y) && locl C.sc x && locl C.sc y && decide (i ≠ j) && chkE C (ow (dropL o (esc .sh a ++ esc .sh b))) a u && chkE C (ow (dropL o (esc .sh a ++ esc .sh b))) b v && le (md C.Γ (ow (dropL o (esc .sh a ++ esc .sh b))) a) .sh && le (md C.Γ (ow (dropL o (esc .sh a ++ esc .sh b))) b) .sh && !isStar u && !isStar v &&
      px.line == py.line && !([u, v].all (foldedForSure 8)) && !([u, v].all (constantsAlone 8)) && !(x == y)
    then some (some (putL (putL (dropL o (esc .sh a ++ esc .sh b)) i .sh) j .sh)) else none
  | .aug i b e, .AugAssign (.Name x px) op v _ =>
    if decide (C.N[i]? = some x) && stor C x && chkE C (ow o) e v && boM b op && (b == .add || b == .sub) then some (some (putL o i .sh)) else none
  | .setIx i ix e, .Assign [.Subscript (.Name x px) k q] v _ =>
    if decide (C.N[i]? = some x) && vis C.sc x && noDbg x && !isSlice k && (dropL o (esc .sh e)).contains i && chkE C (ow (dropL o (esc .sh e))) e v && le (md C.Γ (ow (dropL o (esc .sh e))) e) .sh && chkE C (ow (dropL o (esc .sh e))) ix k && !badC v && !isLc v then some (some (dropL o (esc .sh e))) else none
  | .app i e, .Expr (.Call (.Attribute (.Name x px) a q) [v] [] cp) _ =>
    if decide (C.N[i]? = some x) && vis C.sc x && noDbg x && decide (a = "append") && (q.endLine == cp.line) && (dropL o (esc .sh e)).contains i && chkE C (ow (dropL o (esc .sh e))) e v && le (md C.Γ (ow (dropL o (esc .sh e))) e) .sh && !isStar v then some (some (dropL o (esc .sh e))) else none
  | .exp e, .Expr v _ =>
    if chkE C (ow (dropL o (esc .sh e))) e v && !badC v && !isLc v then some (some (dropL o (esc .sh e))) else none
  | .ite c a b, .If z x y _ =>
    if isTst c && chkE C (ow (dropL o (esc .pk c))) c z then
      match chkB C m L (dropL o (esc .pk c)) a x, chkB C m L (dropL o (esc .pk c)) b y with
      | some u, some v => some (wjoin u v)
      | _, _ => none
    else none
  | .for t k es b os, .For tg iter body [] _ =>
    if sub os (dropL o (escL .sh es)) && chkIt C (ow (dropL o (escL .sh es))) k es iter tg && chkTg C (ow os) t tg then
      match chkB C m (some os) os b body with
      | some (some o2) => if sub os o2 then some (some os) else none
      | some none => some (some os)
      | none => none
    else none
  | .ret e, .Return (some v) _ =>
    if decide (m = .fr) && isOwn o e && chkE C (ow o) e v then some none else
      if chkE C (ow (dropL o (esc .sh e))) e v && le (md C.Γ (ow (dropL o (esc .sh e))) e) m && decide (m ≠ .pk) then some none else none
  | .brk, .Break _ => match L with
    | some os => if sub os o then some none else none
    | none => none
  | .cont, .Continue _ => match L with
    | some os => if sub os o then some none else none
    | none => none
  | .pass, .Pass _ => some (some o)
  | _, _ => none
termination_by structural s => s
def chkB (C : CC) (m : Mode) (L : Option (List Nat)) (o : List Nat) : List SX → List Stmt → WR
  | [], [] => some (some o)
  | s :: r, t :: u => match chkS C m L o s t with
    | some (some o1) => chkB C m L o1 r u
    | some none => if r.isEmpty && u.isEmpty then some none else none
    | none => none
  | _, _ => none
termination_by structural b => b
end
end Ev
/-! Ev3: what a value stands for, who owns what; the readings. -/
namespace Ev
open PySem PySem.Spec PyProof.Rows L2

end Ev
namespace L2
open PySem PySem.Spec PyProof.Rows Ev
theorem seqT_mono {K : PySem.W.Frag} {H H' : Hp} {a : Addr} {xs : List V} (e : Same H H') (h : SqT K H a xs) : SqT K H' a xs := by
  rcases h with (h | ⟨o, h⟩) | h
  · exact .inl (.inl (e _ _ h))
  · exact .inl (.inr ⟨o, e _ _ h⟩)
  · exact .inr h
mutual
theorem Dp.mono {K : PySem.W.Frag} {H H' : Hp} (e : Same H H') : ∀ {v : V} {d : D}, Dp K H v d → Dp K H' v d
  | _, _, .non => .non
  | _, _, .bl b => .bl b
  | _, _, .int i => .int i
  | _, _, .str x => .str x
  | _, _, .lst h r => .lst (e.seq h) (DpAll.mono e r)
  | _, _, .tup h r => .tup (seqT_mono e h) (DpAll.mono e r)
theorem DpAll.mono {K : PySem.W.Frag} {H H' : Hp} (e : Same H H') : ∀ {v : List V} {d : List D}, DpAll K H v d → DpAll K H' v d
  | _, _, .nil => .nil
  | _, _, .cons h r => .cons (Dp.mono e h) (DpAll.mono e r)
end
theorem DpAll.len {K : PySem.W.Frag} {H : Hp} : ∀ {v : List V} {d : List D}, DpAll K H v d → v.length = d.length
  | _, _, .nil => rfl
  | _, _, .cons _ r => congrArg (· + 1) (DpAll.len r)
theorem DpAll.get {K : PySem.W.Frag} {H : Hp} : ∀ {v : List V} {d : List D} {i : Nat} {x : D}, DpAll K H v d → d[i]? = some x → ∃ y, v[i]? = some y ∧ Dp K H y x
  | _, _, _, _, .nil, h => by simp at h
  | _, _, 0, _, .cons h _, e => by
    simp at e
    subst e
    exact ⟨_, rfl, h⟩
  | _, _, i + 1, _, .cons _ r, e => by
    simp at e
    obtain ⟨y, h1, h2⟩ := DpAll.get r e
    exact ⟨y, by simpa using h1, h2⟩
theorem DpAll.app {K : PySem.W.Frag} {H : Hp} : ∀ {v w : List V} {d e : List D}, DpAll K H v d → DpAll K H w e → DpAll K H (v ++ w) (d ++ e)
  | _, _, _, _, .nil, s => s
  | _, _, _, _, .cons h r, s => .cons h (DpAll.app r s)
theorem DpAll.set {K : PySem.W.Frag} {H : Hp} {x : V} {y : D} (hx : Dp K H x y) : ∀ {v : List V} {d : List D} (i : Nat), DpAll K H v d → DpAll K H (v.set i x) (d.set i y)
  | _, _, _, .nil => .nil
  | _, _, 0, .cons _ r => .cons hx r
  | _, _, i + 1, .cons h r => .cons h (DpAll.set hx i r)
theorem DpAll.take {K : PySem.W.Frag} {H : Hp} : ∀ {v : List V} {d : List D} (n : Nat), DpAll K H v d → DpAll K H (v.take n) (d.take n)
  | _, _, 0, _ => .nil
  | _, _, _ + 1, .nil => .nil
  | _, _, n + 1, .cons h r => .cons h (DpAll.take n r)
theorem DpAll.drop {K : PySem.W.Frag} {H : Hp} : ∀ {v : List V} {d : List D} (n : Nat), DpAll K H v d → DpAll K H (v.drop n) (d.drop n)
  | _, _, 0, r => r
  | _, _, _ + 1, .nil => .nil
  | _, _, n + 1, .cons _ r => DpAll.drop n r
theorem DpAll.rep {K : PySem.W.Frag} {H : Hp} {v : List V} {d : List D} (h : DpAll K H v d) : ∀ n : Nat, DpAll K H (List.replicate n v).flatten (List.replicate n d).flatten
  | 0 => .nil
  | n + 1 => by
    rw [List.replicate_succ, List.replicate_succ, List.flatten_cons, List.flatten_cons]
    exact h.app (DpAll.rep h n)
theorem DpAll.cut {K : PySem.W.Frag} {H : Hp} {v : List V} {d : List D} (h : DpAll K H v d) (lo hi : Option Int) : DpAll K H (cutV v lo hi) (cutL d lo hi) := by
  unfold cutV cutL
  rw [h.len]
  exact (h.drop _).take _
theorem dp_isNone {K : PySem.W.Frag} {H : Hp} {v : V} {d : D} (h : Dp K H v d) : decide (v = V.non) = isNoneD d := by
  cases h <;> simp [isNoneD]

end L2
namespace Ev
open PySem PySem.Spec PyProof.Rows L2
/-! ### ownership -/
def Own (K : PySem.W.Frag) (S H : Hp) (v : V) (d : D) : Prop := match d with
  | .list ds => ∃ a xs, v = .ref a ∧ H a = some (.lst xs) ∧ S a = none ∧ DpAll K S xs ds
  | d => Dp K S v d
def Fresh (H : Hp) (v : V) (d : D) : Prop := ∀ ds a, d = .list ds → v = .ref a → H a = none
structure Grow (S H S' H' : Hp) : Prop where
  h : Same H H'
  s : Same S S'
  t : Same S' H'
  n : ∀ a, S' a ≠ none → S a ≠ none ∨ H a = none
theorem Grow.refl {S H : Hp} (h : Same S H) : Grow S H S H := ⟨Same.refl _, Same.refl _, h, fun a q => .inl q⟩
theorem Grow.trans {S H S1 H1 S2 H2 : Hp} (a : Grow S H S1 H1) (b : Grow S1 H1 S2 H2) : Grow S H S2 H2 :=
  ⟨a.h.trans b.h, a.s.trans b.s, b.t, fun x q => (b.n x q).elim (a.n x) fun q => .inr (a.h.free q)⟩
theorem Grow.keep {S H S' H' : Hp} (g : Grow S H S' H') {a : Addr} {o : HO} (h : H a = some o) (n : S a = none) : H' a = some o ∧ S' a = none := by
  refine ⟨g.h _ _ h, ?_⟩
  cases q : S' a with
  | none => rfl
  | some u =>
    rcases g.n a (by rw [q]; simp) with z | z
    · exact absurd n z
    · rw [h] at z
      cases z
theorem Own.grow {K : PySem.W.Frag} {S H S' H' : Hp} (g : Grow S H S' H') {v : V} {d : D} (h : Own K S H v d) : Own K S' H' v d := by
  cases d with
  | list ds =>
    obtain ⟨a, xs, e, h1, h2, h3⟩ := h
    obtain ⟨k1, k2⟩ := g.keep h1 h2
    exact ⟨a, xs, e, k1, k2, h3.mono g.s⟩
  | none => exact Dp.mono g.s h
  | bool _ => exact Dp.mono g.s h
  | int _ => exact Dp.mono g.s h
  | str _ => exact Dp.mono g.s h
  | tuple _ => exact Dp.mono g.s h
  | dict _ => exact Dp.mono g.s h
def Pk (K : PySem.W.Frag) (S H : Hp) (v : V) (d : D) : Prop := Own K S H v d ∨ Dp K S v d
theorem Pk.grow {K : PySem.W.Frag} {S H S' H' : Hp} (g : Grow S H S' H') {v : V} {d : D} (h : Pk K S H v d) : Pk K S' H' v d :=
  h.elim (fun q => .inl (q.grow g)) fun q => .inr (q.mono g.s)
theorem Pk.list {K : PySem.W.Frag} {S H : Hp} (t : Same S H) {v : V} {ds : List D} (h : Pk K S H v (.list ds)) : ∃ a xs, v = .ref a ∧ SqL K H a xs ∧ DpAll K S xs ds := by
  rcases h with ⟨a, xs, e, h1, h2, h3⟩ | h
  · exact ⟨a, xs, e, .of h1, h3⟩
  · cases h with
    | lst h1 r => exact ⟨_, _, rfl, t.seq h1, r⟩
theorem Pk.tuple {K : PySem.W.Frag} {S H : Hp} (t : Same S H) {v : V} {ds : List D} (h : Pk K S H v (.tuple ds)) : ∃ a xs, v = .ref a ∧ SqT K H a xs ∧ DpAll K S xs ds := by
  rcases h with h | h <;> (cases (show Dp K S v (.tuple ds) from h) with | tup h1 r => exact ⟨_, _, rfl, seqT_mono t h1, r⟩)
theorem Pk.int {K : PySem.W.Frag} {S H : Hp} {v : V} {i : Int} (h : Pk K S H v (.int i)) : v = .int i := by
  rcases h with h | h <;> (cases (show Dp K S v (.int i) from h); rfl)
theorem Pk.bool {K : PySem.W.Frag} {S H : Hp} {v : V} {i : Bool} (h : Pk K S H v (.bool i)) : v = .bl i := by
  rcases h with h | h <;> (cases (show Dp K S v (.bool i) from h); rfl)
theorem Pk.str {K : PySem.W.Frag} {S H : Hp} {v : V} {i : Str} (h : Pk K S H v (.str i)) : v = .str i := by
  rcases h with h | h <;> (cases (show Dp K S v (.str i) from h); rfl)
theorem Pk.none {K : PySem.W.Frag} {S H : Hp} {v : V} (h : Pk K S H v .none) : v = .non := by
  rcases h with h | h <;> (cases (show Dp K S v .none from h); rfl)
theorem Pk.dict {K : PySem.W.Frag} {S H : Hp} {v : V} {k} (h : Pk K S H v (.dict k)) : False := by
  rcases h with h | h <;> (cases (show Dp K S v (.dict k) from h))
/-- read as data in the whole heap -/
theorem Pk.dp {K : PySem.W.Frag} {S H : Hp} (t : Same S H) {v : V} {d : D} (h : Pk K S H v d) : Dp K H v d := by
  rcases h with h | h
  · cases d with
    | list ds =>
      obtain ⟨a, xs, e, h1, h2, h3⟩ := h
      subst e
      exact .lst (.of h1) (h3.mono t)
    | none => exact Dp.mono t h
    | bool _ => exact Dp.mono t h
    | int _ => exact Dp.mono t h
    | str _ => exact Dp.mono t h
    | tuple _ => exact Dp.mono t h
    | dict _ => exact Dp.mono t h
  · exact h.mono t
def Rs (K : PySem.W.Frag) (m : Mode) (H0 S H : Hp) (v : V) (d : D) : Prop := match m with
  | .fr => Own K S H v d ∧ Fresh H0 v d
  | .sh => Dp K S v d
  | .pk => Pk K S H v d
theorem Rs.pk {K : PySem.W.Frag} {m : Mode} {H0 S H : Hp} {v : V} {d : D} (h : Rs K m H0 S H v d) : Pk K S H v d := by
  cases m with
  | fr => exact .inl h.1
  | sh => exact .inr h
  | pk => exact h
/-- a scalar, a tuple: shared as it stands -/
theorem own_of {K : PySem.W.Frag} {S H : Hp} {v : V} {d : D} (h : Dp K S v d) (n : ∀ ds, d ≠ .list ds) : Own K S H v d := by
  cases d with
  | list ds => exact absurd rfl (n ds)
  | _ => exact h
/-- a fresh value is shared -/
theorem Rs.share {K : PySem.W.Frag} {H0 S H : Hp} (t : Same S H) {v : V} {d : D} (h : Rs K .fr H0 S H v d) : ∃ S', Same S S' ∧ Same S' H ∧ (∀ a, S' a ≠ none → S a ≠ none ∨ H0 a = none) ∧ Dp K S' v d := by
  obtain ⟨h, f⟩ := h
  cases d with
  | list ds =>
    obtain ⟨a, xs, e, h1, h2, h3⟩ := h
    have s1 : Same S (upd S a (.lst xs)) := fun b o q => by rw [upd_ne (ne_of_none q h2)]; exact q
    refine ⟨upd S a (.lst xs), s1, fun b o q => ?_, fun b q => ?_, ?_⟩
    · by_cases z : b = a
      · subst z; rw [upd_same] at q; rw [← q]; exact h1
      · rw [upd_ne z] at q; exact t b o q
    · by_cases z : b = a
      · subst z; exact .inr (f ds b rfl e)
      · rw [upd_ne z] at q; exact .inl q
    · subst e
      exact .lst (.of upd_same) (h3.mono s1)
  | none => exact ⟨S, Same.refl _, t, fun a q => .inl q, h⟩
  | bool _ => exact ⟨S, Same.refl _, t, fun a q => .inl q, h⟩
  | int _ => exact ⟨S, Same.refl _, t, fun a q => .inl q, h⟩
  | str _ => exact ⟨S, Same.refl _, t, fun a q => .inl q, h⟩
  | tuple _ => exact ⟨S, Same.refl _, t, fun a q => .inl q, h⟩
  | dict _ => exact ⟨S, Same.refl _, t, fun a q => .inl q, h⟩
/-- at the sharpest mode, seen from a later one -/
theorem Rs.to {K : PySem.W.Frag} {m n : Mode} {S H S1 H1 : Hp} {v : V} {d : D} (g : Grow S H S1 H1) (h : Rs K m H S1 H1 v d) (l : le m n = true) : ∃ S2, Grow S H S2 H1 ∧ Rs K n H S2 H1 v d := by
  cases m with
  | fr =>
    cases n with
    | fr => exact ⟨S1, g, h⟩
    | sh =>
      obtain ⟨S2, a, b, c, e⟩ := h.share g.t
      exact ⟨S2, ⟨g.h, g.s.trans a, b, fun x q => (c x q).elim (g.n x) .inr⟩, e⟩
    | pk => exact ⟨S1, g, .inl h.1⟩
  | sh =>
    cases n with
    | fr => cases l
    | sh => exact ⟨S1, g, h⟩
    | pk => exact ⟨S1, g, .inr h⟩
  | pk =>
    cases n with
    | fr => cases l
    | sh => cases l
    | pk => exact ⟨S1, g, h⟩

/-! ### the frame's names -/
def VarOk (K : PySem.W.Frag) (W : Ow) (i : Nat) (S H : Hp) (v : V) (d : D) : Prop :=
  if W.o.contains i = true then Own K S H v d else if W.b.contains i = true then Pk K S H v d else Dp K S v d
structure StOk (K : PySem.W.Frag) (W : Ow) (H0 : Hp) (env : Env) (σ : L2.St) (S H : Hp) : Prop where
  sub : Same S H
  len : env.length = σ.length
  var : ∀ (i : Nat) (d : D), env[i]? = some (some d) → ∃ v, σ[i]? = some (some v) ∧ VarOk K W i S H v d
  new : ∀ (i : Nat) (ds : List D) (a : Addr), i ∈ W.o → env[i]? = some (some (.list ds)) → σ[i]? = some (some (.ref a)) → H0 a = none
  apart : ∀ (i j : Nat) (ds es : List D) (a : Addr), i ∈ W.o → j ∈ W.o → i ≠ j → env[i]? = some (some (.list ds)) → env[j]? = some (some (.list es)) → σ[i]? = some (some (.ref a)) → σ[j]? ≠ some (some (.ref a))
theorem VarOk.grow {K : PySem.W.Frag} {W : Ow} {i : Nat} {S H S' H' : Hp} (g : Grow S H S' H') {v : V} {d : D} (h : VarOk K W i S H v d) : VarOk K W i S' H' v d := by
  unfold VarOk at h ⊢
  split
  · rename_i c; rw [if_pos c] at h; exact h.grow g
  · rename_i c; rw [if_neg c] at h
    split
    · rename_i c; rw [if_pos c] at h; exact h.grow g
    · rename_i c; rw [if_neg c] at h; exact h.mono g.s
theorem StOk.grow {K : PySem.W.Frag} {W : Ow} {H0 : Hp} {env : Env} {σ : L2.St} {S H S' H' : Hp} (st : StOk K W H0 env σ S H) (g : Grow S H S' H') : StOk K W H0 env σ S' H' :=
  ⟨g.t, st.len, fun i d e => let ⟨v, a, b⟩ := st.var i d e; ⟨v, a, b.grow g⟩, st.new, st.apart⟩
theorem VarOk.pk {K : PySem.W.Frag} {W : Ow} {i : Nat} {S H : Hp} {v : V} {d : D} (h : VarOk K W i S H v d) : Pk K S H v d := by
  unfold VarOk at h
  split at h
  · exact .inl h
  · split at h
    · exact h
    · exact .inr h

/-! ### readings -/
section
variable (K : PySem.W.Frag) (Γ : List FnI) (W : Ow)
def rE (m : Mode) (e : PX) : TE := fun σ H Q => ∃ env S H0, StOk K W H0 env σ S H ∧ ∃ d, evE Γ e env = some d ∧ ∀ v S' H', Grow S H S' H' → Rs K m H S' H' v d → Q v H'
def rT (e : PX) : TT := fun σ H Q => ∃ env S H0, StOk K W H0 env σ S H ∧ ∃ b, evT Γ e env = some b ∧ ∀ S' H', Grow S H S' H' → Q b H'
def rA (m : Mode) (es : List PX) : TA := fun σ H Q => ∃ env S H0, StOk K W H0 env σ S H ∧ ∃ ds, evL Γ es env = some ds ∧ ∀ vs S' H', Grow S H S' H' → Paired (fun v d => Rs K m H S' H' v d) vs ds → Q vs H'
end
end Ev
namespace L2
open PySem PySem.Spec PyProof.Rows Ev
theorem PE.imp {X : Cx} {e : Expr} {t t' : TE} (h : PE X e t) (i : ∀ σ H Q, t' σ H Q → t σ H Q) : PE X e t' := ⟨fun pins s σ H Q I q => h.run pins s σ H Q I (i σ H Q q)⟩
theorem PT.imp {X : Cx} {e : Expr} {t t' : TT} (h : PT X e t) (i : ∀ σ H Q, t' σ H Q → t σ H Q) : PT X e t' := ⟨fun pins s σ H Q I q => h.run pins s σ H Q I (i σ H Q q)⟩
theorem PW.imp {X : Cx} {e : Expr} {t t' : TT} (h : PW X e t) (i : ∀ σ H Q, t' σ H Q → t σ H Q) : PW X e t' := ⟨fun wh pins s σ H Q I q => h.run wh pins s σ H Q I (i σ H Q q)⟩
theorem PA.imp {X : Cx} {e : List Expr} {t t' : TA} (h : PA X e t) (i : ∀ σ H Q, t' σ H Q → t σ H Q) : PA X e t' := ⟨fun pos pins s σ H Q I q => h.run pos pins s σ H Q I (i σ H Q q)⟩
theorem PS.imp {X : Cx} {e : Stmt} {t t' : TS} (h : PS X e t) (i : ∀ D σ H, t' D σ H → t D σ H) : PS X e t' := ⟨fun pins s σ H D I q => h.run pins s σ H D I (i D σ H q)⟩
theorem PSs.imp {X : Cx} {e : List Stmt} {t t' : TS} (h : PSs X e t) (i : ∀ D σ H, t' D σ H → t D σ H) : PSs X e t' := ⟨fun pins s σ H D I q => h.run pins s σ H D I (i D σ H q)⟩
theorem PG.imp {X : Cx} {e : Expr} {t t' : TG} (h : PG X e t) (i : ∀ v σ H Q, t' v σ H Q → t v σ H Q) : PG X e t' := ⟨fun pins s σ H v u Q I r q => h.run pins s σ H v u Q I r (i v σ H Q q)⟩
theorem PI.imp {X : Cx} {tg e : Expr} {t t' : TI} (h : PI X tg e t) (i : ∀ σ H R, t' σ H R → t σ H R) : PI X tg e t' := ⟨fun pins s σ H R I q => h.run pins s σ H R I (i σ H R q)⟩
theorem PE.or {X : Cx} {e : Expr} {t t' : TE} (h : PE X e t) (h' : PE X e t') : PE X e (fun σ H Q => t σ H Q ∨ t' σ H Q) := ⟨fun pins s σ H Q I q => q.elim (h.run pins s σ H Q I) (h'.run pins s σ H Q I)⟩
theorem PI.or {X : Cx} {tg e : Expr} {t t' : TI} (h : PI X tg e t) (h' : PI X tg e t') : PI X tg e (fun σ H Q => t σ H Q ∨ t' σ H Q) := ⟨fun pins s σ H Q I q => q.elim (h.run pins s σ H Q I) (h'.run pins s σ H Q I)⟩
end L2
namespace Ev
open PySem PySem.Spec PyProof.Rows L2
theorem rE_to {K : PySem.W.Frag} {Γ : List FnI} {W : Ow} {m n : Mode} {e : PX} (l : le m n = true) (σ : L2.St) (H : Hp) (Q : VK) (h : rE K Γ W n e σ H Q) : rE K Γ W m e σ H Q := by
  obtain ⟨env, S, H0, st, d, ev, k⟩ := h
  refine ⟨env, S, H0, st, d, ev, fun v S' H' g r => ?_⟩
  obtain ⟨S2, g2, r2⟩ := r.to g l
  exact k v S2 H' g2 r2
theorem pe_to {X : Cx} {e : Expr} {Γ : List FnI} {W : Ow} {m n : Mode} {p : PX} (h : PE X e (rE X.K Γ W m p)) (l : le m n = true) : PE X e (rE X.K Γ W n p) := h.imp (rE_to l)
/-- the use of a reading: from a state, what comes -/
theorem rE_go {K : PySem.W.Frag} {Γ : List FnI} {W : Ow} {m : Mode} {e : PX} {env : Env} {σ : L2.St} {S H H0 : Hp} {d : D} {Q : VK} (st : StOk K W H0 env σ S H) (ev : evE Γ e env = some d)
    (k : ∀ v S' H', Grow S H S' H' → StOk K W H0 env σ S' H' → Rs K m H S' H' v d → Q v H') : rE K Γ W m e σ H Q :=
  ⟨env, S, H0, st, d, ev, fun v S' H' g r => k v S' H' g (st.grow g) r⟩
theorem rT_go {K : PySem.W.Frag} {Γ : List FnI} {W : Ow} {e : PX} {env : Env} {σ : L2.St} {S H H0 : Hp} {b : Bool} {Q : Bool → Hp → Prop} (st : StOk K W H0 env σ S H) (ev : evT Γ e env = some b)
    (k : ∀ S' H', Grow S H S' H' → StOk K W H0 env σ S' H' → Q b H') : rT K Γ W e σ H Q :=
  ⟨env, S, H0, st, b, ev, fun S' H' g => k S' H' g (st.grow g)⟩
theorem rA_go {K : PySem.W.Frag} {Γ : List FnI} {W : Ow} {m : Mode} {es : List PX} {env : Env} {σ : L2.St} {S H H0 : Hp} {ds : List D} {Q : List V → Hp → Prop} (st : StOk K W H0 env σ S H) (ev : evL Γ es env = some ds)
    (k : ∀ vs S' H', Grow S H S' H' → StOk K W H0 env σ S' H' → Paired (fun v d => Rs K m H S' H' v d) vs ds → Q vs H') : rA K Γ W m es σ H Q :=
  ⟨env, S, H0, st, ds, ev, fun v S' H' g r => k v S' H' g (st.grow g) r⟩
/-- a scalar comes -/
theorem rs_sc {K : PySem.W.Frag} {m : Mode} {H0 S H : Hp} {v : V} {d : D} (h : Dp K S v d) (n : ∀ ds, d ≠ .list ds) : Rs K m H0 S H v d := by
  cases m with
  | fr => exact ⟨own_of h n, fun ds a e => absurd e (n ds)⟩
  | sh => exact h
  | pk => exact .inr h
theorem rs_int {K : PySem.W.Frag} {m : Mode} {H0 S H : Hp} {i : Int} : Rs K m H0 S H (.int i) (.int i) := rs_sc (.int i) fun _ => nofun
theorem rs_bl {K : PySem.W.Frag} {m : Mode} {H0 S H : Hp} {i : Bool} : Rs K m H0 S H (.bl i) (.bool i) := rs_sc (.bl i) fun _ => nofun
theorem rs_str {K : PySem.W.Frag} {m : Mode} {H0 S H : Hp} {i : Str} : Rs K m H0 S H (.str i) (.str i) := rs_sc (.str i) fun _ => nofun
theorem rs_non {K : PySem.W.Frag} {m : Mode} {H0 S H : Hp} : Rs K m H0 S H .non .none := rs_sc .non fun _ => nofun
/-- a new list, a new tuple comes -/
theorem new_list {K : PySem.W.Frag} {S H H1 : Hp} {p : Addr} {xs : List V} {ds : List D} {S1 : Hp} (g : Grow S H S1 H1) (np : H1 p = none) (r : DpAll K S1 xs ds) :
    Grow S H S1 (upd H1 p (.lst xs)) ∧ Rs K .fr H S1 (upd H1 p (.lst xs)) (.ref p) (.list ds) := by
  have sm : Same H1 (upd H1 p (.lst xs)) := fun b o q => by rw [upd_ne (ne_of_none q np)]; exact q
  have sp : S1 p = none := g.t.free np
  refine ⟨⟨g.h.trans sm, g.s, g.t.trans sm, g.n⟩, ⟨p, xs, rfl, upd_same, sp, r⟩, fun _ a _ e => ?_⟩
  cases e
  exact g.h.free np
theorem new_tup {K : PySem.W.Frag} {S H H1 : Hp} {p : Addr} {xs : List V} {ds : List D} {S1 : Hp} {m : Mode} (g : Grow S H S1 H1) (np : H1 p = none) (r : DpAll K S1 xs ds) :
    Grow S H (upd S1 p (.tup xs)) (upd H1 p (.tup xs)) ∧ Rs K m H (upd S1 p (.tup xs)) (upd H1 p (.tup xs)) (.ref p) (.tuple ds) := by
  have sp : S1 p = none := g.t.free np
  have sm : Same H1 (upd H1 p (.tup xs)) := fun b o q => by rw [upd_ne (ne_of_none q np)]; exact q
  have ss : Same S1 (upd S1 p (.tup xs)) := fun b o q => by rw [upd_ne (ne_of_none q sp)]; exact q
  refine ⟨⟨g.h.trans sm, g.s.trans ss, fun b o q => ?_, fun a q => ?_⟩, rs_sc (.tup (.of upd_same) (r.mono ss)) fun _ => nofun⟩
  · by_cases z : b = p
    · subst z; rw [upd_same] at q ⊢; exact q
    · rw [upd_ne z] at q ⊢; exact g.t b o q
  · by_cases z : a = p
    · subst z; exact .inr (g.h.free np)
    · rw [upd_ne z] at q; exact g.n a q
end Ev
/-! Ev4: operators. -/
namespace Ev
open PySem PySem.Spec PyProof.Rows L2

theorem lim_le : lim ≤ sizeLine := by rw [sizeLine_eq]; decide
theorem lim_lt {n : Nat} (h : n < lim) : n < sizeLine := Nat.lt_of_lt_of_le h lim_le
theorem lim_lt' {n : Nat} (h : n < lim) : n ≤ sizeLine := Nat.le_of_lt (lim_lt h)

section
variable {X : Cx}
/-- list + list, however they stand -/
def rCatL (K : PySem.W.Frag) : R2 := fun x y H Q => ∃ a b xs ys, x = .ref a ∧ y = .ref b ∧ SqL K H a xs ∧ SqL K H b ys ∧ xs.length + ys.length ≤ sizeLine ∧ ∀ p, H p = none → Q (.ref p) (upd H p (.lst (xs ++ ys)))
theorem op_catL : OpR X (binaryOp .Add) (rCatL X.K) := by
  intro pins s σ H x y v u Q I rx ry h
  obtain ⟨a, b, xs, ys, rfl, rfl, ha, hb, hz, q⟩ := h
  cases rx
  cases ry
  obtain ⟨its, r, ⟨⟨c1, d1, t1, l1⟩, n1, g1, e1, e2, e3⟩, z1⟩ := I.list ha
  obtain ⟨jts, r2, ⟨⟨c2, d2, t2, l2⟩, n2, g2, f1, f2, f3⟩, z2⟩ := I.list hb
  have hsz : its.toArray.size + jts.toArray.size ≤ sizeLine := by
    rw [List.size_toArray, List.size_toArray, ← r.length, ← r2.length]
    exact hz
  simp only at e1 e2 e3 f1 f2 f3
  subst e1 e2 e3 f1 f2 f3
  refine concat_meets ⟨_, g1, rfl⟩ ⟨_, g2, rfl⟩ noFill_list_add seq_list_add PySem.F.slot_list_add
    PySem.F.entry_list_add (PySem.F.args_list_add_2 _ _) (list_addW a b its.toArray jts.toArray n1 n2 none none l1 l2 hsz) ⟨g1, g2, ?_⟩
  have ea : its.toArray ++ jts.toArray = (its ++ jts).toArray := by simp
  rw [ea]
  refine ⟨.ref _, _, I.lnew (t' := s.toks) (r.append r2) ?_, rfl, q _ I.fresh⟩
  rw [List.length_append]
  exact hz
/-- list * int -/
def rRepL (K : PySem.W.Frag) : R2 := fun x y H Q => ∃ a k xs, x = .ref a ∧ y = .int k ∧ SqL K H a xs ∧ -(2 ^ 63) ≤ k ∧ k < 2 ^ 63 ∧ xs.length * k.toNat ≤ sizeLine ∧ ∀ p, H p = none → Q (.ref p) (upd H p (.lst (List.replicate k.toNat xs).flatten))
theorem op_repL : OpR X (binaryOp .Mult) (rRepL X.K) := by
  intro pins s σ H x y v u Q I rx ry h
  obtain ⟨a, k, xs, rfl, rfl, ha, hlo, hhi, hz, q⟩ := h
  cases rx
  obtain ⟨t, rfl⟩ := ry
  obtain ⟨its, r, ⟨⟨c1, d1, t1, l1⟩, n1, g1, e1, e2, e3⟩, z1⟩ := I.list ha
  have hsz : its.length * k.toNat ≤ 16777216 := by
    have := sizeLine_eq
    rw [← r.length]
    omega
  simp only at e1 e2 e3
  subst e1 e2 e3
  refine wpAny_binaryOp_repeat_ref (T := "list") (U := "int") (by decide) ⟨_, g1, rfl⟩ (fun s' => typeIs_int s' k t) noFill_list_mul
    PySem.F.fills_int_mul PySem.F.slot_int_rmul repeat_list PySem.F.slot_int_index.lookup ?_
  refine call_meets PySem.F.slot_int_rmul (typeIs_int s k t) PySem.F.entry_int_rmul (PySem.F.args_int_rmul_2 _ _) (lm_int_rmul_list_any k t a its.toArray n1 none l1) ⟨g1, rfl, ⟨_, g1, rfl⟩, ?_⟩
  refine call_meets PySem.F.slot_list_mul ⟨_, g1, rfl⟩ PySem.F.entry_list_mul (PySem.F.args_list_mul_2 _ _)
    (lm_list_mul_any a its.toArray n1 none l1 k t (by simp [Builtin.List.listFitsIndex]; omega) (by rw [List.size_toArray]; omega) (by simp [Builtin.List.listTooLong, sizeLine]; omega)) ⟨g1, ?_⟩
  have hnew : List.foldl (fun x1 x2 => x1 ++ x2) #[] (List.replicate (if its.toArray.isEmpty = true then 0 else k.toNat) its.toArray) = (List.replicate k.toNat its).flatten.toArray := by
    have f0 : ∀ m : Nat, List.foldl (fun x1 x2 => x1 ++ x2) #[] (List.replicate m its.toArray) = (List.replicate m its).flatten.toArray := fun m => by
      have := foldl_rep its m []
      rw [List.nil_append] at this
      exact this
    rw [f0]
    cases its with
    | nil => simp
    | cons a r' => rw [if_neg (by simp)]
  rw [hnew]
  refine ⟨.ref _, _, I.lnew (t' := s.toks) (r.rep k.toNat) ?_, rfl, q _ I.fresh⟩
  rw [PyProof.Rows.lm_len_rep_flat, Nat.mul_comm]
  exact hz

/-! ### the binary operators over data -/
def rBin (K : PySem.W.Frag) (o : Bo) : R2 := fun x y H Q => ∃ S H0 a b d, Grow H0 H0 S H ∧ Pk K S H x a ∧ Pk K S H y b ∧ binD o a b = some d ∧ ∀ v S' H', Grow S H S' H' → Rs K .fr H S' H' v d → Q v H'
/-- the text's operator -/
def opO : Bo → Operator
  | .add => .Add
  | .sub => .Sub
  | .mul => .Mult
  | .fdiv => .FloorDiv
  | .mod => .Mod
  | .pow => .Pow
theorem boM_eq {o : Bo} {op : Operator} (h : boM o op = true) : op = opO o := by
  cases o <;> cases op <;> first | rfl | cases h
def rBinD (K : PySem.W.Frag) (o : Bo) : R2 := fun x y H Q => ∃ S a b d, Same S H ∧ Pk K S H x a ∧ Pk K S H y b ∧ binD o a b = some d ∧ ∀ v S' H', Grow S H S' H' → Rs K .fr H S' H' v d → Q v H'
theorem op_bin (o : Bo) : OpR X (binaryOp (opO o)) (rBinD X.K o) := by
  intro pins s σ H x y v u Q I rx ry h
  obtain ⟨S, a, b, d, t, ha, hb, hd, k⟩ := h
  have sc : ∀ {w : V} {e : D}, Dp X.K S w e → (∀ ds, e ≠ .list ds) → d = e → Q w H := fun h1 h2 h3 => by
    subst h3
    exact k _ S H (Grow.refl t) (rs_sc h1 h2)
  cases o with
  | add =>
    cases a with
    | int i =>
      cases b with
      | int j =>
        cases hd
        exact op_add pins s σ H x y v u Q I rx ry ⟨i, j, ha.int, hb.int, sc (.int _) (fun _ => nofun) rfl⟩
      | _ => cases hd
    | str i =>
      cases b with
      | str j =>
        simp only [binD] at hd
        split at hd
        · rename_i hl
          cases hd
          exact op_add_str pins s σ H x y v u Q I rx ry ⟨i, j, ha.str, hb.str, lim_lt' hl, sc (.str _) (fun _ => nofun) rfl⟩
        · cases hd
      | _ => cases hd
    | list ds =>
      cases b with
      | list es =>
        simp only [binD] at hd
        split at hd
        · rename_i hl
          cases hd
          obtain ⟨p1, xs, e1, q1, r1⟩ := ha.list t
          obtain ⟨p2, ys, e2, q2, r2⟩ := hb.list t
          refine op_catL pins s σ H x y v u Q I rx ry ⟨p1, p2, xs, ys, e1, e2, q1, q2, by rw [r1.len, r2.len]; exact lim_lt' hl, fun p np => ?_⟩
          obtain ⟨g, r⟩ := new_list (Grow.refl t) np (r1.app r2)
          exact k _ _ _ g r
        · cases hd
      | _ => cases hd
    | tuple ds =>
      cases b with
      | tuple es =>
        simp only [binD] at hd
        split at hd
        · rename_i hl
          cases hd
          obtain ⟨p1, xs, e1, q1, r1⟩ := ha.tuple t
          obtain ⟨p2, ys, e2, q2, r2⟩ := hb.tuple t
          have da : Dp X.K S x (.tuple ds) := ha.elim (fun z => z) fun z => z
          have db : Dp X.K S y (.tuple es) := hb.elim (fun z => z) fun z => z
          subst e1 e2
          refine op_catA pins s σ H _ _ v u Q I rx ry ⟨p1, p2, xs, ys, rfl, rfl, q1, q2, by rw [r1.len, r2.len]; exact lim_lt' hl, fun z => ?_, fun _ z => ?_, fun _ _ p np => ?_⟩
          · subst z
            cases r1
            exact sc db (fun _ => nofun) rfl
          · subst z
            cases r2
            exact sc da (fun _ => nofun) (by rw [List.append_nil])
          · obtain ⟨g, r⟩ := new_tup (m := .fr) (Grow.refl t) np (r1.app r2)
            exact k _ _ _ g r
        · cases hd
      | _ => cases hd
    | _ => cases hd
  | sub =>
    cases a with
    | int i =>
      cases b with
      | int j =>
        cases hd
        exact op_sub pins s σ H x y v u Q I rx ry ⟨i, j, ha.int, hb.int, sc (.int _) (fun _ => nofun) rfl⟩
      | _ => cases hd
    | _ => cases hd
  | mul =>
    cases a with
    | int i =>
      cases b with
      | int j =>
        simp only [binD] at hd
        split at hd
        · rename_i hl
          cases hd
          refine op_mul pins s σ H x y v u Q I rx ry ⟨i, j, ha.int, hb.int, ?_, sc (.int _) (fun _ => nofun) rfl⟩
          rcases hl with hl | hl
          · exact .inl (by omega)
          · exact .inr (by omega)
        · cases hd
      | _ => cases hd
    | list ds =>
      cases b with
      | int j =>
        simp only [binD] at hd
        split at hd
        · rename_i hl
          cases hd
          obtain ⟨p1, xs, e1, q1, r1⟩ := ha.list t
          have hj : j.natAbs < 1000000 := hl.1
          refine op_repL pins s σ H x y v u Q I rx ry ⟨p1, j, xs, e1, hb.int, q1, by omega, by omega, by rw [r1.len]; exact lim_lt' hl.2, fun p np => ?_⟩
          obtain ⟨g, r⟩ := new_list (Grow.refl t) np (r1.rep j.toNat)
          exact k _ _ _ g r
        · cases hd
      | _ => cases hd
    | _ => cases hd
  | fdiv =>
    cases a with
    | int i =>
      cases b with
      | int j =>
        simp only [binD] at hd
        split at hd
        · rename_i hl
          cases hd
          exact op_fdivN pins s σ H x y v u Q I rx ry ⟨i, j, ha.int, hb.int, hl, sc (.int _) (fun _ => nofun) rfl⟩
        · cases hd
      | _ => cases hd
    | _ => cases hd
  | mod =>
    cases a with
    | int i =>
      cases b with
      | int j =>
        simp only [binD] at hd
        split at hd
        · rename_i hl
          cases hd
          exact op_modN pins s σ H x y v u Q I rx ry ⟨i, j, ha.int, hb.int, hl, sc (.int _) (fun _ => nofun) rfl⟩
        · cases hd
      | _ => cases hd
    | _ => cases hd
  | pow =>
    cases a with
    | int i =>
      cases b with
      | int j =>
        simp only [binD] at hd
        split at hd
        · rename_i hl
          cases hd
          exact op_pow pins s σ H x y v u Q I rx ry ⟨i, j, ha.int, hb.int, hl, sc (.int _) (fun _ => nofun) rfl⟩
        · cases hd
      | _ => cases hd
    | _ => cases hd

/-! ### the comparisons -/
def opC : Co → CmpOp
  | .eq => .Eq
  | .ne => .NotEq
  | .lt => .Lt
  | .le => .LtE
  | .gt => .Gt
  | .ge => .GtE
  | .isN => .Is
  | .notN => .IsNot
  | .isin => .In
  | .notin => .NotIn
theorem coM_eq {o : Co} {op : CmpOp} (h : coM o op = true) : op = opC o := by
  cases o <;> cases op <;> first | rfl | cases h
/-- a comparison's answer is a truth value -/
theorem cmp_bool {o : Co} {a b d : D} (h : cmpD o a b = some d) : ∃ k, d = .bool k := by
  cases o <;> cases a <;> cases b <;> simp only [cmpD] at h <;> first
    | (cases h; exact ⟨_, rfl⟩)
    | (split at h <;> first | (cases h; exact ⟨_, rfl⟩) | cases h)
    | cases h
def rCmpD (K : PySem.W.Frag) (o : Co) : R2 := fun x y H Q => ∃ S a b k, Same S H ∧ Pk K S H x a ∧ Pk K S H y b ∧ cmpD o a b = some (.bool k) ∧ Q (.bl k) H
theorem op_cmpD (hu : X.A.units + 65 < cLine) (o : Co) : OpR X (compareOp (opC o)) (rCmpD X.K o) := by
  intro pins s σ H x y v u Q I rx ry h
  obtain ⟨S, a, b, k, t, ha, hb, hd, q⟩ := h
  have hu4 : X.A.units + 64 < cLine := by omega
  cases o with
  | eq =>
    simp only [cmpD] at hd
    split at hd
    · rename_i hl
      rw [Bool.and_eq_true] at hl
      cases hd
      exact op_eqD hu4 pins s σ H x y v u Q I rx ry ⟨a, b, ha.dp t, hb.dp t, hl.1, hl.2, q⟩
    · cases hd
  | ne =>
    simp only [cmpD] at hd
    split at hd
    · rename_i hl
      rw [Bool.and_eq_true] at hl
      cases hd
      exact op_neD hu4 pins s σ H x y v u Q I rx ry ⟨a, b, ha.dp t, hb.dp t, hl.1, hl.2, q⟩
    · cases hd
  | lt =>
    cases a <;> cases b <;> first
      | (cases hd; exact op_lt pins s σ H x y v u Q I rx ry ⟨_, _, ha.int, hb.int, q⟩)
      | cases hd
  | le =>
    cases a <;> cases b <;> first
      | (cases hd; exact op_le pins s σ H x y v u Q I rx ry ⟨_, _, ha.int, hb.int, q⟩)
      | cases hd
  | gt =>
    cases a <;> cases b <;> first
      | (cases hd; exact op_gt pins s σ H x y v u Q I rx ry ⟨_, _, ha.int, hb.int, q⟩)
      | cases hd
  | ge =>
    cases a <;> cases b <;> first
      | (cases hd; exact op_ge pins s σ H x y v u Q I rx ry ⟨_, _, ha.int, hb.int, q⟩)
      | cases hd
  | isN =>
    cases b with
    | none =>
      cases hd
      refine op_isN pins s σ H x y v u Q I rx ry ⟨hb.none, ?_⟩
      rw [dp_isNone (ha.dp t)]
      exact q
    | _ => cases a <;> cases hd
  | notN =>
    cases b with
    | none =>
      cases hd
      refine op_notN pins s σ H x y v u Q I rx ry ⟨hb.none, ?_⟩
      rw [dp_isNone (ha.dp t)]
      exact q
    | _ => cases a <;> cases hd
  | isin =>
    cases b with
    | list ds =>
      simp only [cmpD] at hd
      split at hd
      · rename_i hl
        rw [Bool.and_eq_true] at hl
        cases hd
        exact op_inD hu pins s σ H x y v u Q I rx ry ⟨a, ds, ha.dp t, hb.dp t, hl.1, hl.2, q⟩
      · cases hd
    | _ => cases a <;> cases hd
  | notin =>
    cases b with
    | list ds =>
      simp only [cmpD] at hd
      split at hd
      · rename_i hl
        rw [Bool.and_eq_true] at hl
        cases hd
        exact op_notInD hu pins s σ H x y v u Q I rx ry ⟨a, ds, ha.dp t, hb.dp t, hl.1, hl.2, q⟩
      · cases hd
    | _ => cases a <;> cases hd

/-! ### subscripts, slices, truth -/
theorem atI_dp {K : PySem.W.Frag} {S : Hp} {xs : List V} {ds : List D} {i : Int} {d : D} (r : DpAll K S xs ds) (h : atI ds i = some d) : ∃ y, atI xs i = some y ∧ Dp K S y d := by
  unfold atI at h ⊢
  rw [r.len]
  cases e : ixN ds.length i with
  | none => rw [e] at h; cases h
  | some j =>
    rw [e] at h
    exact r.get h
def rIdxD (K : PySem.W.Frag) : R2 := fun x y H Q => ∃ S a b d, Same S H ∧ Pk K S H x a ∧ Pk K S H y b ∧ idxD a b = some d ∧ ∀ v, Dp K S v d → Q v H
theorem ix_D : IxR X (rIdxD X.K) := by
  intro ve se pins s σ H x y v u Q I rx ry h hs
  obtain ⟨S, a, b, d, t, ha, hb, hd, k⟩ := h
  cases a with
  | list ds =>
    cases b with
    | int i =>
      obtain ⟨p1, xs, e1, q1, r1⟩ := ha.list t
      obtain ⟨z, hz, dz⟩ := atI_dp r1 hd
      exact ix_list ve se pins s σ H x y v u Q I rx ry ⟨p1, xs, i, z, e1, hb.int, q1, hz, k z dz⟩ hs
    | _ => cases hd
  | tuple ds =>
    cases b with
    | int i =>
      obtain ⟨p1, xs, e1, q1, r1⟩ := ha.tuple t
      obtain ⟨z, hz, dz⟩ := atI_dp r1 hd
      exact ix_tup ve se pins s σ H x y v u Q I rx ry ⟨p1, xs, i, z, e1, hb.int, q1, hz, k z dz⟩ hs
    | _ => cases hd
  | str z =>
    cases b with
    | int i =>
      simp only [idxD] at hd
      split at hd
      · rename_i hl
        obtain ⟨c, hc, e⟩ := Option.map_eq_some_iff.mp hd
        subst e
        exact ix_str ve se pins s σ H x y v u Q I rx ry ⟨z, i, c, ha.str, hb.int, lim_lt' hl, hc, k _ (.str _)⟩ hs
      · cases hd
    | _ => cases hd
  | _ => cases b <;> cases hd
def rSlD (K : PySem.W.Frag) : V → Option Int → Option Int → Hp → VK → Prop := fun x lo hi H Q => ∃ S a d, Same S H ∧ Pk K S H x a ∧ slD a lo hi = some d ∧ ∀ v S' H', Grow S H S' H' → Rs K .fr H S' H' v d → Q v H'
theorem sl_D : SlR X (rSlD X.K) := by
  intro pins s σ H x v vl vu lo hi sl Q I rx hs pl pu h
  obtain ⟨S, a, d, t, ha, hd, k⟩ := h
  cases a with
  | list ds =>
    cases hd
    obtain ⟨p1, xs, e1, q1, r1⟩ := ha.list t
    refine sl_list pins s σ H x v vl vu lo hi sl Q I rx hs pl pu ⟨p1, xs, e1, q1, fun p np => ?_⟩
    obtain ⟨g, r⟩ := new_list (Grow.refl t) np (r1.cut lo hi)
    exact k _ _ _ g r
  | tuple ds =>
    cases hd
    obtain ⟨p1, xs, e1, q1, r1⟩ := ha.tuple t
    have da : Dp X.K S x (.tuple ds) := ha.elim (fun z => z) fun z => z
    subst e1
    refine sl_tupA pins s σ H _ v vl vu lo hi sl Q I rx hs pl pu ⟨p1, xs, rfl, q1, fun z => ?_, fun _ p np => ?_⟩
    · have e : cutL ds lo hi = ds := by
        rw [r1.len] at z
        unfold cutL
        rw [z.1, z.2]
        simp
      rw [e] at k
      exact k _ S H (Grow.refl t) (rs_sc da fun _ => nofun)
    · obtain ⟨g, r⟩ := new_tup (m := .fr) (Grow.refl t) np (r1.cut lo hi)
      exact k _ _ _ g r
  | _ => cases hd
theorem truth_V {K : PySem.W.Frag} {S H : Hp} {x : V} {d : D} {k : Bool} (t : Same S H) (h : Pk K S H x d) (e : truthD d = some k) : TruV K x H k := by
  cases d with
  | none => rw [h.none]; cases e; rfl
  | bool b => rw [h.bool]; cases e; rfl
  | int b => rw [h.int]; cases e; rfl
  | str b =>
    rw [h.str]
    simp only [truthD] at e
    split at e
    · rename_i hl
      cases e
      refine ⟨lim_lt' hl, ?_⟩
      cases b.length with
      | zero => rfl
      | succ n => rfl
    · cases e
  | list ds =>
    cases e
    obtain ⟨p, xs, e1, q1, r1⟩ := h.list t
    subst e1
    exact .inl ⟨xs, q1, by cases r1 <;> rfl⟩
  | tuple ds =>
    cases e
    obtain ⟨p, xs, e1, q1, r1⟩ := h.tuple t
    subst e1
    exact .inr (.inl ⟨xs, q1, by cases r1 <;> rfl⟩)
  | dict _ => cases e
end
end Ev
/-! Ev5: built-in calls over data. -/
namespace Ev
open PySem PySem.Spec PyProof.Rows L2

theorem ints_of {K : PySem.W.Frag} {S : Hp} : ∀ {ds : List D} {xs : List V} {ns : List Int}, DpAll K S xs ds → intsOf ds = some ns → xs = ns.map V.int
  | [], _, _, .nil, h => by cases h; rfl
  | .int i :: r, _, _, .cons h t, e => by
    obtain ⟨ms, e1, e2⟩ := Option.map_eq_some_iff.mp e
    subst e2
    cases h
    rw [ints_of t e1]
    rfl
  | .none :: _, _, _, .cons _ _, e => by cases e
  | .bool _ :: _, _, _, .cons _ _, e => by cases e
  | .str _ :: _, _, _, .cons _ _, e => by cases e
  | .list _ :: _, _, _, .cons _ _, e => by cases e
  | .tuple _ :: _, _, _, .cons _ _, e => by cases e
  | .dict _ :: _, _, _, .cons _ _, e => by cases e
theorem bools_of {K : PySem.W.Frag} {S : Hp} : ∀ {ds : List D} {xs : List V} {ns : List Bool}, DpAll K S xs ds → boolsOf ds = some ns → xs = ns.map V.bl
  | [], _, _, .nil, h => by cases h; rfl
  | .bool i :: r, _, _, .cons h t, e => by
    obtain ⟨ms, e1, e2⟩ := Option.map_eq_some_iff.mp e
    subst e2
    cases h
    rw [bools_of t e1]
    rfl
  | .none :: _, _, _, .cons _ _, e => by cases e
  | .int _ :: _, _, _, .cons _ _, e => by cases e
  | .str _ :: _, _, _, .cons _ _, e => by cases e
  | .list _ :: _, _, _, .cons _ _, e => by cases e
  | .tuple _ :: _, _, _, .cons _ _, e => by cases e
  | .dict _ :: _, _, _, .cons _ _, e => by cases e
theorem dp_ints {K : PySem.W.Frag} {S : Hp} : ∀ ns : List Int, DpAll K S (ns.map V.int) (ns.map PyData.int)
  | [] => .nil
  | n :: r => .cons (.int n) (dp_ints r)
theorem maxI_ge : ∀ (r : List Int) (m : Int), m ≤ maxI m r ∧ ∀ y ∈ r, y ≤ maxI m r
  | [], m => ⟨Int.le_refl _, fun _ h => by cases h⟩
  | x :: r, m => by
    obtain ⟨h1, h2⟩ := maxI_ge r (if x > m then x else m)
    unfold maxI
    have hx : x ≤ (if x > m then x else m) := by split <;> omega
    have hm : m ≤ (if x > m then x else m) := by split <;> omega
    refine ⟨Int.le_trans hm h1, fun y hy => ?_⟩
    rcases List.mem_cons.mp hy with e | hy
    · subst e; exact Int.le_trans hx h1
    · exact h2 y hy
theorem maxI_mem : ∀ (r : List Int) (m : Int), maxI m r ∈ m :: r
  | [], m => List.mem_cons_self
  | x :: r, m => by
    have h := maxI_mem r (if x > m then x else m)
    unfold maxI
    rcases List.mem_cons.mp h with e | h
    · rw [e]
      split
      · exact List.mem_cons_of_mem _ List.mem_cons_self
      · exact List.mem_cons_self
    · exact List.mem_cons_of_mem _ (List.mem_cons_of_mem _ h)
theorem minI_le : ∀ (r : List Int) (m : Int), minI m r ≤ m ∧ ∀ y ∈ r, minI m r ≤ y
  | [], m => ⟨Int.le_refl _, fun _ h => by cases h⟩
  | x :: r, m => by
    obtain ⟨h1, h2⟩ := minI_le r (if x < m then x else m)
    unfold minI
    have hx : (if x < m then x else m) ≤ x := by split <;> omega
    have hm : (if x < m then x else m) ≤ m := by split <;> omega
    refine ⟨Int.le_trans h1 hm, fun y hy => ?_⟩
    rcases List.mem_cons.mp hy with e | hy
    · subst e; exact Int.le_trans h1 hx
    · exact h2 y hy
theorem minI_mem : ∀ (r : List Int) (m : Int), minI m r ∈ m :: r
  | [], m => List.mem_cons_self
  | x :: r, m => by
    have h := minI_mem r (if x < m then x else m)
    unfold minI
    rcases List.mem_cons.mp h with e | h
    · rw [e]
      split
      · exact List.mem_cons_of_mem _ List.mem_cons_self
      · exact List.mem_cons_self
    · exact List.mem_cons_of_mem _ (List.mem_cons_of_mem _ h)
theorem insI_perm (x : Int) : ∀ l : List Int, (insI x l).Perm (x :: l)
  | [] => .refl _
  | y :: r => by
    unfold insI
    split
    · exact .refl _
    · exact ((insI_perm x r).cons y).trans (List.Perm.swap x y r)
theorem sortI_perm : ∀ l : List Int, (sortI l).Perm l
  | [] => .refl _
  | x :: r => (insI_perm x _).trans ((sortI_perm r).cons x)
theorem insI_sorted (x : Int) : ∀ {l : List Int}, l.Pairwise (· ≤ ·) → (insI x l).Pairwise (· ≤ ·)
  | [], _ => List.pairwise_singleton _ _
  | y :: r, h => by
    unfold insI
    split
    · rename_i hxy
      refine List.pairwise_cons.mpr ⟨fun z hz => ?_, h⟩
      rcases List.mem_cons.mp hz with e | hz
      · subst e; exact hxy
      · exact Int.le_trans hxy ((List.pairwise_cons.mp h).1 z hz)
    · rename_i hxy
      refine List.pairwise_cons.mpr ⟨fun z hz => ?_, insI_sorted x (List.pairwise_cons.mp h).2⟩
      rcases List.mem_cons.mp ((insI_perm x r).mem_iff.mp hz) with e | hz
      · subst e; omega
      · exact (List.pairwise_cons.mp h).1 z hz
theorem sortI_sorted : ∀ l : List Int, (sortI l).Pairwise (· ≤ ·)
  | [] => .nil
  | x :: r => insI_sorted x (sortI_sorted r)
theorem sorted_one : ∀ {l m : List Int}, l.Pairwise (· ≤ ·) → m.Pairwise (· ≤ ·) → l.Perm m → l = m
  | [], m, _, _, p => (List.Perm.nil_eq p)
  | x :: r, [], _, _, p => by
    have := p.length_eq
    simp at this
  | x :: r, y :: t, h1, h2, p => by
    have hx : y ≤ x := by
      rcases List.mem_cons.mp (p.mem_iff.mp List.mem_cons_self) with e | h
      · omega
      · exact (List.pairwise_cons.mp h2).1 x h
    have hy : x ≤ y := by
      rcases List.mem_cons.mp (p.mem_iff.mpr List.mem_cons_self) with e | h
      · omega
      · exact (List.pairwise_cons.mp h1).1 y h
    have e : x = y := Int.le_antisymm hy hx
    subst e
    rw [sorted_one (List.pairwise_cons.mp h1).2 (List.pairwise_cons.mp h2).2 (List.Perm.cons_inv p)]

theorem ty_of {K : PySem.W.Frag} {S H : Hp} {x : V} {d : D} (t : Same S H) (h : Pk K S H x d) : TyX K H x (.type (tyD d)) := by
  cases d with
  | none => rw [h.none]; exact .base .non
  | bool b => rw [h.bool]; exact .base (.bl b)
  | int b => rw [h.int]; exact .base (.int b)
  | str b => rw [h.str]; exact .base (.str b)
  | list ds =>
    obtain ⟨p, xs, e1, q1, r1⟩ := h.list t
    subst e1
    rcases q1 with (q | ⟨o, q⟩) | ⟨o, its, n, k, c, _⟩
    · exact .base (.lst q)
    · exact .base (.frz q)
    · exact .kList k c
  | tuple ds =>
    obtain ⟨p, xs, e1, q1, r1⟩ := h.tuple t
    subst e1
    rcases q1 with (q | ⟨o, q⟩) | ⟨o, its, n, k, c, _⟩
    · exact .base (.tup q)
    · exact .fTuple q
    · exact .kTuple k c
  | dict _ => exact h.dict.elim

/-- what is called -/
def prV : Pr → Value
  | .len => .builtin "len"
  | .int => .type "int"
  | .str => .type "str"
  | .repr => .builtin "repr"
  | .sum => .builtin "sum"
  | .all => .builtin "all"
  | .any => .builtin "any"
  | .max => .builtin "max"
  | .min => .builtin "min"
  | .sorted => .builtin "sorted"
  | .list => .type "list"
  | .tuple => .type "tuple"
  | .abs => .builtin "abs"
  | .isiT _ => .none
def rPrD (K : PySem.W.Frag) (p : Pr) : List V → Hp → VK → Prop := fun vs H Q => ∃ S ds d, Same S H ∧ Paired (Pk K S H) vs ds ∧ primD p ds = some d ∧ ∀ v S' H', Grow S H S' H' → Rs K .fr H S' H' v d → Q v H'
theorem pk1 {K : PySem.W.Frag} {S H : Hp} {vs : List V} {a : D} (h : Paired (Pk K S H) vs [a]) : ∃ x, vs = [x] ∧ Pk K S H x a := by
  cases h with
  | cons h t => cases t; exact ⟨_, rfl, h⟩
theorem pk2 {K : PySem.W.Frag} {S H : Hp} {vs : List V} {a b : D} (h : Paired (Pk K S H) vs [a, b]) : ∃ x y, vs = [x, y] ∧ Pk K S H x a ∧ Pk K S H y b := by
  cases h with
  | cons h t =>
    obtain ⟨y, e, q⟩ := pk1 t
    subst e
    exact ⟨_, _, rfl, h, q⟩
section
variable {X : Cx}
theorem call_reprD (hg : X.A.guards = some []) (hu : X.A.units + 64 < cLine) : CallR X (.builtin "repr") (fun vs H Q => ∃ x d, vs = [x] ∧ Dp X.K H x d ∧ (∃ a, x = .ref a) ∧ reprD d = some (.str d.shown) ∧ Q (.str d.shown) H) := by
  intro pins s σ H vs us Q I r h
  obtain ⟨x, d, rfl, hd, ⟨a, rfl⟩, e, q⟩ := h
  obtain ⟨u, rfl, rx⟩ := vals1 r
  obtain ⟨as, rd⟩ := Dp.reads I d _ u hd rx
  cases rx
  unfold reprD at e
  split at e
  · rename_i hc
    simp only [Bool.and_eq_true, Bool.not_eq_true', decide_eq_true_eq] at hc
    obtain ⟨⟨⟨h1, h2⟩, h3⟩, h4⟩ := hc
    exact repr_of_reads' rd h1 (fun h' => absurd (h2.symm.trans h') Bool.false_ne_true) hg (by omega) (fun _ _ z => z) (fun h' u tk hk => ⟨.str _, H, I.kept hk, ⟨_, rfl⟩, q⟩) (lim_lt' h4)
  · cases e
theorem call_prD (hc : X.calm = true) (p : Pr) (hu : X.A.units + 65 < cLine) (hg : p = .repr → X.A.guards = some []) (hi : ∀ t, p ≠ .isiT t) : CallR X (prV p) (rPrD X.K p) := by
  intro pins s σ H vs us Q I r h
  obtain ⟨S, ds, d, t, hp, hd, k⟩ := h
  have sc : ∀ {w : V} {e : D}, Dp X.K S w e → (∀ ds, e ≠ .list ds) → d = e → Q w H := fun h1 h2 h3 => by
    subst h3
    exact k _ S H (Grow.refl t) (rs_sc h1 h2)
  cases p with
  | len =>
    match ds, hd with
    | [.list es], hd =>
      cases hd
      obtain ⟨x, rfl, h1⟩ := pk1 hp
      obtain ⟨a, xs, rfl, q1, r1⟩ := h1.list t
      refine call_len_seq pins s σ H _ us Q I r ⟨a, xs, rfl, .inl q1, ?_⟩
      rw [r1.len]
      exact sc (.int _) (fun _ => nofun) rfl
    | [.tuple es], hd =>
      cases hd
      obtain ⟨x, rfl, h1⟩ := pk1 hp
      obtain ⟨a, xs, rfl, q1, r1⟩ := h1.tuple t
      refine call_len_seq pins s σ H _ us Q I r ⟨a, xs, rfl, .inr q1, ?_⟩
      rw [r1.len]
      exact sc (.int _) (fun _ => nofun) rfl
    | [.str y], hd =>
      simp only [primD] at hd
      split at hd
      · rename_i hl
        cases hd
        obtain ⟨x, rfl, h1⟩ := pk1 hp
        rw [h1.str] at r
        exact call_len_str pins s σ H _ us Q I r ⟨y, rfl, lim_lt' hl, sc (.int _) (fun _ => nofun) rfl⟩
      · cases hd
  | int =>
    match ds, hd with
    | [.int i], hd =>
      cases hd
      obtain ⟨x, rfl, h1⟩ := pk1 hp
      rw [h1.int] at r
      exact call_int1 pins s σ H _ us Q I r (.inl ⟨i, rfl, sc (.int _) (fun _ => nofun) rfl⟩)
    | [.bool i], hd =>
      cases hd
      obtain ⟨x, rfl, h1⟩ := pk1 hp
      rw [h1.bool] at r
      exact call_int1 pins s σ H _ us Q I r (.inr ⟨i, rfl, sc (.int _) (fun _ => nofun) rfl⟩)
  | str =>
    match ds, hd with
    | [.int i], hd =>
      simp only [primD] at hd
      split at hd
      · rename_i hl
        cases hd
        obtain ⟨x, rfl, h1⟩ := pk1 hp
        rw [h1.int] at r
        exact call_str_int pins s σ H _ us Q I r ⟨i, rfl, hl, sc (.str _) (fun _ => nofun) rfl⟩
      · cases hd
  | repr =>
    match ds, hd with
    | [.list es], hd =>
      obtain ⟨x, rfl, h1⟩ := pk1 hp
      obtain ⟨a, xs, e1, _⟩ := h1.list t
      have e : d = .str (PyData.shown (.list es)) := by
        simp only [primD, reprD] at hd
        split at hd
        · cases hd; rfl
        · cases hd
      subst e
      exact call_reprD (hg rfl) (by omega) pins s σ H _ us Q I r ⟨x, .list es, rfl, h1.dp t, ⟨a, e1⟩, hd, sc (.str _) (fun _ => nofun) rfl⟩
    | [.tuple es], hd =>
      obtain ⟨x, rfl, h1⟩ := pk1 hp
      obtain ⟨a, xs, e1, _⟩ := h1.tuple t
      have e : d = .str (PyData.shown (.tuple es)) := by
        simp only [primD, reprD] at hd
        split at hd
        · cases hd; rfl
        · cases hd
      subst e
      exact call_reprD (hg rfl) (by omega) pins s σ H _ us Q I r ⟨x, .tuple es, rfl, h1.dp t, ⟨a, e1⟩, hd, sc (.str _) (fun _ => nofun) rfl⟩
  | sum =>
    match ds, hd with
    | [.list es], hd =>
      obtain ⟨ns, e1, e2⟩ := Option.map_eq_some_iff.mp (show (intsOf es).map (fun ns => PyData.int ns.sum) = some d from hd)
      subst e2
      obtain ⟨x, rfl, h1⟩ := pk1 hp
      obtain ⟨a, xs, rfl, q1, r1⟩ := h1.list t
      rw [ints_of r1 e1] at q1
      exact cr_sum hc pins s σ H _ us Q I r ⟨a, ns, rfl, q1, sc (.int _) (fun _ => nofun) rfl⟩
  | all =>
    match ds, hd with
    | [.list es], hd =>
      obtain ⟨ns, e1, e2⟩ := Option.map_eq_some_iff.mp (show (boolsOf es).map (fun bs => PyData.bool (bs.all id)) = some d from hd)
      subst e2
      obtain ⟨x, rfl, h1⟩ := pk1 hp
      obtain ⟨a, xs, rfl, q1, r1⟩ := h1.list t
      rw [bools_of r1 e1] at q1
      exact cr_all hc pins s σ H _ us Q I r ⟨a, ns, rfl, q1, sc (.bl _) (fun _ => nofun) rfl⟩
  | any =>
    match ds, hd with
    | [.list es], hd =>
      obtain ⟨ns, e1, e2⟩ := Option.map_eq_some_iff.mp (show (boolsOf es).map (fun bs => PyData.bool (bs.any id)) = some d from hd)
      subst e2
      obtain ⟨x, rfl, h1⟩ := pk1 hp
      obtain ⟨a, xs, rfl, q1, r1⟩ := h1.list t
      rw [bools_of r1 e1] at q1
      exact cr_any hc pins s σ H _ us Q I r ⟨a, ns, rfl, q1, sc (.bl _) (fun _ => nofun) rfl⟩
  | max =>
    match ds, hd with
    | [.list es], hd =>
      simp only [primD] at hd
      split at hd
      · rename_i n ms e1
        cases hd
        obtain ⟨x, rfl, h1⟩ := pk1 hp
        obtain ⟨a, xs, rfl, q1, r1⟩ := h1.list t
        rw [ints_of r1 e1] at q1
        refine cr_max hc pins s σ H _ us Q I r ⟨a, n :: ms, rfl, q1, by simp, fun m hm hle => ?_⟩
        have e : m = maxI n ms := by
          obtain ⟨g1, g2⟩ := maxI_ge ms n
          refine Int.le_antisymm ?_ (hle _ (maxI_mem ms n))
          rcases List.mem_cons.mp hm with e | hm
          · subst e; exact g1
          · exact g2 m hm
        subst e
        exact sc (.int _) (fun _ => nofun) rfl
      · cases hd
    | [.int i, .int j], hd =>
      cases hd
      obtain ⟨x, y, rfl, h1, h2⟩ := pk2 hp
      rw [h1.int, h2.int] at r
      exact call_max2 hc pins s σ H _ us Q I r ⟨i, j, rfl, sc (.int _) (fun _ => nofun) rfl⟩
  | min =>
    match ds, hd with
    | [.list es], hd =>
      simp only [primD] at hd
      split at hd
      · rename_i n ms e1
        cases hd
        obtain ⟨x, rfl, h1⟩ := pk1 hp
        obtain ⟨a, xs, rfl, q1, r1⟩ := h1.list t
        rw [ints_of r1 e1] at q1
        refine cr_min hc pins s σ H _ us Q I r ⟨a, n :: ms, rfl, q1, by simp, fun m hm hle => ?_⟩
        have e : m = minI n ms := by
          obtain ⟨g1, g2⟩ := minI_le ms n
          refine Int.le_antisymm (hle _ (minI_mem ms n)) ?_
          rcases List.mem_cons.mp hm with e | hm
          · subst e; exact g1
          · exact g2 m hm
        subst e
        exact sc (.int _) (fun _ => nofun) rfl
      · cases hd
    | [.int i, .int j], hd =>
      cases hd
      obtain ⟨x, y, rfl, h1, h2⟩ := pk2 hp
      rw [h1.int, h2.int] at r
      exact call_min2 hc pins s σ H _ us Q I r ⟨i, j, rfl, sc (.int _) (fun _ => nofun) rfl⟩
  | abs =>
    match ds, hd with
    | [.int i], hd =>
      cases hd
      obtain ⟨x, rfl, h1⟩ := pk1 hp
      rw [h1.int] at r
      exact call_abs pins s σ H _ us Q I r ⟨i, rfl, sc (.int _) (fun _ => nofun) rfl⟩
  | sorted =>
    match ds, hd with
    | [.list es], hd =>
      simp only [primD] at hd
      split at hd
      · rename_i ns e1
        cases hd
        obtain ⟨x, rfl, h1⟩ := pk1 hp
        obtain ⟨a, xs, rfl, q1, r1⟩ := h1.list t
        rw [ints_of r1 e1] at q1
        refine cr_sortedI pins s σ H _ us Q I r ⟨a, ns, rfl, q1, fun ns' p pm pw np => ?_⟩
        have e : ns' = sortI ns := sorted_one pw (sortI_sorted ns) (pm.trans (sortI_perm ns).symm)
        subst e
        obtain ⟨g, rr⟩ := new_list (K := X.K) (Grow.refl t) np (dp_ints (sortI ns))
        exact k _ _ _ g rr
      · cases hd
  | list =>
    match ds, hd with
    | [.list es], hd =>
      cases hd
      obtain ⟨x, rfl, h1⟩ := pk1 hp
      obtain ⟨a, xs, rfl, q1, r1⟩ := h1.list t
      refine call_list_of pins s σ H _ us Q I r ⟨a, xs, rfl, .inl q1, fun p np => ?_⟩
      obtain ⟨g, rr⟩ := new_list (Grow.refl t) np r1
      exact k _ _ _ g rr
    | [.tuple es], hd =>
      cases hd
      obtain ⟨x, rfl, h1⟩ := pk1 hp
      obtain ⟨a, xs, rfl, q1, r1⟩ := h1.tuple t
      refine call_list_of pins s σ H _ us Q I r ⟨a, xs, rfl, .inr q1, fun p np => ?_⟩
      obtain ⟨g, rr⟩ := new_list (Grow.refl t) np r1
      exact k _ _ _ g rr
  | tuple =>
    match ds, hd with
    | [.list es], hd =>
      cases hd
      obtain ⟨x, rfl, h1⟩ := pk1 hp
      obtain ⟨a, xs, rfl, q1, r1⟩ := h1.list t
      refine call_tuple_of pins s σ H _ us Q I r ⟨a, xs, rfl, .inl ⟨q1, fun p np => ?_⟩⟩
      obtain ⟨g, rr⟩ := new_tup (m := .fr) (Grow.refl t) np r1
      exact k _ _ _ g rr
    | [.tuple es], hd =>
      cases hd
      obtain ⟨x, rfl, h1⟩ := pk1 hp
      obtain ⟨a, xs, rfl, q1, r1⟩ := h1.tuple t
      exact call_tuple_of pins s σ H _ us Q I r ⟨a, xs, rfl, .inr ⟨q1, sc (h1.elim (fun z => z) fun z => z) (fun _ => nofun) rfl⟩⟩
  | isiT t => exact absurd rfl (hi t)
end
end Ev
/-! Ev6: targets, what is walked, expressions: the check is sound. -/
namespace Ev
open PySem PySem.Spec PyProof.Rows L2

/-- a def's promise over data -/
def spF (K : PySem.W.Frag) (F : FnI) : Sp := fun vs H Q _ => vs.length = F.np ∧ ∃ S ds d, Same S H ∧ DpAll K S vs ds ∧ F.sem ds = some d ∧ ∀ v S' H', Grow S H S' H' → Rs K F.md H S' H' v d → Q v H'
/-- how the arguments come to the parameters: all by place (defaults behind), or the last ones by their names -/
def How (K : PySem.W.Frag) (F : FnI) (fd : FuncData) (ps : List Str) (sp : Sp) : Prop :=
  (F.kw = [] ∧ ∃ ds dvs, Binds K fd ps ds ∧ Vals dvs ds ∧ ∀ vs H Q E, spF K F vs H Q E → sp (vs ++ dvs) H Q E) ∨
  ∃ n g gV, F.kw ≠ [] ∧ KBn K fd ps n F.kw g gV ∧ n + F.kw.length = F.np ∧ ∀ vs zs H Q E, vs.length = n → spF K F (vs ++ zs) H Q E → sp (gV vs zs) H Q E
def Knows (X : Cx) (F : FnI) : Prop := ∃ k g fd ps sp, FnOk X.prog X.w X.K X.mg X.base CX0 k g fd ps sp ∧ Room k X.A ∧ X.mg F.name = some (.ref g) ∧ PySem.W.keepIn X.K (.ref g) = true ∧ How X.K F fd ps sp
structure Kx (X : Cx) (C : CC) : Prop where
  N : X.N = C.N
  sc : X.env.scope = C.sc
  nd : C.N.Nodup
  calm : X.calm = true
  un : X.A.units + 65 < cLine
  gk : C.gk = true → X.A.guards = some []
  blt : ∀ x, C.blt.contains x = true → X.mg x = none
  fns : ∀ (i : Nat) (F : FnI), C.Γ[i]? = some F → Knows X F
  fn : C.inb = false → ∀ x, X.fn x = true
abbrev CC.blk (C : CC) (scope : Scope) : CC := { C with sc := relS scope C.sc, inb := true }
theorem Kx.into {X : Cx} {C : CC} (k : Kx X C) (s : Shared) (H : Hp) (scope : Scope) (cl : List (Str × Addr)) (c : Addr) (fp : List Addr) : Kx (X.blk s H scope (compEnvC scope cl c X.env) fp) (C.blk scope) :=
  ⟨k.N, by show relS scope X.env.scope = relS scope C.sc; rw [k.sc], k.nd, k.calm, k.un, k.gk, k.blt, k.fns, fun z => by cases z⟩
section
variable {X : Cx} {C : CC} (k : Kx X C)
include k
theorem Kx.gl {x : Str} (h : glb C.sc x = true) : Gl X x := by
  show X.env.scope.names.lookup x = some .globalImplicit
  rw [k.sc]
  unfold glb at h
  split at h
  · assumption
  · cases h
theorem Kx.vi {x : Str} (h : vis C.sc x = true) : Vis X.env.scope x := by
  unfold Vis
  rw [k.sc]
  unfold vis at h
  split at h
  · exact .inl (by assumption)
  · exact .inr (.inl (by assumption))
  · exact .inr (.inr (by assumption))
  · cases h
theorem Kx.st {x : Str} (h : stor C x = true) : L2.Loc X.env.scope x ∧ (X.fn x = true ∨ X.env.scope.names.lookup x = some .local) := by
  unfold L2.Loc
  rw [k.sc]
  unfold stor at h
  split at h
  · exact ⟨.inl (by assumption), .inr (by assumption)⟩
  · refine ⟨.inr (by assumption), .inl (k.fn ?_ x)⟩
    simpa using h
  · cases h
theorem Kx.lo {x : Str} (h : locl C.sc x = true) : X.env.scope.names.lookup x = some .local := by
  rw [k.sc]
  unfold locl at h
  split at h
  · assumption
  · cases h
end
theorem noDbg1 {x : Str} (h : noDbg x = true) : (x == ("__debug__" : Str)) = false := by
  unfold noDbg at h
  simp only [Bool.and_eq_true, Bool.not_eq_true'] at h
  exact h.1.1
theorem noDbg2 {x : Str} (h : noDbg x = true) : (x == ("__classdict__" : Str)) = false := by
  unfold noDbg at h
  simp only [Bool.and_eq_true, Bool.not_eq_true'] at h
  exact h.1.2
theorem noDbg3 {x : Str} (h : noDbg x = true) : x ≠ "__name__" := by
  unfold noDbg at h
  simp only [Bool.and_eq_true, Bool.not_eq_true', beq_eq_false_iff_ne] at h
  exact h.2
theorem star_cons {e : Expr} {es : List Expr} {env : PySem.Env} (h : isStar e = false) : starEach (e :: es) env = (false, eval e env) :: starEach es env := by
  cases e <;> first | rfl | cases h
theorem star_any : ∀ {es : List Expr} {env : PySem.Env} {pos : Pos}, noStar es = true → (backTo pos (starEach es env)).any (·.1) = false
  | [], _, _, _ => rfl
  | e :: es, env, pos, h => by
    unfold noStar at h
    rw [List.all_cons, Bool.and_eq_true, Bool.not_eq_true'] at h
    rw [star_cons h.1]
    have ih := star_any (es := es) (env := env) (pos := pos) h.2
    unfold backTo at ih ⊢
    rw [List.map_cons, List.any_cons, ih]
    rfl
theorem asg_cons {e : Expr} {es : List Expr} {env : PySem.Env} (h : isStar e = false) : assignEach (e :: es) env = (false, assign e env) :: assignEach es env := by
  cases e <;> first | rfl | cases h
theorem asg_len : ∀ {es : List Expr} {env : PySem.Env}, noStar es = true → (assignEach es env).length = es.length ∧ (assignEach es env).findIdx? (·.1) = none
  | [], _, _ => ⟨rfl, rfl⟩
  | e :: es, env, h => by
    unfold noStar at h
    rw [List.all_cons, Bool.and_eq_true, Bool.not_eq_true'] at h
    obtain ⟨h1, h2⟩ := asg_len (es := es) (env := env) h.2
    rw [asg_cons h.1]
    refine ⟨by rw [List.length_cons, h1]; rfl, ?_⟩
    rw [List.findIdx?_cons, h2]
    rfl
theorem not_t {b : Bool} (h : (!b) = true) : b = false := by
  cases b with
  | false => rfl
  | true => cases h

/-! ### targets -/
def slT : Tg → List Nat
  | .nm i => [i]
  | .tp ts => slTs ts
where
  slTs : List Tg → List Nat
  | [] => []
  | t :: ts => slT t ++ slTs ts
/-- but for some slots the same -/
def Agr (l : List Nat) (σ σ' : L2.St) : Prop := σ'.length = σ.length ∧ ∀ i, i ∉ l → σ'[i]? = σ[i]?
theorem Agr.refl (l : List Nat) (σ : L2.St) : Agr l σ σ := ⟨rfl, fun _ _ => rfl⟩
theorem StOk.put {K : PySem.W.Frag} {W : Ow} {H0 : Hp} {env : Env} {σ : L2.St} {S H : Hp} (st : StOk K W H0 env σ S H) {i : Nat} {v : V} {d : D} (ho : W.o.contains i = false) (hb : W.b.contains i = false) (h : Dp K S v d) :
    StOk K W H0 (env.set i (some d)) (σ.set i (some v)) S H := by
  have hi : ∀ j, j ∈ W.o → j ≠ i := fun j hj e => by
    subst e
    rw [List.contains_iff_mem.mpr hj] at ho
    cases ho
  refine ⟨st.sub, by rw [List.length_set, List.length_set]; exact st.len, fun j e hj => ?_, fun j ds a hj he hs => ?_, fun j l ds es a hj hl hn e1 e2 s1 => ?_⟩
  · by_cases z : i = j
    · subst z
      have hl : i < env.length := by
        have := (List.getElem?_eq_some_iff.mp hj).1
        rwa [List.length_set] at this
      rw [List.getElem?_set_self hl] at hj
      have e2 : d = e := Option.some.inj (Option.some.inj hj)
      subst e2
      refine ⟨v, by rw [List.getElem?_set_self (by rw [← st.len]; exact hl)], ?_⟩
      unfold VarOk
      rw [ho, hb]
      exact h
    · rw [List.getElem?_set_ne z] at hj ⊢
      exact st.var j e hj
  · have z := hi j hj
    rw [List.getElem?_set_ne (Ne.symm z)] at he hs
    exact st.new j ds a hj he hs
  · have z := hi j hj
    have z2 := hi l hl
    rw [List.getElem?_set_ne (Ne.symm z)] at e1 s1
    rw [List.getElem?_set_ne (Ne.symm z2)] at e2 ⊢
    exact st.apart j l ds es a hj hl hn e1 e2 s1
def rG (K : PySem.W.Frag) (W : Ow) (t : Tg) : TG := fun v σ H Q => ∃ env S H0 d env', StOk K W H0 env σ S H ∧ Dp K S v d ∧ bindT t d env = some env' ∧ ∀ σ', StOk K W H0 env' σ' S H → Agr (slT t) σ σ' → Q σ' H
def rGs (K : PySem.W.Frag) (W : Ow) (ts : List Tg) : TGs := fun vs σ H Q => ∃ env S H0 ds env', StOk K W H0 env σ S H ∧ DpAll K S vs ds ∧ bindTs ts ds env = some env' ∧ ∀ σ', StOk K W H0 env' σ' S H → Agr (slT.slTs ts) σ σ' → Q σ' H
theorem tgs_star {C : CC} {W : Ow} : ∀ {ts : List Tg} {es : List Expr}, chkTgs C W ts es = true → noStar es = true ∧ es.length = ts.length
  | [], [], _ => ⟨rfl, rfl⟩
  | t :: ts, e :: es, h => by
    simp only [chkTgs, Bool.and_eq_true, Bool.not_eq_true'] at h
    obtain ⟨h1, h2⟩ := tgs_star h.2
    refine ⟨?_, by rw [List.length_cons, List.length_cons, h2]⟩
    unfold noStar at h1 ⊢
    rw [List.all_cons, h1, h.1.1]
    rfl
  | [], _ :: _, h => by simp [chkTgs] at h
  | _ :: _, [], h => by simp [chkTgs] at h
theorem bts_len : ∀ {ts : List Tg} {ds : List D} {env env' : Env}, bindTs ts ds env = some env' → ds.length = ts.length
  | [], [], _, _, _ => rfl
  | t :: ts, d :: ds, env, env', h => by
    simp only [bindTs] at h
    obtain ⟨e, _, h2⟩ := Option.bind_eq_some_iff.mp h
    rw [List.length_cons, List.length_cons, bts_len h2]
  | [], _ :: _, _, _, h => by simp [bindTs] at h
  | _ :: _, [], _, _, h => by simp [bindTs] at h
theorem inv_nm {C : CC} {W : Ow} {i : Nat} {e : Expr} (h : chkTg C W (.nm i) e = true) : ∃ x pos, e = .Name x pos ∧ C.N[i]? = some x ∧ stor C x = true ∧ W.o.contains i = false ∧ W.b.contains i = false := by
  cases e <;> simp only [chkTg, Bool.false_eq_true] at h
  simp only [Bool.and_eq_true, Bool.not_eq_true', decide_eq_true_eq] at h
  obtain ⟨⟨⟨h1, h2⟩, h3⟩, h4⟩ := h
  exact ⟨_, _, rfl, h1, h2, h3, h4⟩
theorem inv_tp {C : CC} {W : Ow} {ts : List Tg} {e : Expr} (h : chkTg C W (.tp ts) e = true) : ∃ es k pos, e = .Tuple es k pos ∧ chkTgs C W ts es = true := by
  cases e <;> simp only [chkTg, Bool.false_eq_true] at h
  exact ⟨_, _, _, rfl, h⟩
mutual
theorem sG : ∀ (t : Tg) (e : Expr) (C : CC) (W : Ow) (X : Cx), chkTg C W t e = true → Kx X C → PG X e (rG X.K W t)
  | .nm i, e, C, W, X, h, k => by
    obtain ⟨x, pos, rfl, h1, h2, h3, h4⟩ := inv_nm h
    have q := k.st h2
    refine (pg_name (i := i) (by rw [k.N]; exact k.nd) (by rw [k.N]; exact h1) q.1 q.2).imp fun v σ H Q hh => ?_
    obtain ⟨env, S, H0, d, env', st, hd, hb, kk⟩ := hh
    cases hb
    refine kk _ (st.put h3 h4 hd) ⟨List.length_set, fun j hj => ?_⟩
    rw [List.getElem?_set_ne]
    rintro rfl
    exact hj List.mem_cons_self
  | .tp ts, e, C, W, X, h, k => by
    obtain ⟨es, k1, pos, rfl, h⟩ := inv_tp h
    obtain ⟨hs, hl⟩ := tgs_star h
    obtain ⟨a1, a2⟩ := asg_len (env := X.env) hs
    refine (pg_tup (n := es.length) k.calm (sGs ts es C W X h k) a1 a2).imp fun v σ H Q hh => ?_
    obtain ⟨env, S, H0, d, env', st, hd, hb, kk⟩ := hh
    cases d with
    | tuple ds =>
      simp only [bindT] at hb
      cases hd with
      | tup h1 r1 =>
        rename_i a xs
        refine ⟨a, xs, rfl, seqT_mono st.sub h1, ?_, env, S, H0, ds, env', st, r1, hb, kk⟩
        rw [r1.len, bts_len hb, hl]
    | _ => simp [bindT] at hb
theorem sGs : ∀ (ts : List Tg) (es : List Expr) (C : CC) (W : Ow) (X : Cx), chkTgs C W ts es = true → Kx X C → PGs X es (rGs X.K W ts)
  | [], [], C, W, X, h, k => by
    refine ⟨fun pins s σ H vs us Q I r hh => pgs_nil.run pins s σ H vs us Q I r ?_⟩
    obtain ⟨env, S, H0, ds, env', st, hd, hb, kk⟩ := hh
    cases ds with
    | cons _ _ => simp [bindTs] at hb
    | nil =>
      cases hb
      cases hd
      exact ⟨rfl, kk σ st (Agr.refl _ _)⟩
  | t :: ts, e :: es, C, W, X, h, k => by
    simp only [chkTgs, Bool.and_eq_true, Bool.not_eq_true'] at h
    have hs : (assignEach (e :: es) X.env).map (·.2) = assign e X.env :: (assignEach es X.env).map (·.2) := by rw [asg_cons h.1.1]; rfl
    refine ⟨fun pins s σ H vs us Q I r hh => (pgs_cons (sG t e C W X h.1.2 k) (sGs ts es C W X h.2 k) hs).run pins s σ H vs us Q I r ?_⟩
    obtain ⟨env, S, H0, ds, env', st, hd, hb, kk⟩ := hh
    cases ds with
    | nil => simp [bindTs] at hb
    | cons d ds =>
      simp only [bindTs] at hb
      obtain ⟨e1, hb1, hb2⟩ := Option.bind_eq_some_iff.mp hb
      cases hd with
      | cons hd1 hd2 =>
        refine ⟨_, _, rfl, env, S, H0, d, e1, st, hd1, hb1, fun σ1 st1 ag1 => ⟨e1, S, H0, ds, env', st1, hd2, hb2, fun σ2 st2 ag2 => kk σ2 st2 ?_⟩⟩
        refine ⟨ag2.1.trans ag1.1, fun i hi => ?_⟩
        simp only [slT.slTs, List.mem_append, not_or] at hi
        exact (ag2.2 i hi.2).trans (ag1.2 i hi.1)
  | [], _ :: _, _, _, _, h, _ => by simp [chkTgs] at h
  | _ :: _, [], _, _, _, h, _ => by simp [chkTgs] at h
end
end Ev
/-! Ev7: what is walked; the loop of a comprehension. -/
namespace Ev
open PySem PySem.Spec PyProof.Rows L2

/-- an iterator gives these data, while the shared part stands -/
def Feed (K : PySem.W.Frag) (J : It) (ds : List D) (S1 : Hp) : Prop := ∀ S H, Same S1 S → Same S H →
  (∀ i : Nat, ds.length ≤ i → J.stop i H) ∧ ∀ (i : Nat) (d : D), ds[i]? = some d → J.go i H ∧ ∀ x H', J.yld i H x H' → ∃ S', Grow S H S' H' ∧ Dp K S' x d
def rI (K : PySem.W.Frag) (Γ : List FnI) (W : Ow) (k : Ik) (its : List PX) : TI := fun σ H R => ∃ env S H0, StOk K W H0 env σ S H ∧ ∃ ws ds, evL Γ its env = some ws ∧ itD k ws = some ds ∧ ∀ J S' H', Grow S H S' H' → Feed K J ds S' → R J H'
theorem feed_list {K : PySem.W.Frag} {a : Addr} {xs : List V} {ds : List D} {S1 : Hp} (h : SqL K S1 a xs) (r : DpAll K S1 xs ds) : Feed K (Itl K a) ds S1 := fun S H s1 s2 => by
  have q : SqL K H a xs := s2.seq (s1.seq h)
  refine ⟨fun i hi => ⟨xs, q, by rw [r.len]; exact hi⟩, fun i d hd => ?_⟩
  obtain ⟨y, hy, dy⟩ := r.get hd
  refine ⟨⟨xs, y, q, hy⟩, fun x H' hx => ?_⟩
  obtain ⟨rfl, hx⟩ := hx
  have e : y = x := Option.some.inj (hy.symm.trans (hx xs q))
  subst e
  exact ⟨S, Grow.refl s2, dy.mono s1⟩
theorem feed_tup {K : PySem.W.Frag} {a : Addr} {xs : List V} {ds : List D} {S1 : Hp} (h : SqT K S1 a xs) (r : DpAll K S1 xs ds) : Feed K (Itt K a) ds S1 := fun S H s1 s2 => by
  have q : SqT K H a xs := seqT_mono s2 (seqT_mono s1 h)
  refine ⟨fun i hi => ⟨xs, q, by rw [r.len]; exact hi⟩, fun i d hd => ?_⟩
  obtain ⟨y, hy, dy⟩ := r.get hd
  refine ⟨⟨xs, y, q, hy⟩, fun x H' hx => ?_⟩
  obtain ⟨rfl, hx⟩ := hx
  have e : y = x := Option.some.inj (hy.symm.trans (hx xs q))
  subst e
  exact ⟨S, Grow.refl s2, dy.mono s1⟩
theorem upto_len : ∀ (n : Nat) (lo : Int), (upto lo n).length = n
  | 0, _ => rfl
  | n + 1, lo => congrArg (· + 1) (upto_len n (lo + 1))
theorem upto_get : ∀ (n : Nat) (lo : Int) (i : Nat), i < n → (upto lo n)[i]? = some (.int (lo + i))
  | 0, _, _, h => absurd h (Nat.not_lt_zero _)
  | n + 1, lo, 0, _ => by simp [upto]
  | n + 1, lo, i + 1, h => by
    show (upto (lo + 1) n)[i]? = _
    rw [upto_get n (lo + 1) i (Nat.lt_of_succ_lt_succ h)]
    congr 2
    push_cast
    omega
theorem feed_rng {K : PySem.W.Frag} {lo : Int} {n : Nat} {S1 : Hp} : Feed K (Itr lo n) (upto lo n) S1 := fun S H s1 s2 => by
  refine ⟨fun i hi => by rw [upto_len] at hi; exact hi, fun i d hd => ?_⟩
  have hi : i < n := by
    have := (List.getElem?_eq_some_iff.mp hd).1
    rwa [upto_len] at this
  refine ⟨hi, fun x H' hx => ?_⟩
  obtain ⟨rfl, rfl⟩ := hx
  rw [upto_get n lo i hi] at hd
  cases hd
  exact ⟨S, Grow.refl s2, .int _⟩
/-- a new pair -/
theorem new_pair {K : PySem.W.Frag} {S H : Hp} (t : Same S H) {T : Addr} (n : H T = none) {xs : List V} {ds : List D} (r : DpAll K S xs ds) : ∃ S', Grow S H S' (upd H T (.tup xs)) ∧ Dp K S' (.ref T) (.tuple ds) := by
  obtain ⟨g, q⟩ := new_tup (m := .sh) (Grow.refl t) n r
  exact ⟨_, g, q⟩
theorem enum_len : ∀ (ds : List D) (k : Nat), (enumD k ds).length = ds.length
  | [], _ => rfl
  | _ :: r, k => congrArg (· + 1) (enum_len r (k + 1))
theorem enum_get : ∀ (ds : List D) (k i : Nat) (d : D), (enumD k ds)[i]? = some d → ∃ x, ds[i]? = some x ∧ d = .tuple [.int ((k + i : Nat) : Int), x]
  | [], _, _, _, h => by simp [enumD] at h
  | x :: r, k, 0, d, h => by
    simp only [enumD, List.length_cons, Nat.zero_lt_succ, getElem?_pos, List.getElem_cons_zero, Option.some.injEq] at h
    exact ⟨x, rfl, h.symm⟩
  | x :: r, k, i + 1, d, h => by
    obtain ⟨y, h1, h2⟩ := enum_get r (k + 1) i d (by simpa [enumD] using h)
    refine ⟨y, by simpa using h1, ?_⟩
    rw [h2]
    have : k + 1 + i = k + (i + 1) := by omega
    rw [this]
theorem feed_enum {K : PySem.W.Frag} {a : Addr} {xs : List V} {ds : List D} {S1 : Hp} (h : SqL K S1 a xs) (r : DpAll K S1 xs ds) : Feed K (Ite K a) (enumD 0 ds) S1 := fun S H s1 s2 => by
  have q : SqL K H a xs := s2.seq (s1.seq h)
  refine ⟨fun i hi => ⟨xs, q, by rw [r.len]; rwa [enum_len] at hi⟩, fun i d hd => ?_⟩
  obtain ⟨z, hz, rfl⟩ := enum_get ds 0 i d hd
  obtain ⟨y, hy, dy⟩ := r.get hz
  refine ⟨⟨xs, y, q, hy⟩, fun x H' hx => ?_⟩
  obtain ⟨T, w, rfl, nT, rfl, hx⟩ := hx
  have e : y = w := Option.some.inj (hy.symm.trans (hx xs q))
  subst e
  rw [Nat.zero_add]
  exact new_pair s2 nT (.cons (.int _) (.cons (dy.mono s1) .nil))
theorem zip_len : ∀ (a b : List D) (i : Nat), (zipD a b).length ≤ i → a.length ≤ i ∨ b.length ≤ i
  | [], _, _, _ => .inl (Nat.zero_le _)
  | _ :: _, [], _, _ => .inr (Nat.zero_le _)
  | x :: r, y :: s, 0, h => by simp [zipD] at h
  | x :: r, y :: s, i + 1, h => by
    have h' : (zipD r s).length ≤ i := by simpa [zipD] using h
    rcases zip_len r s i h' with z | z
    · exact .inl (Nat.succ_le_succ z)
    · exact .inr (Nat.succ_le_succ z)
theorem zip_get : ∀ (a b : List D) (i : Nat) (d : D), (zipD a b)[i]? = some d → ∃ x y, a[i]? = some x ∧ b[i]? = some y ∧ d = .tuple [x, y]
  | [], _, _, _, h => by simp [zipD] at h
  | _ :: _, [], _, _, h => by simp [zipD] at h
  | x :: r, y :: s, 0, d, h => by
    simp only [zipD, List.length_cons, Nat.zero_lt_succ, getElem?_pos, List.getElem_cons_zero, Option.some.injEq] at h
    exact ⟨x, y, rfl, rfl, h.symm⟩
  | x :: r, y :: s, i + 1, d, h => by
    obtain ⟨u, v, h1, h2, h3⟩ := zip_get r s i d (by simpa [zipD] using h)
    exact ⟨u, v, by simpa using h1, by simpa using h2, h3⟩
theorem feed_zip {K : PySem.W.Frag} {a b : Addr} {xs ys : List V} {ds es : List D} {S1 : Hp} (h : SqL K S1 a xs) (r : DpAll K S1 xs ds) (h2 : SqL K S1 b ys) (r2 : DpAll K S1 ys es) : Feed K (Itz K a b) (zipD ds es) S1 := fun S H s1 s2 => by
  have q : SqL K H a xs := s2.seq (s1.seq h)
  have q2 : SqL K H b ys := s2.seq (s1.seq h2)
  refine ⟨fun i hi => ⟨xs, ys, q, q2, by rw [r.len, r2.len]; exact zip_len ds es i hi⟩, fun i d hd => ?_⟩
  obtain ⟨u, v, hu, hv, rfl⟩ := zip_get ds es i d hd
  obtain ⟨y, hy, dy⟩ := r.get hu
  obtain ⟨z, hz, dz⟩ := r2.get hv
  refine ⟨⟨xs, ys, y, z, q, q2, hy, hz⟩, fun x H' hx => ?_⟩
  obtain ⟨T, w1, w2, rfl, nT, rfl, hx, hx2⟩ := hx
  have e : y = w1 := Option.some.inj (hy.symm.trans (hx xs q))
  have e2 : z = w2 := Option.some.inj (hz.symm.trans (hx2 ys q2))
  subst e e2
  exact new_pair s2 nT (.cons (dy.mono s1) (.cons (dz.mono s1) .nil))
theorem feed_zipT {K : PySem.W.Frag} {a b : Addr} {xs ys : List V} {ds es : List D} {S1 : Hp} (h : SqT K S1 a xs) (r : DpAll K S1 xs ds) (h2 : SqT K S1 b ys) (r2 : DpAll K S1 ys es) : Feed K (RZ.ItzT K a b) (zipD ds es) S1 := fun S H s1 s2 => by
  have q : SqT K H a xs := seqT_mono s2 (seqT_mono s1 h)
  have q2 : SqT K H b ys := seqT_mono s2 (seqT_mono s1 h2)
  refine ⟨fun i hi => ⟨xs, ys, q, q2, by rw [r.len, r2.len]; exact zip_len ds es i hi⟩, fun i d hd => ?_⟩
  obtain ⟨u, v, hu, hv, rfl⟩ := zip_get ds es i d hd
  obtain ⟨y, hy, dy⟩ := r.get hu
  obtain ⟨z, hz, dz⟩ := r2.get hv
  refine ⟨⟨xs, ys, y, z, q, q2, hy, hz⟩, fun x H' hx => ?_⟩
  obtain ⟨T, w1, w2, rfl, nT, rfl, hx, hx2⟩ := hx
  have e : y = w1 := Option.some.inj (hy.symm.trans (hx xs q))
  have e2 : z = w2 := Option.some.inj (hz.symm.trans (hx2 ys q2))
  subst e e2
  exact new_pair s2 nT (.cons (dy.mono s1) (.cons (dz.mono s1) .nil))

/-! ### names of a block are forgotten -/
theorem StOk.lose {K : PySem.W.Frag} {W : Ow} {H0 : Hp} {env : Env} {σ : L2.St} {S H : Hp} (st : StOk K W H0 env σ S H) (i : Nat) : StOk K W H0 (env.set i none) (σ.set i none) S H := by
  have ne : ∀ {j : Nat} {d : D}, (env.set i none)[j]? = some (some d) → i ≠ j ∧ env[j]? = some (some d) := fun {j d} e => by
    by_cases z : i = j
    · subst z
      by_cases hl : i < env.length
      · rw [List.getElem?_set_self hl] at e; cases e
      · rw [List.getElem?_eq_none (by simpa using hl)] at e; cases e
    · rw [List.getElem?_set_ne z] at e
      exact ⟨z, e⟩
  refine ⟨st.sub, by rw [List.length_set, List.length_set]; exact st.len, fun j d e => ?_, fun j ds a hj he hs => ?_, fun j l ds es a hj hl hn e1 e2 s1 => ?_⟩
  · obtain ⟨z, e⟩ := ne e
    rw [List.getElem?_set_ne z]
    exact st.var j d e
  · obtain ⟨z, he⟩ := ne he
    rw [List.getElem?_set_ne z] at hs
    exact st.new j ds a hj he hs
  · obtain ⟨z, e1⟩ := ne e1
    obtain ⟨z2, e2⟩ := ne e2
    rw [List.getElem?_set_ne z] at s1
    rw [List.getElem?_set_ne z2]
    exact st.apart j l ds es a hj hl hn e1 e2 s1
theorem StOk.wipe {K : PySem.W.Frag} {W : Ow} {H0 : Hp} {env : Env} {σ : L2.St} {S H : Hp} (st : StOk K W H0 env σ S H) : ∀ vs : List Nat, StOk K W H0 (wipeE env vs) (L2.wipe σ vs) S H
  | [] => st
  | v :: vs => (StOk.wipe st vs).lose v
theorem wipe_in {σ : L2.St} {i : Nat} : ∀ {vs : List Nat}, i ∈ vs → i < σ.length → (L2.wipe σ vs)[i]? = some none
  | v :: vs, h, hl => by
    unfold L2.wipe
    by_cases z : v = i
    · subst z
      rw [List.getElem?_set_self (by rw [wipe_length]; exact hl)]
    · rw [List.getElem?_set_ne z]
      rcases List.mem_cons.mp h with e | h
      · exact absurd e.symm z
      · exact wipe_in h hl
theorem wipe_agr {l vs : List Nat} {σ σ' : L2.St} (a : Agr l (L2.wipe σ vs) σ') (h : ∀ i ∈ l, i ∈ vs) : L2.wipe σ' vs = L2.wipe σ vs := by
  have hl : σ'.length = σ.length := a.1.trans (wipe_length σ vs)
  refine List.ext_getElem? fun i => ?_
  by_cases hi : i ∈ vs
  · by_cases hlt : i < σ.length
    · rw [wipe_in hi hlt, wipe_in hi (by rw [hl]; exact hlt)]
    · rw [List.getElem?_eq_none (by rw [wipe_length, hl]; omega), List.getElem?_eq_none (by rw [wipe_length]; omega)]
  · rw [wipe_out hi]
    exact a.2 i fun z => hi (h i z)
mutual
theorem tg_slots : ∀ (t : Tg) (own : List Nat), tgIn t own = true → ∀ i ∈ slT t, i ∈ own
  | .nm j, own, h, i, hi => by
    simp only [slT, List.mem_singleton] at hi
    subst hi
    simpa [tgIn] using h
  | .tp ts, own, h, i, hi => tgs_slots ts own (by simpa [tgIn] using h) i (by simpa [slT] using hi)
theorem tgs_slots : ∀ (ts : List Tg) (own : List Nat), tgIn.tgIns ts own = true → ∀ i ∈ slT.slTs ts, i ∈ own
  | [], _, _, i, hi => by simp [slT.slTs] at hi
  | t :: ts, own, h, i, hi => by
    simp only [tgIn.tgIns, Bool.and_eq_true] at h
    simp only [slT.slTs, List.mem_append] at hi
    rcases hi with hi | hi
    · exact tg_slots t own h.1 i hi
    · exact tgs_slots ts own h.2 i hi
end

/-! ### a comprehension -/
theorem comp_run {K : PySem.W.Frag} {Γ : List FnI} {W : Ow} {e c : PX} {t : Tg} {k : Ik} {its : List PX} {vs : List Nat} {tt : TT} {own : List (Str × Nat)} (hv : vs = own.map (·.2)) (hin : tgIn t vs = true)
    (htt : ∀ σ H Q, rT K Γ W c σ H Q → tt σ H Q) (σ : L2.St) (H : Hp) (Q : VK) (h : rE K Γ W .fr (.comp e t k its c own) σ H Q) :
    tLc (rI K Γ W k its) (rG K W t) tt (rE K Γ W .sh e) vs σ H Q := by
  obtain ⟨env, S, H0, st, d, ev, kk⟩ := h
  simp only [evE] at ev
  obtain ⟨ws, e1, ev⟩ := Option.bind_eq_some_iff.mp ev
  obtain ⟨ds, e2, ev⟩ := Option.bind_eq_some_iff.mp ev
  rw [← hv] at ev
  split at ev
  case isFalse => cases ev
  rename_i hlim
  obtain ⟨out, e3, e4⟩ := Option.map_eq_some_iff.mp ev
  subst e4
  generalize hf : (fun d => (bindT t d (wipeE env vs)).bind fun env1 => match evT Γ c env1 with
          | some true => (evE Γ e env1).map some
          | some false => some none
          | none => none) = f at e3
  refine ⟨env, S, H0, st, ws, ds, e1, e2, fun J S1 H1 g1 feed => fun Da nD => ?_⟩
  have sD : S1 Da = none := g1.t.free nD
  refine ⟨fun i m H' => m = ds.length - i ∧ i ≤ ds.length ∧ ∃ S' acc o1 o2, Grow S1 H1 S' H' ∧ S' Da = none ∧ H' Da = some (.lst acc) ∧ DpAll K S' acc o1 ∧ compD f (ds.drop i) = some o2 ∧ o1 ++ o2 = out ∧ acc.length ≤ i,
    ⟨ds.length, by simp, Nat.zero_le _, S1, [], [], out, ⟨fun b o q => by rw [upd_ne (ne_of_none q nD)]; exact q, Same.refl _, fun b o q => by rw [upd_ne (ne_of_none q sD)]; exact g1.t b o q, fun a q => .inl q⟩, sD, upd_same, .nil, by simpa using e3, rfl, Nat.le_refl _⟩, ?_⟩
  rintro i m H' ⟨rfl, hi, S', acc, o1, o2, g2, nS, hD, r, ec, eo, hl⟩
  obtain ⟨f1, f2⟩ := feed S' H' g2.s g2.t
  by_cases hlt : i < ds.length
  · refine .inr ?_
    have hd : ds[i]? = some ds[i] := List.getElem?_eq_getElem hlt
    obtain ⟨go, yl⟩ := f2 i _ hd
    refine ⟨go, fun H3 => ds.length - (i + 1) = ds.length - (i + 1) ∧ i + 1 ≤ ds.length ∧ ∃ S' acc o1 o2, Grow S1 H1 S' H3 ∧ S' Da = none ∧ H3 Da = some (.lst acc) ∧ DpAll K S' acc o1 ∧ compD f (ds.drop (i + 1)) = some o2 ∧ o1 ++ o2 = out ∧ acc.length ≤ i + 1,
      fun H3 q => ⟨ds.length - (i + 1), by omega, q⟩, fun x H3 hx => ?_⟩
    obtain ⟨S3, g3, dx⟩ := yl x H3 hx
    rw [List.drop_eq_getElem_cons hlt] at ec
    simp only [compD] at ec
    have g13 : Grow S H S3 H3 := (g1.trans g2).trans g3
    have kD := g3.keep hD nS
    -- the target
    have hfd : f ds[i] = (bindT t ds[i] (wipeE env vs)).bind fun env1 => match evT Γ c env1 with
          | some true => (evE Γ e env1).map some
          | some false => some none
          | none => none := by rw [← hf]
    cases eb : bindT t ds[i] (wipeE env vs) with
    | none =>
      rw [eb] at hfd
      rw [show f ds[i] = none from hfd] at ec
      cases ec
    | some env1 =>
      rw [eb] at hfd
      simp only [Option.bind_some] at hfd
      refine ⟨wipeE env vs, S3, H0, ds[i], env1, (st.grow g13).wipe vs, dx, eb, fun σ2 st2 ag => ⟨wipe_agr ag (tg_slots t vs hin), ?_⟩⟩
      cases et : evT Γ c env1 with
      | none =>
        rw [et] at hfd
        rw [show f ds[i] = none from hfd] at ec
        cases ec
      | some b =>
        rw [et] at hfd
        refine htt _ _ _ (rT_go st2 et fun S4 H4 g4 st4 => ?_)
        have kD4 := g4.keep kD.1 kD.2
        cases b with
        | false =>
          rw [show f ds[i] = some none from hfd] at ec
          rw [if_neg Bool.false_ne_true]
          exact ⟨rfl, hlt, S4, acc, o1, o2, (g2.trans g3).trans g4, kD4.2, kD4.1, r.mono (g3.s.trans g4.s), ec, eo, by omega⟩
        | true =>
          rw [if_pos rfl]
          cases ee : evE Γ e env1 with
          | none =>
            rw [ee] at hfd
            rw [show f ds[i] = none from hfd] at ec
            cases ec
          | some y =>
            rw [ee] at hfd
            rw [show f ds[i] = some (some y) from hfd] at ec
            obtain ⟨o3, ec, e5⟩ := Option.map_eq_some_iff.mp (show (compD f (ds.drop (i + 1))).map (y :: ·) = some o2 from ec)
            refine rE_go st4 ee fun v S5 H5 g5 st5 rv => ?_
            have kD5 := g5.keep kD4.1 kD4.2
            have hlen : acc.length < sizeLine := lim_lt (by omega)
            refine ⟨acc, kD5.1, hlen, rfl, hlt, S5, acc ++ [v], o1 ++ [y], o3, ?_, kD5.2, upd_same, (r.mono (g3.s.trans (g4.s.trans g5.s))).app (.cons rv .nil), ec, ?_, ?_⟩
            · have gg := ((g2.trans g3).trans g4).trans g5
              refine ⟨fun b o q => ?_, gg.s, fun b o q => ?_, gg.n⟩
              · rw [upd_ne (ne_of_none q nD)]; exact gg.h b o q
              · rw [upd_ne (ne_of_none q kD5.2)]; exact gg.t b o q
            · rw [← eo, ← e5, List.append_assoc]
              rfl
            · rw [List.length_append, List.length_singleton]
              omega
  · have e : i = ds.length := by omega
    subst e
    refine .inl ⟨f1 _ (Nat.le_refl _), ?_⟩
    rw [List.drop_length] at ec
    cases ec
    rw [List.append_nil] at eo
    subst eo
    exact kk _ S' H' (g1.trans g2) ⟨⟨Da, acc, rfl, hD, nS, r⟩, fun _ a _ z => by cases z; exact g1.h.free nD⟩
end Ev
/-! Ev8: the check of an expression is sound. -/
namespace Ev
open PySem PySem.Spec PyProof.Rows L2

section
variable {X : Cx} {K : PySem.W.Frag} {Γ : List FnI} {W : Ow}
theorem rA_nil (σ : L2.St) (H : Hp) (Q : List V → Hp → Prop) {m : Mode} (h : rA K Γ W m [] σ H Q) : tNil σ H Q := by
  obtain ⟨env, S, H0, st, ds, ev, k⟩ := h
  cases ev
  exact k [] S H (Grow.refl st.sub) .nil
theorem rs_grow {m : Mode} (hm : m ≠ .fr) {H0 H0' S H S' H' : Hp} {v : V} {d : D} (g : Grow S H S' H') (r : Rs K m H0 S H v d) : Rs K m H0' S' H' v d := by
  cases m with
  | fr => exact absurd rfl hm
  | sh => exact Dp.mono g.s r
  | pk => exact Pk.grow g r
theorem rA_cons {m : Mode} (hm : m ≠ .fr) {p : PX} {ps : List PX} (σ : L2.St) (H : Hp) (Q : List V → Hp → Prop) (h : rA K Γ W m (p :: ps) σ H Q) : tCons (rE K Γ W m p) (rA K Γ W m ps) σ H Q := by
  obtain ⟨env, S, H0, st, ds, ev, k⟩ := h
  simp only [evL] at ev
  obtain ⟨x, e1, ev⟩ := Option.bind_eq_some_iff.mp ev
  obtain ⟨xs, e2, e3⟩ := Option.map_eq_some_iff.mp ev
  subst e3
  refine rE_go st e1 fun v S1 H1 g1 st1 r1 => rA_go st1 e2 fun vs S2 H2 g2 st2 r2 => ?_
  refine k (v :: vs) S2 H2 (g1.trans g2) (.cons (rs_grow hm g2 r1) (Paired.mapP r2 fun a b q => rs_grow hm (Grow.refl g2.t) q))
/-- by a value's truth -/
theorem pt_of {e : Expr} {p : PX} {m : Mode} (h : PE X e (rE X.K Γ W m p)) (he : ∀ whole, isTrue e X.env whole = (do let v ← whole; standAt e.pos; holding [v] (truthy v))) (hv : ∀ env, evT Γ p env = (evE Γ p env).bind truthD) : PT X e (rT X.K Γ W p) := by
  refine (pt_truth h he).imp fun σ H Q hh => ?_
  obtain ⟨env, S, H0, st, b, ev, k⟩ := hh
  rw [hv] at ev
  obtain ⟨d, e1, e2⟩ := Option.bind_eq_some_iff.mp ev
  exact rE_go st e1 fun v S1 H1 g1 st1 r1 => ⟨b, truth_V g1.t r1.pk e2, k S1 H1 g1⟩
theorem bin_run {o : Bo} {a b : PX} {m n : Mode} (σ : L2.St) (H : Hp) (Q : VK) (h : rE K Γ W .fr (.bin o a b) σ H Q) : tOp (rBinD K o) (rE K Γ W m a) (rE K Γ W n b) σ H Q := by
  obtain ⟨env, S, H0, st, d, ev, k⟩ := h
  simp only [evE] at ev
  obtain ⟨x, e1, ev⟩ := Option.bind_eq_some_iff.mp ev
  obtain ⟨y, e2, ev⟩ := Option.bind_eq_some_iff.mp ev
  refine rE_go st e1 fun v S1 H1 g1 st1 r1 => rE_go st1 e2 fun u S2 H2 g2 st2 r2 => ?_
  refine ⟨S2, x, y, d, g2.t, r1.pk.grow g2, r2.pk, ev, fun w S3 H3 g3 r3 => ?_⟩
  have g := (g1.trans g2).trans g3
  refine k w S3 H3 g ⟨r3.1, fun ds a ed ev => ?_⟩
  exact (g1.trans g2).h.free (r3.2 ds a ed ev)
theorem cmp_run {o : Co} {a b : PX} {m n : Mode} (σ : L2.St) (H : Hp) (Q : VK) (h : rE K Γ W .fr (.cmp o a b) σ H Q) : tOp (rCmpD K o) (rE K Γ W m a) (rE K Γ W n b) σ H Q := by
  obtain ⟨env, S, H0, st, d, ev, k⟩ := h
  simp only [evE] at ev
  obtain ⟨x, e1, ev⟩ := Option.bind_eq_some_iff.mp ev
  obtain ⟨y, e2, ev⟩ := Option.bind_eq_some_iff.mp ev
  obtain ⟨c, rfl⟩ := cmp_bool ev
  refine rE_go st e1 fun v S1 H1 g1 st1 r1 => rE_go st1 e2 fun u S2 H2 g2 st2 r2 => ?_
  exact ⟨S2, x, y, c, g2.t, r1.pk.grow g2, r2.pk, ev, k _ S2 H2 (g1.trans g2) rs_bl⟩
theorem cmp_runT {o : Co} {a b : PX} {m n : Mode} (σ : L2.St) (H : Hp) (Q : Bool → Hp → Prop) (h : rT K Γ W (.cmp o a b) σ H Q) : tTest (tOp (rCmpD K o) (rE K Γ W m a) (rE K Γ W n b)) σ H Q := by
  obtain ⟨env, S, H0, st, d, ev, k⟩ := h
  simp only [evT] at ev
  obtain ⟨z, u1, e3⟩ := Option.bind_eq_some_iff.mp ev
  obtain ⟨x, e1, u2⟩ := Option.bind_eq_some_iff.mp u1
  obtain ⟨y, e2, u3⟩ := Option.bind_eq_some_iff.mp u2
  obtain ⟨q, hq⟩ := cmp_bool u3
  subst hq
  have e3 : q = d := Option.some.inj e3
  subst e3
  refine rE_go st e1 fun v S1 H1 g1 st1 r1 => rE_go st1 e2 fun u S2 H2 g2 st2 r2 => ?_
  exact ⟨S2, x, y, q, g2.t, r1.pk.grow g2, r2.pk, u3, q, rfl, k S2 H2 (g1.trans g2)⟩
theorem chain_run {o p : Co} {a b c : PX} {m n l : Mode} (σ : L2.St) (H : Hp) (Q : VK) (h : rE K Γ W .fr (.chain o p a b c) σ H Q) : tChain (rCmpD K o) (rCmpD K p) (rE K Γ W m a) (rE K Γ W n b) (rE K Γ W l c) σ H Q := by
  obtain ⟨env, S, H0, st, d, ev, k⟩ := h
  simp only [evE] at ev
  obtain ⟨x, e1, ev⟩ := Option.bind_eq_some_iff.mp ev
  obtain ⟨y, e2, ev⟩ := Option.bind_eq_some_iff.mp ev
  refine rE_go st e1 fun v S1 H1 g1 st1 r1 => rE_go st1 e2 fun u S2 H2 g2 st2 r2 => ?_
  split at ev
  · rename_i ec
    refine ⟨S2, x, y, true, g2.t, r1.pk.grow g2, r2.pk, ec, true, rfl, ?_⟩
    rw [if_pos rfl]
    obtain ⟨z, e3, ev⟩ := Option.bind_eq_some_iff.mp ev
    obtain ⟨c, rfl⟩ := cmp_bool ev
    refine rE_go st2 e3 fun w S3 H3 g3 st3 r3 => ?_
    exact ⟨S3, y, z, c, g3.t, r2.pk.grow g3, r3.pk, ev, k _ S3 H3 ((g1.trans g2).trans g3) rs_bl⟩
  · rename_i ec
    cases ev
    refine ⟨S2, x, y, false, g2.t, r1.pk.grow g2, r2.pk, ec, false, rfl, ?_⟩
    rw [if_neg Bool.false_ne_true]
    exact k _ S2 H2 (g1.trans g2) rs_bl
  · cases ev
theorem chain_runT {o p : Co} {a b c : PX} {m n l : Mode} (σ : L2.St) (H : Hp) (Q : Bool → Hp → Prop) (h : rT K Γ W (.chain o p a b c) σ H Q) : tTest (tChain (rCmpD K o) (rCmpD K p) (rE K Γ W m a) (rE K Γ W n b) (rE K Γ W l c)) σ H Q := by
  obtain ⟨env, S, H0, st, d, ev, k⟩ := h
  refine chain_run σ H _ ?_
  have e : evT Γ (.chain o p a b c) env = (evE Γ (.chain o p a b c) env).bind truthD := by simp only [evT, evE]
  rw [e] at ev
  obtain ⟨z, ev, e3⟩ := Option.bind_eq_some_iff.mp ev
  refine ⟨env, S, H0, st, z, ev, fun v S' H' g r => ?_⟩
  have hz : ∃ c, z = .bool c := by
    simp only [evE] at ev
    obtain ⟨x, _, ev⟩ := Option.bind_eq_some_iff.mp ev
    obtain ⟨y, _, ev⟩ := Option.bind_eq_some_iff.mp ev
    split at ev
    · obtain ⟨w, _, ev⟩ := Option.bind_eq_some_iff.mp ev
      exact cmp_bool ev
    · cases ev; exact ⟨_, rfl⟩
    · cases ev
  obtain ⟨q, hq⟩ := hz
  subst hq
  have e3 : q = d := Option.some.inj e3
  subst e3
  rw [r.pk.bool]
  exact ⟨q, rfl, k S' H' g⟩
theorem and_run {a b : PX} {m n : Mode} (σ : L2.St) (H : Hp) (Q : VK) (h : rE K Γ W n (.and a b) σ H Q) : tAndV (rE K Γ W m a) (rE K Γ W n b) σ H Q := by
  obtain ⟨env, S, H0, st, d, ev, k⟩ := h
  simp only [evE] at ev
  split at ev
  · rename_i e1
    refine rE_go st e1 fun v S1 H1 g1 st1 r1 => ⟨true, r1.pk.bool, ?_⟩
    rw [if_pos rfl]
    refine ⟨env, S1, H0, st1, d, ev, fun u S2 H2 g2 r2 => ?_⟩
    refine k u S2 H2 (g1.trans g2) ?_
    cases n with
    | fr => exact ⟨r2.1, fun ds a e1 e2 => g1.h.free (r2.2 ds a e1 e2)⟩
    | sh => exact r2
    | pk => exact r2
  · rename_i e1
    cases ev
    refine rE_go st e1 fun v S1 H1 g1 st1 r1 => ⟨false, r1.pk.bool, ?_⟩
    rw [if_neg Bool.false_ne_true]
    exact k _ S1 H1 g1 rs_bl
  · cases ev
theorem or_run {a b : PX} {m n : Mode} (σ : L2.St) (H : Hp) (Q : VK) (h : rE K Γ W n (.or a b) σ H Q) : tOrV (rE K Γ W m a) (rE K Γ W n b) σ H Q := by
  obtain ⟨env, S, H0, st, d, ev, k⟩ := h
  simp only [evE] at ev
  split at ev
  · rename_i e1
    cases ev
    refine rE_go st e1 fun v S1 H1 g1 st1 r1 => ⟨true, r1.pk.bool, ?_⟩
    rw [if_pos rfl]
    exact k _ S1 H1 g1 rs_bl
  · rename_i e1
    refine rE_go st e1 fun v S1 H1 g1 st1 r1 => ⟨false, r1.pk.bool, ?_⟩
    rw [if_neg Bool.false_ne_true]
    refine ⟨env, S1, H0, st1, d, ev, fun u S2 H2 g2 r2 => ?_⟩
    refine k u S2 H2 (g1.trans g2) ?_
    cases n with
    | fr => exact ⟨r2.1, fun ds a e1 e2 => g1.h.free (r2.2 ds a e1 e2)⟩
    | sh => exact r2
    | pk => exact r2
  · cases ev
theorem and_runT {a b : PX} (σ : L2.St) (H : Hp) (Q : Bool → Hp → Prop) (h : rT K Γ W (.and a b) σ H Q) : tAnd (rT K Γ W a) (rT K Γ W b) σ H Q := by
  obtain ⟨env, S, H0, st, d, ev, k⟩ := h
  simp only [evT] at ev
  split at ev
  · rename_i e1
    refine rT_go st e1 fun S1 H1 g1 st1 => ?_
    rw [if_pos rfl]
    exact rT_go st1 ev fun S2 H2 g2 st2 => k S2 H2 (g1.trans g2)
  · rename_i e1
    cases ev
    refine rT_go st e1 fun S1 H1 g1 st1 => ?_
    rw [if_neg Bool.false_ne_true]
    exact k S1 H1 g1
  · cases ev
theorem or_runT {a b : PX} (σ : L2.St) (H : Hp) (Q : Bool → Hp → Prop) (h : rT K Γ W (.or a b) σ H Q) : tOr (rT K Γ W a) (rT K Γ W b) σ H Q := by
  obtain ⟨env, S, H0, st, d, ev, k⟩ := h
  simp only [evT] at ev
  split at ev
  · rename_i e1
    cases ev
    refine rT_go st e1 fun S1 H1 g1 st1 => ?_
    rw [if_pos rfl]
    exact k S1 H1 g1
  · rename_i e1
    refine rT_go st e1 fun S1 H1 g1 st1 => ?_
    rw [if_neg Bool.false_ne_true]
    exact rT_go st1 ev fun S2 H2 g2 st2 => k S2 H2 (g1.trans g2)
  · cases ev
theorem pw_of {op : BoolOp} {vs : List Expr} {pos : Pos} {t : TT} (h : PT X (.BoolOp op vs pos) t) : PW X (.BoolOp op vs pos) t := ⟨fun wh pins s σ H Q I q => by
  have z := h.run pins s σ H Q I q
  rw [arm_isTrue_BoolOp] at z ⊢
  exact z⟩
theorem le_refl' (m : Mode) : le m m = true := by cases m <;> rfl
theorem meet_l {a b : Mode} : le a (meet a b) = true := by cases a <;> cases b <;> rfl
theorem meet_r {a b : Mode} : le b (meet a b) = true := by cases a <;> cases b <;> rfl
theorem ite_run {c a b : PX} {m n l : Mode} (h1 : le m l = true) (h2 : le n l = true) (σ : L2.St) (H : Hp) (Q : VK) (h : rE K Γ W l (.ite c a b) σ H Q) : tIf (rT K Γ W c) (rE K Γ W m a) (rE K Γ W n b) σ H Q := by
  obtain ⟨env, S, H0, st, d, ev, k⟩ := h
  have up : ∀ {S1 H1 S2 H2 : Hp} {u : V} {q : Mode}, Grow S H S1 H1 → Grow S1 H1 S2 H2 → le q l = true → Rs K q H1 S2 H2 u d → Q u H2 := fun {S1 H1 S2 H2 u q} g1 g2 hl r => by
    have r' : Rs K q H S2 H2 u d := by
      cases q with
      | fr => exact ⟨r.1, fun ds a e1 e2 => g1.h.free (r.2 ds a e1 e2)⟩
      | sh => exact r
      | pk => exact r
    obtain ⟨S3, g3, r3⟩ := r'.to (g1.trans g2) hl
    exact k u S3 H2 g3 r3
  simp only [evE] at ev
  split at ev
  · rename_i e1
    refine rT_go st e1 fun S1 H1 g1 st1 => ?_
    rw [if_pos rfl]
    exact rE_go st1 ev fun u S2 H2 g2 st2 r2 => up g1 g2 h1 r2
  · rename_i e1
    refine rT_go st e1 fun S1 H1 g1 st1 => ?_
    rw [if_neg Bool.false_ne_true]
    exact rE_go st1 ev fun u S2 H2 g2 st2 r2 => up g1 g2 h2 r2
  · cases ev
theorem dps {S H0 H : Hp} : ∀ {vs : List V} {ds : List D}, Paired (fun v d => Rs K .sh H0 S H v d) vs ds → DpAll K S vs ds
  | _, _, .nil => .nil
  | _, _, .cons h t => .cons h (dps t)
theorem pks {m : Mode} {S H0 H : Hp} {vs : List V} {ds : List D} (h : Paired (fun v d => Rs K m H0 S H v d) vs ds) : Paired (Pk K S H) vs ds := Paired.mapP h fun _ _ r => r.pk
theorem lst_run {es : List PX} (σ : L2.St) (H : Hp) (Q : VK) (h : rE K Γ W .fr (.lst es) σ H Q) : tLst (rA K Γ W .sh es) σ H Q := by
  obtain ⟨env, S, H0, st, d, ev, k⟩ := h
  simp only [evE] at ev
  obtain ⟨ds, e1, ev⟩ := Option.bind_eq_some_iff.mp ev
  split at ev
  case isFalse => cases ev
  rename_i hl
  cases ev
  refine rA_go st e1 fun vs S1 H1 g1 st1 r1 => ?_
  have rd := dps r1
  refine ⟨by rw [rd.len]; exact lim_lt' hl, fun p np => ?_⟩
  obtain ⟨g, r⟩ := new_list g1 np rd
  exact k _ _ _ g r
theorem tup_run {es : List PX} (σ : L2.St) (H : Hp) (Q : VK) (h : rE K Γ W .fr (.tup es) σ H Q) : tTup (rA K Γ W .sh es) σ H Q := by
  obtain ⟨env, S, H0, st, d, ev, k⟩ := h
  simp only [evE] at ev
  obtain ⟨ds, e1, ev⟩ := Option.bind_eq_some_iff.mp ev
  split at ev
  case isFalse => cases ev
  rename_i hl
  cases ev
  refine rA_go st e1 fun vs S1 H1 g1 st1 r1 => ?_
  have rd := dps r1
  refine ⟨by rw [rd.len]; exact lim_lt' hl, fun p np => ?_⟩
  obtain ⟨g, r⟩ := new_tup (m := .fr) g1 np rd
  exact k _ _ _ g r
theorem idx_run {a i : PX} {m n : Mode} (σ : L2.St) (H : Hp) (Q : VK) (h : rE K Γ W .sh (.idx a i) σ H Q) : tOp (rIdxD K) (rE K Γ W m a) (rE K Γ W n i) σ H Q := by
  obtain ⟨env, S, H0, st, d, ev, k⟩ := h
  simp only [evE] at ev
  obtain ⟨x, e1, ev⟩ := Option.bind_eq_some_iff.mp ev
  obtain ⟨y, e2, ev⟩ := Option.bind_eq_some_iff.mp ev
  refine rE_go st e1 fun v S1 H1 g1 st1 r1 => rE_go st1 e2 fun u S2 H2 g2 st2 r2 => ?_
  exact ⟨S2, x, y, d, g2.t, r1.pk.grow g2, r2.pk, ev, fun w hw => k w S2 H2 (g1.trans g2) hw⟩
/-- a slice's part -/
def rO (K : PySem.W.Frag) (Γ : List FnI) (W : Ow) (p : PX) : TO := fun σ H Q => ∃ env S H0, StOk K W H0 env σ S H ∧ ∃ o, (if isNop p then some none else (evE Γ p env).bind optI) = some o ∧ ∀ S' H', Grow S H S' H' → Q o H'
theorem po_imp {o : Option Expr} {t t' : TO} (h : PO X o t) (i : ∀ σ H Q, t' σ H Q → t σ H Q) : PO X o t' := ⟨fun pins s σ H Q I q => h.run pins s σ H Q I (i σ H Q q)⟩
theorem po_no {p : PX} (hp : isNop p = true) : PO X none (rO X.K Γ W p) := po_imp po_none fun σ H Q hh => by
  obtain ⟨env, S, H0, st, o, e, k⟩ := hh
  rw [if_pos hp] at e
  cases e
  exact k S H (Grow.refl st.sub)
theorem po_so {p : PX} {e : Expr} {m : Mode} (hp : isNop p = false) (h : PE X e (rE X.K Γ W m p)) : PO X (some e) (rO X.K Γ W p) := po_imp (po_some h) fun σ H Q hh => by
  obtain ⟨env, S, H0, st, o, e, k⟩ := hh
  rw [if_neg (by rw [hp]; exact Bool.false_ne_true)] at e
  obtain ⟨d, e1, e2⟩ := Option.bind_eq_some_iff.mp e
  refine rE_go st e1 fun v S1 H1 g1 st1 r1 => ?_
  cases d with
  | int i =>
    cases e2
    exact ⟨i, r1.pk.int, k S1 H1 g1⟩
  | _ => cases e2
theorem sl_run {a lo hi : PX} {m : Mode} (σ : L2.St) (H : Hp) (Q : VK) (h : rE K Γ W .fr (.sl a lo hi) σ H Q) : tSl (rSlD K) (rE K Γ W m a) (rO K Γ W lo) (rO K Γ W hi) σ H Q := by
  obtain ⟨env, S, H0, st, d, ev, k⟩ := h
  simp only [evE] at ev
  obtain ⟨x, e1, ev⟩ := Option.bind_eq_some_iff.mp ev
  obtain ⟨l, e2, ev⟩ := Option.bind_eq_some_iff.mp ev
  obtain ⟨u, e3, ev⟩ := Option.bind_eq_some_iff.mp ev
  refine rE_go st e1 fun v S1 H1 g1 st1 r1 => ⟨env, S1, H0, st1, l, e2, fun S2 H2 g2 => ⟨env, S2, H0, st1.grow g2, u, e3, fun S3 H3 g3 => ?_⟩⟩
  have g := (g1.trans g2).trans g3
  refine ⟨S3, x, d, g3.t, (r1.pk.grow g2).grow g3, ev, fun w S4 H4 g4 r4 => k w S4 H4 (g.trans g4) ⟨r4.1, fun ds a e1 e2 => g.h.free (r4.2 ds a e1 e2)⟩⟩
theorem prim_run {p : Pr} {es : List PX} {m : Mode} (σ : L2.St) (H : Hp) (Q : VK) (h : rE K Γ W .fr (.prim p es) σ H Q) : tCB (rPrD K p) (rA K Γ W m es) σ H Q := by
  obtain ⟨env, S, H0, st, d, ev, k⟩ := h
  simp only [evE] at ev
  obtain ⟨ds, e1, ev⟩ := Option.bind_eq_some_iff.mp ev
  refine rA_go st e1 fun vs S1 H1 g1 st1 r1 => ?_
  exact ⟨S1, ds, d, g1.t, pks r1, ev, fun w S4 H4 g4 r4 => k w S4 H4 (g1.trans g4) ⟨r4.1, fun ds a e1 e2 => g1.h.free (r4.2 ds a e1 e2)⟩⟩
theorem isi_run {t : String} {a : PX} {m : Mode} (σ : L2.St) (H : Hp) (Q : VK) (h : rE K Γ W .fr (.prim (.isiT t) [a]) σ H Q) : tCB (rIsi K) (tCons (rE K Γ W m a) (tCons (tC (.ty t)) tNil)) σ H Q := by
  obtain ⟨env, S, H0, st, d, ev, k⟩ := h
  simp only [evE, evL] at ev
  obtain ⟨ds, e0, ev⟩ := Option.bind_eq_some_iff.mp ev
  obtain ⟨x, e1, e2⟩ := Option.bind_eq_some_iff.mp e0
  have e2 : [x] = ds := Option.some.inj e2
  subst e2
  obtain ⟨b, e3, e4⟩ := Option.map_eq_some_iff.mp (show (kitB (tyD x) t).map PyData.bool = some d from ev)
  subst e4
  refine rE_go st e1 fun v S1 H1 g1 st1 r1 => ?_
  exact ⟨v, .ty t, .type (tyD x), .type t, b, rfl, .ty t, ty_of g1.t r1.pk, kit_ty e3, k _ S1 H1 g1 rs_bl⟩
theorem evl_len : ∀ {ps : List PX} {env : Env} {ds : List D}, evL Γ ps env = some ds → ds.length = ps.length
  | [], _, _, e => by cases e; rfl
  | p :: ps, _, ds, e => by
    simp only [evL] at e
    obtain ⟨x, _, e5⟩ := Option.bind_eq_some_iff.mp e
    obtain ⟨xs, e6, e2⟩ := Option.map_eq_some_iff.mp e5
    subst e2
    rw [List.length_cons, List.length_cons, evl_len e6]
theorem rs_back {m : Mode} {S H S1 H1 S2 H2 : Hp} {v : V} {d : D} (g : Grow S H S1 H1) (r : Rs K m H1 S2 H2 v d) : Rs K m H S2 H2 v d := by
  cases m with
  | fr => exact ⟨r.1, fun ds a e1 e2 => g.h.free (r.2 ds a e1 e2)⟩
  | sh => exact r
  | pk => exact r
theorem call_run {f : Nat} {F : FnI} {es : List PX} {m : Mode} {sp : Sp} {dvs : List V} (hF : Γ[f]? = some F) (hl : es.length = F.np) (hm : F.md = m) (hs : ∀ vs H Q E, spF K F vs H Q E → sp (vs ++ dvs) H Q E) (σ : L2.St) (H : Hp) (Q : VK) (h : rE K Γ W m (.call f es []) σ H Q) : tCall sp dvs E0 (rA K Γ W .sh es) σ H Q := by
  obtain ⟨env, S, H0, st, d, ev, k⟩ := h
  simp only [evE, evL] at ev
  obtain ⟨ds, e1, ev⟩ := Option.bind_eq_some_iff.mp ev
  rw [hF] at ev
  refine rA_go st e1 fun vs S1 H1 g1 st1 r1 => ?_
  have rd := dps r1
  refine hs _ _ _ _ ⟨by rw [rd.len, evl_len e1, hl], S1, ds, d, g1.t, rd, ?_, fun v S2 H2 g2 r2 => k v S2 H2 (g1.trans g2) (rs_back g1 (by rw [← hm]; exact r2))⟩
  simpa using ev
theorem kw_run {f : Nat} {F : FnI} {es ks : List PX} {m : Mode} {sp : Sp} {n l : Nat} {gV : List V → List V → List V} (hF : Γ[f]? = some F) (hl : es.length = n) (hk : ks.length = l) (hn : n + l = F.np) (hm : F.md = m) (hs : ∀ vs zs H Q E, vs.length = n → spF K F (vs ++ zs) H Q E → sp (gV vs zs) H Q E) (σ : L2.St) (H : Hp) (Q : VK) (h : rE K Γ W m (.call f es ks) σ H Q) : tCallN n l sp gV E0 (rA K Γ W .sh es) (rA K Γ W .sh ks) σ H Q := by
  obtain ⟨env, S, H0, st, d, ev, k⟩ := h
  simp only [evE] at ev
  obtain ⟨ds, e1, ev⟩ := Option.bind_eq_some_iff.mp ev
  obtain ⟨zs, e2, ev⟩ := Option.bind_eq_some_iff.mp ev
  rw [hF] at ev
  refine rA_go st e1 fun vs S1 H1 g1 st1 r1 => rA_go st1 e2 fun ws S2 H2 g2 st2 r2 => ?_
  have rd := (dps r1).mono g2.s
  have rz := dps r2
  have l1 : vs.length = n := by rw [rd.len, evl_len e1, hl]
  have l2 : ws.length = l := by rw [rz.len, evl_len e2, hk]
  have g := g1.trans g2
  refine ⟨l1, l2, hs vs ws _ _ _ l1 ⟨by rw [List.length_append, l1, l2, hn], S2, ds ++ zs, d, g.t, rd.app rz, ev, fun v S3 H3 g3 r3 => k v S3 H3 (g.trans g3) (rs_back g (by rw [← hm]; exact r3))⟩⟩
end
theorem fsi {iter : Expr} {env : PySem.Env} (h : (match iter with
    | .Set .. => false
    | _ => true) = true) : ∀ x, foldedSetIterable iter env x = pure x := by
  intro x
  cases iter <;> first | rfl | cases h
theorem boot_pr (p : Pr) (hi : ∀ t, p ≠ .isiT t) : bootBuiltins (prN p) = some (prV p) := by
  cases p <;> first | (exact absurd rfl (hi _)) | (decide +kernel)
end Ev
/-! Ev9: the check of an expression is sound. -/
namespace Ev
open PySem PySem.Spec PyProof.Rows L2
theorem ptD {X : Cx} {e : Expr} {t : TT} {p : PX} (h : isTst p = false) : isTst p = true → PT X e t := fun z => absurd (h.symm.trans z) Bool.false_ne_true
theorem star_l {C : CC} {W : Ow} {m : Mode} : ∀ {ps : List PX} {es : List Expr}, chkL C W m ps es = true → noStar es = true ∧ ps.length = es.length
  | [], [], _ => ⟨rfl, rfl⟩
  | p :: ps, e :: es, h => by
    simp only [chkL, Bool.and_eq_true, Bool.not_eq_true'] at h
    obtain ⟨h1, h2⟩ := star_l h.2
    refine ⟨?_, by rw [List.length_cons, List.length_cons, h2]⟩
    unfold noStar at h1 ⊢
    rw [List.all_cons, h1, h.1.1.1]
    rfl
  | [], _ :: _, h => by simp [chkL] at h
  | _ :: _, [], h => by simp [chkL] at h
theorem star_hd {e : Expr} {es : List Expr} (h : noStar (e :: es) = true) : isStar e = false ∧ noStar es = true := by
  unfold noStar at h ⊢
  rw [List.all_cons, Bool.and_eq_true, Bool.not_eq_true'] at h
  exact h
theorem it_seq {C : CC} {tg x : Expr} {xs : List Expr} (h : itArgs C tg .seq x = some xs) : xs = [x] := by
  cases x <;> first | (cases h; rfl) | cases h
theorem it_fsi {C : CC} {tg x : Expr} {k : Ik} {xs : List Expr} (h : itArgs C tg k x = some xs) (env : PySem.Env) : ∀ y, foldedSetIterable x env y = pure y := by
  intro y
  cases x <;> first | rfl | (cases k <;> cases h)
theorem it_rng {C : CC} {tg x : Expr} {xs : List Expr} (h : itArgs C tg .range x = some xs) : ∃ p pos, x = .Call (.Name "range" p) xs [] pos ∧ glb C.sc "range" = true ∧ C.blt.contains "range" = true ∧ (xs.length == 1 || xs.length == 2) = true := by
  cases x <;> try (cases h; done)
  rename_i fn ys kw pos
  cases fn <;> try (cases h; done)
  rename_i n p
  cases kw with
  | cons _ _ => cases h
  | nil =>
    simp only [itArgs] at h
    split at h
    · rename_i hc
      cases h
      simp only [Bool.and_eq_true, decide_eq_true_eq] at hc
      obtain ⟨⟨⟨h1, h2⟩, h3⟩, h4⟩ := hc
      subst h1
      exact ⟨p, pos, rfl, h2, h3, h4⟩
    · cases h
theorem it_enum {C : CC} {tg x : Expr} {xs : List Expr} (h : itArgs C tg .enum x = some xs) : ∃ a p pos, x = .Call (.Name "enumerate" p) [a] [] pos ∧ xs = [a] ∧ glb C.sc "enumerate" = true ∧ C.blt.contains "enumerate" = true ∧ ∃ es k tp, tg = .Tuple es k tp := by
  cases x <;> try (cases h; done)
  rename_i fn ys kw pos
  cases fn <;> try (cases h; done)
  rename_i n p
  cases kw with
  | cons _ _ => match ys, h with | [], h => cases h | [_], h => cases h | _ :: _ :: _, h => cases h
  | nil =>
    match ys, h with
    | [], h => cases h
    | _ :: _ :: _, h => cases h
    | [a], h =>
      simp only [itArgs] at h
      split at h
      · rename_i hc
        cases h
        simp only [Bool.and_eq_true, decide_eq_true_eq] at hc
        obtain ⟨⟨⟨h1, h2⟩, h3⟩, h4⟩ := hc
        subst h1
        refine ⟨a, p, pos, rfl, rfl, h2, h3, ?_⟩
        cases tg <;> first | exact ⟨_, _, _, rfl⟩ | cases h4
      · cases h
theorem it_zip {C : CC} {tg x : Expr} {xs : List Expr} (h : itArgs C tg .zip x = some xs) : ∃ a b p pos, x = .Call (.Name "zip" p) [a, b] [] pos ∧ xs = [a, b] ∧ glb C.sc "zip" = true ∧ C.blt.contains "zip" = true ∧ ∃ es k tp, tg = .Tuple es k tp := by
  cases x <;> try (cases h; done)
  rename_i fn ys kw pos
  cases fn <;> try (cases h; done)
  rename_i n p
  cases kw with
  | cons _ _ => match ys, h with | [], h => cases h | [_], h => cases h | [_, _], h => cases h | _ :: _ :: _ :: _, h => cases h
  | nil =>
    match ys, h with
    | [], h => cases h
    | [_], h => cases h
    | _ :: _ :: _ :: _, h => cases h
    | [a, b], h =>
      simp only [itArgs] at h
      split at h
      · rename_i hc
        cases h
        simp only [Bool.and_eq_true, decide_eq_true_eq] at hc
        obtain ⟨⟨⟨h1, h2⟩, h3⟩, h4⟩ := hc
        subst h1
        refine ⟨a, b, p, pos, rfl, rfl, h2, h3, ?_⟩
        cases tg <;> first | exact ⟨_, _, _, rfl⟩ | cases h4
      · cases h
theorem sI (its : List PX) (C : CC) (W : Ow) (X : Cx) (hQ : ∀ iter e, its = [e] → chkE C W e iter = true → PE X iter (rE X.K C.Γ W (md C.Γ W e) e)) (hL : ∀ xs, chkL C W .sh its xs = true → PA X xs (rA X.K C.Γ W .sh its))
    (k : Ik) (tg iter : Expr) (h : chkIt C W k its iter tg = true) (kx : Kx X C) : PI X tg iter (rI X.K C.Γ W k its) := by
  unfold chkIt at h
  cases ei : itArgs C tg k iter with
  | none => rw [ei] at h; cases h
  | some xs =>
    rw [ei] at h
    have pa := hL xs h
    obtain ⟨s1, s2⟩ := star_l h
    cases k with
    | seq =>
      have e0 := it_seq ei
      subst e0
      obtain ⟨e, he⟩ : ∃ e, its = [e] := by
        cases its with
        | nil => cases s2
        | cons b r =>
          cases r with
          | nil => exact ⟨b, rfl⟩
          | cons _ _ => simp at s2
      have h' := h
      rw [he] at h'
      simp only [chkL, Bool.and_eq_true] at h'
      have pe := pe_to (hQ iter e he h'.1.1.2) h'.1.2
      refine ((pi_list pe).or (pi_tup pe)).imp fun σ H R hh => ?_
      obtain ⟨env, S, H0, st, ws, ds, e1, e2, kk⟩ := hh
      rw [he] at e1
      simp only [evL] at e1
      obtain ⟨x, e3, e4⟩ := Option.bind_eq_some_iff.mp e1
      have e4 : [x] = ws := Option.some.inj e4
      subst e4
      cases x with
      | list es =>
        cases e2
        refine .inl (rE_go st e3 fun v S1 H1 g1 st1 r1 => ?_)
        obtain ⟨a, xs, rfl, q1, r⟩ := Pk.list (K := X.K) (H := H1) g1.t (.inr r1)
        cases (show Dp X.K S1 (.ref a) (.list ds) from r1) with
        | lst h1 r2 => exact ⟨a, rfl, ⟨_, q1⟩, kk _ S1 H1 g1 (feed_list h1 r2)⟩
      | tuple es =>
        cases e2
        refine .inr (rE_go st e3 fun v S1 H1 g1 st1 r1 => ?_)
        obtain ⟨a, xs, rfl, q1, r⟩ := Pk.tuple (K := X.K) (H := H1) g1.t (.inr r1)
        cases (show Dp X.K S1 (.ref a) (.tuple ds) from r1) with
        | tup h1 r2 => exact ⟨a, rfl, ⟨_, q1⟩, kk _ S1 H1 g1 (feed_tup h1 r2)⟩
      | _ => cases e2
    | range =>
      obtain ⟨pp, pos, rfl, h2, h3, h5⟩ := it_rng ei
      match xs, h5 with
      | [a], _ =>
        obtain ⟨s3, _⟩ := star_hd s1
        refine (pi_range1 (kx.gl h2) (kx.blt _ h3) pa (star_cons s3)).imp fun σ H R hh => ?_
        obtain ⟨env, S, H0, st, ws, ds, e1, e2, kk⟩ := hh
        have hlen := evl_len e1
        refine rA_go st e1 fun vs S1 H1 g1 st1 r1 => ?_
        match ws, r1, e2, hlen with
        | [.int n], r1, e2, _ =>
          simp only [itD] at e2
          split at e2
          · rename_i hr
            cases e2
            cases r1 with
            | cons q1 q2 =>
              cases q2
              unfold rngOk at hr
              simp only [Bool.and_eq_true, decide_eq_true_eq] at hr
              refine ⟨n, by rw [Pk.int (K := X.K) (S := S1) (H := H1) (.inr q1)], hr.1, hr.2, kk _ S1 H1 g1 feed_rng⟩
          · cases e2
        | [.int n, .int m], r1, _, hlen => rw [s2] at hlen; cases hlen
      | [a, b], _ =>
        obtain ⟨s3, s4⟩ := star_hd s1
        obtain ⟨s5, _⟩ := star_hd s4
        refine (pi_range2 (kx.gl h2) (kx.blt _ h3) pa (by rw [star_cons s3, star_cons s5]; rfl) (by rw [star_cons s5]; rfl)).imp fun σ H R hh => ?_
        obtain ⟨env, S, H0, st, ws, ds, e1, e2, kk⟩ := hh
        have hlen := evl_len e1
        refine rA_go st e1 fun vs S1 H1 g1 st1 r1 => ?_
        match ws, r1, e2, hlen with
        | [.int n, .int m], r1, e2, _ =>
          simp only [itD] at e2
          split at e2
          · rename_i hr
            cases e2
            cases r1 with
            | cons q1 q2 =>
              cases q2 with
              | cons q2 q3 =>
                cases q3
                unfold rngOk at hr
                simp only [Bool.and_eq_true, decide_eq_true_eq] at hr
                refine ⟨n, m, by rw [Pk.int (K := X.K) (S := S1) (H := H1) (.inr q1), Pk.int (K := X.K) (S := S1) (H := H1) (.inr q2)], ⟨hr.1.1, hr.1.2, hr.2.1, hr.2.2⟩, kk _ S1 H1 g1 feed_rng⟩
          · cases e2
        | [.int n], r1, _, hlen => rw [s2] at hlen; cases hlen
      | [], h5 => simp at h5
      | _ :: _ :: _ :: _, h5 => simp at h5
    | enum =>
      obtain ⟨a, pp, pos, rfl, rfl, h2, h3, es, kk0, tp, rfl⟩ := it_enum ei
      obtain ⟨s3, _⟩ := star_hd s1
      refine (pi_enum (kx.gl h2) (kx.blt _ h3) pa (star_cons s3)).imp fun σ H R hh => ?_
      obtain ⟨env, S, H0, st, ws, ds, e1, e2, kk⟩ := hh
      refine rA_go st e1 fun vs S1 H1 g1 st1 r1 => ?_
      match ws, r1, e2 with
      | [.list es], r1, e2 =>
        cases e2
        cases r1 with
        | cons q1 q2 =>
          cases q2
          cases (show Dp X.K S1 _ (.list es) from q1) with
          | lst h1 r2 => exact ⟨_, _, rfl, g1.t.seq h1, kk _ S1 H1 g1 (feed_enum h1 r2)⟩
    | zip =>
      obtain ⟨a, b, pp, pos, rfl, rfl, h2, h3, es, kk0, tp, rfl⟩ := it_zip ei
      obtain ⟨s3, s4⟩ := star_hd s1
      refine (RZ.pi_zipA (kx.gl h2) (kx.blt _ h3) pa (star_cons s3) (star_any s4)).imp fun σ H R hh => ?_
      obtain ⟨env, S, H0, st, ws, ds, e1, e2, kk⟩ := hh
      refine rA_go st e1 fun vs S1 H1 g1 st1 r1 => ?_
      match ws, r1, e2 with
      | [.list es, .list fs], r1, e2 =>
        cases e2
        cases r1 with
        | cons u1 u2 =>
          cases u2 with
          | cons u2 u3 =>
            cases u3
            cases (show Dp X.K S1 _ (.list es) from u1) with
            | lst h1 q1 =>
              cases (show Dp X.K S1 _ (.list fs) from u2) with
              | lst h2 q2 => exact ⟨_, _, _, _, rfl, .inl ⟨g1.t.seq h1, g1.t.seq h2, kk _ S1 H1 g1 (feed_zip h1 q1 h2 q2)⟩⟩
      | [.tuple es, .tuple fs], r1, e2 =>
        cases e2
        cases r1 with
        | cons u1 u2 =>
          cases u2 with
          | cons u2 u3 =>
            cases u3
            cases (show Dp X.K S1 _ (.tuple es) from u1) with
            | tup h1 q1 =>
              cases (show Dp X.K S1 _ (.tuple fs) from u2) with
              | tup h2 q2 => exact ⟨_, _, _, _, rfl, .inr ⟨seqT_mono g1.t h1, seqT_mono g1.t h2, kk _ S1 H1 g1 (feed_zipT h1 q1 h2 q2)⟩⟩
theorem kw_facts {env : PySem.Env} {pos : Pos} : ∀ {kws : List Keyword} {ks : List Str}, kwn kws = ks.map some →
    (backToKw pos (keywordEach kws env)).all (·.1.isSome) = true ∧ (backToKw pos (keywordEach kws env)).filterMap (·.1) = ks ∧ (backToKw pos (keywordEach kws env)).any (·.1.isNone) = false ∧ kws.length = ks.length
  | [], [], _ => ⟨rfl, rfl, rfl, rfl⟩
  | ⟨n, v, kp⟩ :: kws, k :: ks, h => by
    have h1 : n = some k ∧ kwn kws = ks.map some := by
      have z : n :: kwn kws = some k :: ks.map some := h
      exact ⟨(List.cons.inj z).1, (List.cons.inj z).2⟩
    obtain ⟨rfl, h2⟩ := h1
    obtain ⟨a1, a2, a3, a4⟩ := kw_facts (env := env) (pos := pos) h2
    refine ⟨?_, ?_, ?_, by rw [List.length_cons, List.length_cons, a4]⟩
    · exact a1
    · show k :: _ = k :: ks
      exact congrArg (k :: ·) a2
    · exact a3
  | [], _ :: _, h => by simp [kwn] at h
  | ⟨_, _, _⟩ :: _, [], h => by simp [kwn] at h
theorem boot_isi {t : String} (h : isiOk t = true) : bootBuiltins (PySem.Str.ofString t) = some (.type t) := by
  unfold isiOk at h
  simp only [Bool.or_eq_true, beq_iff_eq] at h
  rcases h with (((h | h) | h) | h) | h <;> (subst h; decide +kernel)
mutual
theorem sE : ∀ (p : PX) (e : Expr) (C : CC) (W : Ow) (X : Cx), chkE C W p e = true → Kx X C → PE X e (rE X.K C.Γ W (md C.Γ W p) p) ∧ (isTst p = true → PT X e (rT X.K C.Γ W p))
  | .var i, e, C, W, X, h, k => by
    cases e <;> simp only [chkE, Bool.false_eq_true] at h
    rename_i x pos
    simp only [Bool.and_eq_true, decide_eq_true_eq] at h
    obtain ⟨⟨h1, h2⟩, h3⟩ := h
    have q : PE X (.Name x pos) (rE X.K C.Γ W (md C.Γ W (.var i)) (.var i)) := (pe_var (i := i) (by rw [k.N]; exact h1) (k.vi h2) (noDbg1 h3) (noDbg2 h3)).imp fun σ H Q hh => by
      obtain ⟨env, S, H0, st, d, ev, kk⟩ := hh
      simp only [evE] at ev
      have ev : env[i]? = some (some d) := by
        cases e1 : env[i]? with
        | none => rw [e1] at ev; cases ev
        | some o => rw [e1] at ev; rw [show o = some d from ev]
      obtain ⟨v, hv, vo⟩ := st.var i d ev
      refine ⟨v, hv, kk v S H (Grow.refl st.sub) ?_⟩
      unfold VarOk at vo
      simp only [md]
      by_cases ho : W.o.contains i = true
      · rw [if_pos ho] at vo
        rw [ho]
        exact .inl vo
      · rw [if_neg ho] at vo
        by_cases hb : W.b.contains i = true
        · rw [if_pos hb] at vo
          rw [hb, Bool.or_true]
          exact vo
        · rw [if_neg hb] at vo
          rw [Bool.not_eq_true] at ho hb
          rw [ho, hb]
          exact vo
    exact ⟨q, fun _ => pt_of q (fun _ => rfl) (fun _ => by simp only [evT, evE])⟩
  | .int i, e, C, W, X, h, k => by
    cases e <;> try (simp only [chkE, Bool.false_eq_true] at h; done)
    rename_i c _ _
    cases c <;> simp only [chkE, Bool.false_eq_true, decide_eq_true_eq] at h
    subst h
    refine ⟨pe_int.imp fun σ H Q hh => ?_, ptD rfl⟩
    obtain ⟨env, S, H0, st, d, ev, kk⟩ := hh
    cases ev
    exact kk _ S H (Grow.refl st.sub) rs_int
  | .str i, e, C, W, X, h, k => by
    cases e <;> try (simp only [chkE, Bool.false_eq_true] at h; done)
    rename_i c _ _
    cases c <;> simp only [chkE, Bool.false_eq_true, decide_eq_true_eq] at h
    subst h
    refine ⟨pe_str.imp fun σ H Q hh => ?_, ptD rfl⟩
    obtain ⟨env, S, H0, st, d, ev, kk⟩ := hh
    cases ev
    exact kk _ S H (Grow.refl st.sub) rs_str
  | .bl i, e, C, W, X, h, k => by
    cases e <;> try (simp only [chkE, Bool.false_eq_true] at h; done)
    rename_i c kk0 pos
    cases c <;> simp only [chkE, Bool.false_eq_true, decide_eq_true_eq] at h
    subst h
    have q : PE X (.Constant (.bool i) kk0 pos) (rE X.K C.Γ W (md C.Γ W (.bl i)) (.bl i)) := pe_bl.imp fun σ H Q hh => by
      obtain ⟨env, S, H0, st, d, ev, kk⟩ := hh
      cases ev
      exact kk _ S H (Grow.refl st.sub) rs_bl
    exact ⟨q, fun _ => pt_of q (fun _ => rfl) (fun _ => by simp only [evT, evE]; rfl)⟩
  | .non, e, C, W, X, h, k => by
    cases e <;> try (simp only [chkE, Bool.false_eq_true] at h; done)
    rename_i c _ _
    cases c <;> simp only [chkE, Bool.false_eq_true] at h
    refine ⟨pe_non.imp fun σ H Q hh => ?_, ptD rfl⟩
    obtain ⟨env, S, H0, st, d, ev, kk⟩ := hh
    cases ev
    exact kk _ S H (Grow.refl st.sub) rs_non
  | .nop, e, C, W, X, h, k => by simp only [chkE, Bool.false_eq_true] at h
  | .bin o a b, e, C, W, X, h, k => by
    cases e <;> simp only [chkE, Bool.false_eq_true] at h
    simp only [Bool.and_eq_true] at h
    obtain ⟨⟨h1, h2⟩, h3⟩ := h
    have e := boM_eq h1
    subst e
    exact ⟨(pe_op (op_bin o) (sE a _ C W X h2 k).1 (sE b _ C W X h3 k).1).imp fun σ H Q hh => bin_run σ H Q hh, ptD rfl⟩
  | .neg a, e, C, W, X, h, k => by
    cases e <;> try (simp only [chkE, Bool.false_eq_true] at h; done)
    rename_i op _ _
    cases op <;> simp only [chkE, Bool.false_eq_true] at h
    refine ⟨(pe_un un_neg (sE a _ C W X h k).1).imp fun σ H Q hh => ?_, ptD rfl⟩
    obtain ⟨env, S, H0, st, d, ev, kk⟩ := hh
    simp only [evE] at ev
    split at ev
    · rename_i i e1
      cases ev
      exact rE_go st e1 fun v S1 H1 g1 st1 r1 => ⟨i, r1.pk.int, kk _ S1 H1 g1 rs_int⟩
    · cases ev
  | .cmp o a b, e, C, W, X, h, k => by
    cases e <;> try (simp only [chkE, Bool.false_eq_true] at h; done)
    rename_i x ops cs pos
    match ops, cs, h with
    | [op], [y], h =>
      simp only [chkE, Bool.and_eq_true, Bool.not_eq_true'] at h
      obtain ⟨⟨⟨⟨h1, h2⟩, h3⟩, h4⟩, h5⟩ := h
      have e := coM_eq h1
      subst e
      have pa := (sE a _ C W X h4 k).1
      have pb := (sE b _ C W X h5 k).1
      exact ⟨(pe_cmpR (op_cmpD k.un o) pa pb h3).imp fun σ H Q hh => cmp_run σ H Q hh, fun _ => (pt_cmpR (op_cmpD k.un o) pa pb h3).imp fun σ H Q hh => cmp_runT σ H Q hh⟩
    | [], _, h => simp [chkE] at h
    | _ :: _ :: _, _, h => simp [chkE] at h
    | [_], [], h => simp [chkE] at h
    | [_], _ :: _ :: _, h => simp [chkE] at h
  | .chain o p a b c, e, C, W, X, h, k => by
    cases e <;> try (simp only [chkE, Bool.false_eq_true] at h; done)
    rename_i x ops cs pos
    match ops, cs, h with
    | [op, op'], [y, z], h =>
      simp only [chkE, Bool.and_eq_true] at h
      obtain ⟨⟨⟨⟨⟨⟨b1, b2⟩, h1⟩, h2⟩, h3⟩, h4⟩, h5⟩ := h
      have e := coM_eq h1
      subst e
      have e := coM_eq h2
      subst e
      have pa := (sE a _ C W X h3 k).1
      have pb := (sE b _ C W X h4 k).1
      have pc := (sE c _ C W X h5 k).1
      have n1 : opC p ≠ .In := by cases p <;> first | (cases b2; done) | (intro q; cases q)
      have n2 : opC p ≠ .NotIn := by cases p <;> first | (cases b2; done) | (intro q; cases q)
      have m1 : opC o ≠ .In := by cases o <;> first | (cases b1; done) | (intro q; cases q)
      have m2 : opC o ≠ .NotIn := by cases o <;> first | (cases b1; done) | (intro q; cases q)
      exact ⟨(pe_chain (op_cmpD k.un o) (op_cmpD k.un p) pa pb pc (hm := by show behindInMarks (opC p) z = false; exact nobehind _ n1 n2)).imp fun σ H Q hh => chain_run σ H Q hh, fun _ => (pt_chain (op_cmpD k.un o) (op_cmpD k.un p) pa pb pc (hm := by show behindInMarks (opC p) z = false; exact nobehind _ n1 n2)).imp fun σ H Q hh => chain_runT σ H Q hh⟩
    | [], _, h => simp [chkE] at h
    | [_], _, h => simp [chkE] at h
    | _ :: _ :: _ :: _, _, h => simp [chkE] at h
    | [_, _], [], h => simp [chkE] at h
    | [_, _], [_], h => simp [chkE] at h
    | [_, _], _ :: _ :: _ :: _, h => simp [chkE] at h
  | .and a b, e, C, W, X, h, k => by
    cases e <;> try (simp only [chkE, Bool.false_eq_true] at h; done)
    rename_i op vs pos
    match op, vs, h with
    | .And, x :: y :: rest, h =>
      unfold chkE at h
      simp only [Bool.and_eq_true] at h
      obtain ⟨⟨⟨t1, t2⟩, h1⟩, h2⟩ := h
      have pa := sE a _ C W X h1 k
      match rest, h2 with
      | [], h2 =>
        have pb := sE b _ C W X h2 k
        exact ⟨(pe_and pa.1 (pe_one pb.1)).imp fun σ H Q hh => and_run σ H Q hh, fun _ => (pw_and (pa.2 t1) (pw_and1 (pb.2 t2))).pt.imp fun σ H Q hh => and_runT σ H Q hh⟩
      | z :: rest, h2 =>
        simp only [Bool.and_eq_true] at h2
        have pb := sE b _ C W X h2.2 k
        exact ⟨(pe_and pa.1 pb.1).imp fun σ H Q hh => and_run σ H Q hh, fun _ => (pw_and (pa.2 t1) (pw_of (pb.2 t2))).pt.imp fun σ H Q hh => and_runT σ H Q hh⟩
    | .Or, _, h => simp [chkE] at h
    | .And, [], h => simp [chkE] at h
    | .And, [_], h => simp [chkE] at h
  | .or a b, e, C, W, X, h, k => by
    cases e <;> try (simp only [chkE, Bool.false_eq_true] at h; done)
    rename_i op vs pos
    match op, vs, h with
    | .Or, x :: y :: rest, h =>
      unfold chkE at h
      simp only [Bool.and_eq_true] at h
      obtain ⟨⟨⟨t1, t2⟩, h1⟩, h2⟩ := h
      have pa := sE a _ C W X h1 k
      match rest, h2 with
      | [], h2 =>
        have pb := sE b _ C W X h2 k
        exact ⟨(pe_or pa.1 (pe_one pb.1)).imp fun σ H Q hh => or_run σ H Q hh, fun _ => (pw_or (pa.2 t1) (pw_or1 (pb.2 t2))).pt.imp fun σ H Q hh => or_runT σ H Q hh⟩
      | z :: rest, h2 =>
        simp only [Bool.and_eq_true] at h2
        have pb := sE b _ C W X h2.2 k
        exact ⟨(pe_or pa.1 pb.1).imp fun σ H Q hh => or_run σ H Q hh, fun _ => (pw_or (pa.2 t1) (pw_of (pb.2 t2))).pt.imp fun σ H Q hh => or_runT σ H Q hh⟩
    | .And, _, h => simp [chkE] at h
    | .Or, [], h => simp [chkE] at h
    | .Or, [_], h => simp [chkE] at h
  | .not a, e, C, W, X, h, k => by
    cases e <;> try (simp only [chkE, Bool.false_eq_true] at h; done)
    rename_i op _ _
    cases op <;> simp only [chkE, Bool.false_eq_true, Bool.and_eq_true] at h
    have pa := sE a _ C W X h.2 k
    refine ⟨(pe_notT pa.1).imp fun σ H Q hh => ?_, fun _ => (pt_not (pa.2 h.1)).imp fun σ H Q hh => ?_⟩
    · obtain ⟨env, S, H0, st, d, ev, kk⟩ := hh
      simp only [evE] at ev
      obtain ⟨b, e1, e2⟩ := Option.map_eq_some_iff.mp ev
      subst e2
      obtain ⟨x, e1, e2⟩ := Option.bind_eq_some_iff.mp e1
      exact rE_go st e1 fun v S1 H1 g1 st1 r1 => ⟨b, truth_V g1.t r1.pk e2, kk _ S1 H1 g1 rs_bl⟩
    · obtain ⟨env, S, H0, st, d, ev, kk⟩ := hh
      simp only [evT] at ev
      obtain ⟨b, e1, e2⟩ := Option.map_eq_some_iff.mp ev
      subst e2
      exact rT_go st e1 fun S1 H1 g1 st1 => kk S1 H1 g1
  | .ite c a b, e, C, W, X, h, k => by
    cases e <;> simp only [chkE, Bool.false_eq_true] at h
    simp only [Bool.and_eq_true] at h
    obtain ⟨⟨⟨h0, h1⟩, h2⟩, h3⟩ := h
    exact ⟨(pe_ifExp ((sE c _ C W X h1 k).2 h0) (sE a _ C W X h2 k).1 (sE b _ C W X h3 k).1).imp fun σ H Q hh => ite_run meet_l meet_r σ H Q hh, ptD rfl⟩
  | .lst es, e, C, W, X, h, k => by
    cases e <;> simp only [chkE, Bool.false_eq_true] at h
    exact ⟨(pe_lst (sL es _ C W .sh X h (by intro q; cases q) k)).imp fun σ H Q hh => lst_run σ H Q hh, ptD rfl⟩
  | .tup es, e, C, W, X, h, k => by
    cases e <;> simp only [chkE, Bool.false_eq_true] at h
    exact ⟨(pe_tup (sL es _ C W .sh X h (by intro q; cases q) k)).imp fun σ H Q hh => tup_run σ H Q hh, ptD rfl⟩
  | .idx a i, e, C, W, X, h, k => by
    cases e <;> simp only [chkE, Bool.false_eq_true] at h
    rename_i x y pos
    simp only [Bool.and_eq_true, Bool.not_eq_true'] at h
    obtain ⟨⟨h1, h2⟩, h3⟩ := h
    have hs : L2.PlainIx y := by
      intro o i
      cases y <;> first | rfl | cases h1
    have q : PE X (.Subscript x y pos) (rE X.K C.Γ W .sh (.idx a i)) := (pe_ix ix_D (sE a _ C W X h2 k).1 (sE i _ C W X h3 k).1 hs).imp fun σ H Q hh => idx_run σ H Q hh
    exact ⟨q, fun _ => pt_of q (fun _ => rfl) (fun _ => by simp only [evT, evE])⟩
  | .sl a lo hi, e, C, W, X, h, k => by
    cases e <;> try (simp only [chkE, Bool.false_eq_true] at h; done)
    rename_i x y pos
    cases y <;> try (simp only [chkE, Bool.false_eq_true] at h; done)
    rename_i l u st p2
    cases st with
    | some _ => simp [chkE] at h
    | none =>
      unfold chkE at h
      simp only [Bool.and_eq_true] at h
      obtain ⟨⟨h1, h2⟩, h3⟩ := h
      have pl : PO X l (rO X.K C.Γ W lo) := by
        cases l with
        | none => exact po_no h2
        | some z =>
          simp only [Bool.and_eq_true, Bool.not_eq_true'] at h2
          exact po_so h2.1 (sE lo _ C W X h2.2 k).1
      have pu : PO X u (rO X.K C.Γ W hi) := by
        cases u with
        | none => exact po_no h3
        | some z =>
          simp only [Bool.and_eq_true, Bool.not_eq_true'] at h3
          exact po_so h3.1 (sE hi _ C W X h3.2 k).1
      exact ⟨(pe_slice sl_D (sE a _ C W X h1 k).1 pl pu).imp fun σ H Q hh => sl_run σ H Q hh, ptD rfl⟩
  | .call f es ks, e, C, W, X, h, k => by
    cases e <;> try (simp only [chkE, Bool.false_eq_true] at h; done)
    rename_i fn xs kws pos
    cases fn <;> try (simp only [chkE, Bool.false_eq_true] at h; done)
    rename_i x p
    unfold chkE at h
    simp only [Bool.and_eq_true] at h
    obtain ⟨⟨⟨⟨h1, h2⟩, h3⟩, h4⟩, h5⟩ := h
    cases hF : C.Γ[f]? with
    | none => rw [hF] at h1; cases h1
    | some F =>
      rw [hF] at h1
      simp only [Bool.and_eq_true, decide_eq_true_eq] at h1
      obtain ⟨⟨⟨hn, hl⟩, hkn⟩, he⟩ := h1
      obtain ⟨k0, g, fd, ps, sp, FO, hr, hm, hk, hw⟩ := k.fns f F hF
      cases xs with
      | nil => cases he
      | cons y ys =>
        obtain ⟨s1, s2⟩ := star_l h4
        obtain ⟨s3, s4⟩ := star_hd s1
        subst hn
        have e1 : md C.Γ W (.call f es ks) = F.md := by simp only [md, hF]
        have pa := sL es _ C W .sh X h4 (by intro q; cases q) k
        have pk := sK ks kws C W X h5 k
        have lk := (star_l h5).2
        have q : PE X (.Call (.Name F.name p) (y :: ys) kws pos) (rE X.K C.Γ W (md C.Γ W (.call f es ks)) (.call f es ks)) := by
          rcases hw with ⟨hk0, ds, dvs, hb, hd, hs⟩ | ⟨n, gf, gV, hk0, hb, hnp, hs⟩
          · have e2 : kws = [] := by
              rw [hk0] at hkn
              cases kws with
              | nil => rfl
              | cons _ _ => simp [kwn] at hkn
            subst e2
            have e3 : ks = [] := by
              cases ks with
              | nil => rfl
              | cons _ _ => simp [kwv] at lk
            subst e3
            exact (pe_call FO hr (k.gl h2) hm hk hb hd pass0 pa (noDbg1 h3) (star_cons s3) (star_any s4)).imp fun σ H Q hh => call_run hF (s2.trans hl) e1.symm hs σ H Q hh
          · obtain ⟨a1, a2, a3, a4⟩ := kw_facts (env := X.env) (pos := pos) hkn
            have lk2 : ks.length = F.kw.length := by
              rw [lk]
              have := congrArg List.length hkn
              simpa [kwn, kwv] using this
            have ln : es.length = n := by
              have z : kws.length = F.kw.length := by
                have := congrArg List.length hkn
                simpa [kwn] using this
              have z2 : es.length = (y :: ys).length := s2
              omega
            exact (pe_callN FO hr (k.gl h2) hm hk hb pass0 pa pk a1 a2 (noDbg1 h3) (star_cons s3) (by rw [star_any s1, a3]; rfl)).imp fun σ H Q hh => kw_run hF ln lk2 hnp e1.symm hs σ H Q hh
        exact ⟨q, fun _ => pt_of q (fun _ => rfl) (fun _ => by simp only [evT, evE])⟩
  | .prim p es, e, C, W, X, h, k => by
    cases e <;> try (simp only [chkE, Bool.false_eq_true] at h; done)
    rename_i fn xs kw pos
    cases fn <;> try (simp only [chkE, Bool.false_eq_true] at h; done)
    rename_i x pp
    cases kw with
    | cons _ _ => simp [chkE] at h
    | nil =>
      unfold chkE at h
      simp only [Bool.and_eq_true, decide_eq_true_eq] at h
      obtain ⟨⟨⟨⟨h1, h2⟩, h3⟩, h4⟩, h5⟩ := h
      subst h2
      have q : PE X (.Call (.Name (prN p) pp) xs [] pos) (rE X.K C.Γ W .fr (.prim p es)) := by
        by_cases hi : ∃ t, p = .isiT t
        · obtain ⟨t, rfl⟩ := hi
          simp only at h1
          match xs, h1 with
          | [a, .Name y py], h1 =>
            simp only [Bool.and_eq_true, decide_eq_true_eq, Bool.not_eq_true'] at h1
            obtain ⟨⟨⟨⟨⟨⟨a0, a1⟩, a2⟩, a3⟩, a4⟩, a5⟩, a6⟩ := h1
            obtain ⟨b, hb⟩ : ∃ b, es = [b] := by
              have hl := (star_l a5).2
              cases es with
              | nil => cases hl
              | cons b r =>
                cases r with
                | nil => exact ⟨b, rfl⟩
                | cons _ _ => simp at hl
            have a5' := a5
            rw [hb] at a5'
            simp only [chkL, Bool.and_eq_true] at a5'
            have pb := sQ es a C W X k b hb a5'.1.1.2
            rw [hb]
            have pn : PE X (.Name y py) (tC (.ty t)) := pe_bltn (k.gl a2) (k.blt _ a4) (by rw [a1]; exact boot_isi a0) rfl (noDbg3 a3) (noDbg1 a3)
            exact (pe_callB call_isi (k.gl h3) (k.blt _ h4) boot_isinstance (pa_cons pb (pa_cons pn pa_nil rfl) (star_cons a6)) (noDbg3 h5) (noDbg1 h5) (star_cons a6) (by rfl)).imp fun σ H Q hh => isi_run σ H Q hh
        · have hi' : ∀ t, p ≠ .isiT t := fun t e => hi ⟨t, e⟩
          have h1' : (p = .repr → C.gk = true) ∧ chkL C W .pk es xs = true ∧ xs.isEmpty = false := by
            cases p <;> first
              | (exact absurd rfl (hi' _))
              | (simp only [Bool.and_eq_true, Bool.not_eq_true'] at h1; exact ⟨fun _ => h1.1.1, h1.1.2, h1.2⟩)
              | (simp only [Bool.and_eq_true, Bool.not_eq_true'] at h1; exact ⟨fun q => (by cases q), h1.1, h1.2⟩)
          obtain ⟨g1, g2, g3⟩ := h1'
          cases xs with
          | nil => cases g3
          | cons y ys =>
            obtain ⟨s1, s2⟩ := star_l g2
            obtain ⟨s3, s4⟩ := star_hd s1
            have pa := sL es _ C W .pk X g2 (by intro q; cases q) k
            have cr := call_prD k.calm p k.un (fun e => k.gk (g1 e)) hi'
            have bp := boot_pr p hi'
            have go : ∀ {id : String}, prV p = .builtin id → PE X (.Call (.Name (prN p) pp) (y :: ys) [] pos) (rE X.K C.Γ W .fr (.prim p es)) := fun {id} e => by
              rw [e] at cr bp
              exact (pe_callB cr (k.gl h3) (k.blt _ h4) bp pa (noDbg3 h5) (noDbg1 h5) (star_cons s3) (star_any s4)).imp fun σ H Q hh => prim_run σ H Q hh
            have gt : ∀ {id : String}, prV p = .type id → PE X (.Call (.Name (prN p) pp) (y :: ys) [] pos) (rE X.K C.Γ W .fr (.prim p es)) := fun {id} e => by
              rw [e] at cr bp
              exact (pe_callTy cr (k.gl h3) (k.blt _ h4) bp pa (noDbg3 h5) (noDbg1 h5) (star_cons s3) (star_any s4)).imp fun σ H Q hh => prim_run σ H Q hh
            cases hp : prV p with
            | builtin id => exact go hp
            | type id => exact gt hp
            | _ => cases p <;> first | (exact absurd rfl (hi' _)) | cases hp
      exact ⟨q, fun _ => pt_of q (fun _ => rfl) (fun _ => by simp only [evT, evE])⟩
  | .comp e t k its c own, x, C, W, X, h, kx => by
    cases x <;> try (simp only [chkE, Bool.false_eq_true] at h; done)
    rename_i elt gens scope pos
    match gens, h with
    | [⟨tg, iter, ifs, n⟩], h =>
      unfold chkE at h
      simp only [Bool.and_eq_true, decide_eq_true_eq] at h
      obtain ⟨⟨⟨⟨⟨⟨⟨⟨h0, h1⟩, h2⟩, h3⟩, h4⟩, h5⟩, h6⟩, h7⟩, h8⟩ := h
      subst h0
      have ok : BlkOk X.N X.env.scope scope own := by
        rw [kx.N, kx.sc]
        exact blkOk_by h1
      have hfs : ∀ y, foldedSetIterable iter X.env y = pure y := by
        cases ei : itArgs C tg k iter with
        | none => rw [ei] at h2; cases h2
        | some xs => exact it_fsi ei X.env
      refine ⟨(pe_lc kx.calm (by rw [kx.N]; exact kx.nd) (sI its C W X (fun iter e he hc => sQ its iter C W X kx e he hc) (fun xs hc => sL its xs C W .sh X hc (by intro q; cases q) kx) k tg iter h2 kx) ok (tt := rT X.K C.Γ W c) (te := rE X.K C.Γ W .sh e) (g := rG X.K W t)
        (fun s H c1 cl fp => sG t tg (C.blk scope) W _ h4 (kx.into s H scope cl c1 fp)) (fun s H c1 cl fp => ?_) (fun s H c1 cl fp => ?_) hfs).imp fun σ H Q hh => comp_run rfl h3 (fun _ _ _ z => z) σ H Q hh, ptD rfl⟩
      · match ifs, h6 with
        | [], h6 =>
          cases c with
          | nop => exact ⟨fun pins s σ H Q I hh => pts_nil.run pins s σ H Q I (by
              obtain ⟨env, S, H0, st, b, ev, kk⟩ := hh
              cases ev
              exact kk S H (Grow.refl st.sub))⟩
          | _ => cases h6
        | [z], h6 =>
          simp only [Bool.and_eq_true] at h6
          exact pts_one ((sE c z (C.blk scope) W _ h6.2 (kx.into s H scope cl c1 fp)).2 h6.1)
        | _ :: _ :: _, h6 => cases h6
      · exact pe_to (sE e elt (C.blk scope) W _ h7 (kx.into s H scope cl c1 fp)).1 h8
    | [], h => unfold chkE at h; exact absurd (show false = true from h) Bool.false_ne_true
    | ⟨_, _, _, _⟩ :: _ :: _, h => unfold chkE at h; exact absurd (show false = true from h) Bool.false_ne_true
theorem sL : ∀ (ps : List PX) (es : List Expr) (C : CC) (W : Ow) (m : Mode) (X : Cx), chkL C W m ps es = true → m ≠ .fr → Kx X C → PA X es (rA X.K C.Γ W m ps)
  | [], [], C, W, m, X, h, hm, k => pa_nil.imp fun σ H Q hh => rA_nil σ H Q hh
  | p :: ps, e :: es, C, W, m, X, h, hm, k => by
    simp only [chkL, Bool.and_eq_true, Bool.not_eq_true'] at h
    obtain ⟨⟨⟨h1, h2⟩, h3⟩, h4⟩ := h
    exact (pa_cons (pe_to (sE p e C W X h2 k).1 h3) (sL ps es C W m X h4 hm k) (star_cons h1)).imp fun σ H Q hh => rA_cons hm σ H Q hh
  | [], _ :: _, _, _, _, _, h, _, _ => by simp [chkL] at h
  | _ :: _, [], _, _, _, _, h, _, _ => by simp [chkL] at h
theorem sK : ∀ (ps : List PX) (kws : List Keyword) (C : CC) (W : Ow) (X : Cx), chkL C W .sh ps (kwv kws) = true → Kx X C → PK X kws (rA X.K C.Γ W .sh ps)
  | [], kws, C, W, X, h, k => by
    cases kws with
    | nil => exact ⟨fun pos pins s σ H Q I q => pk_nil.run pos pins s σ H Q I (rA_nil σ H Q q)⟩
    | cons _ _ => simp [kwv, chkL] at h
  | p :: ps, kws, C, W, X, h, k => by
    match kws, h with
    | ⟨n, v, kp⟩ :: kws, h =>
      have h' : chkL C W .sh (p :: ps) (v :: kwv kws) = true := h
      simp only [chkL, Bool.and_eq_true, Bool.not_eq_true'] at h'
      obtain ⟨⟨⟨h1, h2⟩, h3⟩, h4⟩ := h'
      have pe := pe_to (sE p v C W X h2 k).1 h3
      have pk := sK ps kws C W X h4 k
      exact ⟨fun pos pins s σ H Q I q => (pk_cons pe pk).run pos pins s σ H Q I (rA_cons (by intro q; cases q) σ H Q q)⟩
    | [], h => simp [kwv, chkL] at h
theorem sQ : ∀ (its : List PX) (iter : Expr) (C : CC) (W : Ow) (X : Cx), Kx X C → ∀ e, its = [e] → chkE C W e iter = true → PE X iter (rE X.K C.Γ W (md C.Γ W e) e)
  | [p], iter, C, W, X, k, e, he, h => by
    have q : p = e := (List.cons.inj he).1
    have z := sE p iter C W X (by rw [q]; exact h) k
    rw [q] at z
    exact z.1
  | [], _, _, _, _, _, _, he, _ => by cases he
  | _ :: _ :: _, _, _, _, _, _, _, he, _ => by cases he
end
end Ev
/-! Ev10: statements: states as they change. -/
namespace Ev
open PySem PySem.Spec PyProof.Rows L2

theorem own_at {K : PySem.W.Frag} {o : List Nat} {H0 : Hp} {env : Env} {σ : L2.St} {S H : Hp} (st : StOk K (ow o) H0 env σ S H) {i : Nat} {ds : List D} (hi : i ∈ o) (e : env[i]? = some (some (.list ds))) :
    ∃ a xs, σ[i]? = some (some (.ref a)) ∧ H a = some (.lst xs) ∧ S a = none ∧ DpAll K S xs ds := by
  obtain ⟨v, hv, vo⟩ := st.var i _ e
  unfold VarOk at vo
  rw [if_pos (show (ow o).o.contains i = true from List.contains_iff_mem.mpr hi)] at vo
  obtain ⟨a, xs, rfl, h1, h2, h3⟩ := vo
  exact ⟨a, xs, hv, h1, h2, h3⟩
theorem vo_in {K : PySem.W.Frag} {o : List Nat} {i : Nat} {S H : Hp} {v : V} {d : D} (hi : i ∈ o) : VarOk K (ow o) i S H v d = Own K S H v d := by
  unfold VarOk
  rw [if_pos (show (ow o).o.contains i = true from List.contains_iff_mem.mpr hi)]
theorem vo_out {K : PySem.W.Frag} {o : List Nat} {i : Nat} {S H : Hp} {v : V} {d : D} (hi : i ∉ o) : VarOk K (ow o) i S H v d = Dp K S v d := by
  unfold VarOk
  rw [if_neg (show ¬ (ow o).o.contains i = true from fun z => hi (List.contains_iff_mem.mp z)), if_neg (show ¬ (ow o).b.contains i = true from fun z => by cases z)]
theorem own_mono {K : PySem.W.Frag} {S S' H : Hp} {v : V} {d : D} (m : Same S S') (h : Own K S H v d) (n : ∀ ds a, d = .list ds → v = .ref a → S' a = none) : Own K S' H v d := by
  cases d with
  | list ds =>
    obtain ⟨a, xs, e, h1, h2, h3⟩ := h
    exact ⟨a, xs, e, h1, n ds a rfl e, h3.mono m⟩
  | none => exact Dp.mono m h
  | bool _ => exact Dp.mono m h
  | int _ => exact Dp.mono m h
  | str _ => exact Dp.mono m h
  | tuple _ => exact Dp.mono m h
  | dict _ => exact Dp.mono m h
/-- names give up what they own: it is shared -/
theorem StOk.shrink {K : PySem.W.Frag} {o o' : List Nat} {H0 S0 : Hp} {env : Env} {σ : L2.St} {S H : Hp} (st : StOk K (ow o) H0 env σ S H) (g : Grow S0 H0 S H) (hs : ∀ i ∈ o', i ∈ o) :
    ∃ S', StOk K (ow o') H0 env σ S' H ∧ Grow S0 H0 S' H ∧ Same S S' := by
  classical
  let P : Addr → Prop := fun a => ∃ i ds, i ∈ o ∧ i ∉ o' ∧ env[i]? = some (some (.list ds)) ∧ σ[i]? = some (some (.ref a))
  let S' : Hp := fun a => if P a then H a else S a
  have pT : ∀ {a}, P a → S' a = H a := fun {a} p => if_pos p
  have pF : ∀ {a}, ¬ P a → S' a = S a := fun {a} p => if_neg p
  have pS : ∀ {a}, P a → S a = none := fun {a} ⟨i, ds, h1, _, h3, h4⟩ => by
    obtain ⟨b, xs, e1, _, e3, _⟩ := own_at st h1 h3
    rw [h4] at e1
    cases e1
    exact e3
  have s1 : Same S S' := fun a u h => by
    by_cases p : P a
    · rw [pS p] at h; cases h
    · rw [pF p]; exact h
  have s2 : Same S' H := fun a u h => by
    by_cases p : P a
    · rw [pT p] at h; exact h
    · rw [pF p] at h; exact st.sub a u h
  refine ⟨S', ⟨s2, st.len, fun i d e => ?_, fun i ds a hi => st.new i ds a (hs i hi), fun i j ds es a hi hj => st.apart i j ds es a (hs i hi) (hs j hj)⟩, ⟨g.h, g.s.trans s1, s2, fun a h => ?_⟩, s1⟩
  · obtain ⟨v, hv, vo⟩ := st.var i d e
    refine ⟨v, hv, ?_⟩
    by_cases hi' : i ∈ o'
    · rw [vo_in hi']
      rw [vo_in (hs i hi')] at vo
      refine own_mono s1 vo fun ds a ed ev => ?_
      subst ed ev
      have np : ¬ P a := fun ⟨j, es, h1, h2, h3, h4⟩ => st.apart i j ds es a (hs i hi') h1 (fun q => h2 (q ▸ hi')) e h3 hv h4
      rw [pF np]
      obtain ⟨b, xs, e1, _, h5, _⟩ := vo
      cases e1
      exact h5
    · rw [vo_out hi']
      by_cases hi : i ∈ o
      · rw [vo_in hi] at vo
        cases d with
        | list ds =>
          obtain ⟨a, xs, rfl, h1, h2, h3⟩ := vo
          have p : P a := ⟨i, ds, hi, hi', e, hv⟩
          exact .lst (.of (by rw [pT p]; exact h1)) (h3.mono s1)
        | none => exact Dp.mono s1 vo
        | bool _ => exact Dp.mono s1 vo
        | int _ => exact Dp.mono s1 vo
        | str _ => exact Dp.mono s1 vo
        | tuple _ => exact Dp.mono s1 vo
        | dict _ => exact Dp.mono s1 vo
      · rw [vo_out hi] at vo
        exact vo.mono s1
  · by_cases p : P a
    · obtain ⟨i, ds, h1, _, h3, h4⟩ := p
      exact .inr (st.new i ds a h1 h3 h4)
    · rw [pF p] at h
      exact g.n a h
theorem drop_in {o l : List Nat} : ∀ i ∈ dropL o l, i ∈ o := fun i h => (List.mem_filter.mp h).1
theorem put_mem {o : List Nat} {i j : Nat} {m : Mode} (h : j ∈ putL o i m) (n : j ≠ i) : j ∈ o := by
  unfold putL at h
  split at h
  · rcases List.mem_cons.mp h with e | h
    · exact absurd e n
    · exact (List.mem_filter.mp h).1
  · exact (List.mem_filter.mp h).1
theorem mem_put {o : List Nat} {i j : Nat} {m : Mode} (h : j ∈ o) (n : j ≠ i) : j ∈ putL o i m := by
  have q : j ∈ o.filter (fun k => k != i) := List.mem_filter.mpr ⟨h, by simpa using n⟩
  unfold putL
  split
  · exact List.mem_cons_of_mem _ q
  · exact q
theorem put_self {o : List Nat} {i : Nat} {m : Mode} : i ∈ putL o i m ↔ m = .fr := by
  unfold putL
  split
  · rename_i e
    exact ⟨fun _ => e, fun _ => List.mem_cons_self⟩
  · rename_i e
    exact ⟨fun h => by simp at h, fun h => absurd h e⟩
/-- a name is stored -/
theorem StOk.store {K : PySem.W.Frag} {o : List Nat} {H0 : Hp} {env : Env} {σ : L2.St} {S H S' H' : Hp} {i : Nat} {v : V} {d : D} {m : Mode} (st : StOk K (ow o) H0 env σ S H) (g0 : Same H0 H) (g : Grow S H S' H') (r : Rs K m H S' H' v d) (hm : m ≠ .pk) :
    StOk K (ow (putL o i m)) H0 (env.set i (some d)) (σ.set i (some v)) S' H' := by
  have st' := st.grow g
  have look : ∀ {j : Nat} {e : D}, (env.set i (some d))[j]? = some (some e) → (j = i ∧ e = d ∧ i < env.length) ∨ (j ≠ i ∧ env[j]? = some (some e)) := fun {j e} h => by
    by_cases z : i = j
    · subst z
      have hl : i < env.length := by
        have := (List.getElem?_eq_some_iff.mp h).1
        rwa [List.length_set] at this
      rw [List.getElem?_set_self hl] at h
      exact .inl ⟨rfl, (Option.some.inj (Option.some.inj h)).symm, hl⟩
    · rw [List.getElem?_set_ne z] at h
      exact .inr ⟨Ne.symm z, h⟩
  have slot : ∀ {j : Nat}, j ≠ i → (σ.set i (some v))[j]? = σ[j]? := fun {j} n => List.getElem?_set_ne (Ne.symm n)
  have slotI : i < env.length → (σ.set i (some v))[i]? = some (some v) := fun h => List.getElem?_set_self (by rw [← st.len]; exact h)
  refine ⟨g.t, by rw [List.length_set, List.length_set]; exact st.len, fun j e h => ?_, fun j ds a hj he hs => ?_, fun j l ds es a hj hl hn e1 e2 s1 => ?_⟩
  · rcases look h with ⟨rfl, rfl, hl⟩ | ⟨n, h⟩
    · refine ⟨v, slotI hl, ?_⟩
      cases m with
      | fr => rw [vo_in (put_self.mpr rfl)]; exact r.1
      | sh => rw [vo_out (fun z => by cases put_self.mp z)]; exact r
      | pk => exact absurd rfl hm
    · obtain ⟨w, hw, vo⟩ := st'.var j e h
      refine ⟨w, (slot n).trans hw, ?_⟩
      by_cases hj : j ∈ o
      · rw [vo_in (mem_put hj n)]
        rwa [vo_in hj] at vo
      · rw [vo_out (fun z => hj (put_mem z n))]
        rwa [vo_out hj] at vo
  · rcases look he with ⟨rfl, e2, hl⟩ | ⟨n, he⟩
    · have em := put_self.mp hj
      subst em
      rw [slotI hl] at hs
      have ev : v = .ref a := Option.some.inj (Option.some.inj hs)
      exact g0.free (r.2 ds a e2.symm ev)
    · rw [slot n] at hs
      exact st.new j ds a (put_mem hj n) he hs
  · have dif : ∀ {k : Nat} {fs : List D}, k ≠ i → k ∈ putL o i m → env[k]? = some (some (.list fs)) → σ[k]? = some (some (.ref a)) → m = .fr → d = .list ds ∨ d = .list es → v = .ref a → False := fun {k fs} n hk ek sk em ed ev => by
      subst em
      obtain ⟨b, xs, e1, e3, _⟩ := own_at st (put_mem hk n) ek
      rw [sk] at e1
      cases e1
      have hn : H a = none := by
        rcases ed with ed | ed
        · exact r.2 ds a ed ev
        · exact r.2 es a ed ev
      rw [hn] at e3
      cases e3
    intro s2
    rcases look e1 with ⟨q0, q1, hl1⟩ | ⟨n1, f1⟩
    · rcases look e2 with ⟨p0, q2, hl2⟩ | ⟨n2, f2⟩
      · exact hn (q0.trans p0.symm)
      · rw [slot n2] at s2
        rw [q0, slotI hl1] at s1
        rw [q0] at hj
        exact dif n2 hl f2 s2 (put_self.mp hj) (.inl q1.symm) (Option.some.inj (Option.some.inj s1))
    · rcases look e2 with ⟨p0, q2, hl2⟩ | ⟨n2, f2⟩
      · rw [slot n1] at s1
        rw [p0, slotI hl2] at s2
        rw [p0] at hl
        exact dif n1 hj f1 s1 (put_self.mp hl) (.inr q2.symm) (Option.some.inj (Option.some.inj s2))
      · rw [slot n1] at s1
        rw [slot n2] at s2
        exact st.apart j l ds es a (put_mem hj n1) (put_mem hl n2) hn f1 f2 s1 s2
/-- an owned list is changed -/
theorem StOk.change {K : PySem.W.Frag} {o : List Nat} {H0 S0 : Hp} {env : Env} {σ : L2.St} {S H : Hp} {i : Nat} {ds ds' : List D} {a : Addr} {xs xs' : List V} (st : StOk K (ow o) H0 env σ S H) (g : Grow S0 H0 S H) (hi : i ∈ o) (e : env[i]? = some (some (.list ds)))
    (hs : σ[i]? = some (some (.ref a))) (hH : H a = some (.lst xs)) (r : DpAll K S xs' ds') :
    StOk K (ow o) H0 (env.set i (some (.list ds'))) σ S (upd H a (.lst xs')) ∧ Grow S0 H0 S (upd H a (.lst xs')) := by
  have sa : S a = none := by
    obtain ⟨b, ys, e1, _, e3, _⟩ := own_at st hi e
    rw [hs] at e1
    cases e1
    exact e3
  have h0 : H0 a = none := st.new i ds a hi e hs
  have sub : Same S (upd H a (.lst xs')) := fun b u h => by rw [upd_ne (ne_of_none h sa)]; exact st.sub b u h
  have hl : i < env.length := (List.getElem?_eq_some_iff.mp e).1
  have look : ∀ {j : Nat} {x : D}, (env.set i (some (.list ds')))[j]? = some (some x) → (j = i ∧ x = .list ds') ∨ (j ≠ i ∧ env[j]? = some (some x)) := fun {j x} h => by
    by_cases z : i = j
    · subst z
      rw [List.getElem?_set_self hl] at h
      exact .inl ⟨rfl, (Option.some.inj (Option.some.inj h)).symm⟩
    · rw [List.getElem?_set_ne z] at h
      exact .inr ⟨Ne.symm z, h⟩
  have lookL : ∀ {j : Nat} {fs : List D}, (env.set i (some (.list ds')))[j]? = some (some (.list fs)) → ∃ gs, env[j]? = some (some (.list gs)) := fun {j fs} h => by
    rcases look h with ⟨rfl, _⟩ | ⟨_, h⟩
    · exact ⟨ds, e⟩
    · exact ⟨fs, h⟩
  refine ⟨⟨sub, by rw [List.length_set]; exact st.len, fun j x h => ?_, fun j es b hj he hb => ?_, fun j l es fs b hj hk hn e1 e2 s1 => ?_⟩, ⟨fun b u h => ?_, g.s, sub, g.n⟩⟩
  · rcases look h with ⟨rfl, rfl⟩ | ⟨n, h⟩
    · refine ⟨_, hs, ?_⟩
      rw [vo_in hi]
      exact ⟨a, xs', rfl, upd_same, sa, r⟩
    · obtain ⟨v, hv, vo⟩ := st.var j x h
      refine ⟨v, hv, ?_⟩
      by_cases hj : j ∈ o
      · rw [vo_in hj] at vo ⊢
        cases x with
        | list es =>
          obtain ⟨b, ys, rfl, h1, h2, h3⟩ := vo
          refine ⟨b, ys, rfl, ?_, h2, h3⟩
          rw [upd_ne]
          · exact h1
          · rintro rfl
            exact st.apart i j ds es b hi hj (Ne.symm n) e h hs hv
        | none => exact vo
        | bool _ => exact vo
        | int _ => exact vo
        | str _ => exact vo
        | tuple _ => exact vo
        | dict _ => exact vo
      · rw [vo_out hj] at vo ⊢
        exact vo
  · obtain ⟨gs, he⟩ := lookL he
    exact st.new j gs b hj he hb
  · obtain ⟨gs, e1⟩ := lookL e1
    obtain ⟨hs', e2⟩ := lookL e2
    exact st.apart j l gs hs' b hj hk hn e1 e2 s1
  · rw [upd_ne (ne_of_none h h0)]
    exact g.h b u h

/-! ### readings of statements -/
def SPost (K : PySem.W.Frag) (m : Mode) (L r : Option (List Nat)) (S0 H0 Sb : Hp) (D : Ends) : Out → Prop
  | .nx e => ∀ o', r = some o' → ∀ σ S H, StOk K (ow o') H0 e σ S H → Grow S0 H0 S H → Same Sb S → D.nx σ H
  | .rt d => ∀ v S H, Grow S0 H0 S H → Rs K m H0 S H v d → D.rt v H
  | .bk e => ∀ os, L = some os → ∀ σ S H, StOk K (ow os) H0 e σ S H → Grow S0 H0 S H → Same Sb S → D.bk σ H
  | .ct e => ∀ os, L = some os → ∀ σ S H, StOk K (ow os) H0 e σ S H → Grow S0 H0 S H → Same Sb S → D.ct σ H
def rS (K : PySem.W.Frag) (m : Mode) (L : Option (List Nat)) (o : List Nat) (r : Option (List Nat)) (ex : Env → Option Out) : TS := fun D σ H => ∃ env S S0 H0, StOk K (ow o) H0 env σ S H ∧ Grow S0 H0 S H ∧ ∃ u, ex env = some u ∧ SPost K m L r S0 H0 S D u
theorem SPost.base {K : PySem.W.Frag} {m : Mode} {L r : Option (List Nat)} {S0 H0 Sb Sc : Hp} {D : Ends} (h : Same Sb Sc) : ∀ {u : Out}, SPost K m L r S0 H0 Sb D u → SPost K m L r S0 H0 Sc D u
  | .nx _, q => fun o' e σ S H st g s => q o' e σ S H st g (h.trans s)
  | .rt _, q => q
  | .bk _, q => fun o' e σ S H st g s => q o' e σ S H st g (h.trans s)
  | .ct _, q => fun o' e σ S H st g s => q o' e σ S H st g (h.trans s)
/-- fewer owners behind -/
theorem SPost.join {K : PySem.W.Frag} {m : Mode} {L r r' : Option (List Nat)} {S0 H0 Sb : Hp} {D : Ends} (h : ∀ o, r = some o → ∃ o', r' = some o' ∧ ∀ i ∈ o', i ∈ o) : ∀ {u : Out}, SPost K m L r' S0 H0 Sb D u → SPost K m L r S0 H0 Sb D u
  | .nx _, q => fun o e σ S H st g s => by
    obtain ⟨o', e', hs⟩ := h o e
    obtain ⟨S', st', g', s'⟩ := st.shrink g hs
    exact q o' e' σ S' H st' g' (s.trans s')
  | .rt _, q => q
  | .bk _, q => q
  | .ct _, q => q
end Ev
/-! Ev11: the check of a block is sound. -/
namespace Ev
open PySem PySem.Spec PyProof.Rows L2

section
variable {K : PySem.W.Frag} {Γ : List FnI} {m : Mode} {L : Option (List Nat)} {o : List Nat}
theorem le_npk {n : Mode} (h : le n .sh = true) : n ≠ .pk := by
  rintro rfl
  cases h
theorem set_run {i : Nat} {e : PX} {n : Mode} (hn : le n .sh = true) (D : Ends) (σ : L2.St) (H : Hp) (h : rS K m L o (some (putL (dropL o (esc .sh e)) i n)) (exS Γ (.set i e)) D σ H) :
    rE K Γ (ow (dropL o (esc .sh e))) n e σ H (fun x H1 => gName i x σ H1 D.nx) := by
  obtain ⟨env, S, S0, H0, st, g, u, ex, post⟩ := h
  simp only [exS] at ex
  obtain ⟨d, e1, e2⟩ := Option.map_eq_some_iff.mp ex
  subst e2
  obtain ⟨S1, st1, g1, s1⟩ := st.shrink g drop_in
  refine rE_go st1 e1 fun v S2 H2 g2 st2 r2 => ?_
  exact post _ rfl _ S2 H2 (st1.store g.h g2 r2 (le_npk hn)) (g1.trans g2) (s1.trans g2.s)
theorem unp_run {t : Tg} {e : PX} (D : Ends) (σ : L2.St) (H : Hp) (h : rS K m L o (some (dropL o (esc .sh e))) (exS Γ (.unp t e)) D σ H) :
    tAsg (rE K Γ (ow (dropL o (esc .sh e))) .sh e) (rG K (ow (dropL o (esc .sh e))) t) D σ H := by
  obtain ⟨env, S, S0, H0, st, g, u, ex, post⟩ := h
  simp only [exS] at ex
  obtain ⟨d, e1, e2⟩ := Option.bind_eq_some_iff.mp ex
  obtain ⟨env', e3, e4⟩ := Option.map_eq_some_iff.mp e2
  subst e4
  obtain ⟨S1, st1, g1, s1⟩ := st.shrink g drop_in
  refine rE_go st1 e1 fun v S2 H2 g2 st2 r2 => ?_
  exact ⟨env, S2, H0, d, env', st2, r2, e3, fun σ' st3 _ => post _ rfl σ' S2 H2 st3 (g1.trans g2) (s1.trans g2.s)⟩
theorem par_run {i j : Nat} {a b : PX} (D : Ends) (σ : L2.St) (H : Hp) (h : rS K m L o (some (putL (putL (dropL o (esc .sh a ++ esc .sh b)) i .sh) j .sh)) (exS Γ (.par i j a b)) D σ H) :
    tPar i j (tCons (rE K Γ (ow (dropL o (esc .sh a ++ esc .sh b))) .sh a) (tCons (rE K Γ (ow (dropL o (esc .sh a ++ esc .sh b))) .sh b) tNil)) D σ H := by
  obtain ⟨env, S, S0, H0, st, g, u, ex, post⟩ := h
  simp only [exS] at ex
  obtain ⟨x, e1, e2⟩ := Option.bind_eq_some_iff.mp ex
  obtain ⟨y, e3, e4⟩ := Option.map_eq_some_iff.mp e2
  subst e4
  obtain ⟨S1, st1, g1, s1⟩ := st.shrink g drop_in
  refine rE_go st1 e1 fun v S2 H2 g2 st2 r2 => rE_go st2 e3 fun w S3 H3 g3 st3 r3 => ?_
  refine ⟨v, w, rfl, ?_⟩
  have g23 := g2.trans g3
  have q1 := st1.store (i := i) (v := v) (d := x) (m := .sh) g.h g23 (Dp.mono g3.s r2) (by intro z; cases z)
  have q2 := q1.store (i := j) (v := w) (d := y) (m := .sh) (g.h.trans g23.h) (Grow.refl g23.t) r3 (by intro z; cases z)
  exact post _ rfl _ S3 H3 q2 (g1.trans g23) (s1.trans g23.s)
theorem aug_run {i : Nat} {b : Bo} {e : PX} {n : Mode} {f : Int → Int → Int} (hb : (b = .add ∧ f = fun i j => i + j) ∨ (b = .sub ∧ f = fun i j => i - j)) (D : Ends) (σ : L2.St) (H : Hp) (h : rS K m L o (some (putL o i .sh)) (exS Γ (.aug i b e)) D σ H) :
    tAug i (rE K Γ (ow o) n e) (ipI f) D σ H := by
  obtain ⟨env, S, S0, H0, st, g, u, ex, post⟩ := h
  simp only [exS] at ex
  obtain ⟨x, e1, e2⟩ := Option.bind_eq_some_iff.mp ex
  obtain ⟨y, e3, e4⟩ := Option.bind_eq_some_iff.mp e2
  have hx : env[i]? = some (some x) := by
    cases q : env[i]? with
    | none => rw [q] at e1; cases e1
    | some z => rw [q] at e1; rw [show z = some x from e1]
  obtain ⟨v, hv, vo⟩ := st.var i x hx
  split at e4
  · rename_i p q
    obtain ⟨z, e5, e6⟩ := Option.map_eq_some_iff.mp e4
    subst e6
    have ez : z = .int (f p q) := by
      rcases hb with ⟨rfl, rfl⟩ | ⟨rfl, rfl⟩ <;> (cases e5; rfl)
    subst ez
    refine ⟨v, hv, rE_go st e3 fun w S2 H2 g2 st2 r2 => ⟨p, q, vo.pk.int, r2.pk.int, ?_⟩⟩
    exact post _ rfl _ S2 H2 (st.store (m := .sh) g.h g2 (.int _) (by intro z; cases z)) (g.trans g2) g2.s
  · cases e4
theorem set_in {i : Nat} {ix e : PX} {n : Mode} (hi : i ∈ dropL o (esc .sh e)) (D : Ends) (σ : L2.St) (H : Hp) (h : rS K m L o (some (dropL o (esc .sh e))) (exS Γ (.setIx i ix e)) D σ H) :
    tAsg (rE K Γ (ow (dropL o (esc .sh e))) .sh e) (gSub (tVar i) (rE K Γ (ow (dropL o (esc .sh e))) n ix) rSetL) D σ H := by
  obtain ⟨env, S, S0, H0, st, g, u, ex, post⟩ := h
  simp only [exS] at ex
  obtain ⟨d, e1, e2⟩ := Option.bind_eq_some_iff.mp ex
  obtain ⟨S1, st1, g1, s1⟩ := st.shrink g drop_in
  refine rE_go st1 e1 fun v S2 H2 g2 st2 r2 => ?_
  cases q : (env[i]?).join with
  | none => rw [q] at e2; cases e2
  | some x =>
    have hx : env[i]? = some (some x) := by
      cases z : env[i]? with
      | none => rw [z] at q; cases q
      | some w => rw [z] at q; rw [show w = some x from q]
    rw [q] at e2
    cases x with
    | list ds =>
      simp only at e2
      obtain ⟨k, e3, e4⟩ := Option.bind_eq_some_iff.mp e2
      cases k with
      | int k =>
        obtain ⟨j, e5, e6⟩ := Option.map_eq_some_iff.mp e4
        subst e6
        obtain ⟨a, xs, hs, hH, hS, r⟩ := own_at st2 hi hx
        refine ⟨.ref a, hs, rE_go st2 e3 fun w S3 H3 g3 st3 r3 => ?_⟩
        obtain ⟨a', xs', hs', hH', hS', r'⟩ := own_at st3 hi hx
        rw [hs] at hs'
        cases hs'
        refine ⟨a, xs', k, j, rfl, r3.pk.int, hH', by rw [r'.len]; exact e5, ?_⟩
        obtain ⟨st4, g4⟩ := st3.change ((g1.trans g2).trans g3) hi hx hs hH' (DpAll.set (Dp.mono g3.s r2) j r')
        exact post _ rfl _ S3 _ st4 g4 (s1.trans (g2.s.trans g3.s))
      | _ => cases e4
    | _ => cases e2
theorem app_run {i : Nat} {e : PX} (hi : i ∈ dropL o (esc .sh e)) (D : Ends) (σ : L2.St) (H : Hp) (h : rS K m L o (some (dropL o (esc .sh e))) (exS Γ (.app i e)) D σ H) :
    tDrop (tBM K "list" rAppend (tVar i) (tCons (rE K Γ (ow (dropL o (esc .sh e))) .sh e) tNil)) D σ H := by
  obtain ⟨env, S, S0, H0, st, g, u, ex, post⟩ := h
  simp only [exS] at ex
  obtain ⟨S1, st1, g1, s1⟩ := st.shrink g drop_in
  cases q : (env[i]?).join with
  | none => rw [q] at ex; cases ex
  | some x =>
    have hx : env[i]? = some (some x) := by
      cases z : env[i]? with
      | none => rw [z] at q; cases q
      | some w => rw [z] at q; rw [show w = some x from q]
    rw [q] at ex
    cases x with
    | list ds =>
      simp only at ex
      obtain ⟨d, e1, e2⟩ := Option.bind_eq_some_iff.mp ex
      split at e2
      case isFalse => cases e2
      rename_i hl
      cases e2
      obtain ⟨a, xs, hs, hH, hS, r⟩ := own_at st1 hi hx
      refine ⟨.ref a, hs, .inl ⟨rfl, _, .of hH⟩, rE_go st1 e1 fun v S2 H2 g2 st2 r2 => ?_⟩
      obtain ⟨a', xs', hs', hH', hS', r'⟩ := own_at st2 hi hx
      rw [hs] at hs'
      cases hs'
      refine ⟨a, xs', v, rfl, rfl, hH', by rw [r'.len]; exact lim_lt hl, ?_⟩
      obtain ⟨st4, g4⟩ := st2.change (g1.trans g2) hi hx hs hH' (r'.app (.cons r2 .nil))
      exact post _ rfl _ S2 _ st4 g4 (s1.trans g2.s)
    | _ => cases ex
theorem exp_run {e : PX} {n : Mode} (D : Ends) (σ : L2.St) (H : Hp) (h : rS K m L o (some (dropL o (esc .sh e))) (exS Γ (.exp e)) D σ H) : tDrop (rE K Γ (ow (dropL o (esc .sh e))) n e) D σ H := by
  obtain ⟨env, S, S0, H0, st, g, u, ex, post⟩ := h
  simp only [exS] at ex
  obtain ⟨d, e1, e2⟩ := Option.map_eq_some_iff.mp ex
  subst e2
  obtain ⟨S1, st1, g1, s1⟩ := st.shrink g drop_in
  exact rE_go st1 e1 fun v S2 H2 g2 st2 r2 => post _ rfl σ S2 H2 st2 (g1.trans g2) (s1.trans g2.s)
theorem ite_runS {c : PX} {a b : List SX} {u v : Option (List Nat)} (D : Ends) (σ : L2.St) (H : Hp) (h : rS K m L o (wjoin u v) (exS Γ (.ite c a b)) D σ H) :
    tIfS (rT K Γ (ow (dropL o (esc .pk c))) c) (rS K m L (dropL o (esc .pk c)) u (exB Γ a)) (rS K m L (dropL o (esc .pk c)) v (exB Γ b)) D σ H := by
  obtain ⟨env, S, S0, H0, st, g, w, ex, post⟩ := h
  simp only [exS] at ex
  obtain ⟨S1, st1, g1, s1⟩ := st.shrink g drop_in
  split at ex
  · rename_i e1
    refine rT_go st1 e1 fun S2 H2 g2 st2 => ?_
    rw [if_pos rfl]
    refine ⟨env, S2, S0, H0, st2, g1.trans g2, w, ex, (post.base (s1.trans g2.s)).join fun o' ho => ?_⟩
    subst ho
    cases v with
    | none => exact ⟨o', rfl, fun _ z => z⟩
    | some p => exact ⟨inter o' p, rfl, fun i z => (List.mem_filter.mp z).1⟩
  · rename_i e1
    refine rT_go st1 e1 fun S2 H2 g2 st2 => ?_
    rw [if_neg Bool.false_ne_true]
    refine ⟨env, S2, S0, H0, st2, g1.trans g2, w, ex, (post.base (s1.trans g2.s)).join fun o' ho => ?_⟩
    subst ho
    cases u with
    | none => exact ⟨o', rfl, fun _ z => z⟩
    | some p => exact ⟨inter p o', rfl, fun i z => List.contains_iff_mem.mp (List.mem_filter.mp z).2⟩
  · cases ex
theorem ret_run {e : PX} {r : Option (List Nat)} {n : Mode} (hn : le n m = true) (hm : m ≠ .pk) (D : Ends) (σ : L2.St) (H : Hp) (h : rS K m L o r (exS Γ (.ret e)) D σ H) : tRet (rE K Γ (ow (dropL o (esc .sh e))) n e) D σ H := by
  obtain ⟨env, S, S0, H0, st, g, u, ex, post⟩ := h
  simp only [exS] at ex
  obtain ⟨d, e1, e2⟩ := Option.map_eq_some_iff.mp ex
  subst e2
  obtain ⟨S1, st1, g1, s1⟩ := st.shrink g drop_in
  refine rE_go st1 e1 fun v S2 H2 g2 st2 r2 => ?_
  obtain ⟨S3, g3, r3⟩ := r2.to g2 hn
  refine post v S3 H2 (g1.trans g3) ?_
  cases m with
  | fr => exact ⟨r3.1, fun ds a e1 e2 => g.h.free (r3.2 ds a e1 e2)⟩
  | sh => exact r3
  | pk => exact absurd rfl hm
theorem ret_own {e : PX} {r : Option (List Nat)} (hm : m = .fr) (ho : isOwn o e = true) (D : Ends) (σ : L2.St) (H : Hp) (h : rS K m L o r (exS Γ (.ret e)) D σ H) : ∃ i, e = .var i ∧ tRet (tVar i) D σ H := by
  cases e <;> try (cases ho; done)
  rename_i i
  have ho : i ∈ o := List.contains_iff_mem.mp ho
  refine ⟨i, rfl, ?_⟩
  obtain ⟨env, S, S0, H0, st, g, u, ex, post⟩ := h
  simp only [exS] at ex
  obtain ⟨d, e1, e2⟩ := Option.map_eq_some_iff.mp ex
  subst e2
  simp only [evE] at e1
  have hx : env[i]? = some (some d) := by
    cases z : env[i]? with
    | none => rw [z] at e1; cases e1
    | some w => rw [z] at e1; rw [show w = some d from e1]
  obtain ⟨v, hv, vo⟩ := st.var i d hx
  rw [vo_in ho] at vo
  subst hm
  refine ⟨v, hv, post v S H g ⟨vo, fun ds a ed ev => ?_⟩⟩
  subst ed ev
  exact st.new i ds a ho hx hv
theorem for_run {t : Tg} {k : Ik} {es : List PX} {b : List SX} {os : List Nat} {rb : Option (List Nat)} (hb : ∀ o2, rb = some o2 → sub os o2 = true) (hs : sub os (dropL o (escL .sh es)) = true) (D : Ends) (σ : L2.St) (H : Hp) (h : rS K m L o (some os) (exS Γ (.for t k es b os)) D σ H) :
    tFor (rI K Γ (ow (dropL o (escL .sh es))) k es) (rG K (ow os) t) (rS K m (some os) os rb (exB Γ b)) D σ H := by
  have sb : ∀ {a c : List Nat}, sub a c = true → ∀ i ∈ a, i ∈ c := fun {a c} h i hi => List.contains_iff_mem.mp (List.all_eq_true.mp h i hi)
  obtain ⟨env, S, S0, H0, st, g, u, ex, post⟩ := h
  simp only [exS] at ex
  obtain ⟨ws, e1, ex⟩ := Option.bind_eq_some_iff.mp ex
  obtain ⟨ds, e2, e3⟩ := Option.bind_eq_some_iff.mp ex
  obtain ⟨S1, st1, g1, s1⟩ := st.shrink g drop_in
  refine ⟨env, S1, H0, st1, ws, ds, e1, e2, fun J S2 H2 g2 feed => ?_⟩
  generalize hf : (fun d env => (bindT t d env).bind fun e1 => exB Γ b e1) = f at e3
  obtain ⟨S3, st3, g3, s3⟩ := (st1.grow g2).shrink (g1.trans g2) (sb hs)
  refine ⟨fun i n σ H => n = ds.length - i ∧ i ≤ ds.length ∧ ∃ env S, StOk K (ow os) H0 env σ S H ∧ Grow S0 H0 S H ∧ Same S3 S ∧ forD f (ds.drop i) env = some u, ⟨ds.length, by simp, Nat.zero_le _, env, S3, st3, g3, Same.refl _, by simpa using e3⟩, ?_⟩
  rintro i n σ4 H4 ⟨rfl, hi, env4, S4, st4, g4, s4, ef⟩
  obtain ⟨f1, f2⟩ := feed S4 H4 (s3.trans s4) st4.sub
  have toB : Same S S4 := s1.trans (g2.s.trans (s3.trans s4))
  by_cases hlt : i < ds.length
  · refine .inr ?_
    have hd : ds[i]? = some ds[i] := List.getElem?_eq_getElem hlt
    obtain ⟨go, yl⟩ := f2 i _ hd
    refine ⟨go, fun σ' H' => ds.length - (i + 1) = ds.length - (i + 1) ∧ i + 1 ≤ ds.length ∧ ∃ env S, StOk K (ow os) H0 env σ' S H' ∧ Grow S0 H0 S H' ∧ Same S3 S ∧ forD f (ds.drop (i + 1)) env = some u, fun σ' H' q => ⟨ds.length - (i + 1), by omega, q⟩, fun x H5 hx => ?_⟩
    obtain ⟨S5, g5, dx⟩ := yl x H5 hx
    rw [List.drop_eq_getElem_cons hlt] at ef
    simp only [forD] at ef
    have hfd : f ds[i] env4 = (bindT t ds[i] env4).bind fun e1 => exB Γ b e1 := by rw [← hf]
    cases eb : bindT t ds[i] env4 with
    | none =>
      rw [hfd, eb] at ef
      cases ef
    | some env5 =>
      rw [hfd, eb] at ef
      simp only [Option.bind_some] at ef
      refine ⟨env4, S5, H0, ds[i], env5, st4.grow g5, dx, eb, fun σ6 st6 ag => ?_⟩
      cases er : exB Γ b env5 with
      | none => rw [er] at ef; cases ef
      | some w =>
        rw [er] at ef
        refine ⟨env5, S5, S0, H0, st6, g4.trans g5, w, er, ?_⟩
        cases w with
        | nx e =>
          intro o' ho σ7 S7 H7 st7 g7 s7
          obtain ⟨S8, st8, g8, s8⟩ := st7.shrink g7 (sb (hb o' ho))
          exact ⟨rfl, hlt, e, S8, st8, g8, s4.trans (g5.s.trans (s7.trans s8)), ef⟩
        | ct e =>
          intro o' ho σ7 S7 H7 st7 g7 s7
          cases ho
          exact ⟨rfl, hlt, e, S7, st7, g7, s4.trans (g5.s.trans s7), ef⟩
        | bk e =>
          intro o' ho σ7 S7 H7 st7 g7 s7
          cases ho
          cases ef
          exact post _ rfl σ7 S7 H7 st7 g7 (toB.trans (g5.s.trans s7))
        | rt d =>
          cases ef
          exact post
  · have e : i = ds.length := by omega
    subst e
    refine .inl ⟨f1 _ (Nat.le_refl _), ?_⟩
    rw [List.drop_length] at ef
    cases ef
    exact post _ rfl σ4 S4 H4 st4 g4 toB
theorem seq_run {s : SX} {b : List SX} {o1 : List Nat} {r : Option (List Nat)} (D : Ends) (σ : L2.St) (H : Hp) (h : rS K m L o r (exB Γ (s :: b)) D σ H) : tSeq (rS K m L o (some o1) (exS Γ s)) (rS K m L o1 r (exB Γ b)) D σ H := by
  obtain ⟨env, S, S0, H0, st, g, u, ex, post⟩ := h
  simp only [exB] at ex
  cases e1 : exS Γ s env with
  | none => rw [e1] at ex; cases ex
  | some w =>
    rw [e1] at ex
    refine ⟨env, S, S0, H0, st, g, w, e1, ?_⟩
    cases w with
    | nx e =>
      intro o' ho σ7 S7 H7 st7 g7 s7
      cases ho
      exact ⟨e, S7, S0, H0, st7, g7, u, ex, post.base s7⟩
    | rt d => cases ex; exact post
    | bk e => cases ex; exact post
    | ct e => cases ex; exact post
theorem one_run {s : SX} (D : Ends) (σ : L2.St) (H : Hp) {r : Option (List Nat)} (h : rS K m L o r (exB Γ [s]) D σ H) : rS K m L o r (exS Γ s) D σ H := by
  obtain ⟨env, S, S0, H0, st, g, u, ex, post⟩ := h
  simp only [exB] at ex
  cases e1 : exS Γ s env with
  | none => rw [e1] at ex; cases ex
  | some w =>
    rw [e1] at ex
    refine ⟨env, S, S0, H0, st, g, u, ?_, post⟩
    rw [← ex, e1]
    cases w <;> rfl
end
end Ev
/-! Ev12: the check of a block is sound; a def. -/
namespace Ev
open PySem PySem.Spec PyProof.Rows L2

/-- a comprehension's parts -/
theorem comp_parts {e c : PX} {t : Tg} {k : Ik} {its : List PX} {own : List (Str × Nat)} {elt : Expr} {gens : List Comprehension} {scope : Scope} {pos : Pos} {C : CC} {W : Ow} {X : Cx} (h : chkE C W (.comp e t k its c own) (.ListComp elt gens scope pos) = true) (kx : Kx X C) :
    ∃ tg iter ifs, gens = [⟨tg, iter, ifs, 0⟩] ∧ PI X tg iter (rI X.K C.Γ W k its) ∧ BlkOk X.N X.env.scope scope own ∧
      (∀ (s : Shared) (H : Hp) (c1 : Addr) (cl : List (Str × Addr)) (fp : List Addr), PG (X.blk s H scope (compEnvC scope cl c1 X.env) fp) tg (rG X.K W t)) ∧
      (∀ (s : Shared) (H : Hp) (c1 : Addr) (cl : List (Str × Addr)) (fp : List Addr), PTs (X.blk s H scope (compEnvC scope cl c1 X.env) fp) ifs (rT X.K C.Γ W c)) ∧
      (∀ (s : Shared) (H : Hp) (c1 : Addr) (cl : List (Str × Addr)) (fp : List Addr), PE (X.blk s H scope (compEnvC scope cl c1 X.env) fp) elt (rE X.K C.Γ W .sh e)) ∧
      (∀ y, foldedSetIterable iter X.env y = pure y) ∧
      ∀ σ H Q, rE X.K C.Γ W .fr (.comp e t k its c own) σ H Q → tLc (rI X.K C.Γ W k its) (rG X.K W t) (rT X.K C.Γ W c) (rE X.K C.Γ W .sh e) (own.map (·.2)) σ H Q := by
  match gens, h with
  | [⟨tg, iter, ifs, n⟩], h =>
    unfold chkE at h
    simp only [Bool.and_eq_true, decide_eq_true_eq] at h
    obtain ⟨⟨⟨⟨⟨⟨⟨⟨h0, h1⟩, h2⟩, h3⟩, h4⟩, h5⟩, h6⟩, h7⟩, h8⟩ := h
    subst h0
    refine ⟨tg, iter, ifs, rfl, sI its C W X (fun iter e he hc => sQ its iter C W X kx e he hc) (fun xs hc => sL its xs C W .sh X hc (by intro q; cases q) kx) k tg iter h2 kx, ?_, fun s H c1 cl fp => sG t tg (C.blk scope) W _ h4 (kx.into s H scope cl c1 fp), fun s H c1 cl fp => ?_, fun s H c1 cl fp => pe_to (sE e elt (C.blk scope) W _ h7 (kx.into s H scope cl c1 fp)).1 h8, ?_, fun σ H Q hh => comp_run rfl h3 (fun _ _ _ z => z) σ H Q hh⟩
    · rw [kx.N, kx.sc]
      exact blkOk_by h1
    · match ifs, h6 with
      | [], h6 =>
        cases c with
        | nop => exact ⟨fun pins s σ H Q I hh => pts_nil.run pins s σ H Q I (by
            obtain ⟨env, S, H0, st, b, ev, kk⟩ := hh
            cases ev
            exact kk S H (Grow.refl st.sub))⟩
        | _ => cases h6
      | [z], h6 =>
        simp only [Bool.and_eq_true] at h6
        exact pts_one ((sE c z (C.blk scope) W _ h6.2 (kx.into s H scope cl c1 fp)).2 h6.1)
      | _ :: _ :: _, h6 => cases h6
    · cases ei : itArgs C tg k iter with
      | none => rw [ei] at h2; cases h2
      | some xs => exact it_fsi ei X.env
  | [], h => unfold chkE at h; exact absurd (show false = true from h) Bool.false_ne_true
  | ⟨_, _, _, _⟩ :: _ :: _, h => unfold chkE at h; exact absurd (show false = true from h) Bool.false_ne_true
/-- a ListComp is checked by a comprehension alone -/
theorem lc_form {e : PX} {elt : Expr} {gens : List Comprehension} {scope : Scope} {pos : Pos} {C : CC} {W : Ow} (h : chkE C W e (.ListComp elt gens scope pos) = true) : ∃ e' t k its c own, e = .comp e' t k its c own := by
  cases e <;> first | exact ⟨_, _, _, _, _, _, rfl⟩ | (unfold chkE at h; exact absurd (show false = true from h) Bool.false_ne_true)
theorem swp_comp {elt : Expr} {gens : List Comprehension} {scope : Scope} {pos : Pos} {x : Str} {px : Pos} {l : Nat} {env : PySem.Env} : swapsWith (.ListComp elt gens scope pos) (some (.Name x px)) l env = pure (env.blockKind == .function && env.kindOf x == some .local && px.line == pos.line && !(scope.names.any fun (n, k) => n == x && (k == .local || k == .cell))) := rfl
theorem star_m (e : Expr) (h : isStar e = false) : (match e with | .Starred .. => true | _ => false) = false := by cases e <;> first | rfl | cases h
structure Px (X : Cx) : Prop where
  pass : PassesOwn (model X.prog X.w) X.A X.env X.xe
  kd : X.env.scope.kind = .function
section
variable {X : Cx} {C : CC} {m : Mode}
theorem ps_put {i : Nat} {e : PX} {x : Str} {v : Expr} {px pos : Pos} {L : Option (List Nat)} {o : List Nat} (kx : Kx X C) (h1 : C.N[i]? = some x) (h2 : stor C x = true) (h3 : badC v = false) (h4 : chkE C (ow (dropL o (esc .sh e))) e v = true) (h5 : le (md C.Γ (ow (dropL o (esc .sh e))) e) .sh = true) :
    PS X (.Assign [.Name x px] v pos) (rS X.K m L o (some (putL (dropL o (esc .sh e)) i (md C.Γ (ow (dropL o (esc .sh e))) e))) (exS C.Γ (.set i e))) := by
  have q := kx.st h2
  have hN : X.N.Nodup := by rw [kx.N]; exact kx.nd
  have hi : X.N[i]? = some x := by rw [kx.N]; exact h1
  have pe := (sE e v C _ X h4 kx).1
  by_cases hc : isLc v = true
  · cases v <;> try (cases hc; done)
    rename_i elt gens scope pos'
    by_cases hs : (X.env.blockKind == .function && X.env.kindOf x == some .local && px.line == pos'.line && !(scope.names.any fun (n, k) => n == x && (k == .local || k == .cell))) = true
    · obtain ⟨e', t, k, its, c, own, rfl⟩ := lc_form h4
      obtain ⟨tg, iter, ifs, rfl, pi, ok, pg, pt, pe', hf, run⟩ := comp_parts h4 kx
      have hl : X.env.scope.names.lookup x = some .local := by
        simp only [Bool.and_eq_true] at hs
        exact beq_iff_eq.mp hs.1.1.2
      refine (ps_setLc kx.calm hN hi hl (by rw [swp_comp, hs]) pi ok pg pt pe' hf).imp fun D σ H hh => ?_
      exact run _ _ _ (set_run (n := .fr) rfl D σ H hh)
    · rw [Bool.not_eq_true] at hs
      exact (ps_set hN hi q.1 pe (by rw [swp_comp, hs]) q.2).imp fun D σ H hh => set_run h5 D σ H hh
  · have hsw : swapsWith v (some (.Name x px)) pos.line X.env = pure false := by
      cases v <;> first | rfl | (exact absurd rfl hc) | cases h3
    exact (ps_set hN hi q.1 pe hsw q.2).imp fun D σ H hh => set_run h5 D σ H hh
theorem swps {ts : List Expr} {x y : Str} {px py pt : Pos} {u v : Expr} {k1 k2 : Nat} {p2 : Pos} (kd : X.env.scope.kind = .function) (hx : X.env.scope.names.lookup x = some .local) (hy : X.env.scope.names.lookup y = some .local) (s1 : isStar u = false) (s2 : isStar v = false)
    (hl : (px.line == py.line) = true) (f1 : ([u, v].all (foldedForSure 8)) = false) (f2 : ([u, v].all (constantsAlone 8)) = false) (hxy : (x == y) = false) :
    swappedStores [.Tuple [.Name x px, .Name y py] k1 pt] (.Tuple [u, v] k2 p2) X.env = pure (some [x, y]) := by
  have kx : X.env.kindOf x = some .local := hx
  have ky : X.env.kindOf y = some .local := hy
  have bk : X.env.blockKind = .function := by unfold Env.blockKind; rw [kd]; rfl
  have st : ([u, v].any fun | .Starred .. => true | _ => false) = false := by
    have e1 : ∀ e : Expr, isStar e = false → (match e with | .Starred .. => true | _ => false) = false := fun e h => by cases e <;> first | rfl | cases h
    simp only [List.any_cons, List.any_nil, Bool.or_false]
    rw [e1 u s1, e1 v s2]
    rfl
  have ne : x ≠ y := by simpa using hxy
  have hl' : px.line = py.line := by simpa using hl
  unfold swappedStores
  simp only [bk, st, f1, f2, kx, ky, hl', List.length_cons, List.length_nil, List.head?_cons, Option.map_some, Option.getD_some, Expr.pos, List.filterMap_cons, List.filterMap_nil]
  have ed : ([x, y] : List Str).eraseDups = [x, y] := by
    simp [List.eraseDups_cons, ne, Ne.symm ne]
  simp [ed]
  rintro (hh | hh)
  · cases u <;> first | (cases hh; done) | (cases s1; done)
  · cases v <;> first | (cases hh; done) | (cases s2; done)
theorem inv_par {i j : Nat} {a b : PX} {s : Stmt} {L : Option (List Nat)} {o : List Nat} {r : Option (List Nat)} (h : chkS C m L o (.par i j a b) s = some r) :
    ∃ x y px py k1 q1 u v k2 q2 pos, s = .Assign [.Tuple [.Name x px, .Name y py] k1 q1] (.Tuple [u, v] k2 q2) pos ∧ r = some (putL (putL (dropL o (esc .sh a ++ esc .sh b)) i .sh) j .sh) ∧
      (decide (C.N[i]? = some x) && decide (C.N[j]? = some y) && locl C.sc x && locl C.sc y && decide (i ≠ j) && chkE C (ow (dropL o (esc .sh a ++ esc .sh b))) a u && chkE C (ow (dropL o (esc .sh a ++ esc .sh b))) b v && le (md C.Γ (ow (dropL o (esc .sh a ++ esc .sh b))) a) .sh && le (md C.Γ (ow (dropL o (esc .sh a ++ esc .sh b))) b) .sh && !isStar u && !isStar v &&
      px.line == py.line && !([u, v].all (foldedForSure 8)) && !([u, v].all (constantsAlone 8)) && !(x == y)) = true := by
  unfold chkS at h
  split at h
  all_goals try (rename_i e1; cases e1; done)
  all_goals try (exact absurd h (by intro z; cases z))
  rename_i e1
  cases e1
  split at h
  · rename_i hc
    cases h
    exact ⟨_, _, _, _, _, _, _, _, _, _, _, rfl, rfl, hc⟩
  · cases h
theorem sS_set {i : Nat} {e : PX} {t : Stmt} {L : Option (List Nat)} {o : List Nat} {r : Option (List Nat)} (h : chkS C m L o (.set i e) t = some r) (kx : Kx X C) (px : Px X) : PS X t (rS X.K m L o r (exS C.Γ (.set i e))) := by
  unfold chkS at h
  split at h
  all_goals try (rename_i e1; cases e1; done)
  all_goals try (exact absurd h (by intro z; cases z))
  rename_i i' e' x p v pos e1
  cases e1
  split at h
  · rename_i hc
    cases h
    simp only [Bool.and_eq_true, decide_eq_true_eq, Bool.not_eq_true'] at hc
    obtain ⟨⟨⟨⟨h1, h2⟩, h3⟩, h4⟩, h5⟩ := hc
    exact ps_put kx h1 h2 h3 h4 h5
  · cases h
theorem sS_unp {t : Tg} {e : PX} {s : Stmt} {L : Option (List Nat)} {o : List Nat} {r : Option (List Nat)} (h : chkS C m L o (.unp t e) s = some r) (kx : Kx X C) (px : Px X) : PS X s (rS X.K m L o r (exS C.Γ (.unp t e))) := by
  unfold chkS at h
  split at h
  all_goals try (rename_i e1; cases e1; done)
  all_goals try (exact absurd h (by intro z; cases z))
  rename_i t' e' ts k q v pos e1
  cases e1
  split at h
  · rename_i hc
    cases h
    simp only [Bool.and_eq_true, Bool.not_eq_true'] at hc
    obtain ⟨⟨⟨⟨⟨h1, h2⟩, h3⟩, h4⟩, h5⟩, h6⟩ := hc
    have hs : swapsWithSole [.Tuple ts k q] v pos.line X.env = pure false := by
      cases v <;> first | rfl | cases h4 | cases h5
    have hw : swappedStores [.Tuple ts k q] v X.env = pure none := by
      cases v <;> first | rfl | cases h6
    exact (ps_asg (pe_to (sE e v C _ X h2 kx).1 h3) (sG t _ C _ X h1 kx) hs hw rfl).imp fun D σ H hh => unp_run D σ H hh
  · cases h
theorem sS_par {i : Nat} {j : Nat} {a : PX} {b : PX} {s : Stmt} {L : Option (List Nat)} {o : List Nat} {r : Option (List Nat)} (h : chkS C m L o (.par i j a b) s = some r) (kx : Kx X C) (px : Px X) : PS X s (rS X.K m L o r (exS C.Γ (.par i j a b))) := by
  obtain ⟨x, y, p1, p2, k1, q1, u, v, k2, q2, pos, rfl, rfl, hc⟩ := inv_par h
  simp only [Bool.and_eq_true, decide_eq_true_eq, Bool.not_eq_true'] at hc
  obtain ⟨⟨⟨⟨⟨⟨⟨⟨⟨⟨⟨⟨⟨⟨h1, h2⟩, h3⟩, h4⟩, h5⟩, h6⟩, h7⟩, h8⟩, h9⟩, h10⟩, h11⟩, h12⟩, h13⟩, h14⟩, h15⟩ := hc
  have pa := pe_to (sE a u C _ X h6 kx).1 h8
  have pb := pe_to (sE b v C _ X h7 kx).1 h9
  refine (ps_par kx.calm (by rw [kx.N]; exact kx.nd) (by rw [kx.N]; exact h1) (by rw [kx.N]; exact h2) h5 (kx.lo h3) (kx.lo h4) (pa_cons pa (pa_cons pb pa_nil (star_cons h11)) (star_cons h10)) (swps (ts := []) px.kd (kx.lo h3) (kx.lo h4) h10 h11 h12 h13 h14 h15)).imp fun D σ H hh => par_run D σ H hh
theorem sS_aug {i : Nat} {b : Bo} {e : PX} {s : Stmt} {L : Option (List Nat)} {o : List Nat} {r : Option (List Nat)} (h : chkS C m L o (.aug i b e) s = some r) (kx : Kx X C) (px : Px X) : PS X s (rS X.K m L o r (exS C.Γ (.aug i b e))) := by
  cases s <;> try (simp only [chkS] at h; cases h; done)
  rename_i tg op v pos
  cases tg <;> try (simp only [chkS] at h; cases h; done)
  rename_i x p
  simp only [chkS] at h
  split at h
  · rename_i hc
    cases h
    simp only [Bool.and_eq_true, decide_eq_true_eq, Bool.or_eq_true, beq_iff_eq] at hc
    obtain ⟨⟨⟨⟨h1, h2⟩, h3⟩, h4⟩, h5⟩ := hc
    have q := kx.st h2
    have pe := (sE e v C _ X h3 kx).1
    have eo := boM_eq h4
    subst eo
    rcases h5 with rfl | rfl
    · exact (ps_aug (by rw [kx.N]; exact kx.nd) (by rw [kx.N]; exact h1) q.1 pe ip_add q.2).imp fun D σ H hh => aug_run (.inl ⟨rfl, rfl⟩) D σ H hh
    · exact (ps_aug (by rw [kx.N]; exact kx.nd) (by rw [kx.N]; exact h1) q.1 pe ip_sub q.2).imp fun D σ H hh => aug_run (.inr ⟨rfl, rfl⟩) D σ H hh
  · cases h
theorem sS_setIx {i : Nat} {ix : PX} {e : PX} {s : Stmt} {L : Option (List Nat)} {o : List Nat} {r : Option (List Nat)} (h : chkS C m L o (.setIx i ix e) s = some r) (kx : Kx X C) (px : Px X) : PS X s (rS X.K m L o r (exS C.Γ (.setIx i ix e))) := by
  unfold chkS at h
  split at h
  all_goals try (rename_i e1; cases e1; done)
  all_goals try (exact absurd h (by intro z; cases z))
  rename_i i' ix' e' x p k q v pos e1
  cases e1
  split at h
  · rename_i hc
    cases h
    simp only [Bool.and_eq_true, decide_eq_true_eq, Bool.not_eq_true'] at hc
    obtain ⟨⟨⟨⟨⟨⟨⟨⟨⟨h1, h2⟩, h3⟩, h4⟩, h5⟩, h6⟩, h7⟩, h8⟩, h9⟩, h10⟩ := hc
    have hs : swapsWithSole [.Subscript (.Name x p) k q] v pos.line X.env = pure false := by
      cases v <;> first | rfl | cases h9 | cases h10
    have hw : swappedStores [.Subscript (.Name x p) k q] v X.env = pure none := by
      cases v <;> rfl
    have ha : ∀ v, assign (.Subscript (.Name x p) k q) X.env v = (do
        let ov ← holding [v] (eval (.Name x p) X.env)
        let iv ← holding [v, ov] (eval k X.env)
        standAt q
        holding [v, ov, iv] (setItem ov iv v)
        release [v, ov, iv] []) := by
      intro v
      cases k <;> first | rfl | cases h4
    exact (ps_asg (pe_to (sE e v C _ X h6 kx).1 h7) (pg_sub (pe_var (i := i) (by rw [kx.N]; exact h1) (kx.vi h2) (noDbg1 h3) (noDbg2 h3)) (sE ix k C _ X h8 kx).1 set_list ha) hs hw rfl).imp fun D σ H hh => set_in (List.contains_iff_mem.mp h5) D σ H hh
  · cases h
theorem sS_app {i : Nat} {e : PX} {s : Stmt} {L : Option (List Nat)} {o : List Nat} {r : Option (List Nat)} (h : chkS C m L o (.app i e) s = some r) (kx : Kx X C) (px : Px X) : PS X s (rS X.K m L o r (exS C.Γ (.app i e))) := by
  unfold chkS at h
  split at h
  all_goals try (rename_i e1; cases e1; done)
  all_goals try (exact absurd h (by intro z; cases z))
  rename_i i' e' x p a q v cp pos e1
  cases e1
  split at h
  · rename_i hc
    cases h
    simp only [Bool.and_eq_true, decide_eq_true_eq, Bool.not_eq_true'] at hc
    obtain ⟨⟨⟨⟨⟨⟨⟨⟨h1, h2⟩, h3⟩, h4⟩, h5⟩, h6⟩, h7⟩, h8⟩, h9⟩ := hc
    subst h4
    have pn := pe_var (i := i) (X := X) (pos := p) (by rw [kx.N]; exact h1) (kx.vi h2) (noDbg1 h3) (noDbg2 h3)
    have pa := pa_cons (pe_to (sE e v C _ X h7 kx).1 h8) (pa_nil (X := X)) (star_cons h9)
    have hfew : ((backTo cp (starEach [v] X.env)).all (fun x => !x.1) && (backToKw cp (keywordEach [] X.env)).all (fun x => x.1.isSome) && decide (([v] : List Expr).length + ([] : List Keyword).length + (if ([] : List Keyword).isEmpty then 0 else 1) < 30)) = true := by
      rw [star_cons h9]; rfl
    exact (ps_expr (pe_bm PySem.F.plainAttrs_list PySem.F.slot_list_append PySem.F.type_list_append mt_append pn pa (by rfl) hfew h5 (star_cons h9) (by rfl))).imp fun D σ H hh => app_run (List.contains_iff_mem.mp h6) D σ H hh
  · cases h
theorem sS_exp {e : PX} {s : Stmt} {L : Option (List Nat)} {o : List Nat} {r : Option (List Nat)} (h : chkS C m L o (.exp e) s = some r) (kx : Kx X C) (px : Px X) : PS X s (rS X.K m L o r (exS C.Γ (.exp e))) := by
  cases s <;> try (simp only [chkS] at h; cases h; done)
  rename_i v pos
  simp only [chkS] at h
  split at h
  · rename_i hc
    cases h
    simp only [Bool.and_eq_true, Bool.not_eq_true'] at hc
    obtain ⟨⟨h1, h2⟩, h3⟩ := hc
    have hs : swapsWith v none pos.line X.env = pure false := by
      cases v <;> first | rfl | (cases h2; done) | (cases h3; done)
    exact (ps_expr (sE e v C _ X h1 kx).1 hs).imp fun D σ H hh => exp_run D σ H hh
  · cases h
theorem sS_ret {e : PX} {s : Stmt} {L : Option (List Nat)} {o : List Nat} {r : Option (List Nat)} (h : chkS C m L o (.ret e) s = some r) (kx : Kx X C) (px : Px X) : PS X s (rS X.K m L o r (exS C.Γ (.ret e))) := by
  cases s <;> try (simp only [chkS] at h; cases h; done)
  rename_i v pos
  cases v with
  | none => simp [chkS] at h
  | some v =>
    simp only [chkS] at h
    split at h
    · rename_i hc
      cases h
      simp only [Bool.and_eq_true, decide_eq_true_eq] at hc
      obtain ⟨⟨h1, h2⟩, h3⟩ := hc
      obtain ⟨i, rfl⟩ : ∃ i, e = .var i := by
        cases e <;> first | exact ⟨_, rfl⟩ | cases h2
      cases v <;> simp only [chkE, Bool.false_eq_true] at h3
      simp only [Bool.and_eq_true, decide_eq_true_eq] at h3
      obtain ⟨⟨a1, a2⟩, a3⟩ := h3
      refine (ps_ret (pe_var (i := i) (by rw [kx.N]; exact a1) (kx.vi a2) (noDbg1 a3) (noDbg2 a3))).imp fun D σ H hh => ?_
      obtain ⟨j, ej, q⟩ := ret_own h1 h2 D σ H hh
      cases ej
      exact q
    · split at h
      · rename_i hc
        cases h
        simp only [Bool.and_eq_true, decide_eq_true_eq] at hc
        obtain ⟨⟨h1, h2⟩, h3⟩ := hc
        exact (ps_ret (sE e v C _ X h1 kx).1).imp fun D σ H hh => ret_run h2 h3 D σ H hh
      · cases h
theorem sS_brk  {s : Stmt} {L : Option (List Nat)} {o : List Nat} {r : Option (List Nat)} (h : chkS C m L o (.brk) s = some r) (kx : Kx X C) (px : Px X) : PS X s (rS X.K m L o r (exS C.Γ (.brk))) := by
  cases s <;> try (simp only [chkS] at h; cases h; done)
  simp only [chkS] at h
  split at h
  · split at h
    · rename_i os hs
      cases h
      refine ps_break.imp fun D σ H hh => ?_
      obtain ⟨env, S, S0, H0, st, g, u, ex, post⟩ := hh
      cases ex
      obtain ⟨S1, st1, g1, s1⟩ := st.shrink g (fun i hi => List.contains_iff_mem.mp (List.all_eq_true.mp hs i hi))
      exact post _ rfl σ S1 H st1 g1 s1
    · cases h
  · cases h
theorem sS_cont  {s : Stmt} {L : Option (List Nat)} {o : List Nat} {r : Option (List Nat)} (h : chkS C m L o (.cont) s = some r) (kx : Kx X C) (px : Px X) : PS X s (rS X.K m L o r (exS C.Γ (.cont))) := by
  cases s <;> try (simp only [chkS] at h; cases h; done)
  simp only [chkS] at h
  split at h
  · split at h
    · rename_i os hs
      cases h
      refine ps_continue.imp fun D σ H hh => ?_
      obtain ⟨env, S, S0, H0, st, g, u, ex, post⟩ := hh
      cases ex
      obtain ⟨S1, st1, g1, s1⟩ := st.shrink g (fun i hi => List.contains_iff_mem.mp (List.all_eq_true.mp hs i hi))
      exact post _ rfl σ S1 H st1 g1 s1
    · cases h
  · cases h
theorem sS_pass  {s : Stmt} {L : Option (List Nat)} {o : List Nat} {r : Option (List Nat)} (h : chkS C m L o (.pass) s = some r) (kx : Kx X C) (px : Px X) : PS X s (rS X.K m L o r (exS C.Γ (.pass))) := by
  cases s <;> try (simp only [chkS] at h; cases h; done)
  simp only [chkS] at h
  cases h
  refine ps_pass.imp fun D σ H hh => ?_
  obtain ⟨env, S, S0, H0, st, g, u, ex, post⟩ := hh
  cases ex
  exact post _ rfl σ S H st g (Same.refl _)
mutual
theorem sS : ∀ (s : SX) (t : Stmt) (L : Option (List Nat)) (o : List Nat) (r : Option (List Nat)), chkS C m L o s t = some r → Kx X C → Px X → PS X t (rS X.K m L o r (exS C.Γ s))
  | .set i e, _, _, _, _, h, kx, px => sS_set h kx px
  | .unp t e, _, _, _, _, h, kx, px => sS_unp h kx px
  | .par i j a b, _, _, _, _, h, kx, px => sS_par h kx px
  | .aug i b e, _, _, _, _, h, kx, px => sS_aug h kx px
  | .setIx i ix e, _, _, _, _, h, kx, px => sS_setIx h kx px
  | .app i e, _, _, _, _, h, kx, px => sS_app h kx px
  | .exp e, _, _, _, _, h, kx, px => sS_exp h kx px
  | .ite c a b, s, L, o, r, h, kx, px => by
    cases s <;> try (simp only [chkS] at h; cases h; done)
    rename_i z x y pos
    simp only [chkS] at h
    split at h
    · rename_i hc
      simp only [Bool.and_eq_true] at hc
      split at h
      · rename_i u v e1 e2
        cases h
        exact (ps_if ((sE c z C _ X hc.2 kx).2 hc.1) (sB a x L _ u e1 kx px) (sB b y L _ v e2 kx px)).imp fun D σ H hh => ite_runS D σ H hh
      · cases h
    · cases h
  | .for t k es b os, s, L, o, r, h, kx, px => by
    cases s <;> try (simp only [chkS] at h; cases h; done)
    rename_i tg iter body els pos
    cases els with
    | cons _ _ => simp [chkS] at h
    | nil =>
      simp only [chkS] at h
      split at h
      · rename_i hc
        simp only [Bool.and_eq_true] at hc
        obtain ⟨⟨h1, h2⟩, h3⟩ := hc
        have go : ∀ rb, chkB C m (some os) os b body = some rb → (∀ o2, rb = some o2 → sub os o2 = true) → PS X (.For tg iter body [] pos) (rS X.K m L o (some os) (exS C.Γ (.for t k es b os))) := fun rb hb hsub => by
          have hfs : ∀ y, foldedSetIterable iter X.env y = pure y := by
            unfold chkIt at h2
            cases ei : itArgs C tg k iter with
            | none => rw [ei] at h2; cases h2
            | some xs => exact it_fsi ei X.env
          have pi := sI es C (ow (dropL o (escL .sh es))) X (fun iter e he hc => sQ es iter C _ X kx e he hc) (fun xs hc => sL es xs C _ .sh X hc (by intro q; cases q) kx) k tg iter h2 kx
          exact (ps_for px.pass kx.calm pi (sG t tg C _ X h3 kx) (sB b body (some os) os rb hb kx px) hfs).imp fun D σ H hh => for_run hsub h1 D σ H hh
        split at h
        · rename_i o2 hb
          split at h
          · rename_i hs
            cases h
            exact go _ hb fun o3 e => by cases e; exact hs
          · cases h
        · rename_i hb
          cases h
          exact go _ hb fun o3 e => by cases e
        · cases h
      · cases h
  | .ret e, _, _, _, _, h, kx, px => sS_ret h kx px
  | .brk, _, _, _, _, h, kx, px => sS_brk h kx px
  | .cont, _, _, _, _, h, kx, px => sS_cont h kx px
  | .pass, _, _, _, _, h, kx, px => sS_pass h kx px
theorem sB : ∀ (b : List SX) (ts : List Stmt) (L : Option (List Nat)) (o : List Nat) (r : Option (List Nat)), chkB C m L o b ts = some r → Kx X C → Px X → PSs X ts (rS X.K m L o r (exB C.Γ b))
  | [], ts, L, o, r, h, kx, px => by
    cases ts with
    | cons _ _ => simp [chkB] at h
    | nil =>
      simp only [chkB] at h
      cases h
      refine pss_nil.imp fun D σ H hh => ?_
      obtain ⟨env, S, S0, H0, st, g, u, ex, post⟩ := hh
      cases ex
      exact post _ rfl σ S H st g (Same.refl _)
  | s :: b, ts, L, o, r, h, kx, px => by
    cases ts with
    | nil => simp [chkB] at h
    | cons t ts =>
      simp only [chkB] at h
      split at h
      · rename_i o1 e1
        exact (pss_cons (sS s t L o _ e1 kx px) (sB b ts L o1 r h kx px)).imp fun D σ H hh => seq_run D σ H hh
      · rename_i e1
        split at h
        · rename_i he
          cases h
          simp only [Bool.and_eq_true, List.isEmpty_iff] at he
          obtain ⟨rfl, rfl⟩ := he
          exact (pss_one (sS s t L o _ e1 kx px)).imp fun D σ H hh => one_run D σ H hh
        · cases h
      · cases h
end
end
end Ev
/-! Ev13: a def that was checked keeps its promise; the law's own call. -/
namespace Ev
open PySem PySem.Spec PyProof.Rows L2

theorem StOk.begin {K : PySem.W.Frag} {S H : Hp} (t : Same S H) {N : List Str} {vs : List V} {ds : List D} (r : DpAll K S vs ds) (hl : vs.length ≤ N.length) :
    StOk K (ow []) H (ds.map some ++ List.replicate (N.length - ds.length) none) (L2.start N vs) S H := by
  refine ⟨t, ?_, fun i d e => ?_, fun i ds a hi => (by cases hi), fun i j ds es a hi => (by cases hi)⟩
  · unfold L2.start
    simp only [List.length_append, List.length_map, List.length_replicate, r.len]
  · by_cases hi : i < ds.length
    · rw [List.getElem?_append_left (by simpa using hi), List.getElem?_map] at e
      obtain ⟨x, e1, e2⟩ := Option.map_eq_some_iff.mp e
      cases e2
      obtain ⟨y, h1, h2⟩ := r.get e1
      refine ⟨y, ?_, by rw [vo_out (by simp)]; exact h2⟩
      unfold L2.start
      rw [List.getElem?_append_left (by rw [List.length_map, r.len]; exact hi), List.getElem?_map, h1]
      rfl
    · rw [List.getElem?_append_right (by simpa using hi), List.getElem?_replicate] at e
      split at e <;> cases e
/-- a def of the law's text, by its name: what it promises -/
def Has (P : Program) (w : World) (K : PySem.W.Frag) (mg : Str → Option Value) (base : Heap) (k : Nat) (F : FnI) : Prop :=
  ∃ g fd ps sp, FnOk P w K mg base CX0 k g fd ps sp ∧ mg F.name = some (.ref g) ∧ PySem.W.keepIn K (.ref g) = true ∧ How K F fd ps sp
theorem Has.mono {P : Program} {w : World} {K : PySem.W.Frag} {mg : Str → Option Value} {base : Heap} {j k : Nat} {F : FnI} (h : Has P w K mg base j F) (l : j ≤ k) : Has P w K mg base k F :=
  let ⟨g, fd, ps, sp, a, b, c, d⟩ := h
  ⟨g, fd, ps, sp, a.mono l, b, c, d⟩
/-- the body's reading from what it is worth -/
theorem body_run {K : PySem.W.Frag} {Γ : List FnI} {m : Mode} {r : Option (List Nat)} {b : List SX} {N : List Str} {np : Nat} {S H : Hp} {vs : List V} {ds : List D} {d : D} {Q : VK} (t : Same S H) (rd : DpAll K S vs ds) (hl : vs.length ≤ N.length) (hd : runD Γ N.length b np ds = some d)
    (k : ∀ v S' H', Grow S H S' H' → Rs K m H S' H' v d → Q v H') : rS K m none [] r (exB Γ b) { nx := fun _ H' => Q .non H', rt := Q } (L2.start N vs) H := by
  unfold runD at hd
  split at hd
  case isFalse => cases hd
  cases e : exB Γ b (ds.map some ++ List.replicate (N.length - ds.length) none) with
  | none => rw [e] at hd; cases hd
  | some o =>
    rw [e] at hd
    refine ⟨_, S, S, H, StOk.begin t rd hl, Grow.refl t, o, e, ?_⟩
    cases o with
    | nx env =>
      cases hd
      exact fun o' _ σ S' H' _ g _ => k _ S' H' g rs_non
    | rt x =>
      cases hd
      exact fun v S' H' g r => k v S' H' g r
    | bk _ => cases hd
    | ct _ => cases hd
section
variable {P : Program} {w : World} {K : PySem.W.Frag} {mg : Str → Option Value} {base : Heap}
theorem kx_of {N ps : List Str} {Γ : List FnI} {blt : List Str} {gk : Bool} {k : Nat} {qual : Str} {scope : Scope} {f : Addr} {cdv : Value} {A : Around} {outer : List PySem.Env} {s : Shared} {H : Hp} {E : XK} (S : FnScope N ps scope) (hb : ∀ x, blt.contains x = true → mg x = none)
    (hΓ : ∀ (i : Nat) (F : FnI), Γ[i]? = some F → Has P w K mg base k F) (hr : Room k (A.deeper (envOfC qual scope s.heap.objs.size f cdv))) (hg : gk = true → A.guards = some []) :
    Kx (cxOf CX0 P w K mg base N qual scope f cdv A outer s H E).nox ⟨N, scope, Γ, blt, gk, false⟩ ∧ Px (cxOf CX0 P w K mg base N qual scope f cdv A outer s H E).nox := by
  refine ⟨⟨rfl, rfl, S.nd, rfl, ?_, hg, hb, fun i F hF => ?_, fun _ _ => rfl⟩, ⟨PassesOwn.never, S.kind⟩⟩
  · have := hr.un
    show (A.deeper (envOfC qual scope s.heap.objs.size f cdv)).units + 65 < cLine
    omega
  · obtain ⟨g, fd, ps, sp, a, b, c, d⟩ := hΓ i F hF
    exact ⟨k, g, fd, ps, sp, a, hr, b, c, d⟩
/-- a def -/
theorem def_fn {x qual : Str} {st : Stmt} {f : Addr} {fd : FuncData} {N ps : List Str} {Γ : List FnI} {blt : List Str} {k : Nat} {m : Mode} {b : List SX} {r : Option (List Nat)} (F : Fun K x qual st f fd) (S : FnScope N ps (defScope st))
    (hb : ∀ x, blt.contains x = true → mg x = none) (hΓ : ∀ (i : Nat) (F : FnI), Γ[i]? = some F → Has P w K mg base k F) (hc : chkB ⟨N, defScope st, Γ, blt, false, false⟩ m none [] b (defBody st) = some r) :
    FnOk P w K mg base CX0 (k + 1) f fd ps (spF K ⟨x, ps.length, [], m, runD Γ N.length b ps.length⟩) := by
  refine F.ok S (fun vs H Q E h => h.1) (fun cdv A outer s H vs Q E hr h => ?_)
  obtain ⟨hl, S1, ds, d, t, rd, hd, q⟩ := h
  obtain ⟨kx, px⟩ := kx_of (P := P) (w := w) (mg := mg) (base := base) (outer := outer) (H := H) (E := E) (gk := false) S hb hΓ hr (fun z => by cases z)
  have hN : vs.length ≤ N.length := by
    have := congrArg List.length S.pre
    rw [List.length_take] at this
    have hl' : vs.length = ps.length := hl
    omega
  exact ⟨_, sB b (defBody st) none [] r hc kx px, body_run t rd hN hd q⟩
theorem def_ok {x qual : Str} {st : Stmt} {f : Addr} {fd : FuncData} {N ps : List Str} {Γ : List FnI} {blt : List Str} {k : Nat} {m : Mode} {b : List SX} {r : Option (List Nat)} (F : Fun K x qual st f fd) (S : FnScope N ps (defScope st)) (bd : Binds K fd ps []) (hx : mg x = some (.ref f))
    (hb : ∀ x, blt.contains x = true → mg x = none) (hΓ : ∀ (i : Nat) (F : FnI), Γ[i]? = some F → Has P w K mg base k F) (hc : chkB ⟨N, defScope st, Γ, blt, false, false⟩ m none [] b (defBody st) = some r) :
    Has P w K mg base (k + 1) ⟨x, ps.length, [], m, runD Γ N.length b ps.length⟩ :=
  ⟨f, fd, ps, _, def_fn F S hb hΓ hc, hx, F.kp, .inl ⟨rfl, [], [], bd, .nil, fun vs H Q E h => by rw [List.append_nil]; exact h⟩⟩
/-- the same def, its last parameters given by their names -/
theorem def_kw {x qual : Str} {st : Stmt} {f : Addr} {fd : FuncData} {N ps : List Str} {Γ : List FnI} {blt : List Str} {k : Nat} {m : Mode} {b : List SX} {r : Option (List Nat)} (n : Nat) (ks : List Str) (hk0 : ks ≠ []) (hnp : n + ks.length = ps.length) (F : Fun K x qual st f fd) (S : FnScope N ps (defScope st))
    (bd : ∀ (kV doc pm : Value) (an : Option Addr) (cdv ct : Value) (us ws : List Value), us.length = n → ws.length = ks.length → bindArgs (PySem.W.fnOf x qual (defArgs st) (defBody st) (defScope st) .none kV doc pm an cdv ct) ⟨us, ks.zip ws⟩ = pure (ps.zip (us ++ ws)))
    (hx : mg x = some (.ref f)) (hb : ∀ x, blt.contains x = true → mg x = none) (hΓ : ∀ (i : Nat) (F : FnI), Γ[i]? = some F → Has P w K mg base k F) (hc : chkB ⟨N, defScope st, Γ, blt, false, false⟩ m none [] b (defBody st) = some r) :
    Has P w K mg base (k + 1) ⟨x, ps.length, ks, m, runD Γ N.length b ps.length⟩ := by
  refine ⟨f, fd, ps, _, def_fn F S hb hΓ hc, hx, F.kp, .inr ⟨n, fun us ws => us ++ ws, fun vs zs => vs ++ zs, hk0, ⟨fun s us ws _ l1 l2 => ?_, fun r1 r2 => r1.append r2⟩, hnp, fun vs zs H Q E _ h => h⟩⟩
  obtain ⟨oc, od, kV, doc, pm, an, cdv, ct, osl, rfl, lk, hcd⟩ := F.ex
  exact .of_eq (bd kV doc pm an cdv ct us ws l1 l2)
/-- the law's def, called by the claim's caller: here nothing is being shown -/
theorem law_run {x qual : Str} {st : Stmt} {f : Addr} {fd : FuncData} {N ps : List Str} {Γ : List FnI} {blt : List Str} {k : Nat} {m : Mode} {b : List SX} {r : Option (List Nat)} (F : Fun K x qual st f fd) (S : FnScope N ps (defScope st))
    (hb : ∀ x, blt.contains x = true → mg x = none) (hΓ : ∀ (i : Nat) (F : FnI), Γ[i]? = some F → Has P w K mg base k F) (hc : chkB ⟨N, defScope st, Γ, blt, true, false⟩ m none [] b (defBody st) = some r)
    {s : Shared} {H S1 : Hp} {args : Args} {us : List Value} {vs : List V} {ds : List D} {d : D} {Q : VK} (hr : Room (k + 1) callerA) (e0 : Env0 P w K mg base callerA [] s H) (hbind : BindsTo s fd args (ps.zip us)) (hv : Vals vs us) (hl : vs.length = ps.length)
    (t : Same S1 H) (rd : DpAll K S1 vs ds) (hd : runD Γ N.length b ps.length ds = some d) (q : ∀ v S' H', Grow S1 H S' H' → Rs K m H S' H' v d → Q v H') :
    codeAny (model P w) callerA (.call (.ref f) args) (CR CX0 [] P w H s Q E0) s := by
  obtain ⟨oc, od, kV, doc, pm, an, cdv, ct, osl, rfl, lk, hcd⟩ := F.ex
  have inK : K.In s.heap := e0.mod.kin.keeps fun b o z => (e0.bs b o z).1
  have noLim : s.heap.NoLimit := e0.mod.nolimit.keeps fun b o z => (e0.bs b o z).1
  have kinds : ∀ y ∈ ps.zip us, (defScope st).names.lookup y.1 = some .local ∨ ((defScope st).names.lookup y.1 = some .cell ∧ ((cellsFrom (s.heap.objs.size + 1) (defScope st).names []).lookup y.1).isSome = true) := by
    rintro ⟨n, v⟩ hy
    refine (S.par n (List.of_mem_zip hy).1).imp (fun z => z) fun z => ⟨z, ?_⟩
    exact PySem.W.cellsFrom_some _ _ _ (.inl z)
  refine codeAny_call_function hr.depth (inK _ _ lk) rfl S.co S.gen rfl (PySem.W.codeRec_of inK hcd) (hbind _ _ _ _ ?_)
  refine wpAny_newFunctionEnv_cells S.kind kinds fun env he s1 inC => ?_
  cases he
  refine ⟨noLim.keeps inC.toInCall.keep, codeAny_func ?_⟩
  obtain ⟨kx, px⟩ := kx_of (P := P) (w := w) (mg := mg) (base := base) (outer := []) (s := s) (H := H) (E := E0) (gk := true) (f := f) (cdv := cdv) (qual := qual) (A := callerA) S hb hΓ (hr.deeper _) (fun _ => rfl)
  have hN : vs.length ≤ N.length := by
    have z := congrArg List.length S.pre
    rw [List.length_take] at z
    omega
  have start0 := inv_start (CX := CX0) (E := E0) S hr.hd e0 hl hv inC
  have run := (sB b (defBody st) none [] r hc kx px).nox.run [] s1 (L2.start N vs) H { nx := fun _ H' => Q .non H', rt := Q } start0 (body_run t rd hN hd q)
  refine wpAny_mono run (fun fl s2 hs => ?_) fun e s2 hs => hs
  have close : ∀ {τ : L2.St} {G : Hp} {v : V} {u : Value}, Inv (cxOf CX0 P w K mg base N qual (defScope st) f cdv callerA [] s H E0) [] τ G s2 → RelV v u → Q v G → CE [] P w H s Q u s2 :=
    fun {τ G v u} J rv z => ⟨v, G, J.os, J.bare, J.base, J.hok, rv, z⟩
  match fl, hs with
  | .ret u, ⟨v, τ, G, J, rv, z⟩ => exact close J rv z
  | .next, ⟨τ, G, J, z⟩ => exact close (v := V.non) (u := Value.none) J rfl z
  | .brk, ⟨_, _, _, z⟩ => exact z.elim
  | .cont, ⟨_, _, _, z⟩ => exact z.elim
/-- the call at the heap behind the top: only the script may be tracked -/
theorem law_at {mb : Str → Option Value} {f a : Addr} {fd : FuncData} {x : Str} {s1 : Shared} {us : List Value} {ns : List Int}
    (inK : K.In s1.heap) (gl : s1.heap.Ns mainGlobals mg) (bl : s1.heap.Ns builtinsNs mb) (bb : ∀ y : Str, y ≠ "__name__" → mb y = bootBuiltins y) (lim0 : s1.heap.NoLimit) (gens : s1.gens = #[])
    (ha : s1.heap.get? a = some { cls := .type "list", data := .seq us.toArray }) (hi : IntsAre us ns) (hl : ns.length ≤ sizeLine)
    (hbind : ∀ (s : Shared) (u : Value), BindsTo s fd ⟨[u], []⟩ [(x, u)])
    (F : ∀ base : Heap, K.In base → base.Ns mainGlobals mg → ∀ (H S1 : Hp), Same S1 H → DpAll K S1 [.ref a] [.list (ns.map .int)] → Env0 P w K mg base callerA [] s1 H →
      codeAny (model P w) callerA (.call (.ref f) ⟨[.ref a], []⟩) (CR CX0 [] P w H s1 (fun v _ => v = .bl true) E0) s1) :
    codeAny (model P w) callerA (.call (.ref f) ⟨[.ref a], []⟩) (fun r s' => r = .ok (.ret (.bool true)) ∧ OldK s1.heap s'.heap ∧ s'.os = s1.os ∧ AllBare s'.gens) s1 := by
  have hvals := vals_ints hi
  have hlen := hi.length
  -- from a heap that tracks at most the script
  have from_heap : ∀ H : Hp, Only H → SqL K H a (ns.map V.int) → HOk P w H s1.heap → (∀ b, H b ≠ none → b = a) → (H a ≠ none → K.lookup a = none) →
      codeAny (model P w) callerA (.call (.ref f) ⟨[.ref a], []⟩) (fun r s' => r = .ok (.ret (.bool true)) ∧ OldK s1.heap s'.heap ∧ s'.os = s1.os ∧ AllBare s'.gens) s1 := by
    intro H only sq ok alone apart
    have hid : ∀ {b : Addr} {o : Obj}, s1.heap.get? b = some o → H b = none → (hidT s1.heap H).get? b = some o := fun z n => hidT_get z n
    have noDict : ∀ {b : Addr} {o : Obj} {es : Array DictEntry} {ep : Nat}, s1.heap.get? b = some o → o.data = .dict es ep → H b = none := by
      intro b o es ep z dd
      cases q : H b with
      | none => rfl
      | some u =>
        have e := alone b (by rw [q]; exact Option.some_ne_none u)
        subst e
        rw [ha] at z
        cases z
        exact (nomatch (show Data.seq us.toArray _ = Data.dict es ep from dd))
    have ns_hid : ∀ {b : Addr} {mm : Str → Option Value}, s1.heap.Ns b mm → (hidT s1.heap H).Ns b mm := fun {b mm} ⟨o, es, ep, z, dd, rr⟩ => ⟨o, es, ep, hid z (noDict z dd), dd, rr⟩
    have inK2 : K.In (hidT s1.heap H) := by
      intro b o z
      refine hid (inK b o z) ?_
      cases q : H b with
      | none => rfl
      | some u =>
        have e := alone b (by rw [q]; exact Option.some_ne_none u)
        subst e
        rw [apart (by rw [q]; exact Option.some_ne_none u)] at z
        cases z
    have md0 : Mod K mg (hidT s1.heap H) := ⟨inK2, ns_hid gl, ⟨mb, ns_hid bl, bb⟩, let ⟨mc, q1, q2⟩ := lim0; ⟨mc, ns_hid q1, q2⟩⟩
    have e0 : Env0 P w K mg (hidT s1.heap H) callerA [] s1 H :=
      ⟨rfl, md0, fun b o z => of_hidT z, Nat.le_of_eq (hidT_size _ _), trivial, fun b hb => absurd (show b ∈ ([] : List Addr) from hb) List.not_mem_nil, ok, .of_eq gens⟩
    refine codeAny_mono (F _ inK2 (ns_hid gl) H H (Same.refl H) (.cons (.lst sq (dp_ints ns)) .nil) e0) fun r s2 hr => ?_
    match r, hr with
    | .error e, hr => exact hr.elim
    | .ok .next, hr => exact hr.elim
    | .ok .brk, hr => exact hr.elim
    | .ok .cont, hr => exact hr.elim
    | .ok (.ret u), ⟨v, G, os, bare, un, ok2, rv, hv⟩ =>
      have hv : v = .bl true := hv
      subst hv
      have hu : u = Value.bool true := rv
      subst hu
      refine ⟨rfl, OldK.of_keep fun b o z => ?_, os, bare⟩
      cases q : H b with
      | none => exact un.keep b o z q (fun y => absurd (show b ∈ ([] : List Addr) from y) List.not_mem_nil) List.not_mem_nil
      | some u =>
        rcases only b with y | ⟨ob, xs, y⟩
        · rw [q] at y
          cases y
        · obtain ⟨q1, _⟩ := ok b _ y
          obtain ⟨q2, _⟩ := ok2 b _ (un.frzs b ob _ y)
          rw [z] at q1
          cases q1
          exact q2
  cases kl : K.lookup a with
  | some o =>
    have z := inK a o kl
    rw [ha] at z
    cases z
    refine from_heap (fun _ => none) (fun _ => .inl rfl) (.inr ⟨_, us.toArray, _, kl, rfl, rfl, rfl, ?_, by simpa using hvals⟩) (fun b u z => nomatch z) (fun b z => absurd rfl z) fun z => absurd rfl z
    rw [List.size_toArray, hlen]
    exact hl
  | none =>
    have at_a : ∀ {b : Addr} {u : HO}, (if b = a then some (HO.frz { cls := .type "list", data := .seq us.toArray } (.lst (ns.map V.int))) else none) = some u → b = a := fun {b u} z => by
      by_cases q : b = a
      · exact q
      · rw [if_neg q] at z
        cases z
    refine from_heap (fun b => if b = a then some (.frz { cls := .type "list", data := .seq us.toArray } (.lst (ns.map V.int))) else none) (fun b => ?_) (.inl (.inr ⟨{ cls := .type "list", data := .seq us.toArray }, if_pos rfl⟩)) (fun b u z => ?_) (fun b z => ?_) fun _ => kl
    · by_cases q : b = a
      · exact .inr ⟨_, _, if_pos q⟩
      · exact .inl (if_neg q)
    · have q := at_a z
      subst q
      have z' := (if_pos rfl).symm.trans z
      cases z'
      exact ⟨ha, by rw [List.length_map]; exact hl, us, _, hvals, ha⟩
    · by_cases q : b = a
      · exact q
      · exact absurd (if_neg q) z
end
theorem hb_nil {mg : Str → Option Value} : ∀ x, ([] : List Str).contains x = true → mg x = none := fun x h => by cases h
theorem hb_cons {mg : Str → Option Value} {y : Str} {l : List Str} (h : mg y = none) (t : ∀ x, l.contains x = true → mg x = none) : ∀ x, (y :: l).contains x = true → mg x = none := fun x hx => by
  rcases List.mem_cons.mp (List.contains_iff_mem.mp hx) with e | e
  · rw [e]; exact h
  · exact t x (List.contains_iff_mem.mpr e)
theorem hg_nil {P : Program} {w : World} {K : PySem.W.Frag} {mg : Str → Option Value} {base : Heap} {k : Nat} : ∀ (i : Nat) (F : FnI), ([] : List FnI)[i]? = some F → Has P w K mg base k F := fun i F h => by simp at h
theorem hg_cons {P : Program} {w : World} {K : PySem.W.Frag} {mg : Str → Option Value} {base : Heap} {k : Nat} {F0 : FnI} {l : List FnI} (h : Has P w K mg base k F0) (t : ∀ (i : Nat) (F : FnI), l[i]? = some F → Has P w K mg base k F) : ∀ (i : Nat) (F : FnI), (F0 :: l)[i]? = some F → Has P w K mg base k F
  | 0, F, e => by
    have e' : F0 = F := Option.some.inj e
    rw [← e']
    exact h
  | i + 1, F, e => t i F e
/-- the law's row, by what its def is worth -/
theorem law_row {l : PySem.W.OpenLaw} {k : Nat} {q : Program} {loose : List Str} {XP : (Str → Option Value) → Heap → Prop} {YP : World → Heap → Prop} {d : DefRec} {KK : Params → PySem.W.Frag} {x : Str} (hn : l.most = some 63) (hdf : d.params.defaults = []) (hr : Room (k + 1) callerA)
    (hY : ∀ (w : World) (h : Heap), YP w h → (KK w.params).In h)
    (F : ∀ (w : World) (mg : Str → Option Value) (f : Addr) (h : Heap), (KK w.params).In h → h.Ns mainGlobals mg → mg d.name = some (.ref f) →
      ∃ fd : FuncData, (∀ (s : Shared) (u : Value), BindsTo s fd ⟨[u], []⟩ [(x, u)]) ∧ ∀ (s : Shared) (a : Addr) (ns : List Int) (us : List Value), ns.length ≤ 63 → ∀ base : Heap, (KK w.params).In base → base.Ns mainGlobals mg → ∀ (H S1 : Hp), Same S1 H → DpAll (KK w.params) S1 [.ref a] [.list (ns.map .int)] →
        Env0 l.prog w (KK w.params) mg base callerA [] s H → BindsTo s fd ⟨[.ref a], []⟩ [(x, .ref a)] → codeAny (model l.prog w) callerA (.call (.ref f) ⟨[.ref a], []⟩) (CR CX0 [] l.prog w H s (fun v _ => v = .bl true) E0) s) :
    PySem.W.WalkO q loose XP YP l.row.toRowW d [] (fun f vs => PySem.call f vs) := by
  refine Att.attach_call hn hdf fun w s0 s1 mg mb f o pm cd doc a vs ns G Y ho hd hcd hmg hobj hints hlen hg => ?_
  have inK := hY w _ Y
  obtain ⟨fd, hb, run⟩ := F w mg f _ inK G.T.g hmg
  have h63 : (63 : Nat) ≤ sizeLine := by rw [sizeLine_eq]; decide
  exact law_at inK G.T.g G.T.b G.T.builtins G.T.nolimit hg hobj hints (Nat.le_trans hlen h63) hb fun base q1 q2 H S1 t rd e0 => run s1 a ns vs hlen base q1 q2 H S1 t rd e0 (hb s1 _)
end Ev
/-! Md: rules for the evaluator. -/
namespace Ev
open PySem

theorem forD_rule {f : D → Env → Option Out} (I : List D → Env → Prop) (Qn : Env → Prop) (Qr : D → Prop) (hn : ∀ env, I [] env → Qn env)
    (hs : ∀ d r env, I (d :: r) env → ∃ o, f d env = some o ∧ match o with
      | .nx e => I r e
      | .ct e => I r e
      | .bk e => Qn e
      | .rt x => Qr x) : ∀ (ds : List D) (env : Env), I ds env → ∃ o, forD f ds env = some o ∧ match o with
      | .nx e => Qn e
      | .rt x => Qr x
      | _ => False
  | [], env, h => ⟨_, rfl, hn env h⟩
  | d :: r, env, h => by
    obtain ⟨o, e, q⟩ := hs d r env h
    unfold forD
    rw [e]
    cases o with
    | nx e1 => exact forD_rule I Qn Qr hn hs r e1 q
    | ct e1 => exact forD_rule I Qn Qr hn hs r e1 q
    | bk e1 => exact ⟨_, rfl, q⟩
    | rt x => exact ⟨_, rfl, q⟩
/-- a loop that only goes on -/
theorem forD_go {f : D → Env → Option Out} (I : List D → Env → Prop)
    (hs : ∀ d r env, I (d :: r) env → ∃ e, f d env = some (.nx e) ∧ I r e) (ds : List D) (env : Env) (h : I ds env) : ∃ e, forD f ds env = some (.nx e) ∧ I [] e := by
  obtain ⟨o, e, q⟩ := forD_rule I (I []) (fun _ => False) (fun _ h => h) (fun d r env h => by
    obtain ⟨e, h1, h2⟩ := hs d r env h
    exact ⟨_, h1, h2⟩) ds env h
  cases o with
  | nx e1 => exact ⟨e1, e, q⟩
  | _ => exact q.elim
theorem compD_rule {α : Type} {f : D → Option (Option D)} {enc : α → D} (g : α → Option D) : ∀ (xs : List α), (∀ x ∈ xs, f (enc x) = some (g x)) → compD f (xs.map enc) = some (xs.filterMap g)
  | [], _ => rfl
  | x :: r, h => by
    have ih := compD_rule g r fun y hy => h y (List.mem_cons_of_mem _ hy)
    rw [List.map_cons]
    unfold compD
    rw [h x List.mem_cons_self]
    cases e : g x with
    | none => rw [List.filterMap_cons_none e]; exact ih
    | some y => rw [List.filterMap_cons_some e]; simp only; rw [ih]; rfl
theorem compD_map {α : Type} {f : D → Option (Option D)} {enc : α → D} (g : α → D) (xs : List α) (h : ∀ x ∈ xs, f (enc x) = some (some (g x))) : compD f (xs.map enc) = some (xs.map g) := by
  rw [compD_rule (fun x => some (g x)) xs h]
  congr 1
  induction xs with
  | nil => rfl
  | cons x r ih => simp [ih fun y hy => h y (List.mem_cons_of_mem _ hy)]
theorem upto_eq (lo : Int) : ∀ n : Nat, upto lo n = (List.range n).map fun i : Nat => PyData.int (lo + i)
  | 0 => rfl
  | n + 1 => by
    rw [List.range_succ_eq_map, List.map_cons, List.map_map]
    show PyData.int lo :: upto (lo + 1) n = _
    rw [upto_eq (lo + 1) n]
    congr 1
    · simp
    · refine List.map_congr_left fun i _ => ?_
      show PyData.int _ = PyData.int _
      congr 1
      simp only [Function.comp, Nat.succ_eq_add_one]
      push_cast
      omega
@[simp] theorem bin_add_int (a b : Int) : binD .add (.int a) (.int b) = some (.int (a + b)) := rfl
@[simp] theorem bin_sub_int (a b : Int) : binD .sub (.int a) (.int b) = some (.int (a - b)) := rfl
@[simp] theorem bin_mul_int (a b : Int) : binD .mul (.int a) (.int b) = if a.natAbs < 2 ^ 64 ∨ b.natAbs < 2 ^ 64 then some (.int (a * b)) else none := rfl
@[simp] theorem bin_fdiv_int (a b : Int) : binD .fdiv (.int a) (.int b) = if b ≠ 0 ∧ b.natAbs < 1073741824 then some (.int (a.fdiv b)) else none := rfl
@[simp] theorem bin_mod_int (a b : Int) : binD .mod (.int a) (.int b) = if b ≠ 0 then some (.int (a.fmod b)) else none := rfl
@[simp] theorem bin_pow_int (a b : Int) : binD .pow (.int a) (.int b) = if 0 ≤ b ∧ b ≤ 1000000 ∧ a.natAbs < 2 ^ 64 then some (.int (a ^ b.toNat)) else none := rfl
@[simp] theorem bin_add_list (a b : List D) : binD .add (.list a) (.list b) = if a.length + b.length < lim then some (.list (a ++ b)) else none := rfl
@[simp] theorem bin_add_tup (a b : List D) : binD .add (.tuple a) (.tuple b) = if a.length + b.length < lim then some (.tuple (a ++ b)) else none := rfl
@[simp] theorem bin_add_str (a b : Str) : binD .add (.str a) (.str b) = if a.length + b.length < lim then some (.str (a ++ b)) else none := rfl
@[simp] theorem bin_mul_list (a : List D) (k : Int) : binD .mul (.list a) (.int k) = if k.natAbs < lim ∧ a.length * k.toNat < lim then some (.list (List.replicate k.toNat a).flatten) else none := rfl
@[simp] theorem cmp_lt_int (a b : Int) : cmpD .lt (.int a) (.int b) = some (.bool (decide (a < b))) := rfl
@[simp] theorem cmp_le_int (a b : Int) : cmpD .le (.int a) (.int b) = some (.bool (decide (a ≤ b))) := rfl
@[simp] theorem cmp_gt_int (a b : Int) : cmpD .gt (.int a) (.int b) = some (.bool (decide (b < a))) := rfl
@[simp] theorem cmp_ge_int (a b : Int) : cmpD .ge (.int a) (.int b) = some (.bool (decide (b ≤ a))) := rfl
@[simp] theorem cmp_eq_int (a b : Int) : cmpD .eq (.int a) (.int b) = some (.bool (decide (a = b))) := by
  show (if SeqAt.shaped (.int a) && SeqAt.shaped (.int b) then some (PyData.bool (PyData.eqv (.int a) (.int b))) else none) = _
  rw [if_pos (by rfl)]
  show some (PyData.bool (PyData.eqv (.int a) (.int b))) = _
  by_cases h : a = b <;> simp [PyData.eqv, h]
@[simp] theorem cmp_ne_int (a b : Int) : cmpD .ne (.int a) (.int b) = some (.bool (!decide (a = b))) := by
  show (if SeqAt.shaped (.int a) && SeqAt.shaped (.int b) then some (PyData.bool (!PyData.eqv (.int a) (.int b))) else none) = _
  rw [if_pos (by rfl)]
  show some (PyData.bool (!PyData.eqv (.int a) (.int b))) = _
  by_cases h : a = b <;> simp [PyData.eqv, h]
@[simp] theorem cmp_eq_bool (a b : Bool) : cmpD .eq (.bool a) (.bool b) = some (.bool (a == b)) := by
  show (if SeqAt.shaped (.bool a) && SeqAt.shaped (.bool b) then some (PyData.bool (PyData.eqv (.bool a) (.bool b))) else none) = _
  rw [if_pos (by rfl)]
  show some (PyData.bool (PyData.eqv (.bool a) (.bool b))) = _
  simp [PyData.eqv]
@[simp] theorem cmp_ne_bool (a b : Bool) : cmpD .ne (.bool a) (.bool b) = some (.bool (!(a == b))) := by
  show (if SeqAt.shaped (.bool a) && SeqAt.shaped (.bool b) then some (PyData.bool (!PyData.eqv (.bool a) (.bool b))) else none) = _
  rw [if_pos (by rfl)]
  show some (PyData.bool (!PyData.eqv (.bool a) (.bool b))) = _
  simp [PyData.eqv]
theorem cmp_same {a : D} (h : SeqAt.shaped a = true) : cmpD .eq a a = some (.bool true) := by
  show (if SeqAt.shaped a && SeqAt.shaped a then some (PyData.bool (PyData.eqv a a)) else none) = _
  rw [h, if_pos (by rfl), SeqAt.eqv_refl _ (SeqAt.canLay_of_shaped h)]
theorem cmp_same_ne {a : D} (h : SeqAt.shaped a = true) : cmpD .ne a a = some (.bool false) := by
  show (if SeqAt.shaped a && SeqAt.shaped a then some (PyData.bool (!PyData.eqv a a)) else none) = _
  rw [h, if_pos (by rfl), SeqAt.eqv_refl _ (SeqAt.canLay_of_shaped h)]
  rfl
@[simp] theorem cmp_isN (a : D) : cmpD .isN a .none = some (.bool (isNoneD a)) := by cases a <;> rfl
@[simp] theorem cmp_notN (a : D) : cmpD .notN a .none = some (.bool (!isNoneD a)) := by cases a <;> rfl
@[simp] theorem idx_list (ds : List D) (i : Int) : idxD (.list ds) (.int i) = L2.atI ds i := rfl
@[simp] theorem idx_tup (ds : List D) (i : Int) : idxD (.tuple ds) (.int i) = L2.atI ds i := rfl
theorem atI_pos {α : Type} {ds : List α} {i : Int} (h0 : 0 ≤ i) (h1 : i < ds.length) : L2.atI ds i = ds[i.toNat]? := by
  unfold L2.atI L2.ixN
  rw [if_pos h0, if_pos h1]
  rfl
@[simp] theorem atI_nat0 {α : Type} (x : α) (r : List α) : L2.atI (x :: r) 0 = some x := by
  rw [atI_pos (by decide) (by simp)]; rfl
theorem atI_lit {α : Type} (ds : List α) (n : Nat) : L2.atI ds (n : Int) = ds[n]? := by
  unfold L2.atI L2.ixN
  by_cases h : n < ds.length
  · rw [if_pos (by omega), if_pos (by omega)]; simp
  · rw [if_pos (by omega), if_neg (by omega), List.getElem?_eq_none (by omega)]; rfl
@[simp] theorem atI_one {α : Type} (ds : List α) : L2.atI ds 1 = ds[1]? := atI_lit ds 1
@[simp] theorem atI_zero {α : Type} (ds : List α) : L2.atI ds 0 = ds[0]? := atI_lit ds 0
@[simp] theorem len_list (ds : List D) : primD .len [.list ds] = some (.int ds.length) := rfl
@[simp] theorem len_tup (ds : List D) : primD .len [.tuple ds] = some (.int ds.length) := rfl
@[simp] theorem int_int (i : Int) : primD .int [.int i] = some (.int i) := rfl
@[simp] theorem int_bool (b : Bool) : primD .int [.bool b] = some (.int (if b then 1 else 0)) := rfl
@[simp] theorem sum_list (ds : List D) : primD .sum [.list ds] = (intsOf ds).map fun ns => .int ns.sum := rfl
@[simp] theorem all_list (ds : List D) : primD .all [.list ds] = (boolsOf ds).map fun bs => .bool (bs.all id) := rfl
@[simp] theorem any_list (ds : List D) : primD .any [.list ds] = (boolsOf ds).map fun bs => .bool (bs.any id) := rfl
@[simp] theorem list_list (ds : List D) : primD .list [.list ds] = some (.list ds) := rfl
@[simp] theorem tuple_list (ds : List D) : primD .tuple [.list ds] = some (.tuple ds) := rfl
@[simp] theorem isi_D (t : String) (d : D) : primD (.isiT t) [d] = (L2.kitB (tyD d) t).map .bool := rfl
@[simp] theorem isi_bb : L2.kitB "bool" "bool" = some true := by decide +kernel
@[simp] theorem isi_ll : L2.kitB "list" "list" = some true := by decide +kernel
@[simp] theorem isi_ib : L2.kitB "int" "bool" = some false := by decide +kernel
@[simp] theorem isi_ss : L2.kitB "str" "str" = some true := by decide +kernel
@[simp] theorem ints_map (ns : List Int) : intsOf (ns.map PyData.int) = some ns := by
  induction ns with
  | nil => rfl
  | cons n r ih => simp [intsOf, ih]
@[simp] theorem bools_map (ns : List Bool) : boolsOf (ns.map PyData.bool) = some ns := by
  induction ns with
  | nil => rfl
  | cons n r ih => simp [boolsOf, ih]
theorem max_list {n : Int} {r : List Int} : primD .max [.list ((n :: r).map .int)] = some (.int (maxI n r)) := by
  show (match intsOf ((n :: r).map PyData.int) with
    | some (n :: r) => some (PyData.int (maxI n r))
    | _ => none) = _
  rw [ints_map]
theorem run_eq (Γ : List FnI) (n : Nat) (b : List SX) (np : Nat) (ds : List D) (h : ds.length = np) : runD Γ n b np ds = match exB Γ b (ds.map some ++ List.replicate (n - ds.length) none) with
    | some (.rt d) => some d
    | some (.nx _) => some .none
    | _ => none := by
  unfold runD
  exact if_pos h

theorem map_set_int (l : List Int) (k : Nat) (v : Int) : (l.map PyData.int).set k (.int v) = (l.set k v).map .int := by
  rw [List.map_set]
theorem upto0 (c : Int) : upto 0 c.toNat = (List.range c.toNat).map fun i : Nat => PyData.int i := by
  rw [upto_eq]; simp
theorem fmod_in (a : Int) {b : Int} (hb : 0 < b) : 0 ≤ a.fmod b ∧ a.fmod b < b := ⟨Int.fmod_nonneg_of_pos a hb, Int.fmod_lt_of_pos a hb⟩
theorem at_ints (l : List Int) {k : Int} (h0 : 0 ≤ k) (h1 : k < l.length) : L2.atI (l.map PyData.int) k = some (.int (l.getD k.toNat 0)) := by
  rw [atI_pos h0 (by simpa using h1), List.getElem?_map, List.getElem?_eq_getElem (by omega)]
  simp [List.getD, List.getElem?_eq_getElem (show k.toNat < l.length by omega)]

/-- a loop over a range -/
theorem forR_rule {f : D → Env → Option Out} (lo : Int) (n : Nat) (I : Nat → Env → Prop) (Qn : Env → Prop) (Qr : D → Prop) (hn : ∀ env, I n env → Qn env)
    (hs : ∀ j env, j < n → I j env → ∃ o, f (.int (lo + j)) env = some o ∧ match o with
      | .nx e => I (j + 1) e
      | .ct e => I (j + 1) e
      | .bk e => Qn e
      | .rt x => Qr x) (env : Env) (h0 : I 0 env) : ∃ o, forD f (upto lo n) env = some o ∧ match o with
      | .nx e => Qn e
      | .rt x => Qr x
      | _ => False := by
  refine forD_rule (fun ds e => ∃ j : Nat, j + ds.length = n ∧ ds = upto (lo + j) ds.length ∧ I j e) Qn Qr ?_ ?_ _ env ⟨0, by simp [upto_eq], by simp [upto_eq], h0⟩
  · rintro env ⟨j, e1, -, h⟩
    simp only [List.length_nil, Nat.add_zero] at e1
    subst e1
    exact hn env h
  · rintro d r env ⟨j, e1, e2, h⟩
    simp only [List.length_cons, upto] at e2
    injection e2 with e2 e3
    subst e2
    simp only [List.length_cons] at e1
    obtain ⟨o, g1, g2⟩ := hs j env (by omega) h
    have e4 : r = upto (lo + (j + 1 : Nat)) r.length := by
      push_cast
      rw [← Int.add_assoc]
      exact e3
    refine ⟨o, g1, ?_⟩
    cases o with
    | nx e => exact ⟨j + 1, by omega, e4, g2⟩
    | ct e => exact ⟨j + 1, by omega, e4, g2⟩
    | bk e => exact g2
    | rt x => exact g2
theorem forR_go {f : D → Env → Option Out} (lo : Int) (n : Nat) (I : Nat → Env → Prop)
    (hs : ∀ j env, j < n → I j env → ∃ e, f (.int (lo + j)) env = some (.nx e) ∧ I (j + 1) e) (env : Env) (h0 : I 0 env) : ∃ e, forD f (upto lo n) env = some (.nx e) ∧ I n e := by
  obtain ⟨o, e, q⟩ := forR_rule (f := f) lo n I (I n) (fun _ => False) (fun _ h => h) (fun j env hj h => by
    obtain ⟨e, h1, h2⟩ := hs j env hj h
    exact ⟨_, h1, h2⟩) env h0
  cases o with
  | nx e1 => exact ⟨e1, e, q⟩
  | _ => exact q.elim
/-- a comprehension over a range -/
theorem compR {f : D → Option (Option D)} (lo : Int) (n : Nat) (g : Nat → D) (h : ∀ j, j < n → f (.int (lo + j)) = some (some (g j))) : compD f (upto lo n) = some ((List.range n).map g) := by
  rw [upto_eq]
  exact compD_map (enc := fun i : Nat => PyData.int (lo + i)) g (List.range n) fun x hx => h x (List.mem_range.mp hx)

@[simp] theorem itm_list (ds : List D) : itD .seq [.list ds] = some ds := rfl
@[simp] theorem itm_tup (ds : List D) : itD .seq [.tuple ds] = some ds := rfl
@[simp] theorem itm_rng (n : Int) : itD .range [.int n] = if rngOk n then some (upto 0 n.toNat) else none := rfl
@[simp] theorem itm_rng2 (a b : Int) : itD .range [.int a, .int b] = if rngOk a && rngOk b then some (upto a (b - a).toNat) else none := rfl
theorem rngm_ok {i : Int} (h0 : -(2 ^ 62) ≤ i) (h1 : i < 2 ^ 62) : rngOk i = true := by
  unfold rngOk
  rw [decide_eq_true h0, decide_eq_true h1]
  rfl

/-- one cell of a comprehension -/
@[simp] def cellF (Γ : List FnI) (e : PX) (t : Tg) (c : PX) (own : List (Str × Nat)) (env : Ev.Env) (d : D) : Option (Option D) := (bindT t d (wipeE env (own.map (·.2)))).bind fun env1 => match evT Γ c env1 with
          | some true => (evE Γ e env1).map some
          | some false => some none
          | none => none
theorem evE_comp {Γ : List FnI} {e : PX} {t : Tg} {k : Ik} {its : List PX} {c : PX} {own : List (Str × Nat)} {env : Ev.Env} {ws ds gs : List D} (h1 : evL Γ its env = some ws) (h2 : itD k ws = some ds) (h3 : ds.length < lim) (h4 : compD (cellF Γ e t c own env) ds = some gs) : evE Γ (.comp e t k its c own) env = some (.list gs) := by
  rw [evE, h1, Option.bind_some, h2, Option.bind_some, if_pos h3]
  show Option.map PyData.list (compD (cellF Γ e t c own env) ds) = _
  rw [h4]
  rfl
theorem comp_rng {Γ : List FnI} {e : PX} {t : Tg} {its : List PX} {c : PX} {own : List (Str × Nat)} {env : Ev.Env} {n : Nat} {k : Int} (g : Nat → D) (h1 : evL Γ its env = some [.int k]) (hk : k = n) (hn : n < 1000000) (h : ∀ j : Nat, j < n → cellF Γ e t c own env (.int j) = some (some (g j))) : evE Γ (.comp e t .range its c own) env = some (.list ((List.range n).map g)) := by
  subst hk
  refine evE_comp h1 (ds := upto 0 n) ?_ ?_ (compR 0 n g ?_)
  · rw [itm_rng, rngm_ok (by omega) (by omega), if_pos rfl]
    rfl
  · rw [upto_eq]
    simpa [lim] using hn
  · intro j hj
    rw [show (0 : Int) + j = j by omega]
    exact h j hj
theorem comp_seq {Γ : List FnI} {e : PX} {t : Tg} {its : List PX} {c : PX} {own : List (Str × Nat)} {env : Ev.Env} {α : Type} {enc : α → D} {xs : List α} (g : α → D) (h1 : evL Γ its env = some [.list (xs.map enc)]) (hn : xs.length < 1000000) (h : ∀ x ∈ xs, cellF Γ e t c own env (enc x) = some (some (g x))) : evE Γ (.comp e t .seq its c own) env = some (.list (xs.map g)) :=
  evE_comp h1 rfl (by simpa [lim] using hn) (compD_map g xs h)
/-- a loop as a statement -/
theorem exS_for {Γ : List FnI} {t : Tg} {k : Ik} {es : List PX} {b : List SX} {os : List Nat} {env : Ev.Env} {ws ds : List D} (h1 : evL Γ es env = some ws) (h2 : itD k ws = some ds) : exS Γ (.for t k es b os) env = forD (fun d env => (bindT t d env).bind fun e1 => exB Γ b e1) ds env := by
  rw [exS, h1, Option.bind_some, h2, Option.bind_some]
theorem for_rng {Γ : List FnI} {t : Tg} {es : List PX} {b : List SX} {os : List Nat} {env : Ev.Env} {n : Nat} {k : Int} (h1 : evL Γ es env = some [.int k]) (hk : k = n) (hn : n < 1000000) : exS Γ (.for t .range es b os) env = forD (fun d env => (bindT t d env).bind fun e1 => exB Γ b e1) (upto 0 n) env := by
  subst hk
  refine exS_for h1 ?_
  rw [itm_rng, rngm_ok (by omega) (by omega), if_pos rfl]
  rfl
theorem for_rng2 {Γ : List FnI} {t : Tg} {es : List PX} {b : List SX} {os : List Nat} {env : Ev.Env} {l n : Nat} {k m : Int} (h1 : evL Γ es env = some [.int k, .int m]) (hk : k = l) (hm : m = (l + n : Nat)) (hn : l + n < 1000000) : exS Γ (.for t .range es b os) env = forD (fun d env => (bindT t d env).bind fun e1 => exB Γ b e1) (upto l n) env := by
  subst hk
  subst hm
  refine exS_for h1 ?_
  rw [itm_rng2, rngm_ok (by omega) (by omega), rngm_ok (by omega) (by omega), if_pos (by rfl)]
  rw [show ((l + n : Nat) - (l : Int)).toNat = n by omega]
/-- a loop that looks for the first -/
theorem search {f : D → Env → Option Out} (lo : Int) (n : Nat) (p : Nat → Bool) (g : Nat → D) (I : Env → Prop) (hs : ∀ j, j < n → ∀ env, I env → (p j = true → f (.int (lo + j)) env = some (.rt (g j))) ∧ (p j = false → ∃ e, f (.int (lo + j)) env = some (.nx e) ∧ I e)) (env : Env) (h0 : I env) :
    (∃ j, (List.range n).find? p = some j ∧ forD f (upto lo n) env = some (.rt (g j))) ∨ ((List.range n).find? p = none ∧ ∃ e, forD f (upto lo n) env = some (.nx e) ∧ I e) := by
  obtain ⟨o, e, q⟩ := forR_rule (f := f) lo n (fun j e => I e ∧ ∀ i, i < j → p i = false) (fun e => I e ∧ ∀ i, i < n → p i = false) (fun x => ∃ j, j < n ∧ p j = true ∧ (∀ i, i < j → p i = false) ∧ x = g j) (fun _ h => h) (by
    rintro j env hj ⟨h, hp⟩
    cases hpj : p j with
    | true => exact ⟨_, (hs j hj env h).1 hpj, j, hj, hpj, hp, rfl⟩
    | false =>
      obtain ⟨e, h1, h2⟩ := (hs j hj env h).2 hpj
      refine ⟨_, h1, h2, fun i hi => ?_⟩
      by_cases hij : i = j
      · rw [hij]; exact hpj
      · exact hp i (by omega)) env ⟨h0, fun i hi => absurd hi (by omega)⟩
  cases o with
  | nx e1 =>
    refine .inr ⟨?_, e1, e, q.1⟩
    rw [List.find?_eq_none]
    intro x hx
    rw [q.2 x (List.mem_range.mp hx)]
    decide
  | rt x =>
    obtain ⟨j, hj, h1, h2, rfl⟩ := q
    refine .inl ⟨j, ?_, e⟩
    rw [List.find?_range_eq_some]
    exact ⟨h1, List.mem_range.mpr hj, fun i hi => by rw [h2 i hi]; rfl⟩
  | _ => exact q.elim

theorem run_rt {Γ : List FnI} {n np : Nat} {b : List SX} {ds : List D} {env : Ev.Env} {d : D} (h : ds.length = np) (he : ds.map some ++ List.replicate (n - ds.length) none = env) (hx : exB Γ b env = some (.rt d)) : runD Γ n b np ds = some d := by
  rw [run_eq _ _ _ _ _ h, he, hx]
theorem exB_nx {Γ : List FnI} {s : SX} {r : List SX} {env e : Ev.Env} (h : exS Γ s env = some (.nx e)) : exB Γ (s :: r) env = exB Γ r e := by
  rw [exB, h]
theorem exB_rt {Γ : List FnI} {s : SX} {r : List SX} {env : Ev.Env} {d : D} (h : exS Γ s env = some (.rt d)) : exB Γ (s :: r) env = some (.rt d) := by
  rw [exB, h]
theorem exS_ret {Γ : List FnI} {e : PX} {env : Ev.Env} {d : D} (h : evE Γ e env = some d) : exS Γ (.ret e) env = some (.rt d) := by
  rw [exS, h]; rfl
theorem exS_set {Γ : List FnI} {i : Nat} {e : PX} {env env' : Ev.Env} {d : D} (h : evE Γ e env = some d) (he : env.set i (some d) = env') : exS Γ (.set i e) env = some (.nx env') := by
  rw [exS, h, ← he]; rfl
theorem exS_ite {Γ : List FnI} {c : PX} {a b : List SX} {env : Ev.Env} {t : Bool} {o : Option Out} (h : evT Γ c env = some t) (h1 : t = true → exB Γ a env = o) (h2 : t = false → exB Γ b env = o) : exS Γ (.ite c a b) env = o := by
  rw [exS, h]
  cases t with
  | true => exact h1 rfl
  | false => exact h2 rfl
end Ev
/-! A: the terms of law_k04_tides_and_passings, printed by gen.py. -/
namespace Qk04
open PySem PySem.Spec PyProof.Rows L2 Ev

def N_law_draws : List Str := ["_law_script", "_law_count", "_law_rests", "_law_draws_here", "_law_k", "_law_value", "_law_cell", "_law_at", "_law_mixed"]
def c_law_draws_1 : PX := (.comp (.var 6) (.nm 6) .seq [(.var 0)] .nop [("_law_cell", 6)])
def b_law_draws_1 : List SX := [
  .set 5 (.int (0)),
  .ite (.cmp .gt (.prim (.len) [(.var 2)]) (.int (0))) [
    .set 7 (.bin .mod (.prim (.int) [(.var 4)]) (.prim (.len) [(.var 2)])),
    .ite (.cmp .ge (.idx (.var 2) (.var 7)) (.bin .pow (.int (10)) (.int (18)))) [
      .set 5 (.bin .mod (.prim (.int) [(.idx (.var 2) (.var 7))]) (.int (1000))),
      .setIx 2 (.var 7) (.bin .fdiv (.idx (.var 2) (.var 7)) (.int (1000)))] [
      .set 8 (.bin .mod (.prim (.int) [(.bin .add (.bin .add (.bin .mul (.idx (.var 2) (.var 7)) (.int (48271))) (.bin .mul (.var 4) (.int (69621)))) (.int (11)))]) (.int (2147483647))),
      .set 8 (.bin .mod (.prim (.int) [(.bin .add (.bin .mul (.var 8) (.int (16807))) (.var 7))]) (.int (2147483629))),
      .set 5 (.bin .mod (.prim (.int) [(.bin .fdiv (.var 8) (.int (7)))]) (.int (1000)))]] [
],
  .app 3 (.var 5)]
def b_law_draws : List SX := [
  .set 2 c_law_draws_1,
  .set 3 (.lst []),
  .for (.nm 4) .range [(.var 1)] b_law_draws_1 [3, 2],
  .ret (.var 3)]
def G_law_draws : List FnI := []
def e_law_draws : List D → Option D := runD G_law_draws 9 b_law_draws 2
def i_law_draws : FnI := ⟨"_law_draws", 2, [], .fr, e_law_draws⟩

def N_law_depths : List Str := ["_law_draws_here", "_law_turn_here", "_law_row", "_law_k"]
def c_law_depths_1 : PX := (.comp (.bin .mod (.prim (.int) [(.idx (.var 0) (.bin .add (.int (1)) (.var 3)))]) (.idx (.lst [(.int (9)), (.int (4))]) (.bin .mod (.prim (.int) [(.idx (.var 0) (.int (21)))]) (.int (2))))) (.nm 3) .range [(.var 1)] .nop [("_law_k", 3)])
def b_law_depths : List SX := [
  .set 1 (.bin .add (.int (1)) (.bin .mod (.prim (.int) [(.idx (.var 0) (.int (0)))]) (.idx (.lst [(.int (6)), (.int (12))]) (.bin .mod (.prim (.int) [(.idx (.var 0) (.int (20)))]) (.int (2)))))),
  .set 2 c_law_depths_1,
  .ite (.or (.cmp .gt (.var 1) (.int (6))) (.cmp .eq (.bin .mod (.prim (.int) [(.idx (.var 0) (.int (13)))]) (.int (2))) (.int (0)))) [
    .ret (.var 2)] [
],
  .ret (.bin .add (.var 2) (.var 2))]
def G_law_depths : List FnI := []
def e_law_depths : List D → Option D := runD G_law_depths 4 b_law_depths 1
def i_law_depths : FnI := ⟨"_law_depths", 1, [], .fr, e_law_depths⟩

def N_depth_at : List Str := ["harbour", "hour"]
def b_depth_at : List SX := [
  .ret (.idx (.idx (.var 0) (.int (0))) (.bin .mod (.var 1) (.prim (.len) [(.idx (.var 0) (.int (0)))])))]
def G_depth_at : List FnI := []
def e_depth_at : List D → Option D := runD G_depth_at 2 b_depth_at 2
def i_depth_at : FnI := ⟨"depth_at", 2, [], .sh, e_depth_at⟩

def N_turn_of : List Str := ["harbour", "many", "turn", "hour"]
def c_turn_of_1 : PX := (.comp (.cmp .eq (.call 0 [(.var 0), (.var 3)] []) (.call 0 [(.var 0), (.bin .add (.var 3) (.var 2))] [])) (.nm 3) .range [(.var 1)] .nop [("hour", 3)])
def b_turn_of_1 : List SX := [
  .ite (.prim (.all) [c_turn_of_1]) [
    .ret (.var 2)] [
]]
def b_turn_of : List SX := [
  .set 1 (.prim (.len) [(.idx (.var 0) (.int (0)))]),
  .for (.nm 2) .range [(.int (1)), (.var 1)] b_turn_of_1 [],
  .ret (.var 1)]
def G_turn_of : List FnI := [i_depth_at]
def e_turn_of : List D → Option D := runD G_turn_of 4 b_turn_of 1
def i_turn_of : FnI := ⟨"turn_of", 1, [], .sh, e_turn_of⟩

def N_law_turn : List Str := ["_law_depths_here", "_law_row", "_law_turn_here", "_law_hour"]
def c_law_turn_1 : PX := (.comp (.cmp .eq (.idx (.var 1) (.var 3)) (.idx (.var 1) (.bin .add (.var 3) (.var 2)))) (.nm 3) .range [(.int (12))] .nop [("_law_hour", 3)])
def b_law_turn_1 : List SX := [
  .ite (.prim (.all) [c_law_turn_1]) [
    .ret (.var 2)] [
]]
def b_law_turn : List SX := [
  .set 1 (.bin .mul (.var 0) (.int (24))),
  .for (.nm 2) .range [(.int (1)), (.int (13))] b_law_turn_1 [1],
  .ret (.int (0))]
def G_law_turn : List FnI := []
def e_law_turn : List D → Option D := runD G_law_turn 4 b_law_turn 1
def i_law_turn : FnI := ⟨"_law_turn", 1, [], .sh, e_law_turn⟩

def N_can_pass : List Str := ["harbour", "draught", "hour"]
def b_can_pass : List SX := [
  .ret (.cmp .ge (.call 0 [(.var 0), (.var 2)] []) (.var 1))]
def G_can_pass : List FnI := [i_depth_at]
def e_can_pass : List D → Option D := runD G_can_pass 3 b_can_pass 3
def i_can_pass : FnI := ⟨"can_pass", 3, [], .fr, e_can_pass⟩

def N_tides : List Str := ["harbour", "draught", "until", "found", "hour"]
def b_tides_1 : List SX := [
  .ite (.call 0 [(.var 0), (.var 1), (.var 4)] []) [
    .ite (.and (.var 3) (.cmp .eq (.idx (.idx (.var 3) (.neg (.int (1)))) (.int (1))) (.bin .sub (.var 4) (.int (1))))) [
      .setIx 3 (.neg (.int (1))) (.tup [(.idx (.idx (.var 3) (.neg (.int (1)))) (.int (0))), (.var 4)])] [
      .app 3 (.tup [(.var 4), (.var 4)])]] [
]]
def b_tides : List SX := [
  .set 3 (.lst []),
  .for (.nm 4) .range [(.bin .add (.var 2) (.int (1)))] b_tides_1 [3],
  .ret (.var 3)]
def G_tides : List FnI := [i_can_pass]
def e_tides : List D → Option D := runD G_tides 5 b_tides 3
def i_tides : FnI := ⟨"tides", 3, [], .fr, e_tides⟩
def i_tides_k : FnI := ⟨"tides", 3, ["until"], .fr, e_tides⟩

def N_law_tides : List Str := ["_law_deep", "_law_found", "_law_hour"]
def b_law_tides_1 : List SX := [
  .ite (.and (.idx (.var 0) (.var 2)) (.and (.cmp .gt (.var 2) (.int (0))) (.idx (.var 0) (.bin .sub (.var 2) (.int (1)))))) [
    .setIx 1 (.neg (.int (1))) (.tup [(.idx (.idx (.var 1) (.neg (.int (1)))) (.int (0))), (.var 2)])] [
    .ite (.idx (.var 0) (.var 2)) [
      .app 1 (.tup [(.var 2), (.var 2)])] [
]]]
def b_law_tides : List SX := [
  .set 1 (.lst []),
  .for (.nm 2) .range [(.prim (.len) [(.var 0)])] b_law_tides_1 [1],
  .ret (.var 1)]
def G_law_tides : List FnI := []
def e_law_tides : List D → Option D := runD G_law_tides 3 b_law_tides 1
def i_law_tides : FnI := ⟨"_law_tides", 1, [], .fr, e_law_tides⟩

def N_next_passing : List Str := ["harbour", "draught", "hour", "later"]
def b_next_passing_1 : List SX := [
  .ite (.call 0 [(.var 0), (.var 1), (.bin .add (.var 2) (.var 3))] []) [
    .ret (.bin .add (.var 2) (.var 3))] [
]]
def b_next_passing : List SX := [
  .for (.nm 3) .range [(.prim (.len) [(.idx (.var 0) (.int (0)))])] b_next_passing_1 [],
  .ret .non]
def G_next_passing : List FnI := [i_can_pass]
def e_next_passing : List D → Option D := runD G_next_passing 4 b_next_passing 3
def i_next_passing : FnI := ⟨"next_passing", 3, [], .fr, e_next_passing⟩

def N_law_next : List Str := ["_law_deep", "_law_hour", "_law_later"]
def b_law_next_1 : List SX := [
  .ite (.idx (.var 0) (.var 2)) [
    .ret (.var 2)] [
]]
def b_law_next : List SX := [
  .for (.nm 2) .range [(.var 1), (.prim (.len) [(.var 0)])] b_law_next_1 [],
  .ret .non]
def G_law_next : List FnI := []
def e_law_next : List D → Option D := runD G_law_next 3 b_law_next 2
def i_law_next : FnI := ⟨"_law_next", 2, [], .sh, e_law_next⟩

def N_greatest_wait : List Str := ["harbour", "draught", "hour"]
def c_greatest_wait_1 : PX := (.comp (.bin .sub (.call 0 [(.var 0), (.var 1), (.var 2)] []) (.var 2)) (.nm 2) .range [(.prim (.len) [(.idx (.var 0) (.int (0)))])] .nop [("hour", 2)])
def b_greatest_wait : List SX := [
  .ite (.cmp .gt (.var 1) (.prim (.max) [(.idx (.var 0) (.int (0)))])) [
    .ret .non] [
],
  .ret (.prim (.max) [c_greatest_wait_1])]
def G_greatest_wait : List FnI := [i_next_passing]
def e_greatest_wait : List D → Option D := runD G_greatest_wait 3 b_greatest_wait 2
def i_greatest_wait : FnI := ⟨"greatest_wait", 2, [], .fr, e_greatest_wait⟩

def N_law_waits : List Str := ["_law_deep", "_law_found", "_law_hour", "_law_later"]
def b_law_waits_1 : List SX := [
  .set 3 (.call 0 [(.var 0), (.var 2)] []),
  .ite (.cmp .isN (.var 3) .non) [
    .ret .non] [
],
  .app 1 (.bin .sub (.var 3) (.var 2))]
def b_law_waits : List SX := [
  .set 1 (.lst []),
  .for (.nm 2) .range [(.int (12))] b_law_waits_1 [1],
  .ret (.prim (.max) [(.var 1)])]
def G_law_waits : List FnI := [i_law_next]
def e_law_waits : List D → Option D := runD G_law_waits 4 b_law_waits 1
def i_law_waits : FnI := ⟨"_law_waits", 1, [], .fr, e_law_waits⟩

def N_law : List Str := ["_law_script", "_law_draws_here", "_law_depths_here", "_law_harbour", "_law_kept", "_law_draught", "_law_until", "_law_row", "_law_deep", "_law_hour", "_law_worst", "_law_due", "_law_more", "_law_answer", "_law_told", "_law_depth"]
def c_law_1 : PX := (.comp (.cmp .ge (.var 15) (.var 5)) (.nm 15) .seq [(.var 7)] .nop [("_law_depth", 15)])
def b_law_1 : List SX := [
  .set 13 (.call 6 [(.var 3), (.var 5), (.var 9)] []),
  .ite (.or (.not (.prim (.isiT "bool") [(.var 13)])) (.cmp .ne (.var 13) (.idx (.var 8) (.var 9)))) [
    .ret (.bl false)] [
],
  .set 14 (.call 7 [(.var 3), (.var 5), (.var 9)] []),
  .set 11 (.call 8 [(.var 8), (.var 9)] []),
  .ite (.or (.cmp .ne (.var 14) (.var 11)) (.cmp .ne (.cmp .isN (.var 14) .non) (.cmp .isN (.var 11) .non))) [
    .ret (.bl false)] [
]]
def b_law : List SX := [
  .set 1 (.call 0 [(.var 0), (.int (25))] []),
  .set 2 (.call 1 [(.var 1)] []),
  .set 3 (.tup [(.var 2), (.lst [(.int (5))]), (.int (2)), (.int (1)), (.int (20))]),
  .set 4 (.prim (.repr) [(.var 3)]),
  .set 5 (.bin .mod (.prim (.int) [(.idx (.var 1) (.int (14)))]) (.int (11))),
  .set 6 (.bin .mod (.prim (.int) [(.idx (.var 1) (.int (15)))]) (.int (81))),
  .set 7 (.sl (.bin .mul (.var 2) (.int (100))) .nop (.int (100))),
  .set 8 c_law_1,
  .ite (.or (.cmp .ne (.call 2 [(.var 3)] []) (.call 3 [(.var 2)] [])) (.cmp .ne (.call 4 [(.var 3), (.var 5)] [(.var 6)]) (.call 5 [(.sl (.var 8) .nop (.bin .add (.var 6) (.int (1))))] []))) [
    .ret (.bl false)] [
],
  .for (.nm 9) .range [(.int (60))] b_law_1 [4],
  .set 10 (.call 9 [(.var 3), (.var 5)] []),
  .set 11 (.call 10 [(.var 8)] []),
  .ite (.or (.cmp .ne (.var 10) (.var 11)) (.cmp .ne (.cmp .isN (.var 10) .non) (.cmp .isN (.var 11) .non))) [
    .ret (.bl false)] [
],
  .set 12 (.call 9 [(.var 3), (.bin .add (.var 5) (.int (1)))] []),
  .ite (.and (.cmp .isN (.var 10) .non) (.cmp .notN (.var 12) .non)) [
    .ret (.bl false)] [
],
  .ite (.and (.cmp .notN (.var 10) .non) (.and (.cmp .notN (.var 12) .non) (.cmp .lt (.var 12) (.var 10)))) [
    .ret (.bl false)] [
],
  .ret (.cmp .eq (.prim (.repr) [(.var 3)]) (.var 4))]
def G_law : List FnI := [i_law_draws, i_law_depths, i_turn_of, i_law_turn, i_tides_k, i_law_tides, i_can_pass, i_next_passing, i_law_next, i_greatest_wait, i_law_waits]
def e_law : List D → Option D := runD G_law 16 b_law 1
def i_law : FnI := ⟨"law", 1, [], .fr, e_law⟩

end Qk04
namespace Qk04
open PySem PySem.Spec PyProof.Rows L2 Ev
theorem draws_comp (ns : List Int) (h : ns.length ≤ 63) (x : D) : evE G_law_draws c_law_draws_1 [some (.list (ns.map .int)), some x, none, none, none, none, none, none, none] = some (.list (ns.map .int)) := by
  simp only [c_law_draws_1, itD, lim, List.map_map, evE, evL, evT, List.getElem?_cons_zero, Option.join_some, Option.bind_some, Option.map_some, List.length_map, show ns.length < 1000000 by omega, if_true]
  rw [compD_map (fun n => PyData.int n) ns]
  · rfl
  · intro x hx
    simp
/-- the draws -/
theorem draws_body {rs : List Int} (k : Int) (hk : 0 ≤ k) (hr : rs.length ≤ 63) (x0 x1 x4 x5 x6 x7 x8 : Option D) (out : List Int) (ho : out.length < 1000) :
    ∃ rs' : List Int, ∃ v : Int, ∃ y5 y7 y8 : Option D, rs'.length = rs.length ∧ 0 ≤ v ∧ v < 1000 ∧
      exB G_law_draws b_law_draws_1 [x0, x1, some (.list (rs.map .int)), some (.list (out.map .int)), some (.int k), x5, x6, x7, x8] = some (.nx [x0, x1, some (.list (rs'.map .int)), some (.list ((out ++ [v]).map .int)), some (.int k), y5, x6, y7, y8]) := by
  by_cases h0 : rs = []
  · subst h0
    refine ⟨[], 0, some (.int 0), x7, x8, rfl, by omega, by omega, ?_⟩
    simp [b_law_draws_1, lim, show out.length < 1000000 by omega]
  · have hl : (0:Int) < rs.length := by
      have := List.length_pos_iff.mpr h0
      omega
    have hm := fmod_in k hl
    have hz : (rs.length : Int) ≠ 0 := by omega
    have hl' : 0 < rs.length := by omega
    have hj : L2.ixN rs.length (k.fmod rs.length) = some (k.fmod rs.length).toNat := by
      unfold L2.ixN
      rw [if_pos hm.1, if_pos hm.2]
    generalize hg : k.fmod rs.length = m at *
    generalize hc : rs.getD m.toNat 0 = c at *
    have ha : L2.atI (rs.map PyData.int) m = some (.int c) := by rw [at_ints rs hm.1 hm.2, hc]
    by_cases hb : 10 ^ 18 ≤ c
    · refine ⟨rs.set m.toNat (c.fdiv 1000), c.fmod 1000, some (.int (c.fmod 1000)), some (.int m), x8, by simp, (fmod_in _ (by decide)).1, (fmod_in _ (by decide)).2, ?_⟩
      have hb' : (1000000000000000000 : Int) ≤ c := hb
      simp [b_law_draws_1, lim, show out.length < 1000000 by omega, ha, hl, hz, hg, hb', hl', hj, h0]
    · refine ⟨rs, (((((c * 48271 + k * 69621 + 11).fmod 2147483647) * 16807 + m).fmod 2147483629).fdiv 7).fmod 1000, some (.int ((((((c * 48271 + k * 69621 + 11).fmod 2147483647) * 16807 + m).fmod 2147483629).fdiv 7).fmod 1000)), some (.int m), some (.int ((((c * 48271 + k * 69621 + 11).fmod 2147483647) * 16807 + m).fmod 2147483629)), rfl, (fmod_in _ (by decide)).1, (fmod_in _ (by decide)).2, ?_⟩
      have hb' : ¬ (1000000000000000000 : Int) ≤ c := hb
      simp [b_law_draws_1, lim, show out.length < 1000000 by omega, ha, hl, hz, hg, hb', hl', hj, h0]
def Inv (n : Nat) (c : Nat) (x0 x1 : Option D) (e : Ev.Env) : Prop := ∃ (rs out : List Int) (x4 x5 x6 x7 x8 : Option D), e = [x0, x1, some (.list (rs.map .int)), some (.list (out.map .int)), x4, x5, x6, x7, x8] ∧ rs.length = n ∧ out.length = c ∧ ∀ x ∈ out, 0 ≤ x ∧ x < 1000
theorem draws (ns : List Int) (h : ns.length ≤ 63) (c : Nat) (hc : c < 1000) (k : Int) (hk : k = c) : ∃ out : List Int, e_law_draws [.list (ns.map .int), .int k] = some (.list (out.map .int)) ∧ out.length = c ∧ ∀ x ∈ out, 0 ≤ x ∧ x < 1000 := by
  obtain ⟨e, he, rs, out, x4, x5, x6, x7, x8, rfl, -, h2, h3⟩ := forR_go (f := fun d env => (bindT (.nm 4) d env).bind fun e1 => exB G_law_draws b_law_draws_1 e1) 0 c (fun j e => Inv ns.length j (some (.list (ns.map .int))) (some (.int k)) e) (by
    rintro j env hj ⟨rs, out, x4, x5, x6, x7, x8, rfl, h1, h2, h3⟩
    obtain ⟨rs', v, y5, y7, y8, g1, g2, g3, g4⟩ := draws_body (rs := rs) j (by omega) (by omega) (some (.list (ns.map .int))) (some (.int k)) x4 x5 x6 x7 x8 out (by omega)
    refine ⟨_, ?_, rs', out ++ [v], some (.int j), y5, x6, y7, y8, rfl, by omega, by simp [h2], ?_⟩
    · simpa using g4
    · intro x hx
      rcases List.mem_append.mp hx with hx | hx
      · exact h3 x hx
      · simp at hx; omega) [some (.list (ns.map .int)), some (.int k), some (.list (ns.map .int)), some (.list []), none, none, none, none, none] ⟨ns, [], none, none, none, none, none, rfl, rfl, rfl, by simp⟩
  refine ⟨out, ?_, h2, h3⟩
  refine (run_eq G_law_draws 9 b_law_draws 2 _ rfl).trans ?_
  have hr : rngOk k = true := rngm_ok (by omega) (by omega)
  have hkt : k.toNat = c := by omega
  have h1 : 0 < lim := by decide
  simp only [bindT, Option.bind_some] at he
  simp [b_law_draws, draws_comp ns h, hr, h1, hkt, he]

theorem two_of {x : Int} (a b : D) : ∃ c : D, (c = a ∨ c = b) ∧ L2.atI [a, b] (x.fmod 2) = some c := by
  have h := fmod_in x (b := 2) (by decide)
  have h2 : x.fmod 2 = 0 ∨ x.fmod 2 = 1 := by omega
  rcases h2 with h2 | h2
  · exact ⟨a, .inl rfl, by rw [h2]; rfl⟩
  · exact ⟨b, .inr rfl, by rw [h2]; rfl⟩
theorem two_int {x : Int} (a b : Int) : ∃ c : Int, (c = a ∨ c = b) ∧ L2.atI [PyData.int a, .int b] (x.fmod 2) = some (.int c) := by
  obtain ⟨c, h | h, e⟩ := two_of (x := x) (PyData.int a) (.int b)
  · exact ⟨a, .inl rfl, by rw [e, h]⟩
  · exact ⟨b, .inr rfl, by rw [e, h]⟩
theorem out_at {out : List Int} (i : Nat) (h : i < out.length) : L2.atI (out.map PyData.int) (i : Int) = some (.int (out.getD i 0)) := by
  rw [at_ints out (by omega) (by omega)]
  rfl
theorem depths_comp (out : List Int) (hl : out.length = 25) (t : Int) (ht : 1 ≤ t) (ht2 : t ≤ 12) : ∃ row : List Int, evE G_law_depths c_law_depths_1 [some (.list (out.map .int)), some (.int t), none, none] = some (.list (row.map .int)) ∧ row.length = t.toNat ∧ ∀ x ∈ row, 0 ≤ x ∧ x < 9 := by
  obtain ⟨m, hm, em⟩ := two_int (x := out.getD 21 0) 9 4
  have e21 := out_at (out := out) 21 (by omega)
  have hm0 : 0 < m ∧ m ≤ 9 := by omega
  have hr : rngOk t = true := rngm_ok (by omega) (by omega)
  refine ⟨(List.range t.toNat).map fun j => (out.getD (1 + j) 0).fmod m, ?_, by simp, ?_⟩
  · rw [List.map_map]
    refine comp_rng (n := t.toNat) (k := t) _ (by simp) (by omega) (by omega) ?_
    intro j hj
    have ej := out_at (out := out) (1 + j) (by omega)
    have ej' : L2.atI (out.map PyData.int) (1 + (j : Int)) = some (.int (out.getD (1 + j) 0)) := by
      rw [← ej]; congr 1
    have e21' : L2.atI (out.map PyData.int) 21 = some (.int (out.getD 21 0)) := e21
    simp [ej', e21', em, lim, -List.getD_eq_getElem?_getD]
    omega
  · intro x hx
    simp only [List.mem_map, List.mem_range] at hx
    obtain ⟨j, hj, rfl⟩ := hx
    have := fmod_in (out.getD (1 + j) 0) hm0.1
    omega
theorem depths (out : List Int) (hl : out.length = 25) : ∃ dep : List Int, e_law_depths [.list (out.map .int)] = some (.list (dep.map .int)) ∧ 1 ≤ dep.length ∧ dep.length ≤ 12 ∧ ∀ x ∈ dep, 0 ≤ x ∧ x < 9 := by
  obtain ⟨m, hm, em⟩ := two_int (x := out.getD 20 0) 6 12
  have hm0 : 0 < m ∧ m ≤ 12 := by omega
  have e0 : L2.atI (out.map PyData.int) 0 = some (.int (out.getD 0 0)) := out_at 0 (by omega)
  have e13 : L2.atI (out.map PyData.int) 13 = some (.int (out.getD 13 0)) := out_at 13 (by omega)
  have e20 : L2.atI (out.map PyData.int) 20 = some (.int (out.getD 20 0)) := out_at 20 (by omega)
  have ht := fmod_in (out.getD 0 0) hm0.1
  generalize htt : (out.getD 0 0).fmod m = t0 at *
  obtain ⟨row, er, hrow, hv⟩ := depths_comp out hl (1 + t0) (by omega) (by omega)
  have hmne : m ≠ 0 := by omega
  have hrl : row.length + row.length < lim := by
    have : lim = 1000000 := rfl
    omega
  have h2l : 2 < lim := by decide
  by_cases hc : 6 < 1 + t0 ∨ (out.getD 13 0).fmod 2 = 0
  · refine ⟨row, ?_, by omega, by omega, hv⟩
    refine (run_eq G_law_depths 4 b_law_depths 1 _ rfl).trans ?_
    by_cases hc1 : 6 < 1 + t0
    · simp [b_law_depths, e0, e20, em, hmne, htt, er, hc1, h2l, -List.getD_eq_getElem?_getD, -atI_zero]
    · have hc2 := hc.resolve_left hc1
      simp [b_law_depths, e0, e20, e13, em, hmne, htt, er, hc1, hc2, h2l, -List.getD_eq_getElem?_getD, -atI_zero]
  · refine ⟨row ++ row, ?_, by simp; omega, by simp; omega, ?_⟩
    · refine (run_eq G_law_depths 4 b_law_depths 1 _ rfl).trans ?_
      have hc1 : ¬ 6 < 1 + t0 := fun h => hc (.inl h)
      have hc2 : ¬ (out.getD 13 0).fmod 2 = 0 := fun h => hc (.inr h)
      simp [b_law_depths, e0, e20, e13, em, hmne, htt, er, hc1, hc2, h2l, hrl, -List.getD_eq_getElem?_getD, -atI_zero]
    · intro x hx
      rcases List.mem_append.mp hx with hx | hx <;> exact hv x hx
end Qk04
namespace Qk04
open PySem PySem.Spec PyProof.Rows L2 Ev
def vv (dep : List Int) (h : Nat) : Int := dep.getD (h % dep.length) 0
def HH (dep : List Int) : D := .tuple [.list (dep.map .int), .list [.int 5], .int 2, .int 1, .int 20]
theorem vv_per (dep : List Int) (h : Nat) : vv dep (h + dep.length) = vv dep h := by
  unfold vv
  rw [Nat.add_mod_right]
theorem vv_mod (dep : List Int) (h : Nat) : vv dep (h % dep.length) = vv dep h := by
  unfold vv
  rw [Nat.mod_mod]
theorem depth_at_eq {dep : List Int} (hd : 1 ≤ dep.length) (h : Nat) {k : Int} (hk : k = h) : e_depth_at [HH dep, .int k] = some (.int (vv dep h)) := by
  have hz : ((dep.length : Nat) : Int) ≠ 0 := by omega
  have hm : k.fmod dep.length = ((h % dep.length : Nat) : Int) := by
    rw [Int.fmod_eq_emod_of_nonneg k (by omega), hk]
    rfl
  have hm2 : h % dep.length < dep.length := Nat.mod_lt _ hd
  have ha := out_at (out := dep) (h % dep.length) hm2
  refine (run_eq G_depth_at 2 b_depth_at 2 _ rfl).trans ?_
  rw [← hm] at ha
  have hne : dep ≠ [] := by
    intro h
    rw [h] at hd
    simp at hd
  simp [b_depth_at, HH, hz, hne, ha, vv, -List.getD_eq_getElem?_getD]
theorem can_pass_eq {dep : List Int} (hd : 1 ≤ dep.length) (dr : Int) (h : Nat) {k : Int} (hk : k = h) : e_can_pass [HH dep, .int dr, .int k] = some (.bool (decide (dr ≤ vv dep h))) := by
  refine (run_eq G_can_pass 3 b_can_pass 3 _ rfl).trans ?_
  simp [b_can_pass, G_can_pass, i_depth_at, depth_at_eq hd h hk]
def pp (dep : List Int) (dr : Int) (h : Nat) : Bool := decide (dr ≤ vv dep h)
/-- the turn -/
def tp (dep : List Int) (n : Nat) (t : Nat) : Bool := (List.range n).all fun h => decide (vv dep h = vv dep (h + t))
theorem turn_comp {dep : List Int} (hd : 1 ≤ dep.length) (hd2 : dep.length ≤ 12) (t : Nat) {k m : Int} (hk : k = t) (hm : m = dep.length) (y : Option D) : evE G_turn_of c_turn_of_1 [some (HH dep), some (.int m), some (.int k), y] = some (.list ((List.range dep.length).map fun h => .bool (decide (vv dep h = vv dep (h + t))))) := by
  refine comp_rng (n := dep.length) (k := m) _ (by simp) hm (by omega) ?_
  intro j hj
  have h1 := depth_at_eq hd j (k := (j : Int)) rfl
  have h2 := depth_at_eq hd (j + t) (k := (j : Int) + k) (by omega)
  simp [G_turn_of, i_depth_at, h1, h2]
theorem bools_mapf {α : Type} (xs : List α) (f : α → Bool) : boolsOf (xs.map fun x => PyData.bool (f x)) = some (xs.map f) := by
  have := bools_map (xs.map f)
  rw [List.map_map] at this
  exact this
theorem ints_mapf {α : Type} (xs : List α) (f : α → Int) : intsOf (xs.map fun x => PyData.int (f x)) = some (xs.map f) := by
  have := Ev.ints_map (xs.map f)
  rw [List.map_map] at this
  exact this
theorem turn_body {dep : List Int} (hd : 1 ≤ dep.length) (hd2 : dep.length ≤ 12) (t : Nat) {k m : Int} (hk : k = t) (hm : m = dep.length) (y : Option D) : exB G_turn_of b_turn_of_1 [some (HH dep), some (.int m), some (.int k), y] = if tp dep dep.length t then some (.rt (.int k)) else some (.nx [some (HH dep), some (.int m), some (.int k), y]) := by
  have hc := turn_comp hd hd2 t hk hm y
  cases hp : tp dep dep.length t with
  | true =>
    have hp' : ∀ x, x < dep.length → vv dep x = vv dep (x + t) := by simpa [tp] using hp
    have hpp : ((List.range dep.length).all fun x => decide (vv dep x = vv dep (x + t))) = true := hp
    simp [b_turn_of_1, hc, bools_mapf]
    rw [hpp]
  | false =>
    have hp' : ¬ ∀ x, x < dep.length → vv dep x = vv dep (x + t) := by
      intro h
      rw [show tp dep dep.length t = true by simpa [tp] using h] at hp
      exact absurd hp (by decide)
    have hpp : ((List.range dep.length).all fun x => decide (vv dep x = vv dep (x + t))) = false := hp
    simp [b_turn_of_1, hc, bools_mapf]
    rw [hpp]
theorem turn_of_eq {dep : List Int} (hd : 1 ≤ dep.length) (hd2 : dep.length ≤ 12) {m : Int} (hm : m = dep.length) : ∃ r : Int, e_turn_of [HH dep] = some (.int r) ∧ ((∃ j : Nat, (List.range (dep.length - 1)).find? (fun j => tp dep dep.length (j + 1)) = some j ∧ r = 1 + j) ∨ ((List.range (dep.length - 1)).find? (fun j => tp dep dep.length (j + 1)) = none ∧ r = m)) := by
  have hs := search (f := fun d env => (bindT (.nm 2) d env).bind fun e1 => exB G_turn_of b_turn_of_1 e1) 1 (dep.length - 1) (fun j => tp dep dep.length (j + 1)) (fun j => .int (1 + (j : Int))) (fun e => ∃ x y, e = [some (HH dep), some (.int m), x, y]) (by
    rintro j hj env ⟨x, y, rfl⟩
    have hb := turn_body hd hd2 (j + 1) (k := 1 + (j : Int)) (by omega) hm y
    constructor
    · intro hp
      have hp2 : tp dep dep.length (j + 1) = true := hp
      rw [hp2, if_pos rfl] at hb
      exact hb
    · intro hp
      have hp2 : tp dep dep.length (j + 1) = false := hp
      rw [hp2, if_neg (by decide)] at hb
      exact ⟨_, hb, _, _, rfl⟩) [some (HH dep), some (.int m), none, none] ⟨_, _, rfl⟩
  have e1 : primD .len [.list (dep.map .int)] = some (.int m) := by rw [hm]; simp
  have e2 := for_rng2 (Γ := G_turn_of) (t := .nm 2) (es := [(.int (1)), (.var 1)]) (b := b_turn_of_1) (os := []) (env := [some (HH dep), some (.int m), none, none]) (l := 1) (n := dep.length - 1) (k := 1) (m := m) (by simp) rfl (by omega) (by omega)
  have e3 : exS G_turn_of (.set 1 (.prim (.len) [(.idx (.var 0) (.int (0)))])) [some (HH dep), none, none, none] = some (.nx [some (HH dep), some (.int m), none, none]) := by
    simp [HH, hm]
  rcases hs with ⟨j, h1, h2⟩ | ⟨h1, e, h2, x, y, rfl⟩
  · have h2' := e2.trans h2
    exact ⟨1 + j, run_rt rfl rfl ((exB_nx e3).trans (exB_rt h2')), .inl ⟨j, h1, rfl⟩⟩
  · have h2' := e2.trans h2
    exact ⟨m, run_rt rfl rfl ((exB_nx e3).trans ((exB_nx h2').trans (exB_rt (exS_ret rfl)))), .inr ⟨h1, rfl⟩⟩
/-- many times over -/
theorem flat_at {α : Type} (l : List α) (hl : 1 ≤ l.length) : ∀ (k i : Nat), i < k * l.length → (List.replicate k l).flatten[i]? = l[i % l.length]?
  | 0, i, h => by omega
  | k + 1, i, h => by
    rw [List.replicate_succ, List.flatten_cons]
    by_cases hi : i < l.length
    · rw [List.getElem?_append_left hi, Nat.mod_eq_of_lt hi]
    · rw [List.getElem?_append_right (by omega), flat_at l hl k (i - l.length) (by rw [Nat.succ_mul] at h; omega)]
      rw [← Nat.mod_eq_sub_mod (by omega)]
theorem row_at {dep : List Int} (hd : 1 ≤ dep.length) (k i : Nat) (h : i < k * dep.length) {x : Int} (hx : x = i) : L2.atI (List.replicate k (dep.map PyData.int)).flatten x = some (.int (vv dep i)) := by
  subst hx
  rw [atI_lit, flat_at _ (by simpa using hd) k i (by simpa using h), List.length_map, List.getElem?_map]
  have hm2 : i % dep.length < dep.length := Nat.mod_lt _ hd
  unfold vv
  rw [List.getElem?_eq_getElem hm2, List.getD_eq_getElem?_getD, List.getElem?_eq_getElem hm2]
  rfl
theorem lturn_comp {dep : List Int} (hd : 1 ≤ dep.length) (t : Nat) (ht : t ≤ 12) {k : Int} (hk : k = t) (x y : Option D) : evE G_law_turn c_law_turn_1 [x, some (.list (List.replicate 24 (dep.map PyData.int)).flatten), some (.int k), y] = some (.list ((List.range 12).map fun h => .bool (decide (vv dep h = vv dep (h + t))))) := by
  refine comp_rng (n := 12) (k := 12) _ (by simp) rfl (by omega) ?_
  intro j hj
  have h1 := row_at hd 24 j (by omega) (x := (j : Int)) rfl
  have h2 := row_at hd 24 (j + t) (by omega) (x := (j : Int) + k) (by omega)
  simp only [cellF, bindT, wipeE, List.map_cons, List.map_nil, Option.bind_some, evT, evE, List.set_cons_succ, List.set_cons_zero, List.getElem?_cons_succ, List.getElem?_cons_zero, Option.join_some, bin_add_int, idx_list, h1, h2, cmp_eq_int, Option.map_some]
theorem lturn_body {dep : List Int} (hd : 1 ≤ dep.length) (t : Nat) (ht : t ≤ 12) {k : Int} (hk : k = t) (x y : Option D) : exB G_law_turn b_law_turn_1 [x, some (.list (List.replicate 24 (dep.map PyData.int)).flatten), some (.int k), y] = if tp dep 12 t then some (.rt (.int k)) else some (.nx [x, some (.list (List.replicate 24 (dep.map PyData.int)).flatten), some (.int k), y]) := by
  have hc := lturn_comp hd t ht hk x y
  generalize (List.replicate 24 (dep.map PyData.int)).flatten = L at *
  cases hp : tp dep 12 t with
  | true =>
    have hpp : ((List.range 12).all fun x => decide (vv dep x = vv dep (x + t))) = true := hp
    simp [b_law_turn_1, hc, bools_mapf]
    rw [hpp]
  | false =>
    have hpp : ((List.range 12).all fun x => decide (vv dep x = vv dep (x + t))) = false := hp
    simp [b_law_turn_1, hc, bools_mapf]
    rw [hpp]
theorem law_turn_eq {dep : List Int} (hd : 1 ≤ dep.length) (hd2 : dep.length ≤ 12) : ∃ r : Int, e_law_turn [.list (dep.map .int)] = some (.int r) ∧ ((∃ j : Nat, (List.range 12).find? (fun j => tp dep 12 (j + 1)) = some j ∧ r = 1 + j) ∨ ((List.range 12).find? (fun j => tp dep 12 (j + 1)) = none ∧ r = 0)) := by
  have e3 : exS G_law_turn (.set 1 (.bin .mul (.var 0) (.int (24)))) [some (.list (dep.map .int)), none, none, none] = some (.nx [some (.list (dep.map .int)), some (.list (List.replicate 24 (dep.map PyData.int)).flatten), none, none]) := by
    refine exS_set (d := .list (List.replicate 24 (dep.map PyData.int)).flatten) ?_ rfl
    have h1 : dep.length * 24 < lim := by
      have : lim = 1000000 := rfl
      omega
    have h2 : 24 < lim := by decide
    simp only [evE, List.getElem?_cons_zero, Option.join_some, Option.bind_some, bin_mul_list, List.length_map]
    rw [if_pos ⟨h2, h1⟩]
    rfl
  have hs := search (f := fun d env => (bindT (.nm 2) d env).bind fun e1 => exB G_law_turn b_law_turn_1 e1) 1 12 (fun j => tp dep 12 (j + 1)) (fun j => .int (1 + (j : Int))) (fun e => ∃ x y, e = [some (.list (dep.map .int)), some (.list (List.replicate 24 (dep.map PyData.int)).flatten), x, y]) (by
    rintro j hj env ⟨x, y, rfl⟩
    have hb := lturn_body hd (j + 1) (by omega) (k := 1 + (j : Int)) (by omega) (some (.list (dep.map .int))) y
    constructor
    · intro hp
      have hp2 : tp dep 12 (j + 1) = true := hp
      rw [hp2, if_pos rfl] at hb
      exact hb
    · intro hp
      have hp2 : tp dep 12 (j + 1) = false := hp
      rw [hp2, if_neg (by decide)] at hb
      exact ⟨_, hb, _, _, rfl⟩) [some (.list (dep.map .int)), some (.list (List.replicate 24 (dep.map PyData.int)).flatten), none, none] ⟨_, _, rfl⟩
  have e2 := for_rng2 (Γ := G_law_turn) (t := .nm 2) (es := [(.int (1)), (.int (13))]) (b := b_law_turn_1) (os := [1]) (env := [some (.list (dep.map .int)), some (.list (List.replicate 24 (dep.map PyData.int)).flatten), none, none]) (l := 1) (n := 12) (k := 1) (m := 13) (by simp) rfl rfl (by omega)
  rcases hs with ⟨j, h1, h2⟩ | ⟨h1, e, h2, x, y, rfl⟩
  · have h2' := e2.trans h2
    exact ⟨1 + j, run_rt rfl rfl ((exB_nx e3).trans (exB_rt h2')), .inl ⟨j, h1, rfl⟩⟩
  · have h2' := e2.trans h2
    exact ⟨0, run_rt rfl rfl ((exB_nx e3).trans ((exB_nx h2').trans (exB_rt (exS_ret rfl)))), .inr ⟨h1, rfl⟩⟩
theorem tp_twelve {dep : List Int} (hd : 1 ≤ dep.length) (hd2 : dep.length ≤ 12) (t : Nat) : tp dep 12 t = tp dep dep.length t := by
  rw [Bool.eq_iff_iff]
  simp only [tp, List.all_eq_true, List.mem_range, decide_eq_true_eq]
  constructor
  · intro h x hx
    exact h x (by omega)
  · intro h x hx
    have := h (x % dep.length) (Nat.mod_lt _ hd)
    rw [vv_mod] at this
    rw [this, ← vv_mod dep (x + t), ← vv_mod dep (x % dep.length + t), Nat.mod_add_mod]
theorem tp_self (dep : List Int) : tp dep dep.length dep.length = true := by
  simp only [tp, List.all_eq_true, List.mem_range, decide_eq_true_eq]
  intro x _
  rw [vv_per]
theorem turns_eq {dep : List Int} (hd : 1 ≤ dep.length) (hd2 : dep.length ≤ 12) : ∃ r : Int, e_turn_of [HH dep] = some (.int r) ∧ e_law_turn [.list (dep.map .int)] = some (.int r) := by
  obtain ⟨r, h1, h2⟩ := turn_of_eq hd hd2 (m := (dep.length : Int)) rfl
  obtain ⟨q, g1, g2⟩ := law_turn_eq hd hd2
  refine ⟨r, h1, ?_⟩
  rw [g1]
  have e : (fun j => tp dep 12 (j + 1)) = fun j => tp dep dep.length (j + 1) := funext fun j => tp_twelve hd hd2 _
  rw [e] at g2
  have hself := tp_self dep
  have hne : (List.range 12).find? (fun j => tp dep dep.length (j + 1)) ≠ none := by
    intro hn
    rw [List.find?_eq_none] at hn
    have := hn (dep.length - 1) (List.mem_range.mpr (by omega))
    rw [show dep.length - 1 + 1 = dep.length by omega] at this
    exact this hself
  rcases g2 with ⟨i, g2, g3⟩ | ⟨g2, g3⟩
  · rw [List.find?_range_eq_some] at g2
    obtain ⟨p1, p2, p3⟩ := g2
    rcases h2 with ⟨j, h2, h3⟩ | ⟨h2, h3⟩
    · rw [List.find?_range_eq_some] at h2
      obtain ⟨q1, q2, q3⟩ := h2
      have hij : i = j := by
        rcases Nat.lt_trichotomy i j with hlt | heq | hgt
        · have := q3 i hlt
          rw [p1] at this
          exact absurd this (by decide)
        · exact heq
        · have := p3 j hgt
          rw [q1] at this
          exact absurd this (by decide)
      rw [g3, h3, hij]
    · rw [List.find?_eq_none] at h2
      have hi : i = dep.length - 1 := by
        rcases Nat.lt_trichotomy i (dep.length - 1) with hlt | heq | hgt
        · exact absurd p1 (h2 i (List.mem_range.mpr hlt))
        · exact heq
        · have := p3 (dep.length - 1) hgt
          rw [show dep.length - 1 + 1 = dep.length by omega, hself] at this
          exact absurd this (by decide)
      rw [g3, h3, hi, show (1 : Int) + ((dep.length - 1 : Nat) : Int) = dep.length by omega]
  · exact absurd g2 hne
end Qk04
namespace Qk04
open PySem PySem.Spec PyProof.Rows L2 Ev
def pr (x : Int × Int) : D := .tuple [.int x.1, .int x.2]
theorem ix_last (n : Nat) : L2.ixN (n + 1) (-1) = some n := by
  unfold L2.ixN
  rw [if_neg (by decide), if_pos (by omega)]
  congr 1
  omega
theorem at_last {α : Type} (l : List α) (x : α) : L2.atI (l ++ [x]) (-1) = some x := by
  unfold L2.atI
  rw [show (l ++ [x]).length = l.length + 1 by simp, ix_last]
  simp
theorem at_rng {α : Type} (N : Nat) (f : Nat → α) (i : Nat) (hi : i < N) {k : Int} (hk : k = i) : L2.atI ((List.range N).map f) k = some (f i) := by
  subst hk
  rw [atI_lit]
  simp [hi]
def td (p : Nat → Bool) : Nat → List (Int × Int)
  | 0 => []
  | h + 1 => if p h then (if decide (0 < h) && p (h - 1) then (td p h).dropLast ++ [(((td p h).getLast?.map (·.1)).getD 0, (h : Int))] else td p h ++ [((h : Int), (h : Int))]) else td p h
theorem td_inv (p : Nat → Bool) : ∀ h : Nat, (∀ x ∈ td p h, x.2 < h) ∧ ((decide (0 < h) && p (h - 1)) = true → ∃ F a, td p h = F ++ [(a, (h : Int) - 1)]) ∧ ((decide (0 < h) && p (h - 1)) = false → ∀ x ∈ td p h, x.2 + 1 < h)
  | 0 => by
    refine ⟨?_, ?_, ?_⟩
    · intro x hx
      simp [td] at hx
    · intro h
      simp at h
    · intro _ x hx
      simp [td] at hx
  | h + 1 => by
    obtain ⟨i1, i2, i3⟩ := td_inv p h
    cases hp : p h with
    | false =>
      have e : td p (h + 1) = td p h := by rw [td, hp]; rfl
      refine ⟨?_, ?_, ?_⟩
      · intro x hx
        rw [e] at hx
        have := i1 x hx
        omega
      · intro hh
        simp [hp] at hh
      · intro _ x hx
        rw [e] at hx
        have := i1 x hx
        omega
    | true =>
      cases hq : (decide (0 < h) && p (h - 1)) with
      | true =>
        obtain ⟨F, a, hF⟩ := i2 hq
        have e : td p (h + 1) = F ++ [(a, (h : Int))] := by
          rw [td, hp, hq, hF]
          simp
        refine ⟨?_, ?_, ?_⟩
        · intro x hx
          rw [e] at hx
          rcases List.mem_append.mp hx with hx | hx
          · have := i1 x (by rw [hF]; exact List.mem_append_left _ hx)
            omega
          · simp at hx
            rw [hx]
            simp
            omega
        · intro _
          exact ⟨F, a, by rw [e]; congr 3; omega⟩
        · intro hh
          simp [hp] at hh
      | false =>
        have e : td p (h + 1) = td p h ++ [((h : Int), (h : Int))] := by
          rw [td, hp, hq]
          rfl
        refine ⟨?_, ?_, ?_⟩
        · intro x hx
          rw [e] at hx
          rcases List.mem_append.mp hx with hx | hx
          · have := i1 x hx
            omega
          · simp at hx
            rw [hx]
            simp
            omega
        · intro _
          exact ⟨td p h, h, by rw [e]; congr 3; omega⟩
        · intro hh
          simp [hp] at hh
theorem td_len (p : Nat → Bool) : ∀ h : Nat, (td p h).length ≤ h
  | 0 => by simp [td]
  | h + 1 => by
    have := td_len p h
    have hp := td_inv p h
    cases hp : p h with
    | false =>
      have e : td p (h + 1) = td p h := by rw [td, hp]; rfl
      rw [e]; omega
    | true =>
      cases hq : (decide (0 < h) && p (h - 1)) with
      | true =>
        obtain ⟨F, a, hF⟩ := (td_inv p h).2.1 hq
        have e : td p (h + 1) = F ++ [(a, (h : Int))] := by
          rw [td, hp, hq, hF]
          simp
        rw [hF] at this
        rw [e]
        simp at this ⊢
        omega
      | false =>
        have e : td p (h + 1) = td p h ++ [((h : Int), (h : Int))] := by
          rw [td, hp, hq]
          rfl
        rw [e]
        simp
        omega
theorem tides_body {dep : List Int} (hd : 1 ≤ dep.length) (dr : Int) (h : Nat) (hh : h < 200) {k : Int} (hk : k = h) (u : D) : exB G_tides b_tides_1 [some (HH dep), some (.int dr), some u, some (.list ((td (pp dep dr) h).map pr)), some (.int k)] = some (.nx [some (HH dep), some (.int dr), some u, some (.list ((td (pp dep dr) (h + 1)).map pr)), some (.int k)]) := by
  have hc := can_pass_eq hd dr h hk
  have hl := td_len (pp dep dr) h
  obtain ⟨-, i2, i3⟩ := td_inv (pp dep dr) h
  generalize HH dep = H at *
  have hc' : e_can_pass [H, .int dr, .int k] = some (.bool (pp dep dr h)) := hc
  generalize pp dep dr = p at *
  cases hp : p h with
  | false =>
    have e : td p (h + 1) = td p h := by rw [td, hp]; rfl
    rw [e]
    rw [hp] at hc'
    simp [b_tides_1, G_tides, i_can_pass, hc']
  | true =>
    rw [hp] at hc'
    cases hq : (decide (0 < h) && p (h - 1)) with
    | true =>
      obtain ⟨F, a, hF⟩ := i2 hq
      have e : td p (h + 1) = F ++ [(a, k)] := by
        rw [td, hp, hq, hF, hk]
        simp
      rw [e, hF, ← hk]
      simp only [List.map_append, List.map_cons, List.map_nil]
      have hz : 2 < lim := by decide
      have a1 := at_last (F.map pr) (pr (a, k - 1))
      have a2 := ix_last (F.map pr).length
      have a3 : (F.map pr ++ [pr (a, k - 1)]).length = (F.map pr).length + 1 := by simp
      have a4 : (F.map pr ++ [pr (a, k - 1)]).set (F.map pr).length (pr (a, k)) = F.map pr ++ [pr (a, k)] := by simp
      have a5 : (F.map pr ++ [pr (a, k - 1)]).isEmpty = false := by cases F <;> rfl
      generalize F.map pr ++ [pr (a, k - 1)] = L at *
      generalize (F.map pr).length = n at *
      have a4' : L.set n (PyData.tuple [.int a, .int k]) = F.map pr ++ [pr (a, k)] := a4
      have a1' : L2.atI L (-1) = some (PyData.tuple [.int a, .int (k - 1)]) := a1
      simp [b_tides_1, G_tides, i_can_pass, hc', a1', a2, a3, a4', a5, hz]
    | false =>
      have e : td p (h + 1) = td p h ++ [(k, k)] := by
        rw [td, hp, hq, hk]
        rfl
      have hz : 2 < lim := by decide
      have hlm : ((td p h).map pr).length < lim := by
        have : lim = 1000000 := rfl
        simp
        omega
      rw [e]
      have i3' := i3 hq
      rcases List.eq_nil_or_concat (td p h) with h0 | ⟨F, x, hF⟩
      · rw [h0]
        have hzz : 0 < lim := by decide
        simp [b_tides_1, G_tides, i_can_pass, hc', hz, hzz, pr]
      · have hx := i3' x (by rw [hF]; simp)
        rw [List.concat_eq_append] at hF
        rw [hF] at hlm ⊢
        simp only [List.map_append, List.map_cons, List.map_nil] at hlm ⊢
        have a1 := at_last (F.map pr) (pr x)
        have a5 : (F.map pr ++ [pr x]).isEmpty = false := by cases F <;> rfl
        generalize F.map pr ++ [pr x] = L at *
        have a1' : L2.atI L (-1) = some (PyData.tuple [.int x.1, .int x.2]) := a1
        have hne : ¬ x.2 = k - 1 := by omega
        simp [b_tides_1, G_tides, i_can_pass, hc', a1', a5, hz, hlm, hne, pr]
theorem tides_eq {dep : List Int} (hd : 1 ≤ dep.length) (dr : Int) (n : Nat) (hn : n < 200) {u : Int} (hu : u + 1 = n) : e_tides [HH dep, .int dr, .int u] = some (.list ((td (pp dep dr) n).map pr)) := by
  have h0 : 0 < lim := by decide
  have e1 : exS G_tides (.set 3 (.lst [])) [some (HH dep), some (.int dr), some (.int u), none, none] = some (.nx [some (HH dep), some (.int dr), some (.int u), some (.list []), none]) := by
    simp [h0]
  have e2 := for_rng (Γ := G_tides) (t := .nm 4) (es := [(.bin .add (.var 2) (.int (1)))]) (b := b_tides_1) (os := [3]) (env := [some (HH dep), some (.int dr), some (.int u), some (.list []), none]) (n := n) (k := u + 1) (by simp) hu (by omega)
  obtain ⟨e, g1, g2, y, rfl⟩ := forR_go (f := fun d env => (bindT (.nm 4) d env).bind fun e1 => exB G_tides b_tides_1 e1) 0 n (fun j e => j ≤ n ∧ ∃ y, e = [some (HH dep), some (.int dr), some (.int u), some (.list ((td (pp dep dr) j).map pr)), y]) (by
    rintro j env hj ⟨_, y, rfl⟩
    have hb := tides_body hd dr j (by omega) (k := 0 + (j : Int)) (by omega) (.int u)
    exact ⟨_, hb, by omega, _, rfl⟩) [some (HH dep), some (.int dr), some (.int u), some (.list []), none] ⟨by omega, none, rfl⟩
  exact run_rt rfl rfl ((exB_nx e1).trans ((exB_nx (e2.trans g1)).trans (exB_rt (exS_ret rfl))))
theorem ltides_body (p : Nat → Bool) (N : Nat) (h : Nat) (hh : h < N) (hN : N < 200) {k : Int} (hk : k = h) : exB G_law_tides b_law_tides_1 [some (.list ((List.range N).map fun i => .bool (p i))), some (.list ((td p h).map pr)), some (.int k)] = some (.nx [some (.list ((List.range N).map fun i => .bool (p i))), some (.list ((td p (h + 1)).map pr)), some (.int k)]) := by
  have hl := td_len p h
  obtain ⟨-, i2, i3⟩ := td_inv p h
  have b1 := at_rng N (fun i => PyData.bool (p i)) h hh hk
  have b2 : 0 < h → L2.atI ((List.range N).map fun i => PyData.bool (p i)) (k - 1) = some (.bool (p (h - 1))) := fun h0 => at_rng N (fun i => PyData.bool (p i)) (h - 1) (by omega) (by omega)
  generalize ((List.range N).map fun i => PyData.bool (p i)) = L0 at *
  have hz : 2 < lim := by decide
  cases hp : p h with
  | false =>
    have e : td p (h + 1) = td p h := by rw [td, hp]; rfl
    rw [e]
    rw [hp] at b1
    simp [b_law_tides_1, b1]
  | true =>
    rw [hp] at b1
    cases hq : (decide (0 < h) && p (h - 1)) with
    | true =>
      obtain ⟨F, a, hF⟩ := i2 hq
      have e : td p (h + 1) = F ++ [(a, k)] := by
        rw [td, hp, hq, hF, hk]
        simp
      rw [e, hF, ← hk]
      simp only [List.map_append, List.map_cons, List.map_nil]
      have a1 := at_last (F.map pr) (pr (a, k - 1))
      have a2 := ix_last (F.map pr).length
      have a3 : (F.map pr ++ [pr (a, k - 1)]).length = (F.map pr).length + 1 := by simp
      have a4 : (F.map pr ++ [pr (a, k - 1)]).set (F.map pr).length (pr (a, k)) = F.map pr ++ [pr (a, k)] := by simp
      generalize F.map pr ++ [pr (a, k - 1)] = L at *
      generalize (F.map pr).length = n at *
      have a4' : L.set n (PyData.tuple [.int a, .int k]) = F.map pr ++ [pr (a, k)] := a4
      have a1' : L2.atI L (-1) = some (PyData.tuple [.int a, .int (k - 1)]) := a1
      have hq' : 0 < h ∧ p (h - 1) = true := by simpa using hq
      have hk0 : 0 < k := by omega
      have b2' := b2 hq'.1
      rw [hq'.2] at b2'
      simp [b_law_tides_1, b1, b2', hk0, a1', a2, a3, a4', hz]
    | false =>
      have e : td p (h + 1) = td p h ++ [(k, k)] := by
        rw [td, hp, hq, hk]
        rfl
      have hlm : ((td p h).map pr).length < lim := by
        have : lim = 1000000 := rfl
        simp
        omega
      rw [e, List.map_append]
      generalize (td p h).map pr = L at *
      by_cases h0 : 0 < h
      · have hp0 : p (h - 1) = false := by simpa [h0] using hq
        have b2' := b2 h0
        rw [hp0] at b2'
        have hk0 : 0 < k := by omega
        simp [b_law_tides_1, b1, b2', hk0, hz, hlm, pr]
      · have hk0 : ¬ 0 < k := by omega
        simp [b_law_tides_1, b1, hk0, hz, hlm, pr]
theorem law_tides_eq (p : Nat → Bool) (N : Nat) (hN : N < 200) : e_law_tides [.list ((List.range N).map fun i => .bool (p i))] = some (.list ((td p N).map pr)) := by
  have h0 : 0 < lim := by decide
  have hlen : (((List.range N).map fun i => PyData.bool (p i)).length : Int) = N := by simp
  have hb := fun h hh k hk => ltides_body p N h hh hN (k := k) hk
  generalize ((List.range N).map fun i => PyData.bool (p i)) = L0 at *
  have e1 : exS G_law_tides (.set 1 (.lst [])) [some (.list L0), none, none] = some (.nx [some (.list L0), some (.list []), none]) := by
    simp [h0]
  have e2 := for_rng (Γ := G_law_tides) (t := .nm 2) (es := [(.prim (.len) [(.var 0)])]) (b := b_law_tides_1) (os := [1]) (env := [some (.list L0), some (.list []), none]) (n := N) (k := (L0.length : Int)) (by simp) hlen (by omega)
  obtain ⟨e, g1, g2, y, rfl⟩ := forR_go (f := fun d env => (bindT (.nm 2) d env).bind fun e1 => exB G_law_tides b_law_tides_1 e1) 0 N (fun j e => j ≤ N ∧ ∃ y, e = [some (.list L0), some (.list ((td p j).map pr)), y]) (by
    rintro j env hj ⟨_, y, rfl⟩
    exact ⟨_, hb j hj (0 + (j : Int)) (by omega), by omega, _, rfl⟩) [some (.list L0), some (.list []), none] ⟨by omega, none, rfl⟩
  exact run_rt rfl rfl ((exB_nx e1).trans ((exB_nx (e2.trans g1)).trans (exB_rt (exS_ret rfl))))
end Qk04
namespace Qk04
open PySem PySem.Spec PyProof.Rows L2 Ev
theorem for_rng2b {Γ : List FnI} {t : Tg} {es : List PX} {b : List SX} {os : List Nat} {env : Ev.Env} {n : Nat} {k m : Int} (h1 : evL Γ es env = some [.int k, .int m]) (hk : 0 ≤ k) (hm : m = k + n) (hn : k + n < 1000000) : exS Γ (.for t .range es b os) env = forD (fun d env => (bindT t d env).bind fun e1 => exB Γ b e1) (upto k n) env := by
  subst hm
  refine exS_for h1 ?_
  rw [itm_rng2, rngm_ok (by omega) (by omega), rngm_ok (by omega) (by omega), if_pos (by rfl)]
  rw [show (k + (n : Int) - k).toNat = n by omega]
def oi : Option Int → D
  | some i => .int i
  | none => .none
def nxt (p : Nat → Bool) (n h : Nat) : Option Nat := (List.range n).find? fun j => p (h + j)
theorem next_body {dep : List Int} (hd : 1 ≤ dep.length) (dr : Int) (h j : Nat) {k i : Int} (hk : k = h) (hi : i = j) : exB G_next_passing b_next_passing_1 [some (HH dep), some (.int dr), some (.int k), some (.int i)] = if pp dep dr (h + j) then some (.rt (.int (k + i))) else some (.nx [some (HH dep), some (.int dr), some (.int k), some (.int i)]) := by
  have hc := can_pass_eq hd dr (h + j) (k := k + i) (by omega)
  have hc' : e_can_pass [HH dep, .int dr, .int (k + i)] = some (.bool (pp dep dr (h + j))) := hc
  cases hp : pp dep dr (h + j) with
  | true =>
    rw [hp] at hc'
    simp [b_next_passing_1, G_next_passing, i_can_pass, hc']
  | false =>
    rw [hp] at hc'
    simp [b_next_passing_1, G_next_passing, i_can_pass, hc']
theorem next_eq {dep : List Int} (hd : 1 ≤ dep.length) (hd2 : dep.length ≤ 12) (dr : Int) (h : Nat) {k : Int} (hk : k = h) : e_next_passing [HH dep, .int dr, .int k] = some (oi ((nxt (pp dep dr) dep.length h).map fun j => k + (j : Int))) := by
  have hs := search (f := fun d env => (bindT (.nm 3) d env).bind fun e1 => exB G_next_passing b_next_passing_1 e1) 0 dep.length (fun j => pp dep dr (h + j)) (fun j => .int (k + (0 + (j : Int)))) (fun e => ∃ y, e = [some (HH dep), some (.int dr), some (.int k), y]) (by
    rintro j hj env ⟨y, rfl⟩
    have hb := next_body hd dr h j hk (i := 0 + (j : Int)) (by omega)
    constructor
    · intro hp
      have hp2 : pp dep dr (h + j) = true := hp
      rw [hp2, if_pos rfl] at hb
      exact hb
    · intro hp
      have hp2 : pp dep dr (h + j) = false := hp
      rw [hp2, if_neg (by decide)] at hb
      exact ⟨_, hb, _, rfl⟩) [some (HH dep), some (.int dr), some (.int k), none] ⟨_, rfl⟩
  have e2 := for_rng (Γ := G_next_passing) (t := .nm 3) (es := [(.prim (.len) [(.idx (.var 0) (.int (0)))])]) (b := b_next_passing_1) (os := []) (env := [some (HH dep), some (.int dr), some (.int k), none]) (n := dep.length) (k := (dep.length : Int)) (by simp [HH]) rfl (by omega)
  unfold nxt
  rcases hs with ⟨j, h1, h2⟩ | ⟨h1, e, h2, y, rfl⟩
  · rw [h1]
    refine run_rt rfl rfl ((exB_rt (e2.trans h2)).trans ?_)
    rw [show (0 : Int) + (j : Int) = j by omega]
    rfl
  · rw [h1]
    exact run_rt rfl rfl ((exB_nx (e2.trans h2)).trans (exB_rt (exS_ret rfl)))
theorem lnext_eq (p : Nat → Bool) (N : Nat) (hN : N < 200) (h : Nat) (hh : h ≤ N) {k : Int} (hk : k = h) : e_law_next [.list ((List.range N).map fun i => .bool (p i)), .int k] = some (oi ((nxt p (N - h) h).map fun j => k + (j : Int))) := by
  have hlen : (((List.range N).map fun i => PyData.bool (p i)).length : Int) = k + ((N - h : Nat) : Int) := by
    simp
    omega
  have b1 : ∀ j, j < N - h → L2.atI ((List.range N).map fun i => PyData.bool (p i)) (k + (j : Int)) = some (.bool (p (h + j))) := fun j hj => at_rng N (fun i => PyData.bool (p i)) (h + j) (by omega) (by omega)
  generalize ((List.range N).map fun i => PyData.bool (p i)) = L0 at *
  have hs := search (f := fun d env => (bindT (.nm 2) d env).bind fun e1 => exB G_law_next b_law_next_1 e1) k (N - h) (fun j => p (h + j)) (fun j => .int (k + (j : Int))) (fun e => ∃ y, e = [some (.list L0), some (.int k), y]) (by
    rintro j hj env ⟨y, rfl⟩
    have hb := b1 j hj
    generalize k + (j : Int) = i at *
    constructor
    · intro hp
      have hp2 : p (h + j) = true := hp
      rw [hp2] at hb
      simp [b_law_next_1, hb]
    · intro hp
      have hp2 : p (h + j) = false := hp
      rw [hp2] at hb
      refine ⟨[some (.list L0), some (.int k), some (.int i)], ?_, _, rfl⟩
      simp [b_law_next_1, hb]) [some (.list L0), some (.int k), none] ⟨_, rfl⟩
  have e2 := for_rng2b (Γ := G_law_next) (t := .nm 2) (es := [(.var 1), (.prim (.len) [(.var 0)])]) (b := b_law_next_1) (os := []) (env := [some (.list L0), some (.int k), none]) (n := N - h) (k := k) (m := (L0.length : Int)) (by simp) (by omega) hlen (by omega)
  unfold nxt
  rcases hs with ⟨j, h1, h2⟩ | ⟨h1, e, h2, y, rfl⟩
  · rw [h1]
    exact run_rt rfl rfl (exB_rt (e2.trans h2))
  · rw [h1]
    exact run_rt rfl rfl ((exB_nx (e2.trans h2)).trans (exB_rt (exS_ret rfl)))
theorem fst_eq (q : Nat → Bool) (n N : Nat) (hn : n ≤ N) (h : ∀ j, j < N → q j = true → ∃ i, i < n ∧ q i = true) : (List.range N).find? q = (List.range n).find? q := by
  cases e : (List.range n).find? q with
  | some j =>
    rw [List.find?_range_eq_some] at e ⊢
    exact ⟨e.1, List.mem_range.mpr (by have := List.mem_range.mp e.2.1; omega), e.2.2⟩
  | none =>
    rw [List.find?_eq_none] at e ⊢
    intro x hx hq
    obtain ⟨i, hi, hqi⟩ := h x (List.mem_range.mp hx) hq
    exact e i (List.mem_range.mpr hi) hqi
theorem pp_per {dep : List Int} (hd : 1 ≤ dep.length) (dr : Int) (h j : Nat) : pp dep dr (h + j % dep.length) = pp dep dr (h + j) := by
  unfold pp
  rw [← vv_mod dep (h + j % dep.length), Nat.add_mod_mod, vv_mod]
theorem nxt_eq {dep : List Int} (hd : 1 ≤ dep.length) (dr : Int) (N h : Nat) (hN : dep.length ≤ N) : nxt (pp dep dr) N h = nxt (pp dep dr) dep.length h := by
  unfold nxt
  refine fst_eq _ _ _ hN fun j _ hq => ⟨j % dep.length, Nat.mod_lt _ hd, ?_⟩
  rw [pp_per hd]
  exact hq
theorem next_both {dep : List Int} (hd : 1 ≤ dep.length) (hd2 : dep.length ≤ 12) (dr : Int) (h : Nat) (hh : h ≤ 88) {k : Int} (hk : k = h) : e_law_next [.list ((List.range 100).map fun i => .bool (pp dep dr i)), .int k] = some (oi ((nxt (pp dep dr) dep.length h).map fun j => k + (j : Int))) := by
  rw [lnext_eq (pp dep dr) 100 (by omega) h (by omega) hk, nxt_eq hd dr (100 - h) h (by omega)]
/-- the waits -/
def IsMax (f : Nat → Int) (n : Nat) (M : Int) : Prop := (∃ h, h < n ∧ f h = M) ∧ ∀ h, h < n → f h ≤ M
theorem maxI_in : ∀ (r : List Int) (m : Int), maxI m r ∈ m :: r ∧ ∀ x ∈ m :: r, x ≤ maxI m r
  | [], m => by simp [maxI]
  | y :: r, m => by
    obtain ⟨h1, h2⟩ := maxI_in r (if y > m then y else m)
    have e : maxI m (y :: r) = maxI (if y > m then y else m) r := rfl
    rw [e]
    have h3 := h2 _ List.mem_cons_self
    constructor
    · rcases List.mem_cons.mp h1 with h | h
      · rw [h]
        by_cases hy : y > m
        · rw [if_pos hy]; simp
        · rw [if_neg hy]; simp
      · simp [h]
    · intro x hx
      rcases List.mem_cons.mp hx with rfl | hx
      · by_cases hy : y > x
        · rw [if_pos hy] at h3 ⊢; omega
        · rw [if_neg hy] at h3 ⊢; omega
      · rcases List.mem_cons.mp hx with rfl | hx
        · by_cases hy : x > m
          · rw [if_pos hy] at h3 ⊢; omega
          · rw [if_neg hy] at h3 ⊢; omega
        · exact h2 x (List.mem_cons_of_mem _ hx)
theorem max_ints (l : List Int) (hl : 1 ≤ l.length) : ∃ M, primD .max [.list (l.map .int)] = some (.int M) ∧ M ∈ l ∧ ∀ x ∈ l, x ≤ M := by
  cases l with
  | nil => simp at hl
  | cons m r => exact ⟨maxI m r, max_list, maxI_in r m⟩
theorem max_rng (f : Nat → Int) (n : Nat) (hn : 1 ≤ n) : ∃ M, primD .max [.list ((List.range n).map fun h => .int (f h))] = some (.int M) ∧ IsMax f n M := by
  obtain ⟨M, h1, h2, h3⟩ := max_ints ((List.range n).map f) (by simpa using hn)
  rw [List.map_map] at h1
  refine ⟨M, h1, ?_, fun h hh => h3 _ (List.mem_map.mpr ⟨h, List.mem_range.mpr hh, rfl⟩)⟩
  obtain ⟨h, hh, e⟩ := List.mem_map.mp h2
  exact ⟨h, List.mem_range.mp hh, e⟩
def ww (p : Nat → Bool) (n h : Nat) : Int := (((nxt p n h).getD 0 : Nat) : Int)
def GW (p : Nat → Bool) (n : Nat) (o : Option Int) : Prop := (o = none ∧ ∀ h, p h = false) ∨ (∃ M, o = some M ∧ (∃ h, p h = true) ∧ IsMax (ww p n) n M)
theorem GW_one {p : Nat → Bool} {n : Nat} {o q : Option Int} (h : GW p n o) (g : GW p n q) : o = q := by
  rcases h with ⟨rfl, h⟩ | ⟨M, rfl, ⟨i, hi⟩, ⟨a, ha, ea⟩, hM⟩ <;> rcases g with ⟨rfl, g⟩ | ⟨K, rfl, ⟨j, hj⟩, ⟨b, hb, eb⟩, hK⟩
  · rfl
  · rw [h j] at hj; exact absurd hj (by decide)
  · rw [g i] at hi; exact absurd hi (by decide)
  · have := hM b hb
    have := hK a ha
    congr 1
    omega
end Qk04
namespace Qk04
open PySem PySem.Spec PyProof.Rows L2 Ev
theorem vv_mem {dep : List Int} (hd : 1 ≤ dep.length) (h : Nat) : vv dep h ∈ dep := by
  have hm2 : h % dep.length < dep.length := Nat.mod_lt _ hd
  unfold vv
  rw [List.getD_eq_getElem?_getD, List.getElem?_eq_getElem hm2]
  exact List.getElem_mem hm2
theorem mem_vv {dep : List Int} {x : Int} (hx : x ∈ dep) : ∃ h, vv dep h = x := by
  obtain ⟨i, hi, e⟩ := List.mem_iff_getElem.mp hx
  refine ⟨i, ?_⟩
  unfold vv
  rw [Nat.mod_eq_of_lt hi, List.getD_eq_getElem?_getD, List.getElem?_eq_getElem hi]
  exact e
theorem nxt_some {dep : List Int} (hd : 1 ≤ dep.length) {dr : Int} (hp : ∃ h, pp dep dr h = true) (h : Nat) : ∃ j, nxt (pp dep dr) dep.length h = some j := by
  obtain ⟨i, hi⟩ := hp
  cases e : nxt (pp dep dr) dep.length h with
  | some j => exact ⟨j, rfl⟩
  | none =>
    unfold nxt at e
    rw [List.find?_eq_none] at e
    have hn : ∃ j, j < dep.length ∧ (h + j) % dep.length = i % dep.length := by
      refine ⟨(i % dep.length + dep.length - h % dep.length) % dep.length, Nat.mod_lt _ hd, ?_⟩
      have h1 := Nat.mod_lt h hd
      rw [Nat.add_mod_mod, ← Nat.mod_add_mod, show h % dep.length + (i % dep.length + dep.length - h % dep.length) = i % dep.length + dep.length by omega, Nat.add_mod_right, Nat.mod_mod]
    obtain ⟨j, hj, ej⟩ := hn
    have := e j (List.mem_range.mpr hj)
    unfold pp at hi this
    rw [← vv_mod, ej, vv_mod] at this
    exact absurd hi this
theorem nxt_none {dep : List Int} {dr : Int} (hp : ∀ h, pp dep dr h = false) (n h : Nat) : nxt (pp dep dr) n h = none := by
  unfold nxt
  rw [List.find?_eq_none]
  intro x _
  rw [hp]
  decide
theorem gw_cell {H : D} {dr k i : Int} {x : Option D} (h : e_next_passing [H, .int dr, .int k] = some (.int (k + i))) : cellF G_greatest_wait (.bin .sub (.call 0 [(.var 0), (.var 1), (.var 2)] []) (.var 2)) (.nm 2) .nop [("hour", 2)] [some H, some (.int dr), x] (.int k) = some (some (.int i)) := by
  have hki : k + i - k = i := by omega
  simp [G_greatest_wait, i_next_passing, h, hki]
theorem gw_comp {dep : List Int} (hd : 1 ≤ dep.length) (hd2 : dep.length ≤ 12) {dr : Int} (hp : ∃ h, pp dep dr h = true) : evE G_greatest_wait c_greatest_wait_1 [some (HH dep), some (.int dr), none] = some (.list ((List.range dep.length).map fun h => .int (ww (pp dep dr) dep.length h))) := by
  refine comp_rng (n := dep.length) (k := (dep.length : Int)) _ (by simp [HH]) rfl (by omega) ?_
  intro j hj
  obtain ⟨i, hi⟩ := nxt_some hd hp j
  have h1 := next_eq hd hd2 dr j (k := (j : Int)) rfl
  have h2 : ww (pp dep dr) dep.length j = i := by unfold ww; rw [hi]; rfl
  rw [hi] at h1
  have h1' : e_next_passing [HH dep, .int dr, .int (j : Int)] = some (.int ((j : Int) + (i : Int))) := h1
  rw [h2]
  exact gw_cell h1'
theorem gw_eq {dep : List Int} (hd : 1 ≤ dep.length) (hd2 : dep.length ≤ 12) (dr : Int) : ∃ o, e_greatest_wait [HH dep, .int dr] = some (oi o) ∧ GW (pp dep dr) dep.length o := by
  obtain ⟨m, h1, h2, h3⟩ := max_ints dep hd
  by_cases hm : m < dr
  · refine ⟨none, ?_, .inl ⟨rfl, fun h => ?_⟩⟩
    · refine run_rt rfl rfl ?_
      simp [b_greatest_wait, HH, h1, hm, oi]
    · have := h3 _ (vv_mem hd h)
      unfold pp
      exact decide_eq_false (by omega)
  · have hp : ∃ h, pp dep dr h = true := by
      obtain ⟨h, e⟩ := mem_vv h2
      exact ⟨h, decide_eq_true (by omega)⟩
    obtain ⟨M, g1, g2⟩ := max_rng (ww (pp dep dr) dep.length) dep.length hd
    refine ⟨some M, ?_, .inr ⟨M, rfl, hp, g2⟩⟩
    have hc := gw_comp hd hd2 hp
    have e1 : exS G_greatest_wait (.ite (.cmp .gt (.var 1) (.prim (.max) [(.idx (.var 0) (.int (0)))])) [ .ret .non] []) [some (HH dep), some (.int dr), none] = some (.nx [some (HH dep), some (.int dr), none]) := by
      simp [HH, h1, hm]
    refine run_rt rfl rfl ((exB_nx e1).trans (exB_rt (exS_ret ?_)))
    rw [evE, evL, hc, evL]
    exact g1
theorem ww_per {dep : List Int} (hd : 1 ≤ dep.length) (dr : Int) (h : Nat) : ww (pp dep dr) dep.length (h % dep.length) = ww (pp dep dr) dep.length h := by
  unfold ww nxt
  congr 3
  funext j
  unfold pp
  rw [← vv_mod, Nat.mod_add_mod, vv_mod]
def deep (dep : List Int) (dr : Int) : List D := (List.range 100).map fun i => .bool (pp dep dr i)
theorem waits_cell {L : List D} {k i : Int} {F : List Int} {y : Option D} (hlm : F.length < lim) (h : e_law_next [.list L, .int k] = some (.int (k + i))) : exB G_law_waits b_law_waits_1 [some (.list L), some (.list (F.map .int)), some (.int k), y] = some (.nx [some (.list L), some (.list ((F ++ [i]).map .int)), some (.int k), some (.int (k + i))]) := by
  have hki : k + i - k = i := by omega
  simp [b_law_waits_1, G_law_waits, i_law_next, h, hlm, hki]
theorem forD_rt {f : D → Ev.Env → Option Out} {d : D} {r : List D} {env : Ev.Env} {x : D} (h : f d env = some (.rt x)) : forD f (d :: r) env = some (.rt x) := by
  rw [forD, h]
theorem body_nm {Γ : List FnI} {i : Nat} {d : D} {env : Ev.Env} {b : List SX} {o : Option Out} (h : exB Γ b (env.set i (some d)) = o) : ((bindT (.nm i) d env).bind fun e1 => exB Γ b e1) = o := h
theorem waits_body {dep : List Int} (hd : 1 ≤ dep.length) (hd2 : dep.length ≤ 12) {dr : Int} (h : Nat) (hh : h < 12) {k : Int} (hk : k = h) (F : List Int) (hF : F.length = h) (y : Option D) : exB G_law_waits b_law_waits_1 [some (.list (deep dep dr)), some (.list (F.map .int)), some (.int k), y] = match nxt (pp dep dr) dep.length h with
    | some j => some (.nx [some (.list (deep dep dr)), some (.list ((F ++ [(j : Int)]).map .int)), some (.int k), some (.int (k + j))])
    | none => some (.rt .none) := by
  have hc := next_both hd hd2 dr h (by omega) hk
  have hc' : e_law_next [.list (deep dep dr), .int k] = some (oi ((nxt (pp dep dr) dep.length h).map fun j => k + (j : Int))) := hc
  generalize deep dep dr = L at *
  have hlm : F.length < lim := by
    have : lim = 1000000 := rfl
    omega
  cases e : nxt (pp dep dr) dep.length h with
  | none =>
    rw [e] at hc'
    have hc2 : e_law_next [.list L, .int k] = some .none := hc'
    simp [b_law_waits_1, G_law_waits, i_law_next, hc2]
  | some j =>
    rw [e] at hc'
    have hc2 : e_law_next [.list L, .int k] = some (.int (k + (j : Int))) := hc'
    exact waits_cell hlm hc2
theorem waits_eq {dep : List Int} (hd : 1 ≤ dep.length) (hd2 : dep.length ≤ 12) (dr : Int) : ∃ o, e_law_waits [.list (deep dep dr)] = some (oi o) ∧ GW (pp dep dr) dep.length o := by
  have h0 : 0 < lim := by decide
  have hb := fun h hh k hk F hF y => waits_body hd hd2 (dr := dr) h hh (k := k) hk F hF y
  generalize deep dep dr = L at *
  have e1 : exS G_law_waits (.set 1 (.lst [])) [some (.list L), none, none, none] = some (.nx [some (.list L), some (.list []), none, none]) := by
    simp [h0]
  have e2 := for_rng (Γ := G_law_waits) (t := .nm 2) (es := [(.int (12))]) (b := b_law_waits_1) (os := [1]) (env := [some (.list L), some (.list []), none, none]) (n := 12) (k := 12) (by simp) rfl (by omega)
  by_cases hp : ∃ h, pp dep dr h = true
  · obtain ⟨e, g1, -, x, y, rfl⟩ := forR_go (f := fun d env => (bindT (.nm 2) d env).bind fun e1 => exB G_law_waits b_law_waits_1 e1) 0 12 (fun j e => j ≤ 12 ∧ ∃ x y, e = [some (.list L), some (.list (((List.range j).map (ww (pp dep dr) dep.length)).map .int)), x, y]) (by
      rintro j env hj ⟨_, x, y, rfl⟩
      have hbj := hb j hj (0 + (j : Int)) (by omega) ((List.range j).map (ww (pp dep dr) dep.length)) (by simp) y
      obtain ⟨i, hi⟩ := nxt_some hd hp j
      have h2 : ww (pp dep dr) dep.length j = i := by unfold ww; rw [hi]; rfl
      rw [hi] at hbj
      have hl : (List.range (j + 1)).map (ww (pp dep dr) dep.length) = (List.range j).map (ww (pp dep dr) dep.length) ++ [(i : Int)] := by
        rw [List.range_succ, List.map_append, ← h2]
        rfl
      have hbj' : exB G_law_waits b_law_waits_1 [some (.list L), some (.list (((List.range j).map (ww (pp dep dr) dep.length)).map .int)), some (.int (0 + (j : Int))), y] = some (.nx [some (.list L), some (.list (((List.range j).map (ww (pp dep dr) dep.length) ++ [(i : Int)]).map .int)), some (.int (0 + (j : Int))), some (.int (0 + (j : Int) + (i : Int)))]) := hbj
      exact ⟨[some (.list L), some (.list (((List.range j).map (ww (pp dep dr) dep.length) ++ [(i : Int)]).map .int)), some (.int (0 + (j : Int))), some (.int (0 + (j : Int) + (i : Int)))], body_nm hbj', by omega, some (.int (0 + (j : Int))), some (.int (0 + (j : Int) + (i : Int))), by rw [hl]⟩) [some (.list L), some (.list []), none, none] ⟨by omega, none, none, rfl⟩
    obtain ⟨M, m1, ⟨a, ha, ea⟩, m3⟩ := max_rng (ww (pp dep dr) dep.length) 12 (by omega)
    refine ⟨some M, run_rt rfl rfl ((exB_nx e1).trans ((exB_nx (e2.trans g1)).trans (exB_rt (exS_ret ?_)))), .inr ⟨M, rfl, hp, ⟨a % dep.length, Nat.mod_lt _ hd, ?_⟩, fun h hh => m3 h (by omega)⟩⟩
    · rw [List.map_map]
      exact m1
    · rw [ww_per hd, ea]
  · have hp' : ∀ h, pp dep dr h = false := fun h => by
      cases e : pp dep dr h with
      | false => rfl
      | true => exact absurd ⟨h, e⟩ hp
    have hb0 := hb 0 (by omega) 0 rfl [] rfl none
    rw [nxt_none hp'] at hb0
    have hb0' : exB G_law_waits b_law_waits_1 [some (.list L), some (.list []), some (.int 0), none] = some (.rt .none) := hb0
    have g1 : forD (fun d env => (bindT (.nm 2) d env).bind fun e1 => exB G_law_waits b_law_waits_1 e1) (upto 0 12) [some (.list L), some (.list []), none, none] = some (.rt .none) :=
      forD_rt (d := .int 0) (r := upto (0 + 1) 11) (body_nm hb0')
    exact ⟨none, run_rt rfl rfl ((exB_nx e1).trans (exB_rt (e2.trans g1))), .inl ⟨rfl, hp'⟩⟩
theorem gw_mono {dep : List Int} (hd : 1 ≤ dep.length) {dr : Int} {o q : Option Int} (h : GW (pp dep dr) dep.length o) (g : GW (pp dep (dr + 1)) dep.length q) : (o = none → q = none) ∧ ∀ M K, o = some M → q = some K → M ≤ K := by
  have hpp : ∀ i, pp dep (dr + 1) i = true → pp dep dr i = true := fun i hi => by
    unfold pp at hi ⊢
    have := of_decide_eq_true hi
    exact decide_eq_true (by omega)
  rcases h with ⟨rfl, h⟩ | ⟨M, rfl, hp, ⟨a, ha, ea⟩, hM⟩ <;> rcases g with ⟨rfl, g⟩ | ⟨K, rfl, hq, hq1, hK⟩
  · exact ⟨fun _ => rfl, by simp⟩
  · obtain ⟨j, hj⟩ := hq
    have := hpp j hj
    rw [h j] at this
    exact absurd this (by decide)
  · exact ⟨by simp, by simp⟩
  · refine ⟨by simp, ?_⟩
    intro M' K' e1 e2
    have e1' : M = M' := Option.some.inj e1
    have e2' : K = K' := Option.some.inj e2
    subst e1' e2'
    obtain ⟨i, hi⟩ := nxt_some hd hp a
    obtain ⟨j, hj⟩ := nxt_some hd hq a
    have k1 : ww (pp dep dr) dep.length a = i := by unfold ww; rw [hi]; rfl
    have k2 : ww (pp dep (dr + 1)) dep.length a = j := by unfold ww; rw [hj]; rfl
    have := hK a ha
    unfold nxt at hi hj
    rw [List.find?_range_eq_some] at hi hj
    have hij : i ≤ j := by
      rcases Nat.lt_or_ge j i with hlt | hge
      · have q1 := hi.2.2 j hlt
        rw [hpp _ hj.1] at q1
        exact absurd q1 (by decide)
      · exact hge
    omega
end Qk04
namespace Qk04
open PySem PySem.Spec PyProof.Rows L2 Ev
theorem strOk_app (a b : Str) : PyData.strOk (a ++ b) = (PyData.strOk a && PyData.strOk b) := by
  unfold PyData.strOk
  have e : (a ++ b).cps = a.cps ++ b.cps := rfl
  rw [e, Array.all_append]
theorem strOk_of (s : String) : PyData.strOk (Str.ofString s) = true := by
  unfold PyData.strOk
  rw [Str.ofString_eq_toList]
  simp only [List.all_toArray, List.all_map, List.all_eq_true, Function.comp]
  intro c _
  have := c.valid
  refine decide_eq_true ?_
  rcases this with h | ⟨_, h⟩
  · have : c.toNat < 0xd800 := h
    omega
  · exact h
theorem strOk_from : ∀ (ts : List Str) (k : Nat) (acc : Str), PyData.strOk acc = true → (∀ t ∈ ts, PyData.strOk t = true) → PyData.strOk (textFrom k acc ts) = true
  | [], _, acc, h, _ => h
  | t :: r, k, acc, h, hr => by
    refine strOk_from r (k + 1) _ ?_ fun x hx => hr x (List.mem_cons_of_mem _ hx)
    rw [strOk_app, strOk_app, h, hr t List.mem_cons_self, strOk_of]
    rfl
theorem strOk_join : ∀ ts : List Str, (∀ t ∈ ts, PyData.strOk t = true) → PyData.strOk (Str.join ", " ts) = true
  | [], _ => by simp [Str.join, PyData.strOk, Str.empty]
  | [x], h => h x List.mem_cons_self
  | x :: y :: r, h => by
    show PyData.strOk (x ++ ", " ++ Str.join ", " (y :: r)) = true
    rw [strOk_app, strOk_app, h x List.mem_cons_self, strOk_join (y :: r) fun t ht => h t (List.mem_cons_of_mem _ ht), strOk_of]
    rfl
theorem strOk_list (ts : List Str) (h : ∀ t ∈ ts, PyData.strOk t = true) : PyData.strOk (listText ts) = true := by
  unfold listText
  rw [strOk_app, strOk_from ts 0 _ (strOk_of _) h, strOk_of]
  rfl
theorem strOk_tuple (ts : List Str) (h : ∀ t ∈ ts, PyData.strOk t = true) : PyData.strOk (tupleText ts) = true := by
  unfold tupleText
  rw [strOk_app, strOk_app, strOk_join ts h, strOk_of, strOk_of]
  rfl
mutual
def bare : D → Bool
  | .list xs => bareAll xs
  | .tuple xs => bareAll xs
  | .str _ => false
  | .dict _ => false
  | .int i => decide (-1000000 ≤ i) && decide (i ≤ 1000000)
  | _ => true
def bareAll : List D → Bool
  | [] => true
  | x :: r => bare x && bareAll r
end
mutual
theorem strOk_shown : ∀ d : D, bare d = true → PyData.strOk d.shown = true
  | .none, _ => by rw [PyData.shown]; exact strOk_of _
  | .bool b, _ => by cases b <;> rw [PyData.shown] <;> exact strOk_of _
  | .int i, _ => by rw [PyData.shown]; exact strOk_of _
  | .str x, h => by simp [bare] at h
  | .dict x, h => by simp [bare] at h
  | .list xs, h => by
    rw [PyData.shown]
    exact strOk_list _ (strOk_shownAll xs (by simpa [bare] using h))
  | .tuple xs, h => by
    rw [PyData.shown]
    exact strOk_tuple _ (strOk_shownAll xs (by simpa [bare] using h))
theorem strOk_shownAll : ∀ xs : List D, bareAll xs = true → ∀ t ∈ PyData.shownAll xs, PyData.strOk t = true
  | [], _ => by simp [PyData.shownAll]
  | x :: r, h => by
    have h' : bare x = true ∧ bareAll r = true := by simpa [bareAll] using h
    intro t ht
    rw [PyData.shownAll] at ht
    rcases List.mem_cons.mp ht with rfl | ht
    · exact strOk_shown x h'.1
    · exact strOk_shownAll r h'.2 t ht
end
theorem small_log {i : Int} (h1 : -1000000 ≤ i) (h2 : i ≤ 1000000) : i.natAbs.log2 < 20 := by
  by_cases h0 : i.natAbs = 0
  · rw [h0]; decide
  · rw [Nat.log2_lt h0]
    omega
mutual
theorem bare_showable : ∀ d : D, bare d = true → d.showable = true ∧ d.hasDict = false ∧ d.leavesShort 13 = true ∧ d.canLay0 = true
  | .none, _ => by simp [PyData.showable, PyData.hasDict, PyData.leavesShort, PyData.canLay0]
  | .bool b, _ => by simp [PyData.showable, PyData.hasDict, PyData.leavesShort, PyData.canLay0]
  | .int i, h => by
    have h' : -1000000 ≤ i ∧ i ≤ 1000000 := by simpa [bare] using h
    have h2 := small_log h'.1 h'.2
    have h3 := PyData.shown_int_le2 (i := i) (by omega) (by omega)
    refine ⟨?_, ?_, ?_, ?_⟩
    · rw [PyData.showable]
      exact decide_eq_true (by omega)
    · rw [PyData.hasDict]
    · rw [PyData.leavesShort]
      exact decide_eq_true h3
    · rw [PyData.canLay0]
  | .str x, h => by simp [bare] at h
  | .dict x, h => by simp [bare] at h
  | .list xs, h => by
    obtain ⟨h1, h2, h3, h4⟩ := bare_showableAll xs (by simpa [bare] using h)
    exact ⟨by rw [PyData.showable, h1], by rw [PyData.hasDict, h2], by rw [PyData.leavesShort, h3], by rw [PyData.canLay0, h4]⟩
  | .tuple xs, h => by
    obtain ⟨h1, h2, h3, h4⟩ := bare_showableAll xs (by simpa [bare] using h)
    exact ⟨by rw [PyData.showable, h1], by rw [PyData.hasDict, h2], by rw [PyData.leavesShort, h3], by rw [PyData.canLay0, h4]⟩
theorem bare_showableAll : ∀ xs : List D, bareAll xs = true → PyData.showableAll xs = true ∧ PyData.hasDictAll xs = false ∧ PyData.leavesShortAll 13 xs = true ∧ PyData.canLayAll0 xs = true
  | [], _ => by simp [PyData.showableAll, PyData.hasDictAll, PyData.leavesShortAll, PyData.canLayAll0]
  | x :: r, h => by
    have h' : bare x = true ∧ bareAll r = true := by simpa [bareAll] using h
    obtain ⟨h1, h2, h3, h4⟩ := bare_showable x h'.1
    obtain ⟨g1, g2, g3, g4⟩ := bare_showableAll r h'.2
    exact ⟨by rw [PyData.showableAll, h1, g1]; rfl, by rw [PyData.hasDictAll, h2, g2]; rfl, by rw [PyData.leavesShortAll, h3, g3]; rfl, by rw [PyData.canLayAll0, h4, g4]; rfl⟩
end
/-- what repr says of such data -/
theorem repr_bare {d : D} (h : bare d = true) (hd : d.depth < 60) (hw : d.weight < 60000) : reprD d = some (.str d.shown) ∧ SeqAt.shaped (.str d.shown) = true := by
  obtain ⟨h1, h2, h3, h4⟩ := bare_showable d h
  have h5 := PyData.shown_le 13 (by omega) d h3
  have h6 : d.shown.length < lim := by
    have : lim = 1000000 := rfl
    omega
  constructor
  · unfold reprD
    rw [h1, h2, decide_eq_true hd, decide_eq_true h6]
    rfl
  · unfold SeqAt.shaped
    rw [PyData.canLay0, strOk_shown d h, PyData.depth]
    rfl
theorem shaped_bare {d : D} (h : bare d = true) (hd : d.depth ≤ 64) : SeqAt.shaped d = true := by
  unfold SeqAt.shaped
  rw [(bare_showable d h).2.2.2, decide_eq_true hd]
  rfl
theorem bare_ints : ∀ l : List Int, (∀ x ∈ l, -1000000 ≤ x ∧ x ≤ 1000000) → bareAll (l.map PyData.int) = true ∧ PyData.depthAll (l.map PyData.int) = 0 ∧ PyData.weightAll (l.map PyData.int) ≤ 21 * l.length
  | [], _ => by simp [bareAll, PyData.depthAll, PyData.weightAll]
  | x :: r, h => by
    obtain ⟨h1, h2, h3⟩ := bare_ints r fun y hy => h y (List.mem_cons_of_mem _ hy)
    have hx := h x List.mem_cons_self
    have hl := small_log hx.1 hx.2
    have hw : PyData.weight (.int x) ≤ 20 := by
      rw [PyData.weight]
      split <;> omega
    refine ⟨?_, ?_, ?_⟩
    · rw [List.map_cons, bareAll, bare, h1, decide_eq_true hx.1, decide_eq_true hx.2]
      rfl
    · rw [List.map_cons, PyData.depthAll, h2, PyData.depth]
      rfl
    · rw [List.map_cons, PyData.weightAll, List.length_cons]
      omega
theorem repr_HH {dep : List Int} (hd2 : dep.length ≤ 12) (hv : ∀ x ∈ dep, 0 ≤ x ∧ x < 9) : ∃ S, reprD (HH dep) = some (.str S) ∧ SeqAt.shaped (.str S) = true := by
  obtain ⟨h1, h2, h3⟩ := bare_ints dep fun x hx => by have := hv x hx; omega
  refine ⟨_, repr_bare ?_ ?_ ?_⟩
  · simp [HH, bare, bareAll, h1]
  · simp [HH, PyData.depth, PyData.depthAll, h2]
  · have l1 : Nat.log2 5 = 2 := by decide +kernel
    have l2 : Nat.log2 2 = 1 := by decide +kernel
    have l3 : Nat.log2 1 = 0 := by decide +kernel
    have l4 : Nat.log2 20 = 4 := by decide +kernel
    simp [HH, PyData.weight, PyData.weightAll, l1, l2, l3, l4]
    omega
end Qk04
namespace Qk04
open PySem PySem.Spec PyProof.Rows L2 Ev
theorem bare_prs : ∀ l : List (Int × Int), (∀ x ∈ l, (-1000000 ≤ x.1 ∧ x.1 ≤ 1000000) ∧ -1000000 ≤ x.2 ∧ x.2 ≤ 1000000) → bareAll (l.map pr) = true ∧ PyData.depthAll (l.map pr) ≤ 1
  | [], _ => by simp [bareAll, PyData.depthAll]
  | x :: r, h => by
    obtain ⟨h1, h2⟩ := bare_prs r fun y hy => h y (List.mem_cons_of_mem _ hy)
    have hx := h x List.mem_cons_self
    refine ⟨?_, ?_⟩
    · rw [List.map_cons, bareAll, h1, pr, bare, bareAll, bareAll, bareAll, bare, bare, decide_eq_true hx.1.1, decide_eq_true hx.1.2, decide_eq_true hx.2.1, decide_eq_true hx.2.2]
      rfl
    · rw [List.map_cons, PyData.depthAll]
      have : (pr x).depth = 1 := rfl
      omega
theorem canLay_prs : ∀ l : List (Int × Int), PyData.canLayAll0 (l.map pr) = true ∧ PyData.depthAll (l.map pr) ≤ 1
  | [] => by simp [PyData.canLayAll0, PyData.depthAll]
  | x :: r => by
    obtain ⟨h1, h2⟩ := canLay_prs r
    refine ⟨?_, ?_⟩
    · rw [List.map_cons, PyData.canLayAll0, h1]
      rfl
    · rw [List.map_cons, PyData.depthAll]
      have : (pr x).depth = 1 := rfl
      omega
theorem shaped_prs (l : List (Int × Int)) : SeqAt.shaped (.list (l.map pr)) = true := by
  obtain ⟨h1, h2⟩ := canLay_prs l
  unfold SeqAt.shaped
  rw [PyData.canLay0, h1, PyData.depth, decide_eq_true (by omega)]
  rfl
theorem shaped_oi (o : Option Int) : SeqAt.shaped (oi o) = true := by
  cases o <;> rfl
theorem isnone_oi (o : Option Int) : isNoneD (oi o) = o.isNone := by
  cases o <;> rfl
theorem cut_row {dep : List Int} (hd : 1 ≤ dep.length) : cutL (List.replicate 100 (dep.map PyData.int)).flatten none (some 100) = (List.range 100).map fun h => PyData.int (vv dep h) := by
  have hl0 : ∀ k : Nat, (List.replicate k (dep.map PyData.int)).flatten.length = k * dep.length := fun k => by simp
  have hl := hl0 100
  generalize hR : (List.replicate 100 (dep.map PyData.int)).flatten = R at *
  unfold cutL
  rw [HT.sIx_none, show (some 100 : Option Int) = some ((100 : Nat) : Int) from rfl, HT.sIx_nat, hl, show min 100 (100 * dep.length) - 0 = 100 by omega, List.drop_zero]
  refine List.ext_getElem? fun i => ?_
  by_cases hi : i < 100
  · rw [List.getElem?_take_of_lt hi, ← atI_lit, ← hR, row_at hd 100 i (by omega) rfl, ← atI_lit, at_rng 100 _ i hi rfl]
  · have n1 : (R.take 100).length ≤ i := by
      rw [List.length_take]
      omega
    have n2 : ((List.range 100).map fun h => PyData.int (vv dep h)).length ≤ i := by
      rw [List.length_map, List.length_range]
      omega
    rw [List.getElem?_eq_none n1, List.getElem?_eq_none n2]
theorem cut_deep (dep : List Int) (dr : Int) (n : Nat) (hn : n ≤ 100) {k : Int} (hk : k = n) : cutL (deep dep dr) none (some k) = (List.range n).map fun i => PyData.bool (pp dep dr i) := by
  subst hk
  unfold cutL deep
  rw [HT.sIx_none, HT.sIx_nat, List.drop_zero, ← List.map_take, List.take_range, List.length_map, List.length_range, show min (min n 100 - 0) 100 = n by omega]
theorem deep_at (dep : List Int) (dr : Int) (h : Nat) (hh : h < 100) {k : Int} (hk : k = h) : L2.atI (deep dep dr) k = some (.bool (pp dep dr h)) := at_rng 100 _ h hh hk
end Qk04
namespace Qk04
open PySem PySem.Spec PyProof.Rows L2 Ev
theorem evE_call {Γ : List FnI} {f : Nat} {es ks : List PX} {env : Ev.Env} {ds zs ws : List D} {F : FnI} {v : D} (e : List D → Option D) (h1 : evL Γ es env = some ds) (h2 : evL Γ ks env = some zs) (h3 : Γ[f]? = some F) (he : F.sem = e) (hw : ds ++ zs = ws) (h4 : e ws = some v) : evE Γ (.call f es ks) env = some v := by
  rw [evE, h1, h2, h3]
  show F.sem (ds ++ zs) = some v
  rw [he, hw, h4]
theorem law_body {a0 H : D} {M1 M2 row dp : List D} {S : Str} {dr u k : Int} {x9 x10 x11 x12 x13 x14 : Option D} {b : Bool} {w : D} (h1 : e_can_pass [H, .int dr, .int k] = some (.bool b)) (h2 : atI dp k = some (.bool b)) (h3 : e_next_passing [H, .int dr, .int k] = some w) (h4 : e_law_next [.list dp, .int k] = some w) (h5 : cmpD .ne w w = some (.bool false)) : exB G_law b_law_1 [some a0, some (.list M1), some (.list M2), some H, some (.str S), some (.int dr), some (.int u), some (.list row), some (.list dp), some (.int k), x10, x11, x12, x13, x14, none] = some (.nx [some a0, some (.list M1), some (.list M2), some H, some (.str S), some (.int dr), some (.int u), some (.list row), some (.list dp), some (.int k), x10, some w, x12, some (.bool b), some w, none]) := by
  simp [b_law_1, G_law, i_can_pass, i_next_passing, i_law_next, h1, h2, h3, h4, h5]
end Qk04
namespace Qk04
open PySem PySem.Spec PyProof.Rows L2 Ev
theorem law_pre {a0 : D} {M1 M2 row dp : List D} {S : Str} {d14 d15 dr u : Int} {H : D} (h1 : e_law_draws [a0, .int 25] = some (.list M1)) (h2 : e_law_depths [.list M1] = some (.list M2)) (h3 : reprD (.tuple [.list M2, .list [.int 5], .int 2, .int 1, .int 20]) = some (.str S)) (h4 : atI M1 14 = some (.int d14)) (h5 : atI M1 15 = some (.int d15)) (h6 : M2.length * 100 < lim) (h7 : cutL (List.replicate 100 M2).flatten none (some 100) = row)
    (h8 : evE G_law c_law_1 [some a0, some (.list M1), some (.list M2), some H, some (.str S), some (.int dr), some (.int u), some (.list row), none, none, none, none, none, none, none, none] = some (.list dp)) (hdr : d14.fmod 11 = dr) (hu : d15.fmod 81 = u) (hH : .tuple [.list M2, .list [.int 5], .int 2, .int 1, .int 20] = H) {r : List SX} {o : Option Out} (hr : exB G_law r [some a0, some (.list M1), some (.list M2), some H, some (.str S), some (.int dr), some (.int u), some (.list row), some (.list dp), none, none, none, none, none, none, none] = o) : exB G_law (.set 1 (.call 0 [(.var 0), (.int (25))] []) :: .set 2 (.call 1 [(.var 1)] []) :: .set 3 (.tup [(.var 2), (.lst [(.int (5))]), (.int (2)), (.int (1)), (.int (20))]) :: .set 4 (.prim (.repr) [(.var 3)]) :: .set 5 (.bin .mod (.prim (.int) [(.idx (.var 1) (.int (14)))]) (.int (11))) :: .set 6 (.bin .mod (.prim (.int) [(.idx (.var 1) (.int (15)))]) (.int (81))) :: .set 7 (.sl (.bin .mul (.var 2) (.int (100))) .nop (.int (100))) :: .set 8 c_law_1 :: r) [some a0, none, none, none, none, none, none, none, none, none, none, none, none, none, none, none] = o := by
  have l5 : 5 < lim := by decide
  have l1 : 1 < lim := by decide
  have l100 : 100 < lim := by decide
  refine (exB_nx (exS_set (d := .list M1) (env' := [some a0, some (.list M1), none, none, none, none, none, none, none, none, none, none, none, none, none, none]) (evE_call (F := i_law_draws) (ds := [a0, .int 25]) (zs := []) (ws := [a0, .int 25]) e_law_draws (by simp) (by simp) rfl rfl rfl h1) rfl)).trans ?_
  refine (exB_nx (exS_set (d := .list M2) (env' := [some a0, some (.list M1), some (.list M2), none, none, none, none, none, none, none, none, none, none, none, none, none]) (evE_call (F := i_law_depths) (ds := [.list M1]) (zs := []) (ws := [.list M1]) e_law_depths (by simp) (by simp) rfl rfl rfl h2) rfl)).trans ?_
  refine (exB_nx (exS_set (d := H) (env' := [some a0, some (.list M1), some (.list M2), some H, none, none, none, none, none, none, none, none, none, none, none, none]) (by simp [l5, l1, hH]) rfl)).trans ?_
  refine (exB_nx (exS_set (d := .str S) (env' := [some a0, some (.list M1), some (.list M2), some H, some (.str S), none, none, none, none, none, none, none, none, none, none, none]) (by
    have h3' : primD .repr [H] = some (.str S) := by rw [← hH]; exact h3
    simp [h3']) rfl)).trans ?_
  refine (exB_nx (exS_set (d := .int dr) (env' := [some a0, some (.list M1), some (.list M2), some H, some (.str S), some (.int dr), none, none, none, none, none, none, none, none, none, none]) (by simp [h4, hdr]) rfl)).trans ?_
  refine (exB_nx (exS_set (d := .int u) (env' := [some a0, some (.list M1), some (.list M2), some H, some (.str S), some (.int dr), some (.int u), none, none, none, none, none, none, none, none, none]) (by simp [h5, hu]) rfl)).trans ?_
  refine (exB_nx (exS_set (d := .list row) (env' := [some a0, some (.list M1), some (.list M2), some H, some (.str S), some (.int dr), some (.int u), some (.list row), none, none, none, none, none, none, none, none]) (by
    have hb : binD .mul (.list M2) (.int 100) = some (.list (List.replicate 100 M2).flatten) := by
      have e100 : (100 : Int).toNat = 100 := rfl
      have h6' : M2.length * (100 : Int).toNat < lim := by rw [e100]; exact h6
      rw [bin_mul_list, if_pos ⟨l100, h6'⟩, e100]
    generalize (List.replicate 100 M2).flatten = R at *
    simp [hb, h7]) rfl)).trans ?_
  exact (exB_nx (exS_set (d := .list dp) (env' := [some a0, some (.list M1), some (.list M2), some H, some (.str S), some (.int dr), some (.int u), some (.list row), some (.list dp), none, none, none, none, none, none, none]) h8 rfl)).trans hr
end Qk04
namespace Qk04
open PySem PySem.Spec PyProof.Rows L2 Ev
theorem law_post {a0 H : D} {M1 M2 row dp : List D} {S : Str} {dr u : Int} {x9 x10 x11 x12 x13 x14 : Option D} {o q : Option Int} (h1 : e_greatest_wait [H, .int dr] = some (oi o)) (h2 : e_law_waits [.list dp] = some (oi o)) (h3 : e_greatest_wait [H, .int (dr + 1)] = some (oi q)) (h4 : primD .repr [H] = some (.str S)) (h5 : cmpD .eq (.str S) (.str S) = some (.bool true)) (h6 : o = none → q = none) (h7 : ∀ M K, o = some M → q = some K → M ≤ K) : exB G_law [.set 10 (.call 9 [(.var 3), (.var 5)] []),   .set 11 (.call 10 [(.var 8)] []),   .ite (.or (.cmp .ne (.var 10) (.var 11)) (.cmp .ne (.cmp .isN (.var 10) .non) (.cmp .isN (.var 11) .non))) [     .ret (.bl false)] [ ],   .set 12 (.call 9 [(.var 3), (.bin .add (.var 5) (.int (1)))] []),   .ite (.and (.cmp .isN (.var 10) .non) (.cmp .notN (.var 12) .non)) [     .ret (.bl false)] [ ],   .ite (.and (.cmp .notN (.var 10) .non) (.and (.cmp .notN (.var 12) .non) (.cmp .lt (.var 12) (.var 10)))) [     .ret (.bl false)] [ ],   .ret (.cmp .eq (.prim (.repr) [(.var 3)]) (.var 4))] [some a0, some (.list M1), some (.list M2), some H, some (.str S), some (.int dr), some (.int u), some (.list row), some (.list dp), x9, x10, x11, x12, x13, x14, none] = some (.rt (.bool true)) := by
  refine (exB_nx (exS_set (d := oi o) (env' := [some a0, some (.list M1), some (.list M2), some H, some (.str S), some (.int dr), some (.int u), some (.list row), some (.list dp), x9, some (oi o), x11, x12, x13, x14, none]) (evE_call (F := i_greatest_wait) (ds := [H, .int dr]) (zs := []) (ws := [H, .int dr]) e_greatest_wait (by simp) (by simp) rfl rfl rfl h1) rfl)).trans ?_
  refine (exB_nx (exS_set (d := oi o) (env' := [some a0, some (.list M1), some (.list M2), some H, some (.str S), some (.int dr), some (.int u), some (.list row), some (.list dp), x9, some (oi o), some (oi o), x12, x13, x14, none]) (evE_call (F := i_law_waits) (ds := [.list dp]) (zs := []) (ws := [.list dp]) e_law_waits (by simp) (by simp) rfl rfl rfl h2) rfl)).trans ?_
  have hs := cmp_same_ne (shaped_oi o)
  refine (exB_nx (e := [some a0, some (.list M1), some (.list M2), some H, some (.str S), some (.int dr), some (.int u), some (.list row), some (.list dp), x9, some (oi o), some (oi o), x12, x13, x14, none]) (by simp [hs])).trans ?_
  refine (exB_nx (exS_set (d := oi q) (env' := [some a0, some (.list M1), some (.list M2), some H, some (.str S), some (.int dr), some (.int u), some (.list row), some (.list dp), x9, some (oi o), some (oi o), some (oi q), x13, x14, none]) (evE_call (F := i_greatest_wait) (ds := [H, .int (dr + 1)]) (zs := []) (ws := [H, .int (dr + 1)]) e_greatest_wait (by simp) (by simp) rfl rfl rfl h3) rfl)).trans ?_
  cases o with
  | none =>
    rw [h6 rfl]
    simp [oi, h4, h5]
  | some M =>
    cases q with
    | none => simp [oi, h4, h5]
    | some K =>
      have hMK := h7 M K rfl rfl
      have hn : ¬ K < M := by omega
      simp [oi, h4, h5, hn]
end Qk04
namespace Qk04
open PySem PySem.Spec PyProof.Rows L2 Ev
theorem law_s9 {a0 H : D} {M1 M2 row dp : List D} {S : Str} {dr u : Int} {r : Int} {T : D} (h1 : e_turn_of [H] = some (.int r)) (h2 : e_law_turn [.list M2] = some (.int r)) (h3 : e_tides [H, .int dr, .int u] = some T) (h4 : e_law_tides [.list (cutL dp none (some (u + 1)))] = some T) (h5 : cmpD .ne T T = some (.bool false)) : exS G_law (.ite (.or (.cmp .ne (.call 2 [(.var 3)] []) (.call 3 [(.var 2)] [])) (.cmp .ne (.call 4 [(.var 3), (.var 5)] [(.var 6)]) (.call 5 [(.sl (.var 8) .nop (.bin .add (.var 6) (.int (1))))] []))) [     .ret (.bl false)] [ ]) [some a0, some (.list M1), some (.list M2), some H, some (.str S), some (.int dr), some (.int u), some (.list row), some (.list dp), none, none, none, none, none, none, none] = some (.nx [some a0, some (.list M1), some (.list M2), some H, some (.str S), some (.int dr), some (.int u), some (.list row), some (.list dp), none, none, none, none, none, none, none]) := by
  refine exS_ite (t := false) ?_ (by simp) (by simp)
  have c1 : evE G_law (.call 2 [(.var 3)] []) [some a0, some (.list M1), some (.list M2), some H, some (.str S), some (.int dr), some (.int u), some (.list row), some (.list dp), none, none, none, none, none, none, none] = some (.int r) := evE_call (F := i_turn_of) (ds := [H]) (zs := []) (ws := [H]) e_turn_of (by simp) (by simp) rfl rfl rfl h1
  have c2 : evE G_law (.call 3 [(.var 2)] []) [some a0, some (.list M1), some (.list M2), some H, some (.str S), some (.int dr), some (.int u), some (.list row), some (.list dp), none, none, none, none, none, none, none] = some (.int r) := evE_call (F := i_law_turn) (ds := [.list M2]) (zs := []) (ws := [.list M2]) e_law_turn (by simp) (by simp) rfl rfl rfl h2
  have c3 : evE G_law (.call 4 [(.var 3), (.var 5)] [(.var 6)]) [some a0, some (.list M1), some (.list M2), some H, some (.str S), some (.int dr), some (.int u), some (.list row), some (.list dp), none, none, none, none, none, none, none] = some T := evE_call (F := i_tides_k) (ds := [H, .int dr]) (zs := [.int u]) (ws := [H, .int dr, .int u]) e_tides (by simp) (by simp) rfl rfl rfl h3
  have c4 : evE G_law (.call 5 [(.sl (.var 8) .nop (.bin .add (.var 6) (.int (1))))] []) [some a0, some (.list M1), some (.list M2), some H, some (.str S), some (.int dr), some (.int u), some (.list row), some (.list dp), none, none, none, none, none, none, none] = some T := evE_call (F := i_law_tides) (ds := [.list (cutL dp none (some (u + 1)))]) (zs := []) (ws := [.list (cutL dp none (some (u + 1)))]) e_law_tides (by simp) (by simp) rfl rfl rfl h4
  rw [evT, evT, evT, c1, c2, c3, c4]
  simp [h5]
theorem law_s10 {a0 H : D} {M1 M2 row dp : List D} {S : Str} {dr u : Int} (hb : ∀ j : Nat, j < 60 → ∀ k : Int, k = j → ∃ b w, e_can_pass [H, .int dr, .int k] = some (.bool b) ∧ atI dp k = some (.bool b) ∧ e_next_passing [H, .int dr, .int k] = some w ∧ e_law_next [.list dp, .int k] = some w ∧ cmpD .ne w w = some (.bool false)) : ∃ x9 x10 x11 x12 x13 x14, exS G_law (.for (.nm 9) .range [(.int (60))] b_law_1 [4]) [some a0, some (.list M1), some (.list M2), some H, some (.str S), some (.int dr), some (.int u), some (.list row), some (.list dp), none, none, none, none, none, none, none] = some (.nx [some a0, some (.list M1), some (.list M2), some H, some (.str S), some (.int dr), some (.int u), some (.list row), some (.list dp), x9, x10, x11, x12, x13, x14, none]) := by
  have e2 := for_rng (Γ := G_law) (t := .nm 9) (es := [(.int (60))]) (b := b_law_1) (os := [4]) (env := [some a0, some (.list M1), some (.list M2), some H, some (.str S), some (.int dr), some (.int u), some (.list row), some (.list dp), none, none, none, none, none, none, none]) (n := 60) (k := 60) (by simp) rfl (by omega)
  obtain ⟨e, g1, x9, x10, x11, x12, x13, x14, rfl⟩ := forR_go (f := fun d env => (bindT (.nm 9) d env).bind fun e1 => exB G_law b_law_1 e1) 0 60 (fun j e => ∃ x9 x10 x11 x12 x13 x14, e = [some a0, some (.list M1), some (.list M2), some H, some (.str S), some (.int dr), some (.int u), some (.list row), some (.list dp), x9, x10, x11, x12, x13, x14, none]) (by
    rintro j env hj ⟨x9, x10, x11, x12, x13, x14, rfl⟩
    obtain ⟨b, w, h1, h2, h3, h4, h5⟩ := hb j hj (0 + (j : Int)) (by omega)
    have hB := law_body (a0 := a0) (M1 := M1) (M2 := M2) (row := row) (S := S) (u := u) (x9 := x9) (x10 := x10) (x11 := x11) (x12 := x12) (x13 := x13) (x14 := x14) h1 h2 h3 h4 h5
    exact ⟨_, body_nm hB, _, _, _, _, _, _, rfl⟩) [some a0, some (.list M1), some (.list M2), some H, some (.str S), some (.int dr), some (.int u), some (.list row), some (.list dp), none, none, none, none, none, none, none] ⟨none, none, none, none, none, none, rfl⟩
  exact ⟨x9, x10, x11, x12, x13, x14, e2.trans g1⟩
theorem law_s8 {a0 H : D} {M1 M2 : List D} {S : Str} {dep : List Int} {dr u : Int} : evE G_law c_law_1 [some a0, some (.list M1), some (.list M2), some H, some (.str S), some (.int dr), some (.int u), some (.list ((List.range 100).map fun h => PyData.int (vv dep h))), none, none, none, none, none, none, none, none] = some (.list (deep dep dr)) := by
  refine comp_seq (enc := fun h => PyData.int (vv dep h)) (xs := List.range 100) (fun h => .bool (pp dep dr h)) ?_ ?_ ?_
  · generalize (List.range 100).map (fun h => PyData.int (vv dep h)) = R
    simp
  · rw [List.length_range]
    omega
  · intro x hx
    unfold pp
    generalize (List.range 100).map (fun h => PyData.int (vv dep h)) = R
    generalize vv dep x = z
    simp
theorem law_true (ns : List Int) (h : ns.length ≤ 63) : e_law [.list (ns.map .int)] = some (.bool true) := by
  obtain ⟨out, h1, ho, -⟩ := draws ns h 25 (by omega) 25 rfl
  obtain ⟨dep, h2, hd, hd2, hv⟩ := depths out ho
  obtain ⟨S, h3, hS⟩ := repr_HH hd2 hv
  have h4 : atI (out.map PyData.int) 14 = some (.int (out.getD 14 0)) := out_at 14 (by omega)
  have h5 : atI (out.map PyData.int) 15 = some (.int (out.getD 15 0)) := out_at 15 (by omega)
  have f15 := fmod_in (out.getD 15 0) (b := 81) (by decide)
  generalize hdr : (out.getD 14 0).fmod 11 = dr at *
  generalize hu : (out.getD 15 0).fmod 81 = u at *
  have h6 : (dep.map PyData.int).length * 100 < lim := by
    have : lim = 1000000 := rfl
    rw [List.length_map]
    omega
  have h7 := cut_row hd
  obtain ⟨r, t1, t2⟩ := turns_eq hd hd2
  have hn : u + 1 = ((u + 1).toNat : Int) := by omega
  have t3 := tides_eq hd dr (u + 1).toNat (by omega) (u := u) hn
  have t4 : e_law_tides [.list (cutL (deep dep dr) none (some (u + 1)))] = some (.list ((td (pp dep dr) (u + 1).toNat).map pr)) := by
    rw [cut_deep dep dr (u + 1).toNat (by omega) hn]
    exact law_tides_eq _ _ (by omega)
  obtain ⟨o, w1, w2⟩ := gw_eq hd hd2 dr
  obtain ⟨o', w3, w4⟩ := waits_eq hd hd2 dr
  have hoo := GW_one w2 w4
  subst hoo
  obtain ⟨q, w5, w6⟩ := gw_eq hd hd2 (dr + 1)
  obtain ⟨m1, m2⟩ := gw_mono hd w2 w6
  have hs9 := law_s9 (a0 := .list (ns.map .int)) (M1 := out.map .int) (row := (List.range 100).map fun h => PyData.int (vv dep h)) (S := S) t1 t2 t3 t4 (cmp_same_ne (shaped_prs _))
  obtain ⟨x9, x10, x11, x12, x13, x14, hs10⟩ := law_s10 (a0 := .list (ns.map .int)) (H := HH dep) (M1 := out.map .int) (M2 := dep.map .int) (row := (List.range 100).map fun h => PyData.int (vv dep h)) (dp := deep dep dr) (S := S) (dr := dr) (u := u) (fun j hj k hk => ⟨_, _, can_pass_eq hd dr j hk, deep_at dep dr j (by omega) hk, next_eq hd hd2 dr j hk, next_both hd hd2 dr j (by omega) hk, cmp_same_ne (shaped_oi _)⟩)
  have hpost := law_post (a0 := .list (ns.map .int)) (M1 := out.map .int) (M2 := dep.map .int) (row := (List.range 100).map fun h => PyData.int (vv dep h)) (u := u) (x9 := x9) (x10 := x10) (x11 := x11) (x12 := x12) (x13 := x13) (x14 := x14) w1 w3 w5 h3 (cmp_same hS) m1 m2
  have hrest := (exB_nx hs9).trans ((exB_nx hs10).trans hpost)
  exact run_rt rfl rfl (law_pre h1 h2 h3 h4 h5 h6 h7 law_s8 hdr hu rfl hrest)
end Qk04
/-! B: the checks and the row's end of law_k04_tides_and_passings, printed by gen.py. -/
namespace Qk04
open PySem PySem.Spec PyProof.Rows L2 Ev

def topS (i : Nat) : Stmt := PySem.Challenge.pw_tidewaits_k04_tides_and_passings.main.body.getD i (.Pass ⟨0, 0, 0, 0⟩)
def blt : List Str := ["all", "bool", "int", "isinstance", "len", "max", "range", "repr"]
abbrev s_law_draws : Stmt := topS 9
theorem sc_law_draws : FnScope N_law_draws ["_law_script", "_law_count"] (defScope s_law_draws) := ⟨rfl, rfl, rfl, by decide +kernel, rfl, by decide +kernel, by decide +kernel⟩
theorem ck_law_draws : chkB ⟨N_law_draws, defScope s_law_draws, G_law_draws, blt, false, false⟩ .fr none [] b_law_draws (defBody s_law_draws) = some none := by decide +kernel
abbrev s_law_depths : Stmt := topS 11
theorem sc_law_depths : FnScope N_law_depths ["_law_draws_here"] (defScope s_law_depths) := ⟨rfl, rfl, rfl, by decide +kernel, rfl, by decide +kernel, by decide +kernel⟩
theorem ck_law_depths : chkB ⟨N_law_depths, defScope s_law_depths, G_law_depths, blt, false, false⟩ .fr none [] b_law_depths (defBody s_law_depths) = some none := by decide +kernel
abbrev s_depth_at : Stmt := topS 1
theorem sc_depth_at : FnScope N_depth_at ["harbour", "hour"] (defScope s_depth_at) := ⟨rfl, rfl, rfl, by decide +kernel, rfl, by decide +kernel, by decide +kernel⟩
theorem ck_depth_at : chkB ⟨N_depth_at, defScope s_depth_at, G_depth_at, blt, false, false⟩ .sh none [] b_depth_at (defBody s_depth_at) = some none := by decide +kernel
abbrev s_turn_of : Stmt := topS 6
theorem sc_turn_of : FnScope N_turn_of ["harbour"] (defScope s_turn_of) := ⟨rfl, rfl, rfl, by decide +kernel, rfl, by decide +kernel, by decide +kernel⟩
theorem ck_turn_of : chkB ⟨N_turn_of, defScope s_turn_of, G_turn_of, blt, false, false⟩ .sh none [] b_turn_of (defBody s_turn_of) = some none := by decide +kernel
abbrev s_law_turn : Stmt := topS 15
theorem sc_law_turn : FnScope N_law_turn ["_law_depths_here"] (defScope s_law_turn) := ⟨rfl, rfl, rfl, by decide +kernel, rfl, by decide +kernel, by decide +kernel⟩
theorem ck_law_turn : chkB ⟨N_law_turn, defScope s_law_turn, G_law_turn, blt, false, false⟩ .sh none [] b_law_turn (defBody s_law_turn) = some none := by decide +kernel
abbrev s_can_pass : Stmt := topS 3
theorem sc_can_pass : FnScope N_can_pass ["harbour", "draught", "hour"] (defScope s_can_pass) := ⟨rfl, rfl, rfl, by decide +kernel, rfl, by decide +kernel, by decide +kernel⟩
theorem ck_can_pass : chkB ⟨N_can_pass, defScope s_can_pass, G_can_pass, blt, false, false⟩ .fr none [] b_can_pass (defBody s_can_pass) = some none := by decide +kernel
abbrev s_tides : Stmt := topS 4
theorem sc_tides : FnScope N_tides ["harbour", "draught", "until"] (defScope s_tides) := ⟨rfl, rfl, rfl, by decide +kernel, rfl, by decide +kernel, by decide +kernel⟩
theorem ck_tides : chkB ⟨N_tides, defScope s_tides, G_tides, blt, false, false⟩ .fr none [] b_tides (defBody s_tides) = some none := by decide +kernel
abbrev s_law_tides : Stmt := topS 13
theorem sc_law_tides : FnScope N_law_tides ["_law_deep"] (defScope s_law_tides) := ⟨rfl, rfl, rfl, by decide +kernel, rfl, by decide +kernel, by decide +kernel⟩
theorem ck_law_tides : chkB ⟨N_law_tides, defScope s_law_tides, G_law_tides, blt, false, false⟩ .fr none [] b_law_tides (defBody s_law_tides) = some none := by decide +kernel
abbrev s_next_passing : Stmt := topS 5
theorem sc_next_passing : FnScope N_next_passing ["harbour", "draught", "hour"] (defScope s_next_passing) := ⟨rfl, rfl, rfl, by decide +kernel, rfl, by decide +kernel, by decide +kernel⟩
theorem ck_next_passing : chkB ⟨N_next_passing, defScope s_next_passing, G_next_passing, blt, false, false⟩ .fr none [] b_next_passing (defBody s_next_passing) = some none := by decide +kernel
abbrev s_law_next : Stmt := topS 12
theorem sc_law_next : FnScope N_law_next ["_law_deep", "_law_hour"] (defScope s_law_next) := ⟨rfl, rfl, rfl, by decide +kernel, rfl, by decide +kernel, by decide +kernel⟩
theorem ck_law_next : chkB ⟨N_law_next, defScope s_law_next, G_law_next, blt, false, false⟩ .sh none [] b_law_next (defBody s_law_next) = some none := by decide +kernel
abbrev s_greatest_wait : Stmt := topS 7
theorem sc_greatest_wait : FnScope N_greatest_wait ["harbour", "draught"] (defScope s_greatest_wait) := ⟨rfl, rfl, rfl, by decide +kernel, rfl, by decide +kernel, by decide +kernel⟩
theorem ck_greatest_wait : chkB ⟨N_greatest_wait, defScope s_greatest_wait, G_greatest_wait, blt, false, false⟩ .fr none [] b_greatest_wait (defBody s_greatest_wait) = some none := by decide +kernel
abbrev s_law_waits : Stmt := topS 14
theorem sc_law_waits : FnScope N_law_waits ["_law_deep"] (defScope s_law_waits) := ⟨rfl, rfl, rfl, by decide +kernel, rfl, by decide +kernel, by decide +kernel⟩
theorem ck_law_waits : chkB ⟨N_law_waits, defScope s_law_waits, G_law_waits, blt, false, false⟩ .fr none [] b_law_waits (defBody s_law_waits) = some none := by decide +kernel
abbrev s_law : Stmt := topS 16
theorem sc_law : FnScope N_law ["_law_script"] (defScope s_law) := ⟨rfl, rfl, rfl, by decide +kernel, rfl, by decide +kernel, by decide +kernel⟩
theorem ck_law : chkB ⟨N_law, defScope s_law, G_law, blt, true, false⟩ .fr none [] b_law (defBody s_law) = some none := by decide +kernel

theorem facts {l : PySem.W.OpenLaw} {w : World} {K : PySem.W.Frag} {h : Heap} {mg : Str → Option Value} {fa : Addr} (X : K.In h) (G : h.Ns mainGlobals mg) (hfa : mg "law" = some (.ref fa))
    {f0 f1 f2 f3 f4 f5 f6 f7 f8 f9 f10 f11 f12 : Addr} {od0 an0 od1 an1 od2 an2 od3 an3 od4 an4 od5 an5 od6 an6 od7 an7 od8 an8 od9 an9 od10 an10 od11 an11 od12 an12 : Option Addr} {os0 os1 os2 os3 os4 os5 os6 os7 os8 os9 os10 os11 os12 : Array (Option Value)} {oc0 kV0 dc0 pm0 cd0 ct0 oc1 kV1 dc1 pm1 cd1 ct1 oc2 kV2 dc2 pm2 cd2 ct2 oc3 kV3 dc3 pm3 cd3 ct3 oc4 kV4 dc4 pm4 cd4 ct4 oc5 kV5 dc5 pm5 cd5 ct5 oc6 kV6 dc6 pm6 cd6 ct6 oc7 kV7 dc7 pm7 cd7 ct7 oc8 kV8 dc8 pm8 cd8 ct8 oc9 kV9 dc9 pm9 cd9 ct9 oc10 kV10 dc10 pm10 cd10 ct10 oc11 kV11 dc11 pm11 cd11 ct11 oc12 kV12 dc12 pm12 cd12 ct12 : Value}
    (a0 : PySem.W.nsIn K mainGlobals "_law_draws" = some (some (.ref f0))) (l0 : K.lookup f0 = some ⟨oc0, od0, .func (PySem.W.fnOf "_law_draws" "_law_draws" (defArgs s_law_draws) (defBody s_law_draws) (defScope s_law_draws) .none kV0 dc0 pm0 an0 cd0 ct0), os0⟩) (c0 : PySem.W.codeIn K cd0 "_law_draws" = true) (k0 : PySem.W.keepIn K (.ref f0) = true)
    (a1 : PySem.W.nsIn K mainGlobals "_law_depths" = some (some (.ref f1))) (l1 : K.lookup f1 = some ⟨oc1, od1, .func (PySem.W.fnOf "_law_depths" "_law_depths" (defArgs s_law_depths) (defBody s_law_depths) (defScope s_law_depths) .none kV1 dc1 pm1 an1 cd1 ct1), os1⟩) (c1 : PySem.W.codeIn K cd1 "_law_depths" = true) (k1 : PySem.W.keepIn K (.ref f1) = true)
    (a2 : PySem.W.nsIn K mainGlobals "depth_at" = some (some (.ref f2))) (l2 : K.lookup f2 = some ⟨oc2, od2, .func (PySem.W.fnOf "depth_at" "depth_at" (defArgs s_depth_at) (defBody s_depth_at) (defScope s_depth_at) .none kV2 dc2 pm2 an2 cd2 ct2), os2⟩) (c2 : PySem.W.codeIn K cd2 "depth_at" = true) (k2 : PySem.W.keepIn K (.ref f2) = true)
    (a3 : PySem.W.nsIn K mainGlobals "turn_of" = some (some (.ref f3))) (l3 : K.lookup f3 = some ⟨oc3, od3, .func (PySem.W.fnOf "turn_of" "turn_of" (defArgs s_turn_of) (defBody s_turn_of) (defScope s_turn_of) .none kV3 dc3 pm3 an3 cd3 ct3), os3⟩) (c3 : PySem.W.codeIn K cd3 "turn_of" = true) (k3 : PySem.W.keepIn K (.ref f3) = true)
    (a4 : PySem.W.nsIn K mainGlobals "_law_turn" = some (some (.ref f4))) (l4 : K.lookup f4 = some ⟨oc4, od4, .func (PySem.W.fnOf "_law_turn" "_law_turn" (defArgs s_law_turn) (defBody s_law_turn) (defScope s_law_turn) .none kV4 dc4 pm4 an4 cd4 ct4), os4⟩) (c4 : PySem.W.codeIn K cd4 "_law_turn" = true) (k4 : PySem.W.keepIn K (.ref f4) = true)
    (a5 : PySem.W.nsIn K mainGlobals "can_pass" = some (some (.ref f5))) (l5 : K.lookup f5 = some ⟨oc5, od5, .func (PySem.W.fnOf "can_pass" "can_pass" (defArgs s_can_pass) (defBody s_can_pass) (defScope s_can_pass) .none kV5 dc5 pm5 an5 cd5 ct5), os5⟩) (c5 : PySem.W.codeIn K cd5 "can_pass" = true) (k5 : PySem.W.keepIn K (.ref f5) = true)
    (a6 : PySem.W.nsIn K mainGlobals "tides" = some (some (.ref f6))) (l6 : K.lookup f6 = some ⟨oc6, od6, .func (PySem.W.fnOf "tides" "tides" (defArgs s_tides) (defBody s_tides) (defScope s_tides) .none kV6 dc6 pm6 an6 cd6 ct6), os6⟩) (c6 : PySem.W.codeIn K cd6 "tides" = true) (k6 : PySem.W.keepIn K (.ref f6) = true)
    (a7 : PySem.W.nsIn K mainGlobals "_law_tides" = some (some (.ref f7))) (l7 : K.lookup f7 = some ⟨oc7, od7, .func (PySem.W.fnOf "_law_tides" "_law_tides" (defArgs s_law_tides) (defBody s_law_tides) (defScope s_law_tides) .none kV7 dc7 pm7 an7 cd7 ct7), os7⟩) (c7 : PySem.W.codeIn K cd7 "_law_tides" = true) (k7 : PySem.W.keepIn K (.ref f7) = true)
    (a8 : PySem.W.nsIn K mainGlobals "next_passing" = some (some (.ref f8))) (l8 : K.lookup f8 = some ⟨oc8, od8, .func (PySem.W.fnOf "next_passing" "next_passing" (defArgs s_next_passing) (defBody s_next_passing) (defScope s_next_passing) .none kV8 dc8 pm8 an8 cd8 ct8), os8⟩) (c8 : PySem.W.codeIn K cd8 "next_passing" = true) (k8 : PySem.W.keepIn K (.ref f8) = true)
    (a9 : PySem.W.nsIn K mainGlobals "_law_next" = some (some (.ref f9))) (l9 : K.lookup f9 = some ⟨oc9, od9, .func (PySem.W.fnOf "_law_next" "_law_next" (defArgs s_law_next) (defBody s_law_next) (defScope s_law_next) .none kV9 dc9 pm9 an9 cd9 ct9), os9⟩) (c9 : PySem.W.codeIn K cd9 "_law_next" = true) (k9 : PySem.W.keepIn K (.ref f9) = true)
    (a10 : PySem.W.nsIn K mainGlobals "greatest_wait" = some (some (.ref f10))) (l10 : K.lookup f10 = some ⟨oc10, od10, .func (PySem.W.fnOf "greatest_wait" "greatest_wait" (defArgs s_greatest_wait) (defBody s_greatest_wait) (defScope s_greatest_wait) .none kV10 dc10 pm10 an10 cd10 ct10), os10⟩) (c10 : PySem.W.codeIn K cd10 "greatest_wait" = true) (k10 : PySem.W.keepIn K (.ref f10) = true)
    (a11 : PySem.W.nsIn K mainGlobals "_law_waits" = some (some (.ref f11))) (l11 : K.lookup f11 = some ⟨oc11, od11, .func (PySem.W.fnOf "_law_waits" "_law_waits" (defArgs s_law_waits) (defBody s_law_waits) (defScope s_law_waits) .none kV11 dc11 pm11 an11 cd11 ct11), os11⟩) (c11 : PySem.W.codeIn K cd11 "_law_waits" = true) (k11 : PySem.W.keepIn K (.ref f11) = true)
    (a12 : PySem.W.nsIn K mainGlobals "law" = some (some (.ref f12))) (l12 : K.lookup f12 = some ⟨oc12, od12, .func (PySem.W.fnOf "law" "law" (defArgs s_law) (defBody s_law) (defScope s_law) .none kV12 dc12 pm12 an12 cd12 ct12), os12⟩) (c12 : PySem.W.codeIn K cd12 "law" = true) (k12 : PySem.W.keepIn K (.ref f12) = true)
    (z0 : PySem.W.nsIn K mainGlobals "all" = some none) (z1 : PySem.W.nsIn K mainGlobals "bool" = some none) (z2 : PySem.W.nsIn K mainGlobals "int" = some none) (z3 : PySem.W.nsIn K mainGlobals "isinstance" = some none) (z4 : PySem.W.nsIn K mainGlobals "len" = some none) (z5 : PySem.W.nsIn K mainGlobals "max" = some none) (z6 : PySem.W.nsIn K mainGlobals "range" = some none) (z7 : PySem.W.nsIn K mainGlobals "repr" = some none) :
    ∃ fd : FuncData, (∀ (s : Shared) (u : Value), BindsTo s fd ⟨[u], []⟩ [("_law_script", u)]) ∧ ∀ (s : Shared) (a : Addr) (ns : List Int) (us : List Value), ns.length ≤ 63 → ∀ base : Heap, K.In base → base.Ns mainGlobals mg → ∀ (H S1 : Hp), Same S1 H → DpAll K S1 [.ref a] [.list (ns.map .int)] →
        Env0 l.prog w K mg base callerA [] s H → BindsTo s fd ⟨[.ref a], []⟩ [("_law_script", .ref a)] → codeAny (model l.prog w) callerA (.call (.ref fa) ⟨[.ref a], []⟩) (CR CX0 [] l.prog w H s (fun v _ => v = .bl true) E0) s := by
  have e := hfa.symm.trans (PySem.W.mg_of X G a12)
  cases e
  have F0 := fun_mk (st := s_law_draws) l0 c0 k0
  have F1 := fun_mk (st := s_law_depths) l1 c1 k1
  have F2 := fun_mk (st := s_depth_at) l2 c2 k2
  have F3 := fun_mk (st := s_turn_of) l3 c3 k3
  have F4 := fun_mk (st := s_law_turn) l4 c4 k4
  have F5 := fun_mk (st := s_can_pass) l5 c5 k5
  have F6 := fun_mk (st := s_tides) l6 c6 k6
  have F7 := fun_mk (st := s_law_tides) l7 c7 k7
  have F8 := fun_mk (st := s_next_passing) l8 c8 k8
  have F9 := fun_mk (st := s_law_next) l9 c9 k9
  have F10 := fun_mk (st := s_greatest_wait) l10 c10 k10
  have F11 := fun_mk (st := s_law_waits) l11 c11 k11
  have F12 := fun_mk (st := s_law) l12 c12 k12
  have hb : ∀ x, blt.contains x = true → mg x = none := (hb_cons (PySem.W.mg_none_of X G z0) (hb_cons (PySem.W.mg_none_of X G z1) (hb_cons (PySem.W.mg_none_of X G z2) (hb_cons (PySem.W.mg_none_of X G z3) (hb_cons (PySem.W.mg_none_of X G z4) (hb_cons (PySem.W.mg_none_of X G z5) (hb_cons (PySem.W.mg_none_of X G z6) (hb_cons (PySem.W.mg_none_of X G z7) hb_nil))))))))
  refine ⟨PySem.W.fnOf "law" "law" (defArgs s_law) (defBody s_law) (defScope s_law) .none kV12 dc12 pm12 an12 cd12 ct12, fun s v => .of_eq rfl, fun s a ns us hn base _ _ H S1 t rd e0 hbind => ?_⟩
  have h0 : Has l.prog w K mg base 1 i_law_draws := def_ok (k := 0) F0 sc_law_draws (F0.binds (ps := ["_law_script", "_law_count"]) fun _ _ _ _ _ _ us hl => match us, hl with | [_, _], _ => rfl) (PySem.W.mg_of X G a0) hb hg_nil ck_law_draws
  have h1 : Has l.prog w K mg base 1 i_law_depths := def_ok (k := 0) F1 sc_law_depths (F1.binds (ps := ["_law_draws_here"]) fun _ _ _ _ _ _ us hl => match us, hl with | [_], _ => rfl) (PySem.W.mg_of X G a1) hb hg_nil ck_law_depths
  have h2 : Has l.prog w K mg base 1 i_depth_at := def_ok (k := 0) F2 sc_depth_at (F2.binds (ps := ["harbour", "hour"]) fun _ _ _ _ _ _ us hl => match us, hl with | [_, _], _ => rfl) (PySem.W.mg_of X G a2) hb hg_nil ck_depth_at
  have h3 : Has l.prog w K mg base 2 i_turn_of := def_ok (k := 1) F3 sc_turn_of (F3.binds (ps := ["harbour"]) fun _ _ _ _ _ _ us hl => match us, hl with | [_], _ => rfl) (PySem.W.mg_of X G a3) hb (hg_cons (h2.mono (by decide)) hg_nil) ck_turn_of
  have h4 : Has l.prog w K mg base 1 i_law_turn := def_ok (k := 0) F4 sc_law_turn (F4.binds (ps := ["_law_depths_here"]) fun _ _ _ _ _ _ us hl => match us, hl with | [_], _ => rfl) (PySem.W.mg_of X G a4) hb hg_nil ck_law_turn
  have h5 : Has l.prog w K mg base 2 i_can_pass := def_ok (k := 1) F5 sc_can_pass (F5.binds (ps := ["harbour", "draught", "hour"]) fun _ _ _ _ _ _ us hl => match us, hl with | [_, _, _], _ => rfl) (PySem.W.mg_of X G a5) hb (hg_cons (h2.mono (by decide)) hg_nil) ck_can_pass
  have h6k : Has l.prog w K mg base 3 i_tides_k := def_kw (k := 2) 2 ["until"] (by decide) rfl F6 sc_tides (fun _ _ _ _ _ _ us ws hl hl2 => match us, ws, hl, hl2 with | [_, _], [_], _, _ => rfl) (PySem.W.mg_of X G a6) hb (hg_cons (h5.mono (by decide)) hg_nil) ck_tides
  have h7 : Has l.prog w K mg base 1 i_law_tides := def_ok (k := 0) F7 sc_law_tides (F7.binds (ps := ["_law_deep"]) fun _ _ _ _ _ _ us hl => match us, hl with | [_], _ => rfl) (PySem.W.mg_of X G a7) hb hg_nil ck_law_tides
  have h8 : Has l.prog w K mg base 3 i_next_passing := def_ok (k := 2) F8 sc_next_passing (F8.binds (ps := ["harbour", "draught", "hour"]) fun _ _ _ _ _ _ us hl => match us, hl with | [_, _, _], _ => rfl) (PySem.W.mg_of X G a8) hb (hg_cons (h5.mono (by decide)) hg_nil) ck_next_passing
  have h9 : Has l.prog w K mg base 1 i_law_next := def_ok (k := 0) F9 sc_law_next (F9.binds (ps := ["_law_deep", "_law_hour"]) fun _ _ _ _ _ _ us hl => match us, hl with | [_, _], _ => rfl) (PySem.W.mg_of X G a9) hb hg_nil ck_law_next
  have h10 : Has l.prog w K mg base 4 i_greatest_wait := def_ok (k := 3) F10 sc_greatest_wait (F10.binds (ps := ["harbour", "draught"]) fun _ _ _ _ _ _ us hl => match us, hl with | [_, _], _ => rfl) (PySem.W.mg_of X G a10) hb (hg_cons (h8.mono (by decide)) hg_nil) ck_greatest_wait
  have h11 : Has l.prog w K mg base 2 i_law_waits := def_ok (k := 1) F11 sc_law_waits (F11.binds (ps := ["_law_deep"]) fun _ _ _ _ _ _ us hl => match us, hl with | [_], _ => rfl) (PySem.W.mg_of X G a11) hb (hg_cons (h9.mono (by decide)) hg_nil) ck_law_waits
  exact law_run (k := 4) F12 sc_law hb (hg_cons (h0.mono (by decide)) (hg_cons (h1.mono (by decide)) (hg_cons (h3.mono (by decide)) (hg_cons (h4.mono (by decide)) (hg_cons (h6k.mono (by decide)) (hg_cons (h7.mono (by decide)) (hg_cons (h5.mono (by decide)) (hg_cons (h8.mono (by decide)) (hg_cons (h9.mono (by decide)) (hg_cons (h10.mono (by decide)) (hg_cons (h11.mono (by decide)) hg_nil))))))))))) ck_law (s := s) (H := H) (S1 := S1) (us := [.ref a]) (vs := [.ref a]) (d := .bool true) ⟨rfl, by decide, by decide⟩ e0 hbind (.cons rfl .nil) rfl t rd (law_true ns hn) fun v S' H' _ r => r.pk.bool
end Qk04

open PySem PySem.W PyProof.Rows in
set_option maxRecDepth 100000 in
set_option maxHeartbeats 0 in
theorem PySem.Challenge.cw_tidewaits_k04_tides_and_passings_holds : PySem.Challenge.rw_tidewaits_k04_tides_and_passings.Holds := by
  w_on; o_law; k_head; (case hw => w_witness2)
  k_fill
  refine Ev.law_row (l := PySem.Challenge.rw_tidewaits_k04_tides_and_passings) (k := 4) (x := "_law_script") rfl rfl ⟨rfl, by decide, by decide⟩ (fun w h Y => PySem.W.kIn_of Y) ?F
  case F =>
    intro w mg fa h KX G hmg
    refine' Qk04.facts KX G hmg ?a0 ?l0 ?c0 ?k0 ?a1 ?l1 ?c1 ?k1 ?a2 ?l2 ?c2 ?k2 ?a3 ?l3 ?c3 ?k3 ?a4 ?l4 ?c4 ?k4 ?a5 ?l5 ?c5 ?k5 ?a6 ?l6 ?c6 ?k6 ?a7 ?l7 ?c7 ?k7 ?a8 ?l8 ?c8 ?k8 ?a9 ?l9 ?c9 ?k9 ?a10 ?l10 ?c10 ?k10 ?a11 ?l11 ?c11 ?k11 ?a12 ?l12 ?c12 ?k12 ?z0 ?z1 ?z2 ?z3 ?z4 ?z5 ?z6 ?z7
    (case a0 => k_is)
    (case l0 => k_is)
    (case c0 => k_is)
    (case k0 => k_is)
    (case a1 => k_is)
    (case l1 => k_is)
    (case c1 => k_is)
    (case k1 => k_is)
    (case a2 => k_is)
    (case l2 => k_is)
    (case c2 => k_is)
    (case k2 => k_is)
    (case a3 => k_is)
    (case l3 => k_is)
    (case c3 => k_is)
    (case k3 => k_is)
    (case a4 => k_is)
    (case l4 => k_is)
    (case c4 => k_is)
    (case k4 => k_is)
    (case a5 => k_is)
    (case l5 => k_is)
    (case c5 => k_is)
    (case k5 => k_is)
    (case a6 => k_is)
    (case l6 => k_is)
    (case c6 => k_is)
    (case k6 => k_is)
    (case a7 => k_is)
    (case l7 => k_is)
    (case c7 => k_is)
    (case k7 => k_is)
    (case a8 => k_is)
    (case l8 => k_is)
    (case c8 => k_is)
    (case k8 => k_is)
    (case a9 => k_is)
    (case l9 => k_is)
    (case c9 => k_is)
    (case k9 => k_is)
    (case a10 => k_is)
    (case l10 => k_is)
    (case c10 => k_is)
    (case k10 => k_is)
    (case a11 => k_is)
    (case l11 => k_is)
    (case c11 => k_is)
    (case k11 => k_is)
    (case a12 => k_is)
    (case l12 => k_is)
    (case c12 => k_is)
    (case k12 => k_is)
    (case z0 => k_is)
    (case z1 => k_is)
    (case z2 => k_is)
    (case z3 => k_is)
    (case z4 => k_is)
    (case z5 => k_is)
    (case z6 => k_is)
    (case z7 => k_is)
